import PyProof.Rows.All
import Wide.All
import OpenK.AllK
import Wide.FinOn
import HandS.ForMost
import HandS.ForExc
import HandS.IsInst
import HandS.Walk
import HandS.Steps
import HandS.DictComp
import HandS.DictTup
import HandS.TupSets
import HandS.TupLen
import HandS.Conv
import HandS.OwnEq
import HandS.Codes
import HandS.Zip
import HandS.Star
import HandS.Style
import HandS.More
import HandS.Property
import HandS.Defaults
import HandS.SortInts
import KE.KDictDisplayH
import HandS.FStr
import HandS.SetKeys
import KE.KCallOwn
import PyProof.Rows.ReprR
import PyProof.DictMoreH
import HandS.StrMore
import HandS.Text
import HandS.Iter
import KE.KDictList
import PyProof.StrWalks
import KE.GoesMore
import PyProof.ReprLen
import PyProof.Rows.SortStr
import PyProof.Rows.TmSorted
import PyProof.Rows.StrMeet
import KE.RegKIsAll
import HandS.ClsMeth
import HandS.Small
import PyProof.CallFns
import KE.KOpsOwn
import HandS.NoneIn
import PyProof.ReprText
import PyProof.Rows.StrDigitsNeg
import HandS.Zip0
import HandS.Finally
import HandS.WordsDict
import PySem.Challenge.RW_ownholes_k14_queries_filled
set_option Elab.async false
set_option maxRecDepth 100000
set_option maxHeartbeats 2000000
/-! Eg: step lemmas: each reading of the hand layer, from the left, as one backward step. -/
namespace Eg
open PySem L2
section
variable {σ σ' : L2.St} {H H' : Hp} {Q : VK} {i : Nat} {v x y z : V} {ta tb tc te tv : TE} {r r' : R2} {K : PySem.W.Frag} {p q a C dx : Addr} {t u c : TT} {D : Ends} {t1 t2 : TS} {b : Bool} {fs : List (Str × V)} {f : Str} {o o' : HO}
/-! heaps -/
theorem upd_old {o1 : HO} (h : H p = some o) (hp : H q = none) : upd H q o1 p = some o := by
  rw [upd_ne (ne_of_none h hp)]
  exact h
theorem upd_mut {o1 : HO} (hn : p ≠ q) (h : H p = some o) : upd H q o1 p = some o := by
  rw [upd_ne hn]
  exact h
theorem upd_none {o1 : HO} (hn : p ≠ q) (h : H p = none) : upd H q o1 p = none := by
  rw [upd_ne hn]
  exact h
/-- unallocated ahead of an allocation was unallocated before -/
theorem none_back {o1 : HO} (h : upd H q o1 p = none) : H p = none := by
  unfold upd at h
  by_cases e : p = q
  · rw [if_pos e] at h
    cases h
  · rw [if_neg e] at h
    exact h
theorem none_ne {o1 : HO} (h : upd H q o1 p = none) : p ≠ q := by
  intro e
  unfold upd at h
  rw [if_pos e] at h
  cases h
/-! expressions -/
theorem w_op (h : ta σ H fun x H1 => tb σ H1 fun y H2 => r x y H2 Q) : tOp r ta tb σ H Q := h
theorem w_un {r : V → Hp → VK → Prop} (h : ta σ H fun x H1 => r x H1 Q) : tUn r ta σ H Q := h
theorem w_var (h : σ[i]? = some (some v)) (q : Q v H) : tVar i σ H Q := ⟨v, h, q⟩
theorem w_c (q : Q v H) : tC v σ H Q := q
theorem w_tup {t : TA} (h : t σ H fun xs H1 => xs.length ≤ sizeLine ∧ ∀ p, H1 p = none → Q (.ref p) (upd H1 p (.tup xs))) : tTup t σ H Q := h
theorem w_lst {t : TA} (h : t σ H fun xs H1 => xs.length ≤ sizeLine ∧ ∀ p, H1 p = none → Q (.ref p) (upd H1 p (.lst xs))) : tLst t σ H Q := h
theorem w_sz {xs : List V} {A : Prop} (h : xs.length ≤ 1000) (q : A) : xs.length ≤ sizeLine ∧ A := ⟨Nat.le_trans h (by decide), q⟩
theorem w_cb {r : List V → Hp → VK → Prop} {t : TA} (h : t σ H fun vs H1 => r vs H1 Q) : tCB r t σ H Q := h
theorem w_nil {Q : List V → Hp → Prop} (q : Q [] H) : tNil σ H Q := q
theorem w_cons {tr : TA} {Q : List V → Hp → Prop} (h : ta σ H fun x H1 => tr σ H1 fun xs H2 => Q (x :: xs) H2) : tCons ta tr σ H Q := h
theorem w_call {sp : Sp} {dvs : List V} {E : XK} {t : TA} (h : t σ H fun vs H1 => sp (vs ++ dvs) H1 Q E) : tCall sp dvs E t σ H Q := h
theorem w_bm {T : String} {r : V → List V → Hp → VK → Prop} {t : TA} (h : ta σ H fun x H1 => tyV K T x H1 ∧ t σ H1 fun xs H2 => r x xs H2 Q) : tBM K T r ta t σ H Q := h
theorem w_bm0 {T : String} {r : V → List V → Hp → VK → Prop} (h : ta σ H fun x H1 => tyV K T x H1 ∧ r x [] H1 Q) : tBM0 K T r ta σ H Q := h
theorem w_tyl {xs : List V} {A : Prop} (h : SqL K H p xs) (q : A) : tyV K "list" (.ref p) H ∧ A := ⟨.inl ⟨rfl, _, h⟩, q⟩
theorem w_if {t : TT} (h : t σ H fun c H1 => if c = true then ta σ H1 Q else tb σ H1 Q) : tIf t ta tb σ H Q := h
theorem w_sl {r : V → Option Int → Option Int → Hp → VK → Prop} {tl th : TO} (h : te σ H fun x H1 => tl σ H1 fun l H2 => th σ H2 fun u H3 => r x l u H3 Q) : tSl r te tl th σ H Q := h
theorem w_nopart {Q : Option Int → Hp → Prop} (q : Q none H) : tNoPart σ H Q := q
theorem w_chain (h : ta σ H fun x H1 => tb σ H1 fun y H2 => r x y H2 fun z H3 => ∃ k, z = .bl k ∧ (if k = true then tc σ H3 fun w' H4 => r' y w' H4 Q else Q (.bl false) H3)) : tChain r r' ta tb tc σ H Q := h
/-! operators by values -/
theorem w_rI0 {g : Int → Int → V} {i j : Int} (q : Q (g i j) H) : rI0 g (.int i) (.int j) H Q := ⟨i, j, rfl, rfl, q⟩
theorem w_rI {C : Int → Int → Prop} {g : Int → Int → V} {i j : Int} (hc : C i j) (q : Q (g i j) H) : rI C g (.int i) (.int j) H Q := ⟨i, j, rfl, rfl, hc, q⟩
theorem w_rU {g : Int → V} {i : Int} (q : Q (g i) H) : rU g (.int i) H Q := ⟨i, rfl, q⟩
theorem w_eq (h : scal x y = true) (q : Q (.bl (decide (x = y))) H) : rEq x y H Q := ⟨h, q⟩
theorem w_ne (h : scal x y = true) (q : Q (.bl (!decide (x = y))) H) : rNe x y H Q := ⟨h, q⟩
theorem w_isN (q : Q (.bl (decide (x = .non))) H) : (fun x y H Q => y = V.non ∧ Q (V.bl (decide (x = .non))) H : R2) x .non H Q := ⟨rfl, q⟩
theorem w_ixL {xs : List V} {i : Int} (hs : SqL K H p xs) (hv : atI xs i = some v) (q : Q v H) : rIxL K (.ref p) (.int i) H Q := ⟨p, xs, i, v, rfl, rfl, hs, hv, q⟩
theorem w_ixT {xs : List V} {i : Int} (hs : SqT K H p xs) (hv : atI xs i = some v) (q : Q v H) : rIxT K (.ref p) (.int i) H Q := ⟨p, xs, i, v, rfl, rfl, hs, hv, q⟩
theorem w_setL {xs : List V} {k : Int} {j : Nat} {R : Hp → Prop} (h : H p = some (.lst xs)) (hj : ixN xs.length k = some j) (q : R (upd H p (.lst (xs.set j v)))) : rSetL (.ref p) (.int k) v H R := ⟨p, xs, k, j, rfl, rfl, h, hj, q⟩
theorem w_append {xs : List V} (h : H p = some (.lst xs)) (hz : xs.length < 100000) (q : Q .non (upd H p (.lst (xs ++ [v])))) : rAppend (.ref p) [v] H Q := ⟨p, xs, v, rfl, rfl, h, Nat.lt_of_lt_of_le hz (by decide), q⟩
def fldLeaf (K : PySem.W.Frag) (f : Str) (Q : VK) (x : V) (H1 : Hp) : Prop := ∃ a C dx fs v, x = .ref a ∧ H1 a = some (.ins C dx fs) ∧ Cls K C ∧ NoAttr K C f ∧ fs.lookup f = some v ∧ Q v H1
theorem w_fld (h : ta σ H (fldLeaf K f Q)) : tFld K ta f σ H Q := h
theorem c_fld (h : H p = some (.ins C dx fs)) (hc : Cls K C) (hn : NoAttr K C f) (hl : fs.lookup f = some v) (q : Q v H) : fldLeaf K f Q (.ref p) H := ⟨p, C, dx, fs, v, rfl, h, hc, hn, hl, q⟩
/-! calls by values -/
theorem w_int1 {i : Int} (q : Q (.int i) H) : (∃ j, [V.int i] = [.int j] ∧ Q (.int j) H) ∨ ∃ k, [V.int i] = [.bl k] ∧ Q (.int (if k then 1 else 0)) H := .inl ⟨i, rfl, q⟩
theorem w_ex1 {A : Type} {mk : A → List V} {a : A} {G : A → Prop} (q : G a) : ∃ i, mk a = mk i ∧ G i := ⟨a, rfl, q⟩
/-! tests -/
theorem w_test {R : Bool → Hp → Prop} (h : te σ H fun x H' => ∃ k, x = .bl k ∧ R k H') : tTest te σ H R := h
theorem w_B {R : Bool → Hp → Prop} (h : te σ H fun x H' => ∃ k, x = .bl k ∧ R k H') : tB te σ H R := h
theorem w_bl {R : Bool → Hp → Prop} (q : R b H) : ∃ k, V.bl b = .bl k ∧ R k H := ⟨b, rfl, q⟩
theorem w_bl' {G : Bool → Prop} (q : G b) : ∃ k, V.bl b = .bl k ∧ G k := ⟨b, rfl, q⟩
theorem w_and {R : Bool → Hp → Prop} (h : t σ H fun c H1 => if c = true then u σ H1 R else R false H1) : tAnd t u σ H R := h
theorem w_or {R : Bool → Hp → Prop} (h : t σ H fun c H1 => if c = true then R true H1 else u σ H1 R) : tOr t u σ H R := h
theorem w_not {R : Bool → Hp → Prop} (h : t σ H fun c H1 => R (!c) H1) : tNot t σ H R := h
theorem w_andV (h : ta σ H fun x H1 => ∃ c, x = .bl c ∧ if c = true then tb σ H1 Q else Q (.bl false) H1) : tAndV ta tb σ H Q := h
theorem w_orV (h : ta σ H fun x H1 => ∃ c, x = .bl c ∧ if c = true then Q (.bl true) H1 else tb σ H1 Q) : tOrV ta tb σ H Q := h
theorem w_notV (h : ta σ H fun x H1 => ∃ c, x = .bl c ∧ Q (.bl (!c)) H1) : tNotV ta σ H Q := h
/-! statements -/
theorem w_seq (h : t1 { D with nx := t2 D } σ H) : tSeq t1 t2 D σ H := h
theorem w_seqR (h : ∀ R : L2.St → Hp → Prop, t2 D = R → t1 { D with nx := R } σ H) : tSeq t1 t2 D σ H := h _ rfl
theorem w_R {R R' : L2.St → Hp → Prop} (e : R' = R) (h : R' σ H) : R σ H := e ▸ h
theorem w_next (h : D.nx σ H) : tNext D σ H := h
theorem w_brk (h : D.bk σ H) : tBreak D σ H := h
theorem w_cont (h : D.ct σ H) : tCont D σ H := h
theorem w_nx {f1 f3 f4 : L2.St → Hp → Prop} {f2 : VK} (h : f1 σ H) : Ends.nx ⟨f1, f2, f3, f4⟩ σ H := h
theorem w_rt {f1 f3 f4 : L2.St → Hp → Prop} {f2 : VK} (h : f2 v H) : Ends.rt ⟨f1, f2, f3, f4⟩ v H := h
theorem w_bk {f1 f3 f4 : L2.St → Hp → Prop} {f2 : VK} (h : f3 σ H) : Ends.bk ⟨f1, f2, f3, f4⟩ σ H := h
theorem w_ct {f1 f3 f4 : L2.St → Hp → Prop} {f2 : VK} (h : f4 σ H) : Ends.ct ⟨f1, f2, f3, f4⟩ σ H := h
theorem w_drop (h : te σ H fun _ H1 => D.nx σ H1) : tDrop te D σ H := h
theorem w_ret (h : te σ H D.rt) : tRet te D σ H := h
theorem w_retN (h : D.rt .non H) : tRetN D σ H := h
theorem w_ifS (h : c σ H fun b H1 => if b = true then t1 D σ H1 else t2 D σ H1) : tIfS c t1 t2 D σ H := h
theorem w_asg {g : TG} (h : te σ H fun x H1 => g x σ H1 D.nx) : tAsg te g D σ H := h
theorem w_gN {R : L2.St → Hp → Prop} (h : R (σ.set i (some v)) H) : gName i v σ H R := h
theorem w_gSub {to ti : TE} {s : TSet} {R : L2.St → Hp → Prop} (h : to σ H fun o H1 => ti σ H1 fun i H2 => s o i v H2 fun H3 => R σ H3) : gSub to ti s v σ H R := h
theorem w_gTup {n : Nat} {g : TGs} {xs : List V} {R : L2.St → Hp → Prop} (hs : SqT K H p xs) (hn : xs.length = n) (h : g xs σ H R) : gTup K n g (.ref p) σ H R := ⟨p, xs, rfl, hs, hn, h⟩
theorem w_gNil {R : L2.St → Hp → Prop} (h : R σ H) : gNil [] σ H R := ⟨rfl, h⟩
theorem w_gCons {g : TG} {gs : TGs} {xs : List V} {R : L2.St → Hp → Prop} (h : g v σ H fun σ' H' => gs xs σ' H' R) : gCons g gs (v :: xs) σ H R := ⟨v, xs, rfl, h⟩
theorem w_for {wi : TI} {g : TG} {tb : TS} (h : wi σ H fun J H1 => ∃ W : Nat → Nat → L2.St → Hp → Prop, (∃ m, W 0 m σ H1) ∧ ∀ i m σ H, W i m σ H →
    (J.stop i H ∧ D.nx σ H) ∨ (J.go i H ∧ ∃ N : L2.St → Hp → Prop, (∀ σ' H', N σ' H' → ∃ m', m' < m ∧ W (i + 1) m' σ' H') ∧ ∀ x H', J.yld i H x H' → g x σ H' fun σ2 H2 => tb { D with nx := N, ct := N, bk := D.nx } σ2 H2)) : tFor wi g tb D σ H := h
theorem w_lc {wi : TI} {g : TG} {tt : TT} {vs : List Nat} (h : wi σ H fun J H1 => ∀ D, H1 D = none → ∃ W : Nat → Nat → Hp → Prop, (∃ m, W 0 m (upd H1 D (.lst []))) ∧ ∀ i m H, W i m H →
  (J.stop i H ∧ Q (.ref D) H) ∨ (J.go i H ∧ ∃ Nx : Hp → Prop, (∀ H', Nx H' → ∃ m', m' < m ∧ W (i + 1) m' H') ∧ ∀ x H', J.yld i H x H' → g x (wipe σ vs) H' fun σ2 H2 => wipe σ2 vs = wipe σ vs ∧ tt σ2 H2 fun b H3 =>
    if b = true then te σ2 H3 fun y H4 => ∃ acc, H4 D = some (.lst acc) ∧ acc.length < sizeLine ∧ Nx (upd H4 D (.lst (acc ++ [y]))) else Nx H3)) : tLc wi g tt te vs σ H Q := h
theorem w_yes {R : Bool → Hp → Prop} (h : R true H) : tYes σ H R := h
theorem w_sig (e : σ' = σ) {t : TS} (h : t D σ H) : t D σ' H := by
  rw [e]
  exact h
theorem w_par {j : Nat} {t : TA} (h : t σ H fun vs H1 => ∃ v w, vs = [v, w] ∧ D.nx ((σ.set i (some v)).set j (some w)) H1) : tPar i j t D σ H := h
theorem c_par {G : V → V → Prop} {v w : V} (q : G v w) : ∃ x y, [v, w] = [x, y] ∧ G x y := ⟨v, w, rfl, q⟩
theorem c_max {R : VK} {ns : List Int} (h : SqL K H p (ns.map V.int)) (h0 : 0 < ns.length) (q : ∀ m, m ∈ ns → (∀ y, y ∈ ns → y ≤ m) → R (.int m) H) : rMax K [V.ref p] H R := ⟨p, ns, rfl, h, h0, q⟩
theorem c_cat {xs zs : List V} (h1 : H p = some (.lst xs)) (h2 : H q = some (.lst zs)) (hz : xs.length + zs.length < 100000) (k : ∀ r, H r = none → Q (.ref r) (upd H r (.lst (xs ++ zs)))) : rCat (.ref p) (.ref q) H Q :=
  ⟨p, q, xs, zs, rfl, rfl, h1, h2, Nat.le_trans (Nat.le_of_lt hz) (by decide), k⟩
/-! leaves by name -/
def rngLeaf (R : It → Hp → Prop) (vs : List V) (H1 : Hp) : Prop := ∃ j : Int, vs = [.int j] ∧ -(2 ^ 62) ≤ j ∧ j < 2 ^ 62 ∧ R (Itr 0 j.toNat) H1
def rng2Leaf (R : It → Hp → Prop) (vs : List V) (H1 : Hp) : Prop := ∃ i j : Int, vs = [.int i, .int j] ∧ (-(2 ^ 62) ≤ i ∧ i < 2 ^ 62 ∧ -(2 ^ 62) ≤ j ∧ j < 2 ^ 62) ∧ R (Itr i (j - i).toNat) H1
def lstLeaf (K : PySem.W.Frag) (R : It → Hp → Prop) (x : V) (H1 : Hp) : Prop := ∃ a, x = .ref a ∧ (∃ xs, SqL K H1 a xs) ∧ R (Itl K a) H1
def tupLeaf (K : PySem.W.Frag) (R : It → Hp → Prop) (x : V) (H1 : Hp) : Prop := ∃ a, x = .ref a ∧ (∃ xs, SqT K H1 a xs) ∧ R (Itt K a) H1
def zipLeaf (K : PySem.W.Frag) (R : It → Hp → Prop) (vs : List V) (H1 : Hp) : Prop := ∃ a b xs ys, vs = [.ref a, .ref b] ∧ SqL K H1 a xs ∧ SqL K H1 b ys ∧ R (Itz K a b) H1
def keysLeaf (R : It → Hp → Prop) (x : V) (H1 : Hp) : Prop := ∃ d o, x = .ref d ∧ ((∃ kvs, H1 d = some (.frz o (.dK kvs)) ∧ R (Itk d o kvs) H1) ∨ ∃ kvs, H1 d = some (.frz o (.dT kvs)) ∧ R (Itkt d o kvs) H1)
def partLeaf (Q : Option Int → Hp → Prop) (x : V) (H1 : Hp) : Prop := ∃ i, x = .int i ∧ Q (some i) H1
def dinLeaf (neg : Bool) (Q : VK) (y x : V) (H2 : Hp) : Prop := ∃ a o, x = .ref a ∧ DGet H2 a y o ∧ Q (.bl (if neg then !o.isSome else o.isSome)) H2
theorem w_part {Q : Option Int → Hp → Prop} (h : te σ H (partLeaf Q)) : tPart te σ H Q := h
theorem c_part {Q : Option Int → Hp → Prop} {j : Int} (q : Q (some j) H) : partLeaf Q (.int j) H := ⟨j, rfl, q⟩
theorem w_iL {tl : TE} {R : It → Hp → Prop} (h : tl σ H (lstLeaf K R)) : iList K tl σ H R := h
theorem c_iL {R : It → Hp → Prop} {xs : List V} (hs : SqL K H p xs) (q : R (Itl K p) H) : lstLeaf K R (.ref p) H := ⟨p, rfl, ⟨_, hs⟩, q⟩
theorem w_iT {tl : TE} {R : It → Hp → Prop} (h : tl σ H (tupLeaf K R)) : iTup K tl σ H R := h
theorem c_iT {R : It → Hp → Prop} {xs : List V} (hs : SqT K H p xs) (q : R (Itt K p) H) : tupLeaf K R (.ref p) H := ⟨p, rfl, ⟨_, hs⟩, q⟩
theorem w_iZ {t : TA} {R : It → Hp → Prop} (h : t σ H (zipLeaf K R)) : iZip K t σ H R := h
theorem c_iZ {R : It → Hp → Prop} {xs ys : List V} (h1 : SqL K H p xs) (h2 : SqL K H q ys) (k : R (Itz K p q) H) : zipLeaf K R [.ref p, .ref q] H := ⟨p, q, xs, ys, rfl, h1, h2, k⟩
theorem w_iR1 {t : TA} {R : It → Hp → Prop} (h : t σ H (rngLeaf R)) : iRng1 t σ H R := h
theorem c_iR1 {R : It → Hp → Prop} {n : Int} (h1 : -(2 ^ 62) ≤ n) (h2 : n < 2 ^ 62) (q : R (Itr 0 n.toNat) H) : rngLeaf R [.int n] H := ⟨n, rfl, h1, h2, q⟩
theorem w_iR2 {t : TA} {R : It → Hp → Prop} (h : t σ H (rng2Leaf R)) : iRng2 t σ H R := h
theorem c_iR2 {R : It → Hp → Prop} {n m : Int} (h1 : -(2 ^ 62) ≤ n ∧ n < 2 ^ 62 ∧ -(2 ^ 62) ≤ m ∧ m < 2 ^ 62) (q : R (Itr n (m - n).toNat) H) : rng2Leaf R [.int n, .int m] H := ⟨n, m, rfl, h1, q⟩
theorem w_iK {td : TE} {R : It → Hp → Prop} (h : td σ H (keysLeaf R)) : iKeys td σ H R := h
theorem c_iKT {R : It → Hp → Prop} {ob : Obj} {kvs : List (List Key × V)} (h : H p = some (.frz ob (.dT kvs))) (q : R (Itkt p ob kvs) H) : keysLeaf R (.ref p) H := ⟨p, ob, rfl, .inr ⟨kvs, h, q⟩⟩
theorem c_iKK {R : It → Hp → Prop} {ob : Obj} {kvs : List (Key × V)} (h : H p = some (.frz ob (.dK kvs))) (q : R (Itk p ob kvs) H) : keysLeaf R (.ref p) H := ⟨p, ob, rfl, .inl ⟨kvs, h, q⟩⟩
theorem w_din {ty td : TE} (h : ty σ H fun y H1 => td σ H1 fun x H2 => dinLeaf false Q y x H2) : tDIn ty td σ H Q := h
theorem w_dnin {ty td : TE} (h : ty σ H fun y H1 => td σ H1 fun x H2 => dinLeaf true Q y x H2) : tDNotIn ty td σ H Q := h
theorem c_din {r : Option V} (h : DGet H p y r) (q : Q (.bl r.isSome) H) : dinLeaf false Q y (.ref p) H := ⟨p, r, rfl, h, q⟩
theorem c_dnin {r : Option V} (h : DGet H p y r) (q : Q (.bl (!r.isSome)) H) : dinLeaf true Q y (.ref p) H := ⟨p, r, rfl, h, q⟩
theorem ans_or2 {b1 b2 : Bool} (h1 : Ans t σ H b1) (h2 : Ans u σ H b2) : Ans (tOr t u) σ H (b1 || b2) := by
  cases b1 with
  | true => exact ans_or1 h1
  | false => exact ans_or h1 h2
/-! what is known of a branch -/
theorem br {c : Bool} {A B : Prop} (h1 : c = true → A) (h2 : c = false → B) : if c = true then A else B := by
  cases c with
  | true => exact h1 rfl
  | false => exact h2 rfl
theorem brT {c : Bool} {A B : Prop} (h : c = true) (h1 : A) : if c = true then A else B := by rw [if_pos h]; exact h1
theorem brF {c : Bool} {A B : Prop} (h : c = false) (h1 : B) : if c = true then A else B := by rw [if_neg (by rw [h]; decide)]; exact h1
theorem brD {c : Prop} [Decidable c] {A B : Prop} (h1 : c → A) (h2 : ¬ c → B) : if decide c = true then A else B := br (fun h => h1 (of_decide_eq_true h)) (fun h => h2 (of_decide_eq_false h))
theorem brDn {c : Prop} [Decidable c] {A B : Prop} (h1 : ¬ c → A) (h2 : c → B) : if (!decide c) = true then A else B := br (fun h => h1 (by simpa using h)) (fun h => h2 (by simpa using h))
theorem brDT {c : Prop} [Decidable c] {A B : Prop} (h : c) (h1 : A) : if decide c = true then A else B := brT (decide_eq_true h) h1
theorem brDF {c : Prop} [Decidable c] {A B : Prop} (h : ¬ c) (h1 : B) : if decide c = true then A else B := brF (decide_eq_false h) h1
theorem int_eq {i j : Int} : decide (V.int i = V.int j) = decide (i = j) := by
  by_cases e : i = j
  · subst e; simp
  · rw [decide_eq_false e, decide_eq_false (fun h => e (V.int.inj h))]
theorem str_eq {i j : Str} : decide (V.str i = V.str j) = decide (i = j) := by
  by_cases e : i = j
  · subst e; simp
  · rw [decide_eq_false e, decide_eq_false (fun h => e (V.str.inj h))]
end
/-! calls of built-ins by named readings -/
def rLenQ (K : PySem.W.Frag) : List V → Hp → VK → Prop := fun xs H Q => ∃ p ys, xs = [V.ref p] ∧ (SqL K H p ys ∨ SqT K H p ys) ∧ Q (.int (ys.length : Nat)) H
def rAbsQ : List V → Hp → VK → Prop := fun xs H Q => ∃ i, xs = [V.int i] ∧ Q (.int (if i < 0 then -i else i)) H
def rMin2Q : List V → Hp → VK → Prop := fun xs H Q => ∃ i j, xs = [V.int i, V.int j] ∧ Q (.int (if j < i then j else i)) H
def rMax2Q : List V → Hp → VK → Prop := fun xs H Q => ∃ i j, xs = [V.int i, V.int j] ∧ Q (.int (if j > i then j else i)) H
def rIntQ : List V → Hp → VK → Prop := fun xs H Q => (∃ i, xs = [V.int i] ∧ Q (.int i) H) ∨ ∃ k, xs = [V.bl k] ∧ Q (.int (if k then 1 else 0)) H
def rIsNQ : R2 := fun x y H Q => y = .non ∧ Q (.bl (decide (x = .non))) H
def rNotNQ : R2 := fun x y H Q => y = .non ∧ Q (.bl (!decide (x = .non))) H
section
variable {X : Cx}
theorem cr_len : CallR X (.builtin "len") (rLenQ X.K) := call_len_seq
theorem cr_abs : CallR X (.builtin "abs") rAbsQ := call_abs
theorem cr_min2 (h : X.calm = true) : CallR X (.builtin "min") rMin2Q := call_min2 h
theorem cr_max2 (h : X.calm = true) : CallR X (.builtin "max") rMax2Q := call_max2 h
theorem cr_int : CallR X (.type "int") rIntQ := call_int1
theorem opr_isN : OpR X (compareOp .Is) rIsNQ := op_isN
theorem opr_notN : OpR X (compareOp .IsNot) rNotNQ := op_notN
end
section
variable {σ σ' : L2.St} {H H' : Hp} {Q : VK} {i : Nat} {v x y z : V} {ta tb tc te tv td ty : TE} {K : PySem.W.Frag} {p q a C dx : Addr} {D : Ends} {b : Bool} {o : HO} {n m : Int}
theorem c_len {ys : List V} (h : SqL K H p ys) (q : Q (.int (ys.length : Nat)) H) : rLenQ K [V.ref p] H Q := ⟨p, ys, rfl, .inl h, q⟩
theorem c_lenT {ys : List V} (h : SqT K H p ys) (q : Q (.int (ys.length : Nat)) H) : rLenQ K [V.ref p] H Q := ⟨p, ys, rfl, .inr h, q⟩
theorem c_abs (q : Q (.int (if n < 0 then -n else n)) H) : rAbsQ [V.int n] H Q := ⟨n, rfl, q⟩
theorem c_min2 (q : Q (.int (if m < n then m else n)) H) : rMin2Q [V.int n, V.int m] H Q := ⟨n, m, rfl, q⟩
theorem c_max2 (q : Q (.int (if m > n then m else n)) H) : rMax2Q [V.int n, V.int m] H Q := ⟨n, m, rfl, q⟩
theorem c_int (q : Q (.int n) H) : rIntQ [V.int n] H Q := .inl ⟨n, rfl, q⟩
theorem c_isN (q : Q (.bl (decide (x = .non))) H) : rIsNQ x .non H Q := ⟨rfl, q⟩
theorem c_notN (q : Q (.bl (!decide (x = .non))) H) : rNotNQ x .non H Q := ⟨rfl, q⟩
theorem c_isi {t u : Value} {c : V} (hc : ClsV c u) (ht : TyX K H x t) (hk : PySem.W.kitOne K t u = some b) (q : Q (.bl b) H) : rIsi K [x, c] H Q := ⟨x, c, t, u, b, rfl, hc, ht, hk, q⟩
theorem c_sum {ns : List Int} (h : SqL K H p (ns.map V.int)) (q : Q (.int ns.sum) H) : rSum K [V.ref p] H Q := ⟨p, ns, rfl, h, q⟩
theorem c_popAt {xs : List V} {k : Nat} (h : H p = some (.lst xs)) (hn : (0 : Int) ≤ n ∧ n < xs.length ∧ xs.length < 100000) (hk : n = (k : Int)) (hv : xs[k]? = some v) (q : Q v (upd H p (.lst (xs.eraseIdx k)))) : rPopAt (.ref p) [.int n] H Q := by
  refine ⟨p, xs, n, k, v, rfl, rfl, h, by omega, by omega, ?_, hv, q⟩
  subst hk
  unfold seqIndex?
  have h0 : ¬ ((k : Int) < 0) := by omega
  rw [if_neg h0]
  have h2 : (decide (0 ≤ (k : Int)) && decide ((k : Int) < (xs.length : Int))) = true := by simp; omega
  rw [if_pos h2]
  simp
/-! dicts -/
theorem w_dget (h : td σ H fun x H1 => ty σ H1 fun y H2 => ∃ a v, x = .ref a ∧ DGet H2 a y (some v) ∧ Q v H2) : tDGet td ty σ H Q := h
theorem w_dput (h : tv σ H fun v H1 => td σ H1 fun x H2 => ty σ H2 fun y H3 => ∃ a H4, x = .ref a ∧ DPut H3 a y v H4 ∧ D.nx σ H4) : sDPut td ty tv D σ H := h
theorem w_dnewT (h : ∀ p, H p = none → Q (.ref p) (upd H p (.dT []))) : tDNewT σ H Q := h
theorem w_dnewK (h : ∀ p, H p = none → Q (.ref p) (upd H p (.dK []))) : tDNewK σ H Q := h
/-! comprehensions -/
theorem w_wipe {vs : List Nat} {A : Prop} (hw : wipe σ' vs = wipe σ vs) (q : A) : wipe σ' vs = wipe σ vs ∧ A := ⟨hw, q⟩
theorem w_acc {acc : List V} {G : Hp → Prop} (h : H p = some (.lst acc)) (hz : acc.length < 100000) (q : G (upd H p (.lst (acc ++ [v])))) : ∃ acc, H p = some (.lst acc) ∧ acc.length < sizeLine ∧ G (upd H p (.lst (acc ++ [v]))) := ⟨acc, h, Nat.lt_of_lt_of_le hz (by decide), q⟩
/-! what stays of tuples -/
theorem tup_frame {xs : List V} (hf : ∀ b, b ≠ a → H' b = H b) (ha : H a = some (.lst xs)) : ∀ b ys, H b = some (.tup ys) → H' b = some (.tup ys) := fun b ys h => by
  rw [hf b (ne_of h ha (fun z => nomatch z))]
  exact h
theorem tup_upd {xs : List V} {o1 : HO} (ha : H a = some (.lst xs)) : ∀ b ys, H b = some (.tup ys) → upd H a o1 b = some (.tup ys) := fun b ys h => by
  rw [upd_ne (ne_of h ha (fun z => nomatch z))]
  exact h
theorem tup_new {o1 : HO} (ha : H a = none) : ∀ b ys, H b = some (.tup ys) → upd H a o1 b = some (.tup ys) := fun b ys h => upd_old h ha
theorem tup_frz {ob : Obj} {u o1 : HO} (ha : H a = some (.frz ob u)) : ∀ b ys, H b = some (.tup ys) → upd H a o1 b = some (.tup ys) := fun b ys h => by
  rw [upd_ne (ne_of h ha (fun z => nomatch z))]
  exact h
theorem frame_at (hf : ∀ b, b ≠ a → H' b = H b) (hn : p ≠ a) (h : H p = some o) : H' p = some o := by
  rw [hf p hn]
  exact h
theorem same_new {H0 : Hp} {o1 : HO} (h : Same H0 H) (hp : H p = none) : Same H0 (upd H p o1) := fun b o hb => upd_old (h b o hb) hp
/-- changed at p, which H0 does not know -/
theorem same_mut {H0 : Hp} {o1 : HO} (h : Same H0 H) (hp : H0 p = none) : Same H0 (upd H p o1) := fun b o hb => upd_mut (ne_of_none hb hp) (h b o hb)
end
section
variable {σ σ' : L2.St} {H H' : Hp} {Q : VK} {i : Nat} {v x y z : V} {ta tb tc te tv td ty : TE} {K : PySem.W.Frag} {p q a C dx : Addr} {D : Ends} {b : Bool} {o : HO} {n m : Int} {fs : List (Str × V)} {f mm : Str} {sp : Sp} {dvs : List V} {E : XK} {t : TA}
/-! fields, methods, instances -/
def sfldLeaf (K : PySem.W.Frag) (f : Str) (y : V) (R : Hp → Prop) (x : V) (H2 : Hp) : Prop := ∃ a C dx fs, x = .ref a ∧ H2 a = some (.ins C dx fs) ∧ Cls K C ∧ NoAttr K C f ∧ fs.length < 1000 ∧ R (upd H2 a (.ins C dx (putF f y fs)))
theorem w_sfld (h : tv σ H fun y H1 => ta σ H1 (sfldLeaf K f y (D.nx σ))) : sFld K ta tv f D σ H := h
theorem c_sfld {R : Hp → Prop} (h : H p = some (.ins C dx fs)) (hc : Cls K C) (hn : NoAttr K C f) (hl : fs.length < 1000) (q : R (upd H p (.ins C dx (putF f y fs)))) : sfldLeaf K f y R (.ref p) H := ⟨p, C, dx, fs, rfl, h, hc, hn, hl, q⟩
def methLeaf (C : Addr) (mm : Str) (sp : Sp) (dvs : List V) (E : XK) (t : TA) (σ : L2.St) (Q : VK) (x : V) (H1 : Hp) : Prop := ∃ a dx fs, x = .ref a ∧ H1 a = some (.ins C dx fs) ∧ fs.lookup mm = none ∧ t σ H1 fun vs H2 => sp (x :: (vs ++ dvs)) H2 Q E
theorem w_meth (h : ta σ H (methLeaf C mm sp dvs E t σ Q)) : tMeth C mm sp dvs E ta t σ H Q := h
theorem c_meth (h : H p = some (.ins C dx fs)) (hl : fs.lookup mm = none) (q : t σ H fun vs H2 => sp (.ref p :: (vs ++ dvs)) H2 Q E) : methLeaf C mm sp dvs E t σ Q (.ref p) H := ⟨p, dx, fs, rfl, h, hl, q⟩
def makeLeaf (C : Addr) (sp : Sp) (dvs : List V) (E : XK) (Q : VK) (vs : List V) (H1 : Hp) : Prop := ∀ x dx, H1 x = none → H1 dx = none → dx ≠ x → sp (.ref x :: (vs ++ dvs)) (upd (upd H1 dx (.own x)) x (.ins C dx [])) (fun v H2 => v = .non ∧ Q (.ref x) H2) E
theorem w_make {t : TA} (h : t σ H (makeLeaf C sp dvs E Q)) : tMake C sp dvs E t σ H Q := h
end
section
variable {X : Cx}
theorem peE {e : Expr} {t t' : TE} (h : PE X e t) (q : t = t') : PE X e t' := q ▸ h
theorem ptsE {e : List Expr} {t t' : TT} (h : PTs X e t) (q : t = t') : PTs X e t' := q ▸ h
theorem pgE {e : Expr} {t t' : TG} (h : PG X e t) (q : t = t') : PG X e t' := q ▸ h
end
end Eg

/-! DTx: dicts whose keys are tuples: comprehensions that make them, == and != of two, sorted of one. -/
namespace DTx
open PySem PySem.Spec PyProof.Rows L2
/-- a pair put into the dict of a comprehension, its key a tuple that stands -/
theorem d_putT {X : Cx} {pins : List (Addr × Obj)} {σ : L2.St} {H : Hp} {s : Shared} {E : Value → Shared → Prop} {D c : Addr} {ps : List (List Key × V)} {k : List Key} {y : V} {u r : Value} {Q : Unit → Shared → Prop} (hu : X.A.units < cLine) (I : Inv X pins σ H s)
    (hD : H D = some (.dT ps)) (hz : ps.length < sizeLine) (hc : H c = some (.tup (k.map kV))) (ru : RelV (.ref c) u) (ry : RelV y r) (q : ∀ s', Inv X pins σ (upd H D (.dT (putK ps k y))) s' → Q () s') :
    wpAny (model X.prog X.w) X.A (dictSet D u r) Q E s := by
  cases (show u = Value.ref c from ru)
  obtain ⟨z, hs, es, rel, dd⟩ := dt_of I.hok hD
  have hl : (putK ps k y).length ≤ sizeLine := by
    have := length_putK ps k y
    omega
  have hn : es.length ≤ sizeLine := by
    rw [← Paired.length rel]
    exact z
  refine wpAny_dictSet_heap (knd := tupleKind (mixKind X.prog X.w)) hu (key_of I.hok hc) dd (fun h' d2 sb => q _ ?_) hn
  obtain ⟨ob, fs, ep, g1, g2, g3, g4, _, g6⟩ := d2
  refine d_write I (by rw [hD]; trivial) sb ⟨ob, g1⟩ ⟨hl, hs, _, KT.keeps (KT.put rel k hc ry) fun b ys e => ?_, ob, fs, ep, g1, g2, g3, g4, g6⟩
  rw [upd_ne (ne_of e hD fun z => nomatch z)]
  exact e
/-- the reading of such a comprehension -/
def tDt (wi : TI) (g : TG) (tt : TT) (tk tv : TE) (vs : List Nat) : TE := fun σ H Q => wi σ H fun J H1 => ∀ D, H1 D = none →
  ∃ W : Nat → Nat → Hp → Prop, (∃ m, W 0 m (upd H1 D (.dT []))) ∧ ∀ i m H, W i m H → (J.stop i H ∧ Q (.ref D) H) ∨
    (J.go i H ∧ ∃ Nx : Hp → Prop, (∀ H', Nx H' → ∃ m', m' < m ∧ W (i + 1) m' H') ∧ ∀ x H', J.yld i H x H' → g x (wipe σ vs) H' fun σ2 H2 => wipe σ2 vs = wipe σ vs ∧ tt σ2 H2 fun b H3 =>
      if b = true then tk σ2 H3 fun y H4 => tv σ2 H4 fun z H5 => ∃ ps k c, y = .ref c ∧ H5 c = some (.tup (k.map kV)) ∧ H5 D = some (.dT ps) ∧ ps.length < sizeLine ∧ Nx (upd H5 D (.dT (putK ps k z))) else Nx H3)
section
variable {X : Cx}
/-- the block of a comprehension, in short -/
abbrev InBlk (X : Cx) (scope : Scope) (φ : Cx → Prop) : Prop := ∀ (s : Shared) (H : Hp) (C : Addr) (cl : List (Str × Addr)) (fp : List Addr), φ (X.blk s H scope (compEnvC scope cl C X.env) fp)
theorem dc_core {pins : List (Addr × Obj)} {s : Shared} {σ : L2.St} {H : Hp} {Q : VK} {kx vx tg iter : Expr} {ifs : List Expr} {scope : Scope} {own : List (Str × Nat)} {pos pos' : Pos} {wi : TI} {g : TG} {tt : TT} {tk tv : TE} {use : Option (Value → Sem Unit)} {Qf : Value → Shared → Prop}
    (hu : X.A.units < cLine) (calm : X.calm = true) (nd : X.N.Nodup) (I : Inv X pins σ H s) (hi : PI X tg iter wi) (ok : BlkOk X.N X.env.scope scope own)
    (hg : InBlk X scope fun Y => PG Y tg g) (ht : InBlk X scope fun Y => PTs Y ifs tt) (hk : InBlk X scope fun Y => PE Y kx tk) (hv : InBlk X scope fun Y => PE Y vx tv) (hs : ∀ x, foldedSetIterable iter X.env x = pure x)
    (h : tDt wi g tt tk tv (own.map (·.2)) σ H Q)
    (hRR : ∀ D C s' m H', Inv X pins σ H' s' → Q (.ref D) H' → s'.heap.Ns C m → FpOk X pins H' C → compPost (model X.prog X.w) X.A X.xe use Qf (.ref D) C (.ok .next) s') :
    wpAny (model X.prog X.w) X.A (comprehension (.DictComp kx vx [⟨tg, iter, ifs, 0⟩] scope pos) scope X.env pos' newDict false (eval iter X.env) use) Qf X.xe s := by
  have cells : ∀ y ∈ scope.names, y.2 = .free → ∃ c, X.env.cells.lookup y.1 = some c := fun y hy e => (ok.free y hy e).elim (fun k => I.ok.has _ (.inl k)) fun k => I.ok.has _ (.inr k)
  refine wpAny_comprehension_free (use := use) rfl hs (closure_ok cells) ok.kind (fun y hy e => by rw [ok.uniq y hy, e]) (thn (hi.run pins s σ H _ I h) fun xv s1 hx => thn hx fun itv s2 h2 => ?_)
  obtain ⟨it, fp, tn, J, H2, rfl, I2, T, t2, f2, q⟩ := h2
  refine wpAny_newObj_type (newEnv_comp ?_)
  -- the new dict, at D
  obtain ⟨D, hD⟩ : ∃ D, s2.heap.objs.size = D := ⟨_, rfl⟩
  obtain ⟨W, ⟨m0, w0⟩, turn⟩ := q D (I2.hok.fresh (Nat.le_of_eq hD))
  obtain ⟨s3, es3⟩ : ∃ s3 : Shared, { s2 with heap := s2.heap.push { cls := .type "dict", data := .dict #[] } } = s3 := ⟨_, rfl⟩
  have J3 : Inv X pins σ (upd H2 D (.dT [])) s3 := by
    rw [← es3, ← hD]
    exact I2.laid (t' := s2.toks) (fun b o e => Heap.get?_push_of_some _ e) (Nat.le_refl _) (dt_empty s2.heap I2.big)
  have hp3 : s3.heap = s2.heap.push { cls := .type "dict", data := .dict #[] } := by rw [← es3]
  have low : ∀ b ∈ fp, b < s2.heap.objs.size := fun b hb => let ⟨_, e, _⟩ := T.obj _ _ t2 b hb; Heap.lt_size e
  have F3 : ∀ b ∈ fp, FpOk X pins (upd H2 D (.dT [])) b ∧ b < s3.heap.objs.size := fun b hb => by
    refine ⟨⟨?_, (f2 b hb).2⟩, ?_⟩
    · rw [upd_ne (by rw [← hD]; exact Nat.ne_of_lt (low b hb))]
      exact (f2 b hb).1
    · rw [hp3, Heap.size_push]
      exact Nat.lt_succ_of_lt (low b hb)
  have t3 : tn 0 s3.heap := T.keep _ _ _ t2 fun b _ o e => by
    rw [hp3]
    exact Heap.get?_push_of_some _ e
  have J4 := block_start J3 ok nd F3
  -- the block's context
  show codeAny _ _ (.compStart (.DictComp kx vx [⟨tg, iter, ifs, 0⟩] scope pos) 0 (.ref it) (.ref s2.heap.objs.size) _) _ _
  rw [hD]
  show codeAny _ _ (.compStart _ 0 (.ref it) (.ref D) (compEnvC scope (cellsFrom (s2.heap.push { cls := .type "dict", data := .dict #[] } |>.objs.size.succ) scope.names (cloFrom X.env.cells scope.names [])) (s2.heap.push { cls := .type "dict", data := .dict #[] }).objs.size X.env)) _
    { s2 with heap := pushCells ((s2.heap.push { cls := .type "dict", data := .dict #[] }).push { cls := .type "dict", data := .dict #[] }) scope.names }
  rw [← hp3]
  have Fn : ∀ b ∈ fp, (upd H2 D (.dT [])) b = none := fun b hb => (F3 b hb).1.1
  have Pg := hg s3 (upd H2 D (.dT [])) s3.heap.objs.size (cellsFrom (s3.heap.objs.size + 1) scope.names (cloFrom X.env.cells scope.names [])) fp
  have Pt := ht s3 (upd H2 D (.dT [])) s3.heap.objs.size (cellsFrom (s3.heap.objs.size + 1) scope.names (cloFrom X.env.cells scope.names [])) fp
  have Pk := hk s3 (upd H2 D (.dT [])) s3.heap.objs.size (cellsFrom (s3.heap.objs.size + 1) scope.names (cloFrom X.env.cells scope.names [])) fp
  have Pv := hv s3 (upd H2 D (.dT [])) s3.heap.objs.size (cellsFrom (s3.heap.objs.size + 1) scope.names (cloFrom X.env.cells scope.names [])) fp
  have e24 : ({ s2 with heap := pushCells (s3.heap.push { cls := .type "dict", data := .dict #[] }) scope.names } : Shared) = { s3 with heap := pushCells (s3.heap.push { cls := .type "dict", data := .dict #[] }) scope.names } := by rw [← es3]
  rw [e24]
  generalize ece : compEnvC scope (cellsFrom (s3.heap.objs.size + 1) scope.names (cloFrom X.env.cells scope.names [])) s3.heap.objs.size X.env = ce at J4 Pg Pt Pk Pv ⊢
  have eL : ce.locals = s3.heap.objs.size := by rw [← ece]; rfl
  generalize eH3 : upd H2 D (.dT []) = H3 at J3 J4 Pg Pt Pk Pv w0 Fn F3
  generalize es4 : ({ s3 with heap := pushCells (s3.heap.push { cls := .type "dict", data := .dict #[] }) scope.names } : Shared) = s4 at J4 ⊢
  have t4 : tn 0 s4.heap := T.keep _ _ _ t3 fun b _ o e => by
    rw [← es4]
    exact pushCells_keeps _ _ _ _ (Heap.get?_push_of_some _ e)
  have still : ∀ {σ' : L2.St} {H' : Hp} {s' : Shared}, Inv (X.blk s3 H3 scope ce fp) [] σ' H' s' → (∀ b ∈ fp, H' b = none) → ∀ b ∈ fp, FpOk (X.blk s3 H3 scope ce fp) [] H' b := fun K hn b hb =>
    ⟨hn b hb, (K.ok.exf b hb).1, K.ok.exfs b hb, .inl hb, fun x c e => (K.ok.exf b hb).2 x c e, fun p hp => absurd (show p ∈ ([] : List (Addr × Obj)) ++ [] from hp) (by simp)⟩
  have back : ∀ {H' : Hp} {s' : Shared}, Inv (X.blk s3 H3 scope ce fp) [] (wipe σ (own.map (·.2))) H' s' → Q (.ref D) H' → compPost (model X.prog X.w) X.A X.xe use Qf (.ref D) s3.heap.objs.size (.ok .next) s' := fun {H' s'} K qq => by
    have L : Inv X pins σ H' s' := J3.call' (ch := fp) K.os K.base K.hok K.bare fun b hb => ⟨(F3 b hb).1.2.2.2.1, (F3 b hb).1.2.1, (F3 b hb).1.2.2.2.2.1, (F3 b hb).1.2.2.2.2.2⟩
    have nC : H' s3.heap.objs.size = none := by
      have z : H' ce.locals = none := K.free
      rw [eL] at z
      exact z
    obtain ⟨m, hn, _⟩ := K.loc
    have hm : s'.heap.Ns ce.locals m := hn
    rw [eL] at hm
    exact hRR D s3.heap.objs.size s' m H' L qq hm (J3.fpOk (Nat.le_refl _) nC)
  have loop : codeAny (model X.prog X.w) X.A (.compLoop (.DictComp kx vx [⟨tg, iter, ifs, 0⟩] scope pos) 0 (.ref it) (.ref D) ce) (compPost (model X.prog X.w) X.A X.xe use Qf (.ref D) s3.heap.objs.size) s4 := by
    refine compLoop_anyD (fun n s' => ∃ i H', Inv (X.blk s3 H3 scope ce fp) [] (wipe σ (own.map (·.2))) H' s' ∧ tn i s'.heap ∧ (∀ b ∈ fp, H' b = none) ∧ W i n H') ?_ m0 ⟨0, H3, J4, t4, Fn, w0⟩
    rintro n s5 ⟨i, H5, J5, t5, n5, w5⟩
    rcases turn i n H5 w5 with ⟨stop, qq⟩ | ⟨go, Nx, hNx, step⟩
    · refine thnF (T.done (X.blk s3 H3 scope ce fp) rfl rfl rfl calm i [] s5 _ H5 (fun _ _ => False) J5 (still J5 n5) t5 stop) fun r s6 ⟨hr, J6⟩ => ?_
      subst hr
      exact back J6 qq
    · refine thnF (T.item (X.blk s3 H3 scope ce fp) rfl rfl rfl calm i [] s5 _ H5 (fun _ _ => False) J5 (still J5 n5) t5 go) fun r s6 ⟨u, hr, h6⟩ => ?_
      subst hr
      refine thnF h6 fun _ s7 ⟨x, H7, J7, r7, y7, t7, n7⟩ => ?_
      refine thnF (Pg.run _ s7 _ H7 x u _ (J7.pinned (still J7 n7) (T.obj _ _ t7)) r7 (step x H7 y7)) fun _ s8 ⟨σ8, H8, J8, w8, q8⟩ => ?_
      refine thnF (Pt.run _ s8 σ8 H8 _ J8 q8) fun b s9 ⟨H9, J9, q9⟩ => ?_
      have fin : ∀ {s' : Shared} {H' : Hp}, Inv (X.blk s3 H3 scope ce fp) ([] ++ pinsAt fp s7.heap) σ8 H' s' → Nx H' →
          ∃ m, m < n ∧ ∃ i H', Inv (X.blk s3 H3 scope ce fp) [] (wipe σ (own.map (·.2))) H' s' ∧ tn i s'.heap ∧ (∀ b ∈ fp, H' b = none) ∧ W i m H' := fun {s' H'} K nx => by
        obtain ⟨m', hm, w'⟩ := hNx H' nx
        have stood : ∀ b ∈ fp, ∀ o, s7.heap.get? b = some o → s'.heap.get? b = some o ∧ H' b = none := fun b hb o e =>
          have z := K.pin (b, o) (List.mem_append_right _ (List.mem_append_right _ (mem_pinsAt hb e)))
          ⟨z.1, z.2.1⟩
        refine ⟨m', hm, i + 1, H', (K.unpinned (pins := [])).weak (by rw [← w8, wipe_length]) (fun j v e => ?_), T.keep _ _ _ t7 fun b hb o e => (stood b hb o e).1, fun b hb => ?_, w'⟩
        · rw [← w8] at e
          exact (wipe_some e).1
        · obtain ⟨o, e, _⟩ := T.obj _ _ t7 b hb
          exact (stood b hb o e).2
      cases b with
      | false =>
        simp only [Bool.false_eq_true, if_false] at q9 ⊢
        exact fin J9 q9
      | true =>
        simp only [if_true] at q9 ⊢
        refine thnF (Pk.run _ s9 σ8 H9 _ J9 q9) fun z s10 ⟨yk, H10, J10, r10, q10⟩ => ?_
        refine thnF (Pv.run _ s10 σ8 H10 _ J10 q10) fun z2 s11 ⟨yv, H11, J11, r11, ps, k, c, ek, hcK, hD11, hz11, nx⟩ => ?_
        subst ek
        exact d_putT (X := X.blk s3 H3 scope ce fp) hu J11 hD11 hz11 hcK r10 r11 fun s12 J12 => fin J12 nx
  exact codeAny_compStart_dict loop (T.self X.A 0 _ _ _ t4 loop)
theorem pe_dcT {kx vx tg iter : Expr} {ifs : List Expr} {scope : Scope} {own : List (Str × Nat)} {pos : Pos} {wi : TI} {g : TG} {tt : TT} {tk tv : TE} (hu : X.A.units < cLine) (calm : X.calm = true) (nd : X.N.Nodup) (hi : PI X tg iter wi) (ok : BlkOk X.N X.env.scope scope own)
    (hg : InBlk X scope fun Y => PG Y tg g) (ht : InBlk X scope fun Y => PTs Y ifs tt) (hk : InBlk X scope fun Y => PE Y kx tk) (hv : InBlk X scope fun Y => PE Y vx tv) (hs : ∀ x, foldedSetIterable iter X.env x = pure x := by intro _; rfl) :
    PE X (.DictComp kx vx [⟨tg, iter, ifs, 0⟩] scope pos) (tDt wi g tt tk tv (own.map (·.2))) := by
  refine ⟨fun pins s σ H Q I h => ?_⟩
  rw [arm_eval_DictComp]
  refine dc_core hu calm nd I hi ok hg ht hk hv hs h fun D C s' m H' L q hn f => ⟨m, hn, fun h'' sb => ?_⟩
  obtain ⟨f0, f1, f2, f3, f4, f5⟩ := f
  exact ⟨.ref D, H', L.turned (t' := s'.toks) (fun b o hb e => (sb.2 b hb).trans e) f0 f1 f3 f4 f5, rfl, q⟩
/-- name = {..} on one line, the name a local -/
theorem ps_setDcT {i : Nat} {y : Str} {py : Pos} {kx vx tg iter : Expr} {ifs : List Expr} {scope : Scope} {own : List (Str × Nat)} {pos spos : Pos} {wi : TI} {g : TG} {tt : TT} {tk tv : TE} (hu : X.A.units < cLine) (calm : X.calm = true) (nd : X.N.Nodup) (hy : X.N[i]? = some y) (hyl : X.env.scope.names.lookup y = some .local)
    (hsw : swapsWith (.DictComp kx vx [⟨tg, iter, ifs, 0⟩] scope pos) (some (.Name y py)) spos.line X.env = pure true) (hi : PI X tg iter wi) (ok : BlkOk X.N X.env.scope scope own)
    (hg : InBlk X scope fun Y => PG Y tg g) (ht : InBlk X scope fun Y => PTs Y ifs tt) (hk : InBlk X scope fun Y => PE Y kx tk) (hv : InBlk X scope fun Y => PE Y vx tv) (hs : ∀ x, foldedSetIterable iter X.env x = pure x := by intro _; rfl) :
    PS X (.Assign [.Name y py] (.DictComp kx vx [⟨tg, iter, ifs, 0⟩] scope pos) spos) (tAsg (tDt wi g tt tk tv (own.map (·.2))) (gName i)) := by
  refine ⟨fun pins s σ H D I h => ?_⟩
  rw [exec_Assign_Name_used _ _ _ _ hsw]
  refine wpAny_bind (wpAny_standAt (wpAny_bind ?_))
  show wpAny _ X.A (do let _ ← comprehension (.DictComp kx vx [⟨tg, iter, ifs, 0⟩] scope pos) scope X.env (firstIterPos [⟨tg, iter, ifs, 0⟩] pos) newDict false (eval iter X.env) (some (assign (.Name y py) X.env))) _ _ s
  have h : tDt wi g tt tk tv (own.map (·.2)) σ H (fun x H1 => gName i x σ H1 D.nx) := h
  refine wpAny_bind (thn (dc_core (Qf := fun _ s' => SP X pins D .next s') hu calm nd I hi ok hg ht hk hv hs h fun L C s' m H' I' q hn f => ?_) fun _ s' hq => wpAny_pure (wpAny_pure hq))
  show wpAny _ _ (assign (.Name y py) X.env (.ref L)) _ _ _
  refine wpAny_assign_Name (store_ok2 (v := V.ref L) I' nd hy (.inl hyl) rfl (fun s2 I2 ⟨a, sb, ha⟩ => ?_) (.inr hyl))
  obtain ⟨f0, f1, f2, f3, f4, f5⟩ := f
  have haC : C ≠ a := by
    rcases ha with z | z
    · rw [z]; exact f1
    · exact fun e => f4 y a z e.symm
  refine ⟨m, hn.sameBut sb haC, fun h3 sb3 => ?_⟩
  exact ⟨_, H', I2.turned (t' := s2.toks) (fun b o hb e => (sb3.2 b hb).trans e) f0 f1 f3 f4 f5, q⟩
theorem sw_trueD {kx vx : Expr} {gs : List Comprehension} {scope : Scope} {pos py : Pos} {y : Str} {l : Nat} {env : Env} (hk : env.scope.kind = .function) (hy : env.scope.names.lookup y = some .local) (hl : (py.line == pos.line) = true)
    (ha : (scope.names.any fun (n, k) => n == y && (k == .local || k == .cell)) = false) : swapsWith (.DictComp kx vx gs scope pos) (some (.Name y py)) l env = pure true := by
  have ky : env.kindOf y = some .local := hy
  have hb : env.blockKind = .function := by unfold Env.blockKind; rw [hk]; rfl
  unfold swapsWith
  simp only [hb, ky, ha, Expr.pos, hl]
  rfl
/-- walked by anything -/
theorem dt_it {J : It} {n : Nat} {G : Hp → Prop} {Y : Nat → Hp → V → Hp → Prop} (w : Walk J n G Y) {g : TG} {tt : TT} {tk tv : TE} {vs : List Nat} {σ : L2.St} {H1 : Hp} {D : Addr} {Qd : Hp → Prop} (Pv : Nat → Hp → Prop) (h0 : Pv 0 (upd H1 D (.dT []))) (hG : ∀ i H, i ≤ n → Pv i H → G H)
    (turn : ∀ i x H H', i < n → Pv i H → Y i H x H' → g x (wipe σ vs) H' fun σ2 H2 => wipe σ2 vs = wipe σ vs ∧ tt σ2 H2 fun b H3 =>
      if b = true then tk σ2 H3 fun y H4 => tv σ2 H4 fun z H5 => ∃ ps k c, y = .ref c ∧ H5 c = some (.tup (k.map kV)) ∧ H5 D = some (.dT ps) ∧ ps.length < sizeLine ∧ Pv (i + 1) (upd H5 D (.dT (putK ps k z))) else Pv (i + 1) H3) (done : ∀ H, Pv n H → Qd H) :
    ∃ W : Nat → Nat → Hp → Prop, (∃ m, W 0 m (upd H1 D (.dT []))) ∧ ∀ i m H, W i m H → (J.stop i H ∧ Qd H) ∨ (J.go i H ∧ ∃ Nx : Hp → Prop, (∀ H', Nx H' → ∃ m', m' < m ∧ W (i + 1) m' H') ∧ ∀ x H', J.yld i H x H' → g x (wipe σ vs) H' fun σ2 H2 => wipe σ2 vs = wipe σ vs ∧ tt σ2 H2 fun b H3 =>
      if b = true then tk σ2 H3 fun y H4 => tv σ2 H4 fun z H5 => ∃ ps k c, y = .ref c ∧ H5 c = some (.tup (k.map kV)) ∧ H5 D = some (.dT ps) ∧ ps.length < sizeLine ∧ Nx (upd H5 D (.dT (putK ps k z))) else Nx H3) := by
  refine ⟨fun i m H => m + i = n ∧ Pv i H, ⟨n, rfl, h0⟩, fun i m H hw => ?_⟩
  obtain ⟨hm, p⟩ := hw
  by_cases hi : i < n
  · refine .inr ⟨w.goes i H hi (hG i H (by omega) p), Pv (i + 1), fun H' p' => ⟨m - 1, by omega, by omega, p'⟩, fun x H' y => ?_⟩
    exact turn i x H H' hi p (w.yields i H x H' hi (hG i H (by omega) p) y)
  · have e : i = n := by omega
    subst e
    exact .inl ⟨w.stops H (hG i H (Nat.le_refl _) p), done H p⟩
end
end DTx

/-! DTx: == and != of two dicts with tuple keys and int values; sorted of such a dict. -/
namespace DTx
open PySem PySem.Spec PyProof.Rows L2 PySem.Calls
section
variable {prog : Program} {w : World} {T : Type} [DecidableEq T] {knd : HeapKind prog w T} {A : Around} {E : Value → Shared → Prop} {s : Shared}
/-- the ints that stand as values -/
def intV : Value → Option Int
  | .int i _ => some i
  | _ => none
/-- whether all pairs of one stand in the other -/
def subD (xs ys : List (T × Addr × Value)) : Bool := xs.all fun x => decide (((atKey ys x.1).map fun p => intV p.2) = some (intV x.2.2))
theorem atKey_some {ys : List (T × Addr × Value)} {k : T} {j : Nat} {p : Addr × Value} (hn : (ys.map (·.1)).Nodup) (h : ys[j]? = some (k, p)) : atKey ys k = some p := by
  induction ys generalizing j with
  | nil => simp at h
  | cons y r ih =>
    have hn' : (y.1 :: r.map (·.1)).Nodup := hn
    obtain ⟨h1, h2⟩ := List.nodup_cons.mp hn'
    cases j with
    | zero =>
      have e : y = (k, p) := Option.some.inj h
      subst e
      simp [atKey]
    | succ j =>
      have e : r[j]? = some (k, p) := h
      have hm : k ∈ r.map (·.1) := List.mem_map.mpr ⟨(k, p), List.mem_of_getElem? e, rfl⟩
      have hne : ¬ y.1 = k := fun z => h1 (z ▸ hm)
      have := ih h2 e
      simp only [atKey, List.find?_cons] at this ⊢
      rw [decide_eq_false hne]
      exact this
theorem atKey_none {ys : List (T × Addr × Value)} {k : T} (h : ∀ (j : Nat) (p : Addr × Value), ys[j]? ≠ some (k, p)) : atKey ys k = none := by
  unfold atKey
  rw [Option.map_eq_none_iff, List.find?_eq_none]
  intro x hx e
  obtain ⟨j, hj⟩ := List.mem_iff_getElem?.mp hx
  have e2 : x.1 = k := of_decide_eq_true e
  exact h j x.2 (by rw [hj, ← e2])
theorem samePairs_heap {nm : String} {a b : Addr} {xs ys : List (T × Addr × Value)} {Q : Bool → Shared → Prop} (hu : knd.room A) (ha : (a == sysModules) = false) (hb : (b == sysModules) = false) (da : s.heap.DictOfH knd a xs) (db : s.heap.DictOfH knd b ys)
    (ix : ∀ x ∈ xs, ∃ i t, x.2.2 = Value.int i t) (iy : ∀ y ∈ ys, ∃ i t, y.2.2 = Value.int i t) (h : Q (xs.length == ys.length && subD xs ys) s) : wpAny (model prog w) A (Builtin.Dict.samePairs nm a b) Q E s := by
  obtain ⟨oa, es, ep, a1, _, a3, a4, a5, a6⟩ := da
  obtain ⟨ob, fs, fp, b1, _, b3, b4, b5, b6⟩ := db
  have la : es.size = xs.length := size_of_entries a4
  have lb : fs.size = ys.length := size_of_entries b4
  unfold Builtin.Dict.samePairs Builtin.Dict.showsAll
  rw [ha, hb, if_neg Bool.false_ne_true]
  refine wpAny_bind (wpAny_pure (wpAny_bind (wpAny_pure (wpAny_bind (wpAny_dictEntries a1 a3 ?_)))))
  dsimp only
  refine wpAny_bind (wpAny_dictEntries b1 b3 ?_)
  by_cases hz : es.size = fs.size
  · have hz' : (xs.length == ys.length) = true := by simp [← la, ← lb, hz]
    rw [hz', Bool.true_and] at h
    rw [if_neg (by rw [hz]; simp)]
    refine wpAny_bind (wpAny_dictEpoch a1 a3 (wpAny_bind ?_))
    rw [Std.Legacy.Range.forIn_eq_forIn_range']
    simp only [Std.Legacy.Range.size, Nat.sub_zero, Nat.add_sub_cancel, Nat.div_one]
    refine wpAny_forIn_list _ (fun rest q s' => s' = s ∧ q = (none, ()) ∧ ∃ i, i ≤ es.size ∧ rest = List.range' i (es.size - i) ∧ subD (xs.drop i) ys = subD xs ys) _ ?_ ?_ _ _ ⟨rfl, rfl, 0, Nat.zero_le _, by simp, rfl⟩
    · rintro j rest q s' ⟨rfl, rfl, i, hi, hr, hd⟩
      have hlt : i < es.size := by
        rcases Nat.lt_or_ge i es.size with z | z
        · exact z
        · rw [Nat.sub_eq_zero_of_le z] at hr
          simp at hr
      have er : es.size - i = (es.size - (i + 1)) + 1 := by omega
      rw [er, List.range'_succ] at hr
      injection hr with e1 e2
      subst e1
      refine wpAny_bind (wpAny_dictEntries a1 a3 ?_)
      obtain ⟨k, c, v, hx⟩ : ∃ k c v, xs[j]? = some (k, c, v) := by
        have hl : j < xs.length := by omega
        exact ⟨_, _, _, List.getElem?_eq_getElem hl⟩
      rw [entry_at a4 j, hx]
      have hm := List.mem_of_getElem? hx
      have hcut : xs.drop j = (k, c, v) :: xs.drop (j + 1) := by
        obtain ⟨hl, e⟩ := List.getElem?_eq_some_iff.mp hx
        rw [← e]
        exact List.drop_eq_getElem_cons hl
      obtain ⟨i1, t1, ev⟩ := ix _ hm
      have ev : v = Value.int i1 t1 := ev
      subst ev
      have hc : subD (xs.drop j) ys = (decide (((atKey ys k).map fun p => intV p.2) = some (some i1)) && subD (xs.drop (j + 1)) ys) := by rw [hcut]; rfl
      rw [hc] at hd
      show wpAny _ _ (holding [(entryOfKey knd (k, c, Value.int i1 t1)).key, (entryOfKey knd (k, c, Value.int i1 t1)).val] _ >>= _) _ _ _
      refine wpAny_bind (wpAny_holding (wpAny_bind (wpAny_dictFind_heap hu (a5 _ hm) b1 b3 b4 b5 b6 (fun no => ?_) fun m p hmp => ?_)))
      · refine wpAny_pure ?_
        rw [atKey_none no] at hd
        have hd' : false = subD xs ys := hd
        rw [← hd'] at h
        show wpAny _ _ (if (!false) = true then _ else _) _ _ _
        rw [if_pos (by decide)]
        exact wpAny_pure (wpAny_pure h)
      · obtain ⟨c2, v2⟩ := p
        obtain ⟨i2, t2, ev⟩ := iy _ (List.mem_of_getElem? hmp)
        have ev : v2 = Value.int i2 t2 := ev
        subst ev
        rw [atKey_some b6 hmp] at hd
        refine wpAny_bind (wpAny_dictEntries b1 b3 ?_)
        rw [entry_at b4 m, hmp]
        refine wpAny_holding ?_
        show wpAny _ _ (eqBool (Value.int i1 t1) (Value.int i2 t2)) _ _ _
        refine wpAny_eqBool_int ?_
        by_cases e : i1 = i2
        · subst e
          have hd' : subD (xs.drop (j + 1)) ys = subD xs ys := by
            rw [← hd]
            simp [intV]
          rw [beq_self_eq_true]
          show wpAny _ _ (if (!true) = true then _ else _) _ _ _
          rw [if_neg (by decide)]
          refine wpAny_bind (wpAny_dictEpoch a1 a3 ?_)
          rw [if_neg (by simp)]
          exact wpAny_pure ⟨rfl, rfl, j + 1, hlt, e2, hd'⟩
        · have hd' : subD xs ys = false := by
            rw [← hd]
            simp [intV, Ne.symm e]
          rw [beq_eq_false_iff_ne.mpr e]
          rw [hd'] at h
          show wpAny _ _ (if (!false) = true then _ else _) _ _ _
          rw [if_pos (by decide)]
          exact wpAny_pure (wpAny_pure h)
    · rintro q s' ⟨rfl, rfl, i, hi, hr, hd⟩
      have ei : i = es.size := by
        rcases Nat.lt_or_ge i es.size with z | z
        · have er : es.size - i = (es.size - (i + 1)) + 1 := by omega
          rw [er, List.range'_succ] at hr
          exact nomatch hr
        · exact Nat.le_antisymm hi z
      refine wpAny_pure ?_
      rw [ei, la, List.drop_length] at hd
      have hd' : true = subD xs ys := hd
      rw [← hd'] at h
      exact h
  · have hz' : (xs.length == ys.length) = false := by
      rw [← la, ← lb]
      simpa using hz
    rw [if_pos (by simpa using hz)]
    rw [hz', Bool.false_and] at h
    exact wpAny_bind (wpAny_rule (wpAny_pure h))
theorem eq_heap {a b : Addr} {xs ys : List (T × Addr × Value)} {Q : Value → Shared → Prop} (hu : knd.room A.in1) (hw : A.units < cLine) (ha : (a == sysModules) = false) (hb : (b == sysModules) = false) (ta : s.TypeIs (.ref a) "dict") (tb : s.TypeIs (.ref b) "dict") (da : s.heap.DictOfH knd a xs) (db : s.heap.DictOfH knd b ys)
    (ix : ∀ x ∈ xs, ∃ i t, x.2.2 = Value.int i t) (iy : ∀ y ∈ ys, ∃ i t, y.2.2 = Value.int i t) (h : Q (.bool (xs.length == ys.length && subD xs ys)) s) : wpAny (model prog w) A (compareOp .Eq (.ref a) (.ref b)) Q E s := by
  refine wpAny_richCompare_same_room (op := .Eq) ta tb PySem.F.slot_dict_eq (wpAny_call_entry PySem.F.slot_dict_eq ta PySem.F.entry_dict_eq ?_ (PySem.F.args_dict_eq_2 _ _)) hw
  show wpAny _ _ (Builtin.Dict.dictSlotArgs "__eq__" ⟨[.ref a, .ref b], []⟩ >>= _) _ _ s
  unfold Builtin.Dict.dictSlotArgs
  refine wpAny_bind (wpAny_bind (wpAny_notOrdered_dict ta ?_))
  refine (show wpAny _ _ (pure (Value.ref a, Value.ref b)) _ _ s from wpAny_pure (wpAny_bind (wpAny_isInstance (T := "dict") tb PySem.F.sub_dict_dict ?_)))
  rw [Bool.not_true, if_neg Bool.false_ne_true]
  refine wpAny_bind (wpAny_pure (wpAny_bind (wpAny_pure (wpAny_bind (samePairs_heap hu ha hb da db ix iy (wpAny_pure ⟨_, rfl, (fun z => nomatch z), ?_⟩))))))
  simpa using h
theorem ne_heap {a b : Addr} {xs ys : List (T × Addr × Value)} {Q : Value → Shared → Prop} (hu : knd.room A.in1) (hw : A.units < cLine) (ha : (a == sysModules) = false) (hb : (b == sysModules) = false) (ta : s.TypeIs (.ref a) "dict") (tb : s.TypeIs (.ref b) "dict") (da : s.heap.DictOfH knd a xs) (db : s.heap.DictOfH knd b ys)
    (ix : ∀ x ∈ xs, ∃ i t, x.2.2 = Value.int i t) (iy : ∀ y ∈ ys, ∃ i t, y.2.2 = Value.int i t) (h : Q (.bool (!(xs.length == ys.length && subD xs ys))) s) : wpAny (model prog w) A (compareOp .NotEq (.ref a) (.ref b)) Q E s := by
  refine wpAny_richCompare_same_room (op := .NotEq) ta tb PySem.F.slot_dict_ne (wpAny_call_entry PySem.F.slot_dict_ne ta PySem.F.entry_dict_ne ?_ (PySem.F.args_dict_ne_2 _ _)) hw
  show wpAny _ _ (Builtin.Dict.dictSlotArgs "__ne__" ⟨[.ref a, .ref b], []⟩ >>= _) _ _ s
  unfold Builtin.Dict.dictSlotArgs
  refine wpAny_bind (wpAny_bind (wpAny_notOrdered_dict ta ?_))
  refine (show wpAny _ _ (pure (Value.ref a, Value.ref b)) _ _ s from wpAny_pure (wpAny_bind (wpAny_isInstance (T := "dict") tb PySem.F.sub_dict_dict ?_)))
  rw [Bool.not_true, if_neg Bool.false_ne_true]
  refine wpAny_bind (wpAny_pure (wpAny_bind (wpAny_pure (wpAny_bind (samePairs_heap hu ha hb da db ix iy (wpAny_pure ⟨_, rfl, (fun z => nomatch z), ?_⟩))))))
  simpa using h
end
/-! over the layer -/
theorem pair_at {α β : Type} {F : α → β → Prop} {us : List α} {vs : List β} (r : Paired F us vs) : ∀ {j : Nat} {y : β}, vs[j]? = some y → ∃ x, us[j]? = some x ∧ F x y := by
  induction r with
  | nil => intro j y h; simp at h
  | @cons a b as bs hab t ih =>
    intro j y h
    cases j with
    | zero => exact ⟨a, rfl, by rw [← Option.some.inj (show some b = some y from h)]; exact hab⟩
    | succ j => exact ih (show bs[j]? = some y from h)
def isIntV : V → Prop := fun v => ∃ i, v = .int i
/-- the answer: the same pairs -/
def sameD (ks ls : List (List Key × V)) : Bool := ks.length == ls.length && ks.all fun p => decide (valV ls p.1 = some p.2)
def rEqT (neg : Bool) : R2 := fun x y H Q => ∃ a b ks ls, x = .ref a ∧ y = .ref b ∧ Rd H a (.dT ks) ∧ Rd H b (.dT ls) ∧ (∀ p ∈ ks, isIntV p.2) ∧ (∀ p ∈ ls, isIntV p.2) ∧ Q (.bl (if neg then !sameD ks ls else sameD ks ls)) H
theorem KT.ints {H : Hp} {ks : List (List Key × V)} {xs : List (List Key × Addr × Value)} (r : KT H ks xs) (h : ∀ p ∈ ks, isIntV p.2) : ∀ x ∈ xs, ∃ i t, x.2.2 = Value.int i t := by
  intro x hx
  obtain ⟨j, hj⟩ := List.mem_iff_getElem?.mp hx
  obtain ⟨p, hp, e⟩ := pair_at r hj
  obtain ⟨i, ei⟩ := h p (List.mem_of_getElem? hp)
  have e2 := e.2.2
  rw [ei] at e2
  obtain ⟨t, et⟩ := e2
  exact ⟨i, t, et⟩
theorem sub_same {H : Hp} {ks ls : List (List Key × V)} {xs ys : List (List Key × Addr × Value)} (rb : KT H ls ys) (ra : KT H ks xs) (h : ∀ p ∈ ks, isIntV p.2) (h' : ∀ p ∈ ls, isIntV p.2) : subD xs ys = ks.all fun p => decide (valV ls p.1 = some p.2) := by
  induction ra with
  | nil => rfl
  | @cons p q ps qs e t ih =>
    obtain ⟨e1, _, e2⟩ := e
    have ih' := ih fun p hp => h p (List.mem_cons_of_mem _ hp)
    obtain ⟨i, ei⟩ := h p List.mem_cons_self
    rw [ei] at e2
    obtain ⟨ti, et⟩ := e2
    have hk := KT.val rb p.1
    show (decide (((atKey ys q.1).map fun p => intV p.2) = some (intV q.2.2)) && subD qs ys) = (decide (valV ls p.1 = some p.2) && ps.all fun p => decide (valV ls p.1 = some p.2))
    rw [ih', ← e1, et, ei]
    congr 1
    cases hv : valV ls p.1 with
    | none =>
      rw [hv] at hk
      cases ha : atKey ys p.1 with
      | none => simp
      | some z =>
        rw [ha] at hk
        exact False.elim hk
    | some v =>
      have hm : ∃ u ∈ ls, u.2 = v := by
        unfold valV at hv
        obtain ⟨u, hu, eu⟩ := Option.map_eq_some_iff.mp hv
        exact ⟨u, List.mem_of_find?_eq_some hu, eu⟩
      obtain ⟨u, hul, eu⟩ := hm
      obtain ⟨i', ei'⟩ := h' u hul
      rw [eu] at ei'
      rw [hv] at hk
      cases ha : atKey ys p.1 with
      | none =>
        rw [ha] at hk
        exact False.elim hk
      | some z =>
        rw [ha] at hk
        have hk' : RelV v z.2 := hk
        rw [ei'] at hk'
        obtain ⟨t', et'⟩ := hk'
        rw [ei', Option.map_some, et']
        by_cases e : i' = i
        · subst e
          simp [intV]
        · rw [decide_eq_false, decide_eq_false]
          · exact fun z => e (V.int.inj (Option.some.inj z))
          · exact fun z => e (Option.some.inj (Option.some.inj z))
theorem rd_dT {X : Cx} {pins : List (Addr × Obj)} {σ : L2.St} {H : Hp} {s : Shared} {a : Addr} {ks : List (List Key × V)} (I : Inv X pins σ H s) (h : Rd H a (.dT ks)) : s.TypeIs (.ref a) "dict" ∧ (a == sysModules) = false ∧ ∃ xs, KT H ks xs ∧ s.heap.DictOfH (tupleKind (mixKind X.prog X.w)) a xs :=
  have z := isD_at I (Or.inr ⟨ks, h⟩)
  have y := dt_rd I.hok h
  ⟨z.1, z.2.2, y.2.2⟩
theorem op_eqT {X : Cx} (hu : X.A.units + 1 < cLine) : OpR X (compareOp .Eq) (rEqT false) := by
  intro pins s σ H x y v u Q I rx ry h
  obtain ⟨a, b, ks, ls, rfl, rfl, ha, hb, ia, ib, q⟩ := h
  cases (show v = Value.ref a from rx)
  cases (show u = Value.ref b from ry)
  obtain ⟨ta, na, xs, ra, da⟩ := rd_dT I ha
  obtain ⟨tb, nb, ys, rb, db⟩ := rd_dT I hb
  refine eq_heap (knd := tupleKind (mixKind X.prog X.w)) (tupleKind_room_in1 hu) (by omega) na nb ta tb da db (KT.ints ra ia) (KT.ints rb ib) (fin_bl I q ?_)
  rw [sub_same rb ra ia ib, ← Paired.length ra, ← Paired.length rb]
  all_goals rfl
theorem op_neT {X : Cx} (hu : X.A.units + 1 < cLine) : OpR X (compareOp .NotEq) (rEqT true) := by
  intro pins s σ H x y v u Q I rx ry h
  obtain ⟨a, b, ks, ls, rfl, rfl, ha, hb, ia, ib, q⟩ := h
  cases (show v = Value.ref a from rx)
  cases (show u = Value.ref b from ry)
  obtain ⟨ta, na, xs, ra, da⟩ := rd_dT I ha
  obtain ⟨tb, nb, ys, rb, db⟩ := rd_dT I hb
  refine ne_heap (knd := tupleKind (mixKind X.prog X.w)) (tupleKind_room_in1 hu) (by omega) na nb ta tb da db (KT.ints ra ia) (KT.ints rb ib) (fin_bl I q ?_)
  rw [sub_same rb ra ia ib, ← Paired.length ra, ← Paired.length rb]
  all_goals rfl
end DTx

/-! DTx: sorted of a dict whose keys are tuples of ints, fewer than 64. -/
namespace DTx
open PySem PySem.Spec PyProof.Rows L2 PySem.Calls PySem.W
section
variable {prog : Program} {w : World} {A : Around} {E : Value → Shared → Prop} {s : Shared} {T : String} {r d : Addr} {n : Nat} {P : Nat → Value → Prop} {OK : Heap → Prop}
/-- what a source gives, collected into a list of the interpreter's own -/
theorem collect_src {R : List Value → Shared → Prop} (src : KdlSrc prog w T r d n P OK) (hh : A.handled = none) (hok : OK s.heap) (hn : n ≤ sizeLine)
    (q : ∀ h' tk (acc : Array Value), (∀ b o, s.heap.get? b = some o → h'.get? b = some o) → s.heap.objs.size ≤ h'.objs.size → ItemsOf P acc n → R acc.toList { s with heap := h', toks := tk }) : wpAny (model prog w) A (collect (.ref r)) R E s := by
  obtain ⟨lr, ld⟩ := src.there _ hok
  unfold collect
  refine wpAny_bind (wpAny_runValue (codeAny_builtin entry_proto_collect' ?_))
  rw [Around.under_plainId PySem.F.plain_proto_collect _]
  show wpAny _ A.in1 (newList [] >>= fun l => again (.builtin "list.__iadd__" ⟨[l, .ref r], []⟩)) _ _ s
  refine wpAny_bind (wpAny_newObj_type (wpAny_pure ⟨plainId_quiet PySem.F.plain_list_iadd _, codeAny_builtin entry_list_iadd' ?_⟩))
  rw [Around.under_plainId PySem.F.plain_list_iadd _]
  show wpAny _ A.in1 (Builtin.List.listExtendWith (.ref s.heap.objs.size) (.ref r) (.ref s.heap.objs.size)) _ _ { s with heap := s.heap.push { cls := .type "list", data := .seq ([] : List Value).toArray } }
  have ok1 : OK (s.heap.push { cls := .type "list", data := .seq ([] : List Value).toArray }) := src.keep _ _ hok fun b _ o e => Heap.get?_push_of_some _ e
  have at1 : (s.heap.push { cls := .type "list", data := .seq ([] : List Value).toArray }).get? s.heap.objs.size = some { cls := .type "list", data := .seq #[] 0 } := Heap.get?_push_size _ rfl
  have key := kdl_extend (A := A) (s := { s with heap := s.heap.push { cls := .type "list", data := .seq ([] : List Value).toArray } })
    (R := fun (z : Result) (s' : Shared) => ∃ (h' : Heap) (tk : Nat) (acc : Array Value) (c : Nat), z = .ok (.ret (.ref s.heap.objs.size)) ∧ s' = { s with heap := h', toks := tk } ∧ (∀ b o, s.heap.get? b = some o → h'.get? b = some o) ∧
      h'.get? s.heap.objs.size = some { cls := .type "list", dict := none, data := .seq acc c, slots := #[] } ∧ ItemsOf P acc n) src hh ok1 s.heap.objs.size (Nat.ne_of_gt lr) (Nat.ne_of_gt ld) (.ref s.heap.objs.size) 0 at1
    (fun h' tk acc c hk hS it => ⟨h', tk, acc, c, rfl, rfl, fun b o e => hk b o (Nat.ne_of_lt (Heap.lt_size e)) (Heap.get?_push_of_some _ e), hS, it⟩) hn
  have fin : ∀ (z : Result) (s' : Shared), (∃ (h' : Heap) (tk : Nat) (acc : Array Value) (c : Nat), z = .ok (.ret (.ref s.heap.objs.size)) ∧ s' = { s with heap := h', toks := tk } ∧ (∀ b o, s.heap.get? b = some o → h'.get? b = some o) ∧
      h'.get? s.heap.objs.size = some { cls := .type "list", dict := none, data := .seq acc c, slots := #[] } ∧ ItemsOf P acc n) → ∃ (f : Flow), z = .ok f ∧ wpAny (model prog w) A (load s.heap.objs.size >>= fun o => match o.data with | .seq xs _ => pure xs.toList | _ => unsupported "internal:collected") R E s' := by
    rintro z s' ⟨h', tk, acc, c, rfl, rfl, hk, hS, it⟩
    exact ⟨_, rfl, wpAny_bind (wpAny_load hS (wpAny_pure (q h' tk acc hk (Nat.le_of_lt (Heap.lt_size hS)) it)))⟩
  refine wpAny_mono key (fun x s' z => ?_) fun e s' z => ?_
  · cases x with
    | done f =>
      obtain ⟨h', tk, acc, c, e, rfl, hk, hS, it⟩ := z
      cases e
      show wpAny _ A (load s.heap.objs.size >>= _) _ _ _
      exact wpAny_bind (wpAny_load hS (wpAny_pure (q h' tk acc hk (Nat.le_of_lt (Heap.lt_size hS)) it)))
    | again c1 =>
      refine ⟨z.1, codeAny_mono z.2 fun q2 s2 y => ?_⟩
      obtain ⟨h', tk, acc, c, rfl, rfl, hk, hS, it⟩ := y
      show wpAny _ A (load s.heap.objs.size >>= _) _ _ _
      exact wpAny_bind (wpAny_load hS (wpAny_pure (q h' tk acc hk (Nat.le_of_lt (Heap.lt_size hS)) it)))
  · obtain ⟨_, _, _, _, e', _⟩ := z
    cases e'
end
/-- sorted(d): the addresses of the keys, by their ints -/
def rSortD : List V → Hp → VK → Prop := fun vs H Q => ∃ (a : Addr) (ks : List (List Int × V)) (m : Nat) (B : Int), vs = [V.ref a] ∧ Rd H a (.dT (ks.map fun p => (p.1.map Sum.inl, p.2))) ∧ ks.length < 64 ∧ 1 ≤ m ∧ (∀ p ∈ ks, p.1.length = m ∧ TS.Bd B p.1) ∧
  ∀ (L : List (Addr × List Int)) (p : Addr), (L.map (·.2)).Perm (ks.map (·.1)) → L.Pairwise (fun q r => TS.code B q.2 ≤ TS.code B r.2) → (∀ q ∈ L, H q.1 = some (.tup (q.2.map V.int))) → H p = none → Q (.ref p) (upd H p (.lst (L.map fun q => V.ref q.1)))
theorem src_items {prog : Program} {w : World} {K : Type} [DecidableEq K] {knd : HeapKind prog w K} {es : Array DictEntry} {xs : List (K × Addr × Value)} {acc : Array Value} (he : es.toList = xs.map (entryOfKey knd)) (it : ItemsOf (fun i v => ∃ en : DictEntry, es[i]? = some en ∧ v = en.key) acc es.size) :
    acc.toList = xs.map fun x => Value.ref x.2.1 := by
  have l1 : es.size = xs.length := size_of_entries he
  have l2 : acc.toList.length = xs.length := by rw [Array.length_toList, it.1, l1]
  refine List.ext_getElem? fun j => ?_
  rw [List.getElem?_map]
  rcases Nat.lt_or_ge j xs.length with hj | hj
  · have ha : acc.toList[j]? = some (acc.toList[j]'(by omega)) := List.getElem?_eq_getElem (by omega)
    obtain ⟨en, he2, ev⟩ := it.2 j (acc.toList[j]'(by omega)) (by rw [← Array.getElem?_toList]; exact ha)
    have h2 := entry_at he j
    rw [he2, List.getElem?_eq_getElem hj] at h2
    have e3 : en = entryOfKey knd xs[j] := Option.some.inj h2
    rw [ha, ev, e3, List.getElem?_eq_getElem hj]
    all_goals rfl
  · rw [List.getElem?_eq_none (by omega), List.getElem?_eq_none hj]
    all_goals rfl
theorem isTup_ints {X : Cx} {pins : List (Addr × Obj)} {σ : L2.St} {H : Hp} {s : Shared} (I : Inv X pins σ H s) {t : Addr} {ns : List Int} (h : H t = some (.tup (ns.map V.int))) : TS.TupInts s.heap (.ref t) ns := tupI_raw I (SqT.of h)
theorem sort_refs {h : Heap} {B : Int} {L0 : List (Addr × List Int)} {out : List Value} (tk : ∀ q ∈ L0, TS.TupInts h (.ref q.1) q.2) (pm : out.Perm (L0.map fun q => Value.ref q.1)) (pw : out.Pairwise fun u v => TS.code B (TS.intsOf h u) ≤ TS.code B (TS.intsOf h v)) :
    ∃ L : List (Addr × List Int), out = L.map (fun q => Value.ref q.1) ∧ L.Perm L0 ∧ L.Pairwise fun q r => TS.code B q.2 ≤ TS.code B r.2 := by
  have back : ∀ vs : List Value, (∀ v ∈ vs, v ∈ L0.map fun q => Value.ref q.1) → ∃ L : List (Addr × List Int), vs = L.map (fun q => Value.ref q.1) ∧ ∀ q ∈ L, q ∈ L0 := by
    intro vs
    induction vs with
    | nil => exact fun _ => ⟨[], rfl, fun q hq => nomatch hq⟩
    | cons v r ih =>
      intro hv
      obtain ⟨q, hq, e⟩ := List.mem_map.mp (hv v List.mem_cons_self)
      obtain ⟨L, e2, hL⟩ := ih fun u hu => hv u (List.mem_cons_of_mem _ hu)
      refine ⟨q :: L, by rw [List.map_cons, e, e2], fun z hz => ?_⟩
      rcases List.mem_cons.mp hz with rfl | hz
      · exact hq
      · exact hL z hz
  obtain ⟨L, e, hL⟩ := back out fun v hv => pm.mem_iff.mp hv
  have fn : ∀ v : Value, (fun v : Value => match v with | .ref a => (a, TS.intsOf h v) | _ => ((0 : Addr), ([] : List Int))) v = (fun v : Value => match v with | .ref a => (a, TS.intsOf h v) | _ => ((0 : Addr), ([] : List Int))) v := fun _ => rfl
  have inv : ∀ M : List (Addr × List Int), (∀ q ∈ M, q ∈ L0) → (M.map fun q => Value.ref q.1).map (fun v : Value => match v with | .ref a => (a, TS.intsOf h v) | _ => ((0 : Addr), ([] : List Int))) = M := by
    intro M hM
    rw [List.map_map]
    refine (List.map_congr_left fun q hq => ?_).trans (List.map_id _)
    show (q.1, TS.intsOf h (.ref q.1)) = q
    rw [(tk q (hM q hq)).ints]
  refine ⟨L, e, ?_, ?_⟩
  · have := pm.map (fun v : Value => match v with | .ref a => (a, TS.intsOf h v) | _ => ((0 : Addr), ([] : List Int)))
    rw [e, inv L hL, inv L0 fun _ z => z] at this
    exact this
  · rw [e] at pw
    refine List.Pairwise.imp_of_mem (fun {q r} hq hr hle => ?_) (List.pairwise_map.mp pw)
    rw [(tk q (hL q hq)).ints, (tk r (hL r hr)).ints] at hle
    exact hle
theorem cr_sortedD {X : Cx} (calm : X.calm = true) : CallR X (.builtin "sorted") rSortD := by
  intro pins s σ H vs us Q I r h
  obtain ⟨a, ks, m, B, rfl, ha, hl, hm, hB, q⟩ := h
  obtain ⟨u, rfl, rx⟩ := r.one
  cases rx
  obtain ⟨z, hs, xs, pr, o, es, ep, ho, hx, hdt, he, hnd⟩ := (show ObjOk X.prog X.w H s.heap a (.dT (ks.map fun p => (p.1.map Sum.inl, p.2))) from ha.ok I.hok)
  have l1 : es.size = xs.length := size_of_entries he
  have l2 : xs.length = ks.length := by
    have := Paired.length pr
    rw [List.length_map] at this
    exact this.symm
  -- the keys' addresses with their ints
  obtain ⟨L0, e0, e0k, t0⟩ : ∃ L0 : List (Addr × List Int), xs.map (fun x => Value.ref x.2.1) = L0.map (fun q => Value.ref q.1) ∧ L0.map (·.2) = ks.map (·.1) ∧ ∀ y ∈ L0, H y.1 = some (.tup (y.2.map V.int)) := by
    clear hnd he hdt l1 l2 hl z q ho hx
    generalize hkk : (ks.map fun p => (p.1.map Sum.inl, p.2) : List (List Key × V)) = kk at pr
    clear ha
    induction pr generalizing ks with
    | nil =>
      cases ks with
      | nil => exact ⟨[], rfl, rfl, fun _ z => nomatch z⟩
      | cons => cases hkk
    | @cons p x ps ys e t ih =>
      cases ks with
      | nil => cases hkk
      | cons k kr =>
        injection hkk with e1 e2
        obtain ⟨L, f1, f2, f3⟩ := ih (ks := kr) (fun p hp => hB p (List.mem_cons_of_mem _ hp)) e2
        refine ⟨(x.2.1, k.1) :: L, by rw [List.map_cons, List.map_cons, f1], by rw [List.map_cons, List.map_cons, f2], fun y hy => ?_⟩
        rcases List.mem_cons.mp hy with rfl | hy
        · have h2 := e.2.1
          rw [← e1] at h2
          have h3 : (k.1.map Sum.inl : List Key).map kV = k.1.map V.int := by rw [List.map_map]; rfl
          rw [← h3]
          exact h2
        · exact f3 y hy
  refine call_function_entry kind_sorted plain_sorted entry_sorted (args_sorted1 _) ?_
  unfold Builtin.«sorted»
  refine wpAny_bind (m := checkCount "sorted" 1 1 _) (wpAny_pure ?_)
  refine wpAny_bind (collect_src (A := X.A.in1) (kdl_raw hs hx hdt) (I.ok.hd calm) ho (by rw [sizeLine_eq]; omega) fun h' tk acc hk hsz it => ?_)
  have eacc : acc.toList = L0.map fun q => Value.ref q.1 := (src_items he it).trans e0
  have ll : L0.length = ks.length := by
    have := congrArg List.length e0k
    rwa [List.length_map, List.length_map] at this
  rw [eacc]
  refine wpAny_bind (wpAny_newList ?_ (by rw [List.length_map, sizeLine_eq]; omega))
  have hoL : (h'.push (seqObj "list" (L0.map fun q => Value.ref q.1).toArray 0)).get? h'.objs.size = some (seqObj "list" (L0.map fun q => Value.ref q.1).toArray 0) := Heap.get?_push_size _ rfl
  have tk2 : ∀ y ∈ L0, TS.TupInts (h'.push (seqObj "list" (L0.map fun q => Value.ref q.1).toArray 0)) (.ref y.1) y.2 := fun y hy =>
    (isTup_ints I (t0 y hy)).keeps fun b u e _ => Heap.get?_push_of_some _ (hk b u e)
  have tok : TS.TupsOk (h'.push (seqObj "list" (L0.map fun q => Value.ref q.1).toArray 0)) m B (L0.map fun q => Value.ref q.1) := fun v hv => by
    obtain ⟨y, hy, rfl⟩ := List.mem_map.mp hv
    have hk2 : y.2 ∈ ks.map (·.1) := by
      rw [← e0k]
      exact List.mem_map.mpr ⟨y, hy, rfl⟩
    obtain ⟨p, hp, ep⟩ := List.mem_map.mp hk2
    have := hB p hp
    rw [ep] at this
    exact ⟨y.2, tk2 y hy, this⟩
  refine wpAny_bind (wpAny_holding (TS.call_sort_tups (s := { s with heap := h'.push (seqObj "list" (L0.map fun q => Value.ref q.1).toArray 0), toks := tk }) hoL (by rw [List.length_map]; omega) hm tok fun out a1 a2 => ?_))
  obtain ⟨c, hc⟩ := sortedHeap_at (vs := L0.map fun q => Value.ref q.1) (out := out) hoL
  obtain ⟨L, eL, pL, wL⟩ := sort_refs tk2 a1 a2
  refine wpAny_pure ⟨_, rfl, ?_⟩
  have keep : ∀ b u, s.heap.get? b = some u → (sortedHeap (h'.push (seqObj "list" (L0.map fun q => Value.ref q.1).toArray 0)) h'.objs.size (L0.map fun q => Value.ref q.1) out).get? b = some u := fun b u e => by
    have e2 := hk b u e
    have lt := Heap.lt_size e2
    rw [sortedHeap_old (Nat.ne_of_lt lt) (by rw [size_push']; exact Nat.lt_succ_of_lt lt)]
    exact Heap.get?_push_of_some _ e2
  have hn : H h'.objs.size = none := I.hok.fresh hsz
  have rv : Vals (L.map fun q => V.ref q.1) out.toList := by
    rw [eL]
    clear eL pL wL
    induction L with
    | nil => exact .nil
    | cons y r ih => exact .cons rfl ih
  have lz : (L.map fun q => V.ref q.1).length ≤ sizeLine := by
    rw [List.length_map, pL.length_eq, sizeLine_eq]
    omega
  have J : Inv X pins σ (upd H h'.objs.size (.lst (L.map fun q => V.ref q.1))) { s with heap := sortedHeap (h'.push (seqObj "list" (L0.map fun q => Value.ref q.1).toArray 0)) h'.objs.size (L0.map fun q => Value.ref q.1) out, toks := tk } :=
    I.laid (t' := tk) keep hsz ⟨lz, out.toList, c, rv, hc⟩
  refine ⟨.ref h'.objs.size, _, J, rfl, q L _ ?_ wL (fun y hy => t0 y (pL.mem_iff.mp hy)) hn⟩
  rw [← e0k]
  exact pL.map _
end DTx

/-! DTx: {k: v} with a tuple as its one key. -/
namespace DTx
open PySem PySem.Spec PyProof.Rows L2 PySem.Calls
def tOne (tk tv : TE) : TE := fun σ H Q => ∀ p, H p = none → tk σ (upd H p (.dT [])) fun y H1 => tv σ H1 fun z H2 => H2 p = some (.dT []) ∧ ∃ k c, y = .ref c ∧ H2 c = some (.tup (k.map kV)) ∧ Q (.ref p) (upd H2 p (.dT [(k, z)]))
theorem pe_one_pair {X : Cx} {pos : Pos} {kx vx : Expr} {tk tv : TE} (hu : X.A.units < cLine) (hk : PE X kx tk) (hv : PE X vx tv) : PE X (.Dict [some kx] [vx] pos) (tOne tk tv) := by
  refine ⟨fun pins s σ H Q I q => ?_⟩
  have hn := I.hok.fresh (Nat.le_refl s.heap.objs.size)
  have J := I.laid (a := s.heap.objs.size) (o := .dT []) (h' := s.heap.push { cls := .type "dict", data := .dict #[] }) (t' := s.toks) (fun _ _ e => Heap.get?_push_of_some _ e) (Nat.le_refl _) (dt_empty s.heap I.big)
  rw [arm_eval_Dict, zip_pairTrees [some kx] [vx] X.env pos rfl rfl, dictDisplay_pairs _ (fun z => by have := congrArg List.length z; rw [pairTrees_length _ _ _ _ rfl rfl] at this; cases this) (by rw [pairTrees_length _ _ _ _ rfl rfl]; show 1 < 17; decide)]
  refine wpAny_bind (wpAny_standAt (wpAny_bind (wpAny_subDictH (knd := tupleKind (mixKind X.prog X.w)) (Q := fun d s' => wpAny (model X.prog X.w) X.A (pure (Value.ref d)) (EP X pins σ Q) X.xe s') hu (by rw [pairTrees_length _ _ _ _ rfl rfl]; show 1 ≤ 15; decide) ?_)))
  refine pairTrees_cons_walk (thn (hk.run pins _ σ _ _ J (q _ hn)) fun u s1 ⟨y, H1, I1, ry, q1⟩ => thn (hv.run pins s1 σ H1 _ I1 q1) fun r s2 ⟨z, H2, I2, rz, hp, k, c, ey, hc, q2⟩ => pairTrees_nil_walk ?_)
  subst ey
  cases (show u = Value.ref c from ry)
  obtain ⟨_, hd, xs, rel, dd⟩ := dt_of I2.hok hp
  cases rel
  refine ⟨[(k, c, r)], ⟨rfl, rfl, key_of I2.hok hc, trivial⟩, dd, fun h' tk d2 sb => wpAny_pure ⟨.ref s.heap.objs.size, _, ?_, rfl, q2⟩⟩
  obtain ⟨ob, es, ep, g1, g2, g3, g4, _, g6⟩ := d2
  refine d_write I2 (by rw [hp]; trivial) sb ⟨ob, g1⟩ ⟨by show 1 ≤ sizeLine; decide, hd, [(k, c, r)], .cons ⟨rfl, ?_, rz⟩ .nil, ob, es, ep, g1, g2, g3, g4, g6⟩
  show upd H2 s.heap.objs.size (.dT [(k, z)]) c = some (.tup (k.map kV))
  rw [upd_ne (ne_of hc hp fun z => nomatch z)]
  exact hc
end DTx

/-! Sm: dicts from int lists to ints, as lists of pairs; forms. -/
namespace Sm
open PySem L2
abbrev DI := List (List Int × Int)
abbrev ek (k : List Int) : List Key := k.map Sum.inl
def enc (ps : DI) : List (List Key × V) := ps.map fun p => (ek p.1, V.int p.2)
def getI (ps : DI) (k : List Int) : Option Int := (ps.find? fun p => decide (p.1 = k)).map (·.2)
def putI (ps : DI) (k : List Int) (v : Int) : DI := if (ps.any fun p => decide (p.1 = k)) = true then ps.map (fun p => if p.1 = k then (p.1, v) else p) else ps ++ [(k, v)]
theorem ek_inj {a b : List Int} : ek a = ek b ↔ a = b := by
  constructor
  · intro h
    induction a generalizing b with
    | nil => cases b with
      | nil => rfl
      | cons y ys => cases h
    | cons x xs ih => cases b with
      | nil => cases h
      | cons y ys =>
        injection h with h1 h2
        rw [Sum.inl.inj h1, ih h2]
  · intro h; rw [h]
theorem ek_kV (k : List Int) : (ek k).map kV = k.map V.int := by
  unfold ek
  rw [List.map_map]
  rfl
theorem val_enc (ps : DI) (k : List Int) : valV (enc ps) (ek k) = (getI ps k).map V.int := by
  induction ps with
  | nil => rfl
  | cons p r ih =>
    show valV ((ek p.1, V.int p.2) :: enc r) (ek k) = _
    by_cases e : p.1 = k
    · rw [valV_pos (by rw [e])]
      simp [getI, e]
    · rw [valV_neg (fun h => e (ek_inj.mp h)), ih]
      simp [getI, e]
theorem put_enc (ps : DI) (k : List Int) (v : Int) : putK (enc ps) (ek k) (.int v) = enc (putI ps k v) := by
  have e : ((enc ps).any fun kv => decide (kv.1 = ek k)) = (ps.any fun p => decide (p.1 = k)) := by
    unfold enc
    rw [List.any_map]
    congr 1
    funext p
    exact decide_eq_decide.mpr ek_inj
  unfold putK putI
  rw [e]
  split
  · unfold enc
    rw [List.map_map, List.map_map]
    refine List.map_congr_left fun p _ => ?_
    show (if ek p.1 = ek k then (ek p.1, V.int v) else (ek p.1, V.int p.2)) = _
    by_cases h : p.1 = k
    · rw [if_pos (by rw [h])]
      simp [h]
    · rw [if_neg (fun z => h (ek_inj.mp z))]
      simp [h]
  · simp [enc]
theorem putI_new {ps : DI} {k : List Int} {v : Int} (h : k ∉ ps.map (·.1)) : putI ps k v = ps ++ [(k, v)] := by
  unfold putI
  rw [if_neg]
  intro h2
  obtain ⟨p, hp, e⟩ := List.any_eq_true.mp h2
  exact h (List.mem_map.mpr ⟨p, hp, of_decide_eq_true e⟩)
theorem getI_none {ps : DI} {k : List Int} (h : k ∉ ps.map (·.1)) : getI ps k = none := by
  unfold getI
  rw [Option.map_eq_none_iff, List.find?_eq_none]
  intro p hp e
  exact h (List.mem_map.mpr ⟨p, hp, of_decide_eq_true e⟩)
theorem getI_mem {ps : DI} (nd : (ps.map (·.1)).Nodup) {p : List Int × Int} (hp : p ∈ ps) : getI ps p.1 = some p.2 := by
  induction ps with
  | nil => cases hp
  | cons q r ih =>
    have nd' : (q.1 :: r.map (·.1)).Nodup := nd
    obtain ⟨h1, h2⟩ := List.nodup_cons.mp nd'
    rcases List.mem_cons.mp hp with rfl | hp
    · simp [getI]
    · have : ¬ q.1 = p.1 := fun e => h1 (e ▸ List.mem_map.mpr ⟨p, hp, rfl⟩)
      have ih' := ih h2 hp
      simp only [getI, List.find?_cons] at ih' ⊢
      rw [decide_eq_false this]
      exact ih'
theorem mem_getI {ps : DI} {k : List Int} {v : Int} (h : getI ps k = some v) : (k, v) ∈ ps := by
  unfold getI at h
  obtain ⟨p, hp, e⟩ := Option.map_eq_some_iff.mp h
  have h1 := List.mem_of_find?_eq_some hp
  have h2 : p.1 = k := by
    have := List.find?_some hp
    exact of_decide_eq_true this
  rw [← h2, ← e]
  exact h1
/-- the steps that are not 0 -/
def nz (ps : DI) : DI := ps.filter fun p => decide (p.2 ≠ 0)
theorem nz_sub {ps : DI} {p : List Int × Int} (h : p ∈ nz ps) : p ∈ ps := (List.mem_filter.mp h).1
theorem nd_nz {ps : DI} (nd : (ps.map (·.1)).Nodup) : ((nz ps).map (·.1)).Nodup := by
  unfold nz
  exact nd.sublist ((List.filter_sublist).map _)
theorem same_self {ps : DI} (nd : (ps.map (·.1)).Nodup) : DTx.sameD (enc ps) (enc ps) = true := by
  unfold DTx.sameD
  rw [beq_self_eq_true, Bool.true_and, List.all_eq_true]
  intro x hx
  obtain ⟨p, hp, rfl⟩ := List.mem_map.mp hx
  show decide (valV (enc ps) (ek p.1) = some (V.int p.2)) = true
  rw [val_enc, getI_mem nd hp]
  simp
theorem enc_int (ps : DI) : ∀ p ∈ enc ps, DTx.isIntV p.2 := fun x hx => by
  obtain ⟨p, _, rfl⟩ := List.mem_map.mp hx
  exact ⟨p.2, rfl⟩
/-- refs of tuples of ints -/
def TupsAt (H : Hp) : List V → List (List Int) → Prop := Paired fun v k => ∃ t, v = .ref t ∧ H t = some (.tup (k.map V.int))
theorem TupsAt.same {H H' : Hp} (e : ∀ b ys, H b = some (.tup ys) → H' b = some (.tup ys)) {xs : List V} {ks : List (List Int)} (h : TupsAt H xs ks) : TupsAt H' xs ks :=
  Paired.mapP h fun _ _ ⟨t, a, b⟩ => ⟨t, a, e _ _ b⟩
theorem TupsAt.get {H : Hp} {xs : List V} {ks : List (List Int)} (h : TupsAt H xs ks) {i : Nat} {x : V} (hx : xs[i]? = some x) : ∃ k t, ks[i]? = some k ∧ x = .ref t ∧ H t = some (.tup (k.map V.int)) := by
  induction h generalizing i with
  | nil => simp at hx
  | @cons a b as bs hab r ih =>
    cases i with
    | zero =>
      obtain ⟨t, e1, e2⟩ := hab
      have e : a = x := Option.some.inj hx
      exact ⟨b, t, rfl, by rw [← e, e1], e2⟩
    | succ i => exact ih hx
theorem TupsAt.app {H : Hp} {xs ys : List V} {ks ls : List (List Int)} (h : TupsAt H xs ks) (h' : TupsAt H ys ls) : TupsAt H (xs ++ ys) (ks ++ ls) := by
  induction h with
  | nil => exact h'
  | cons hab r ih => exact .cons hab ih
theorem TupsAt.erase {H : Hp} {xs : List V} {ks : List (List Int)} (h : TupsAt H xs ks) (j : Nat) : TupsAt H (xs.eraseIdx j) (ks.eraseIdx j) := by
  induction h generalizing j with
  | nil => exact .nil
  | cons hab r ih =>
    cases j with
    | zero => exact r
    | succ j => exact .cons hab (ih j)
theorem TupsAt.len {H : Hp} {xs : List V} {ks : List (List Int)} (h : TupsAt H xs ks) : xs.length = ks.length := Paired.length h
theorem perm_erase {α : Type} {l : List α} {j : Nat} {x : α} (h : l[j]? = some x) : (x :: l.eraseIdx j).Perm l := by
  induction l generalizing j with
  | nil => simp at h
  | cons a r ih =>
    cases j with
    | zero =>
      have e : a = x := Option.some.inj h
      rw [e]
      exact List.Perm.refl _
    | succ j =>
      have := ih (j := j) h
      show (x :: a :: r.eraseIdx j).Perm (a :: r)
      exact (List.Perm.swap _ _ _).trans (this.cons a)
/-- a sort: three ints from 0 to 2 -/
def Sort3 (k : List Int) : Prop := k.length = 3 ∧ TS.Bd 3 k
theorem code_inj {B : Int} (hB : 0 < B) : ∀ {a b : List Int}, a.length = b.length → TS.Bd B a → TS.Bd B b → TS.code B a = TS.code B b → a = b
  | [], [], _, _, _, _ => rfl
  | [], _ :: _, h, _, _, _ => by cases h
  | _ :: _, [], h, _, _, _ => by cases h
  | x :: xs, y :: ys, h, ha, hb, e => by
    have hl : xs.length = ys.length := Nat.succ.inj h
    have bound : ∀ {l : List Int}, TS.Bd B l → 0 ≤ TS.code B l ∧ TS.code B l < B ^ l.length := by
      intro l
      induction l with
      | nil => intro _; exact ⟨Int.le_refl 0, by simp [TS.code]⟩
      | cons z zs ih =>
        intro hz
        obtain ⟨i1, i2⟩ := ih hz.tail
        obtain ⟨z0, z1⟩ := hz.head
        have := TS.num1 (P := B ^ zs.length) (B := B) i1 i2 z0 z1
        refine ⟨this.1, ?_⟩
        show z * B ^ zs.length + TS.code B zs < B ^ (zs.length + 1)
        rw [Int.pow_succ]
        exact this.2
    have e2 : x * B ^ xs.length + TS.code B xs = y * B ^ ys.length + TS.code B ys := e
    rw [hl] at e2
    obtain ⟨p1, p2⟩ := bound ha.tail
    obtain ⟨q1, q2⟩ := bound hb.tail
    rw [hl] at p2
    have pp : 0 < B ^ ys.length := Int.pow_pos hB
    generalize B ^ ys.length = M at e2 p2 q2 pp
    have exy : x = y := by
      rcases Int.lt_trichotomy x y with h | h | h
      · exfalso
        have : (x + 1) * M ≤ y * M := Int.mul_le_mul_of_nonneg_right (by omega) (by omega)
        rw [Int.add_mul] at this
        omega
      · exact h
      · exfalso
        have : (y + 1) * M ≤ x * M := Int.mul_le_mul_of_nonneg_right (by omega) (by omega)
        rw [Int.add_mul] at this
        omega
    subst exy
    rw [code_inj hB hl ha.tail hb.tail (by omega)]
end Sm

/-! Sl: comprehensions of ints over the keys of a dict with int-tuple keys. -/
namespace Sl
open PySem L2 Sm
theorem inl_key {k : List Key} {ps : DI} {i : Nat} {v : V} (h : (enc ps)[i]? = some (k, v)) : ∃ ns z, ps[i]? = some (ns, z) ∧ k = ek ns ∧ v = .int z := by
  unfold enc at h
  rw [List.getElem?_map] at h
  obtain ⟨p, hp, e⟩ := Option.map_eq_some_iff.mp h
  exact ⟨p.1, p.2, hp, (Prod.mk.inj e).1.symm, (Prod.mk.inj e).2.symm⟩
theorem upd_back {H : Hp} {c : Addr} {o : HO} (h : H c = some o) : upd H c o = H := by
  funext b
  by_cases e : b = c
  · rw [e, upd_same, h]
  · rw [upd_ne e]
/-- [F for k in d] -/
theorem lock_ints {σ : L2.St} {H : Hp} {c : Addr} {r : DI} {i j : Nat} {te : TE} {F : List Int → Int → Int} {Q : VK} (hv : σ[i]? = some (some (.ref c))) (hc : H c = some (.dT (enc r))) (hsz : r.length < 1000)
    (step : ∀ (od : Obj) (H' : Hp) (k : List Int) (z : Int) (t : Addr), (∀ b o, H b = some o → b ≠ c → H' b = some o) → H' c = some (.frz od (.dT (enc r))) → (k, z) ∈ r → H' t = some (.tup (k.map V.int)) →
      ∀ R : VK, R (.int (F k z)) H' → te ((wipe σ [j]).set j (some (.ref t))) H' R)
    (done : ∀ (D : Addr) (H' : Hp), H D = none → Same H H' → H' D = some (.lst ((r.map fun y => F y.1 y.2).map V.int)) → Q (.ref D) H') : tLockE (tLc (iKeys (tVar i)) (gName j) tYes te [j]) σ H Q := by
  refine ⟨c, _, hc, trivial, fun od => ?_⟩
  refine Eg.w_lc (Eg.w_iK (Eg.w_var hv (Eg.c_iKT upd_same ?_)))
  intro D hD
  have hDc : D ≠ c := fun e => by rw [e, upd_same] at hD; cases hD
  have hD0 : H D = none := by rw [upd_ne hDc] at hD; exact hD
  refine lc_it walk_keysT (fun n H' => H' c = some (.frz od (.dT (enc r))) ∧ H' D = some (.lst (((r.take n).map fun y => F y.1 y.2).map V.int)) ∧ ∀ b o, H b = some o → b ≠ c → H' b = some o) ?_ (fun n H' _ h => h.1) ?_ ?_
  · exact ⟨Eg.upd_old upd_same hD, upd_same, fun b o e hn => Eg.upd_old (Eg.upd_mut hn e) hD⟩
  · rintro n y _ _ hn ⟨h1, h2, h3⟩ ⟨rfl, k, v, t, hk, rfl, ht⟩
    obtain ⟨kk, z, hkz, rfl, rfl⟩ := inl_key hk
    rw [ek_kV] at ht
    obtain ⟨hlt, he⟩ := List.getElem?_eq_some_iff.mp hkz
    refine Eg.w_gN (Eg.w_wipe ?_ (Eg.w_yes (iteT (step od _ kk z t h3 h1 (List.mem_of_getElem? hkz) ht _ ?_))))
    · show ((wipe σ []).set j none |>.set j (some (.ref t))).set j none = _
      show (((σ.set j none).set j (some (.ref t))).set j none) = σ.set j none
      rw [List.set_set, List.set_set]
    · refine ⟨_, h2, ?_, Eg.upd_mut hDc.symm h1, ?_, fun b o e hne => Eg.upd_mut (ne_of_none e hD0) (h3 b o e hne)⟩
      · rw [List.length_map, List.length_map, List.length_take, sizeLine_eq]
        omega
      · rw [upd_same, List.take_succ_eq_append_getElem hlt, he]
        simp
  · rintro H1 ⟨h1, h2, h3⟩
    refine ⟨h1, done D _ hD0 (fun b o e => ?_) (Eg.upd_mut hDc ?_)⟩
    · by_cases hb : b = c
      · rw [hb, upd_same]
        rw [hb, hc] at e
        exact e
      · exact Eg.upd_mut hb (h3 b o e hb)
    · rw [h2]
      unfold enc
      rw [List.length_map, List.take_length]
end Sl

/-! DTx5: lists of tuples of ints: sorted, == and !=. -/
namespace DTx
open PySem PySem.Spec PyProof.Rows L2
/-- sorted(xs) of a list of tuples of ints -/
def rSortT (K : PySem.W.Frag) : List V → Hp → VK → Prop := fun vs H Q => ∃ (a : Addr) (L0 : List (Addr × List Int)) (m : Nat) (B : Int), vs = [V.ref a] ∧ SqL K H a (L0.map fun q => V.ref q.1) ∧ (∀ q ∈ L0, H q.1 = some (.tup (q.2.map V.int))) ∧ L0.length < 64 ∧ 1 ≤ m ∧ (∀ q ∈ L0, q.2.length = m ∧ TS.Bd B q.2) ∧
  ∀ (L : List (Addr × List Int)) (p : Addr), L.Perm L0 → L.Pairwise (fun q r => TS.code B q.2 ≤ TS.code B r.2) → H p = none → Q (.ref p) (upd H p (.lst (L.map fun q => V.ref q.1)))
theorem vals_refs : ∀ {L0 : List (Addr × List Int)} {us : List Value}, Vals (L0.map fun q => V.ref q.1) us → us = L0.map fun q => Value.ref q.1
  | [], _, .nil => rfl
  | q :: r, _, .cons a b => by
    cases a
    rw [vals_refs b]
    rfl
theorem cr_sortedT {X : Cx} : CallR X (.builtin "sorted") (rSortT X.K) := by
  intro pins s σ H vs us Q I r h
  obtain ⟨a, L0, m, B, rfl, hs, t0, h64, hm, hB, q⟩ := h
  obtain ⟨its, rv, hl, _⟩ := I.list hs
  rw [Vals.ref1 r]
  have ei := vals_refs rv
  subst ei
  have tk : ∀ y ∈ L0, TS.TupInts s.heap (.ref y.1) y.2 := fun y hy => isTup_ints I (t0 y hy)
  refine TS.sorted_tups (B := B) hl.isList (by rw [List.length_map]; exact h64) hm (fun v hv => ?_) fun out h1 h2 => ?_
  · obtain ⟨y, hy, rfl⟩ := List.mem_map.mp hv
    exact ⟨y.2, tk y hy, hB y hy⟩
  · obtain ⟨L, eL, pL, wL⟩ := sort_refs tk h1 h2
    obtain ⟨ep, he'⟩ := PyProof.Rows.sortedAll_at s.heap (L0.map fun q => Value.ref q.1) out
    have rv2 : Vals (L.map fun q => V.ref q.1) out.toList := by
      rw [eL]
      clear eL pL wL
      induction L with
      | nil => exact .nil
      | cons y r ih => exact .cons rfl ih
    have hlen : (L.map fun q => V.ref q.1).length ≤ sizeLine := by rw [List.length_map, pL.length_eq, sizeLine_eq]; omega
    exact ⟨.ref _, upd H (s.heap.objs.size + 1) (.lst (L.map fun q => V.ref q.1)), I.laid (t' := s.toks) (fun _ _ => PyProof.Rows.sortedAll_old) (Nat.le_succ _) ⟨hlen, out.toList, ep, rv2, he'⟩, rfl, q L _ pL wL (I.hok.fresh (Nat.le_succ _))⟩
/-! equality of data -/
def tI (k : List Int) : PyData := .tuple (k.map .int)
def lT (ks : List (List Int)) : PyData := .list (ks.map tI)
def lI (ns : List Int) : PyData := .list (ns.map .int)
theorem ints_lay : ∀ ns : List Int, PyData.canLayAll0 (ns.map .int) = true
  | [] => rfl
  | n :: r => by
    rw [List.map_cons, PyData.canLayAll0, ints_lay r]
    simp [PyData.canLay0]
theorem ints_depth : ∀ ns : List Int, PyData.depthAll (ns.map .int) ≤ 1
  | [] => by simp [PyData.depthAll]
  | n :: r => by
    have := ints_depth r
    simp only [List.map_cons, PyData.depthAll, PyData.depth]
    omega
theorem tups_lay : ∀ ks : List (List Int), PyData.canLayAll0 (ks.map tI) = true
  | [] => rfl
  | k :: r => by
    rw [List.map_cons, PyData.canLayAll0, tups_lay r]
    simp [tI, PyData.canLay0, ints_lay]
theorem tups_depth : ∀ ks : List (List Int), PyData.depthAll (ks.map tI) ≤ 3
  | [] => by simp [PyData.depthAll]
  | k :: r => by
    have := tups_depth r
    have := ints_depth k
    simp only [List.map_cons, PyData.depthAll, PyData.depth, tI]
    omega
theorem shaped_lT (ks : List (List Int)) : SeqAt.shaped (lT ks) = true := by
  unfold SeqAt.shaped lT
  rw [PyData.canLay0, tups_lay, Bool.true_and, decide_eq_true_eq]
  have := tups_depth ks
  simp only [PyData.depth]
  omega
theorem shaped_lI (ns : List Int) : SeqAt.shaped (lI ns) = true := by
  unfold SeqAt.shaped lI
  rw [PyData.canLay0, ints_lay, Bool.true_and, decide_eq_true_eq]
  have := ints_depth ns
  simp only [PyData.depth]
  omega
theorem shaped_tI (ns : List Int) : SeqAt.shaped (tI ns) = true := by
  unfold SeqAt.shaped tI
  rw [PyData.canLay0, ints_lay, Bool.true_and, decide_eq_true_eq]
  have := ints_depth ns
  simp only [PyData.depth]
  omega
theorem eqv_ints : ∀ ns ms : List Int, PyData.eqvAll (ns.map .int) (ms.map .int) = decide (ns = ms)
  | [], [] => by simp [PyData.eqvAll]
  | [], _ :: _ => by simp [PyData.eqvAll]
  | _ :: _, [] => by simp [PyData.eqvAll]
  | n :: r, m :: t => by
    rw [List.map_cons, List.map_cons, PyData.eqvAll, eqv_ints r t, PyData.eqv]
    by_cases e : n = m <;> by_cases f : r = t <;> simp [e, f]
theorem eqv_lI (ns ms : List Int) : PyData.eqv (lI ns) (lI ms) = decide (ns = ms) := by
  unfold lI
  rw [PyData.eqv, eqv_ints]
theorem eqv_tI (ns ms : List Int) : PyData.eqv (tI ns) (tI ms) = decide (ns = ms) := by
  unfold tI
  rw [PyData.eqv, eqv_ints]
theorem eqv_tups : ∀ ks ls : List (List Int), PyData.eqvAll (ks.map tI) (ls.map tI) = decide (ks = ls)
  | [], [] => by simp [PyData.eqvAll]
  | [], _ :: _ => by simp [PyData.eqvAll]
  | _ :: _, [] => by simp [PyData.eqvAll]
  | n :: r, m :: t => by
    rw [List.map_cons, List.map_cons, PyData.eqvAll, eqv_tups r t, eqv_tI]
    by_cases e : n = m <;> by_cases f : r = t <;> simp [e, f]
theorem eqv_lT (ks ls : List (List Int)) : PyData.eqv (lT ks) (lT ls) = decide (ks = ls) := by
  unfold lT
  rw [PyData.eqv, eqv_tups]
section
variable {K : PySem.W.Frag} {H : Hp} {a b : Addr} {xs ys : List V} {ks ls : List (List Int)} {ns ms : List Int} {Q : VK}
theorem dpInts : ∀ ns : List Int, DpAll K H (ns.map V.int) (ns.map .int)
  | [] => .nil
  | n :: r => .cons (.int n) (dpInts r)
theorem dpTups (h : Sm.TupsAt H xs ks) : DpAll K H xs (ks.map tI) := by
  induction h with
  | nil => exact .nil
  | cons hab r ih =>
    obtain ⟨t, rfl, ht⟩ := hab
    exact .cons (.tup (SqT.of ht) (dpInts _)) ih
theorem c_neTL (h1 : SqL K H a xs) (t1 : Sm.TupsAt H xs ks) (h2 : SqL K H b ys) (t2 : Sm.TupsAt H ys ls) (q : Q (.bl (!decide (ks = ls))) H) : rNeD K (.ref a) (.ref b) H Q :=
  ⟨lT ks, lT ls, .lst h1 (dpTups t1), .lst h2 (dpTups t2), shaped_lT _, shaped_lT _, by rw [eqv_lT]; exact q⟩
theorem c_eqTL (h1 : SqL K H a xs) (t1 : Sm.TupsAt H xs ks) (h2 : SqL K H b ys) (t2 : Sm.TupsAt H ys ls) (q : Q (.bl (decide (ks = ls))) H) : rEqD K (.ref a) (.ref b) H Q :=
  ⟨lT ks, lT ls, .lst h1 (dpTups t1), .lst h2 (dpTups t2), shaped_lT _, shaped_lT _, by rw [eqv_lT]; exact q⟩
theorem c_neIL (h1 : SqL K H a (ns.map V.int)) (h2 : SqL K H b (ms.map V.int)) (q : Q (.bl (!decide (ns = ms))) H) : rNeD K (.ref a) (.ref b) H Q :=
  ⟨lI ns, lI ms, .lst h1 (dpInts _), .lst h2 (dpInts _), shaped_lI _, shaped_lI _, by rw [eqv_lI]; exact q⟩
theorem c_eqIL (h1 : SqL K H a (ns.map V.int)) (h2 : SqL K H b (ms.map V.int)) (q : Q (.bl (decide (ns = ms))) H) : rEqD K (.ref a) (.ref b) H Q :=
  ⟨lI ns, lI ms, .lst h1 (dpInts _), .lst h2 (dpInts _), shaped_lI _, shaped_lI _, by rw [eqv_lI]; exact q⟩
end
end DTx

/-! Gt: what a dict of steps gives for each sort. -/
namespace Sm
open PySem L2
def gt (qs : DI) (k : List Int) : Int := (getI qs k).getD 0
theorem getI_cons (p : List Int × Int) (r : DI) (k : List Int) : getI (p :: r) k = if p.1 = k then some p.2 else getI r k := by
  unfold getI
  rw [List.find?_cons]
  by_cases e : p.1 = k
  · rw [if_pos e, decide_eq_true e]
    rfl
  · rw [if_neg e, decide_eq_false e]
theorem getI_append (a b : DI) (k : List Int) : getI (a ++ b) k = (getI a k).or (getI b k) := by
  induction a with
  | nil => rfl
  | cons p r ih =>
    rw [List.cons_append, getI_cons, getI_cons]
    split
    · rfl
    · exact ih
theorem getI_iff {ps : DI} {k : List Int} : (getI ps k).isSome = true ↔ k ∈ ps.map (·.1) := by
  constructor
  · intro h
    obtain ⟨v, hv⟩ := Option.isSome_iff_exists.mp h
    exact List.mem_map.mpr ⟨_, mem_getI hv, rfl⟩
  · intro h
    induction ps with
    | nil => cases h
    | cons p r ih =>
      rw [getI_cons]
      split
      · rfl
      · next e =>
        rcases List.mem_cons.mp h with h | h
        · exact absurd h.symm e
        · exact ih h
theorem getI_none_iff {ps : DI} {k : List Int} : getI ps k = none ↔ k ∉ ps.map (·.1) := by
  rw [← getI_iff]
  cases getI ps k <;> simp
theorem getI_map (F : List Int → Int) (ks : List (List Int)) (k : List Int) : getI (ks.map fun k => (k, F k)) k = if k ∈ ks then some (F k) else none := by
  induction ks with
  | nil => rfl
  | cons a r ih =>
    rw [List.map_cons, getI_cons, ih]
    by_cases e : a = k
    · subst e
      simp
    · have : k ≠ a := fun z => e z.symm
      simp [e, this]
theorem getI_putI {ps : DI} {k k' : List Int} {v : Int} : getI (putI ps k v) k' = if k' = k then some v else getI ps k' := by
  unfold putI
  split
  · next h =>
    obtain ⟨p, hp, e⟩ := List.any_eq_true.mp h
    have e' : p.1 = k := of_decide_eq_true e
    clear h
    have mem : k ∈ ps.map (·.1) := List.mem_map.mpr ⟨p, hp, e'⟩
    clear hp e e' p
    induction ps with
    | nil => cases mem
    | cons q r ih =>
      rw [List.map_cons, getI_cons, getI_cons]
      by_cases e : q.1 = k
      · rw [if_pos e]
        by_cases e2 : k' = k
        · subst e2
          simp [e]
        · have n1 : ¬ q.1 = k' := fun z => e2 (z.symm.trans e)
          simp only [n1, e2, if_false]
          by_cases m : k ∈ r.map (·.1)
          · rw [ih m, if_neg e2]
          · rw [show (r.map fun p => if p.1 = k then (p.1, v) else p) = r from ?_]
            refine (List.map_congr_left fun x hx => ?_).trans (List.map_id r)
            rw [if_neg fun z => m (List.mem_map.mpr ⟨x, hx, z⟩)]
            rfl
      · rw [if_neg e]
        have m : k ∈ r.map (·.1) := by
          rcases List.mem_cons.mp mem with h | h
          · exact absurd h.symm e
          · exact h
        by_cases e3 : q.1 = k'
        · have : ¬ k' = k := fun z => e (e3.trans z)
          rw [if_pos e3, if_neg this, if_pos e3]
        · rw [if_neg e3, ih m, if_neg e3]
  · next h =>
    have mem : k ∉ ps.map (·.1) := fun m => h (by
      obtain ⟨p, hp, e⟩ := List.mem_map.mp m
      exact List.any_eq_true.mpr ⟨p, hp, decide_eq_true e⟩)
    rw [getI_append, getI_cons]
    by_cases e2 : k' = k
    · subst e2
      rw [getI_none mem]
      simp
    · have : ¬ k = k' := fun z => e2 z.symm
      rw [if_neg e2]
      simp only [this, if_false]
      show (getI ps k').or none = _
      cases getI ps k' <;> rfl
theorem keys_putI {ps : DI} {k : List Int} {v : Int} : (putI ps k v).map (·.1) = if k ∈ ps.map (·.1) then ps.map (·.1) else ps.map (·.1) ++ [k] := by
  have e : (ps.any fun p => decide (p.1 = k)) = true ↔ k ∈ ps.map (·.1) := by
    rw [List.any_eq_true, List.mem_map]
    exact ⟨fun ⟨p, h, e⟩ => ⟨p, h, of_decide_eq_true e⟩, fun ⟨p, h, e⟩ => ⟨p, h, decide_eq_true e⟩⟩
  unfold putI
  by_cases h : k ∈ ps.map (·.1)
  · rw [if_pos (e.mpr h), if_pos h, List.map_map]
    refine List.map_congr_left fun p _ => ?_
    show (if p.1 = k then (p.1, v) else p).1 = p.1
    split <;> rfl
  · rw [if_neg (fun z => h (e.mp z)), if_neg h, List.map_append]
    rfl
theorem nd_putI {ps : DI} {k : List Int} {v : Int} (h : (ps.map (·.1)).Nodup) : ((putI ps k v).map (·.1)).Nodup := by
  rw [keys_putI]
  split
  · exact h
  · next n =>
    rw [List.nodup_append]
    exact ⟨h, by simp, fun a ha b hb e => n (by rw [List.mem_singleton.mp hb] at e; exact e ▸ ha)⟩
theorem gt_mem {ps : DI} (nd : (ps.map (·.1)).Nodup) {p : List Int × Int} (hp : p ∈ ps) : gt ps p.1 = p.2 := by
  unfold gt
  rw [getI_mem nd hp]
  rfl
theorem gt_none {ps : DI} {k : List Int} (h : k ∉ ps.map (·.1)) : gt ps k = 0 := by
  unfold gt
  rw [getI_none h]
  rfl
theorem getI_nz {ps : DI} (nd : (ps.map (·.1)).Nodup) (k : List Int) : getI (nz ps) k = if gt ps k = 0 then none else some (gt ps k) := by
  induction ps with
  | nil => rfl
  | cons p r ih =>
    have nd' : (p.1 :: r.map (·.1)).Nodup := nd
    obtain ⟨h1, h2⟩ := List.nodup_cons.mp nd'
    have ih := ih h2
    have gc : gt (p :: r) k = if p.1 = k then p.2 else gt r k := by
      unfold gt
      rw [getI_cons]
      split <;> rfl
    rw [gc]
    unfold nz at ih ⊢
    rw [List.filter_cons]
    by_cases z : p.2 = 0
    · rw [if_neg (by simp [z]), ih]
      by_cases e : p.1 = k
      · subst e
        rw [gt_none h1, if_pos rfl, if_pos rfl, z, if_pos rfl]
      · rw [if_neg e]
    · rw [if_pos (by simp [z]), getI_cons, ih]
      by_cases e : p.1 = k
      · rw [if_pos e, if_pos e, if_neg z]
      · rw [if_neg e, if_neg e]
theorem gt_nz {ps : DI} (nd : (ps.map (·.1)).Nodup) (k : List Int) : gt (nz ps) k = gt ps k := by
  show (getI (nz ps) k).getD 0 = _
  rw [getI_nz nd]
  split
  · next h => exact h.symm
  · rfl
theorem nodup_len {α : Type} [BEq α] [LawfulBEq α] : ∀ (l D : List α), l.Nodup → (∀ x ∈ l, x ∈ D) → l.length ≤ D.length
  | [], _, _, _ => Nat.zero_le _
  | x :: l, D, hn, hs => by
    obtain ⟨h1, h2⟩ := List.nodup_cons.mp hn
    have hx : x ∈ D := hs x List.mem_cons_self
    have ih := nodup_len l (D.erase x) h2 fun y hy => by
      have hne : y ≠ x := fun e => h1 (e ▸ hy)
      exact (List.mem_erase_of_ne hne).2 (hs y (List.mem_cons_of_mem _ hy))
    have e := List.length_erase_of_mem hx
    have hp : 0 < D.length := List.length_pos_of_mem hx
    rw [List.length_cons]
    omega
def all27 : List (List Int) := (List.range 27).map fun (i : Nat) => [(i : Int) / 9, (i : Int) / 3 % 3, (i : Int) % 3]
theorem mem27 {k : List Int} (h : Sort3 k) : k ∈ all27 := by
  obtain ⟨hl, hb⟩ := h
  match k, hl with
  | [a, b, c], _ =>
    have ha := hb a (by simp)
    have hb' := hb b (by simp)
    have hc := hb c (by simp)
    refine List.mem_map.mpr ⟨(a * 9 + b * 3 + c).toNat, List.mem_range.mpr (by omega), ?_⟩
    have e : (((a * 9 + b * 3 + c).toNat : Nat) : Int) = a * 9 + b * 3 + c := by omega
    rw [e]
    have e1 : (a * 9 + b * 3 + c) / 9 = a := by omega
    have e2 : (a * 9 + b * 3 + c) / 3 % 3 = b := by omega
    have e3 : (a * 9 + b * 3 + c) % 3 = c := by omega
    rw [e1, e2, e3]
/-- steps as dicts have them: each sort once -/
structure Keys3 (ps : DI) : Prop where
  nd : (ps.map (·.1)).Nodup
  s3 : ∀ p ∈ ps, Sort3 p.1
theorem Keys3.sz {ps : DI} (h : Keys3 ps) : ps.length ≤ 27 := by
  have := nodup_len (ps.map (·.1)) all27 h.nd fun k hk => by
    obtain ⟨p, hp, rfl⟩ := List.mem_map.mp hk
    exact mem27 (h.s3 p hp)
  rw [List.length_map] at this
  exact this
theorem Keys3.nil : Keys3 [] := ⟨List.nodup_nil, fun _ h => nomatch h⟩
theorem Keys3.nz {ps : DI} (h : Keys3 ps) : Keys3 (nz ps) := ⟨nd_nz h.nd, fun p hp => h.s3 p (nz_sub hp)⟩
theorem Keys3.put {ps : DI} (h : Keys3 ps) {k : List Int} (hk : Sort3 k) (v : Int) : Keys3 (putI ps k v) := ⟨nd_putI h.nd, fun p hp => by
  have : p.1 ∈ (putI ps k v).map (·.1) := List.mem_map.mpr ⟨p, hp, rfl⟩
  rw [keys_putI] at this
  have h2 : p.1 ∈ ps.map (·.1) ∨ p.1 = k := by
    split at this
    · exact .inl this
    · rcases List.mem_append.mp this with h | h
      · exact .inl h
      · exact .inr (List.mem_singleton.mp h)
  rcases h2 with h2 | h2
  · obtain ⟨q, hq, e⟩ := List.mem_map.mp h2
    rw [← e]
    exact h.s3 q hq
  · rw [h2]
    exact hk⟩
/-- the steps of a form -/
structure Good (qs : DI) : Prop extends Keys3 qs where
  nz : ∀ p ∈ qs, p.2 ≠ 0
theorem Keys3.good {ps : DI} (h : Keys3 ps) : Good (Sm.nz ps) := ⟨h.nz, fun p hp => by
  have := (List.mem_filter.mp hp).2
  exact of_decide_eq_true this⟩
theorem Good.mem {qs : DI} (h : Good qs) (k : List Int) : k ∈ qs.map (·.1) ↔ gt qs k ≠ 0 := by
  constructor
  · intro hk
    obtain ⟨p, hp, rfl⟩ := List.mem_map.mp hk
    rw [gt_mem h.nd hp]
    exact h.nz p hp
  · intro hk
    rcases Classical.em (k ∈ qs.map (·.1)) with c | c
    · exact c
    · exact absurd (gt_none c) hk
theorem perm_of {α : Type} [BEq α] [LawfulBEq α] : ∀ {l m : List α}, l.Nodup → m.Nodup → (∀ x, x ∈ l ↔ x ∈ m) → l.Perm m
  | [], m, _, _, h => by
    cases m with
    | nil => exact List.Perm.refl _
    | cons y r => exact absurd ((h y).mpr List.mem_cons_self) (fun z => nomatch z)
  | x :: l, m, h1, h2, h => by
    obtain ⟨a1, a2⟩ := List.nodup_cons.mp h1
    have hx : x ∈ m := (h x).mp List.mem_cons_self
    have ih := perm_of (l := l) (m := m.erase x) a2 (h2.erase x) fun y => by
      rw [h2.mem_erase_iff, ← h y, List.mem_cons]
      constructor
      · intro hy
        exact ⟨fun e => a1 (e ▸ hy), .inr hy⟩
      · rintro ⟨n, e | e⟩
        · exact absurd e n
        · exact e
    exact (ih.cons x).trans (List.perm_cons_erase hx).symm
theorem good_perm {qs rs : DI} (h : Good qs) (h' : Good rs) (e : ∀ k, gt qs k = gt rs k) : (qs.map (·.1)).Perm (rs.map (·.1)) :=
  perm_of h.nd h'.nd fun k => by rw [h.mem, h'.mem, e k]
theorem good_same {qs rs : DI} (h : Good qs) (h' : Good rs) (e : ∀ k, gt qs k = gt rs k) : DTx.sameD (enc qs) (enc rs) = true := by
  have pm := (good_perm h h' e).length_eq
  rw [List.length_map, List.length_map] at pm
  unfold DTx.sameD
  rw [Bool.and_eq_true]
  refine ⟨?_, ?_⟩
  · unfold enc
    rw [List.length_map, List.length_map, pm]
    exact beq_self_eq_true _
  · rw [List.all_eq_true]
    intro x hx
    obtain ⟨p, hp, rfl⟩ := List.mem_map.mp hx
    show decide (valV (enc rs) (ek p.1) = some (V.int p.2)) = true
    have g1 := gt_mem h.nd hp
    have g2 := h.nz p hp
    rw [val_enc]
    rw [e] at g1
    unfold gt at g1
    cases hg : getI rs p.1 with
    | none =>
      rw [hg] at g1
      exact absurd g1.symm g2
    | some v =>
      rw [hg] at g1
      have : v = p.2 := g1
      simp [this]
theorem sorted_one : ∀ {l m : List (List Int)}, l.Perm m → (∀ k ∈ l, Sort3 k) → l.Pairwise (fun a b => TS.code 3 a ≤ TS.code 3 b) → m.Pairwise (fun a b => TS.code 3 a ≤ TS.code 3 b) → l = m
  | [], m, h, _, _, _ => by rw [List.nil_perm.mp h]
  | x :: l, [], h, _, _, _ => absurd h.length_eq (by simp)
  | x :: l, y :: m, h, s, p1, p2 => by
    obtain ⟨a1, a2⟩ := List.pairwise_cons.mp p1
    obtain ⟨b1, b2⟩ := List.pairwise_cons.mp p2
    have hx : x ∈ y :: m := h.mem_iff.mp List.mem_cons_self
    have hy : y ∈ x :: l := h.mem_iff.mpr List.mem_cons_self
    have c1 : TS.code 3 x ≤ TS.code 3 y := by
      rcases List.mem_cons.mp hy with e | e
      · rw [e]; exact Int.le_refl _
      · exact a1 y e
    have c2 : TS.code 3 y ≤ TS.code 3 x := by
      rcases List.mem_cons.mp hx with e | e
      · rw [e]; exact Int.le_refl _
      · exact b1 x e
    have sx := s x List.mem_cons_self
    have sy := s y hy
    have e : x = y := code_inj (B := 3) (by decide) (sx.1.trans sy.1.symm) sx.2 sy.2 (Int.le_antisymm c1 c2)
    subst e
    rw [sorted_one ((List.perm_cons x).mp h) (fun k hk => s k (List.mem_cons_of_mem _ hk)) a2 b2]
/-- the sum of a form at counts -/
def atC (qs cs : DI) : Int := (cs.map fun y => gt qs y.1 * y.2).sum
theorem atC_lin {qs q1 q2 : DI} {f g : Int} (h : ∀ k, gt qs k = f * gt q1 k + g * gt q2 k) (cs : DI) : atC qs cs = f * atC q1 cs + g * atC q2 cs := by
  induction cs with
  | nil => simp [atC]
  | cons y r ih =>
    unfold atC at ih ⊢
    rw [List.map_cons, List.map_cons, List.map_cons, List.sum_cons, List.sum_cons, List.sum_cons, ih, h, Int.add_mul, Int.mul_add, Int.mul_add, Int.mul_assoc, Int.mul_assoc]
    omega
end Sm

/-! Bf: breadth first over sums: what is reached by n steps, with and without a limit. -/
namespace Bf
/-- x is reached from a by n steps out of S -/
inductive Rch (S : List Int) (a : Int) : Nat → Int → Prop
  | zero : Rch S a 0 a
  | succ {n : Nat} {x s : Int} : Rch S a n x → s ∈ S → Rch S a (n + 1) (x + s)
/-- the same, no number behind a beyond the limit -/
inductive RchB (S : List Int) (L : Int) (a : Int) : Nat → Int → Prop
  | zero : RchB S L a 0 a
  | succ {n : Nat} {x s : Int} : RchB S L a n x → s ∈ S → -L ≤ x + s → x + s ≤ L → RchB S L a (n + 1) (x + s)
/-- x is reached by i steps and by no fewer -/
def Dst (S : List Int) (L a : Int) (i : Nat) (x : Int) : Prop := RchB S L a i x ∧ ∀ j, j < i → ¬ RchB S L a j x
section
variable {S S' : List Int} {L L' a : Int} {i j n : Nat} {x y : Int}
theorem RchB.un (h : RchB S L a n x) : Rch S a n x := by
  induction h with
  | zero => exact .zero
  | succ _ hs _ _ ih => exact .succ ih hs
theorem RchB.lim (h : RchB S L a n x) (ha : -L ≤ a ∧ a ≤ L) : -L ≤ x ∧ x ≤ L := by
  cases h with
  | zero => exact ha
  | succ _ _ h1 h2 => exact ⟨h1, h2⟩
theorem Rch.sub (h : Rch S a n x) (hs : ∀ s ∈ S, s ∈ S') : Rch S' a n x := by
  induction h with
  | zero => exact .zero
  | succ _ h ih => exact .succ ih (hs _ h)
theorem RchB.sub (h : RchB S L a n x) (hs : ∀ s ∈ S, s ∈ S') : RchB S' L a n x := by
  induction h with
  | zero => exact .zero
  | succ _ h h1 h2 ih => exact .succ ih (hs _ h) h1 h2
/-- steps of 0 may be left out -/
theorem Rch.drop (h : Rch S a n x) (hs : ∀ s ∈ S, s ≠ 0 → s ∈ S') : ∃ m, m ≤ n ∧ Rch S' a m x := by
  induction h with
  | zero => exact ⟨0, Nat.le_refl _, .zero⟩
  | @succ n x s _ h ih =>
    obtain ⟨m, hm, r⟩ := ih
    by_cases e : s = 0
    · exact ⟨m, by omega, by rw [e, Int.add_zero]; exact r⟩
    · exact ⟨m + 1, by omega, .succ r (hs s h e)⟩
theorem Rch.list (h : Rch S a n x) : ∃ l : List Int, l.length = n ∧ (∀ s ∈ l, s ∈ S) ∧ a + l.sum = x := by
  induction h with
  | zero => exact ⟨[], rfl, (fun _ h => nomatch h), by simp⟩
  | @succ n x s _ hs ih =>
    obtain ⟨l, h1, h2, h3⟩ := ih
    refine ⟨s :: l, by simp [h1], fun t ht => ?_, by rw [List.sum_cons]; omega⟩
    rcases List.mem_cons.mp ht with e | ht
    · rw [e]; exact hs
    · exact h2 t ht
theorem Rch.front {s : Int} (h : Rch S (a + s) n x) (hs : s ∈ S) : Rch S a (n + 1) x := by
  induction h with
  | zero => exact .succ .zero hs
  | succ _ h ih => exact .succ ih h
theorem RchB.front {s : Int} (h : RchB S L (a + s) n x) (hs : s ∈ S) (h1 : -L ≤ a + s) (h2 : a + s ≤ L) : RchB S L a (n + 1) x := by
  induction h with
  | zero => exact .succ .zero hs h1 h2
  | succ _ h h3 h4 ih => exact .succ ih h h3 h4
theorem rch_of_list : ∀ (l : List Int) (a : Int), (∀ s ∈ l, s ∈ S) → Rch S a l.length (a + l.sum)
  | [], a, _ => by
    rw [List.sum_nil, Int.add_zero]
    exact .zero
  | s :: l, a, h => by
    have := rch_of_list l (a + s) fun t ht => h t (List.mem_cons_of_mem _ ht)
    rw [List.sum_cons, ← Int.add_assoc]
    exact this.front (h s List.mem_cons_self)
theorem sum_erase {s : Int} : ∀ {l : List Int}, s ∈ l → (l.erase s).sum + s = l.sum
  | x :: l, h => by
    by_cases e : x = s
    · subst e
      rw [List.erase_cons_head, List.sum_cons]
      omega
    · rcases List.mem_cons.mp h with h | h
      · exact absurd h.symm e
      · rw [List.erase_cons_tail (by simpa using e), List.sum_cons, List.sum_cons]
        have := sum_erase h
        omega
theorem neg_of_sum : ∀ {l : List Int}, l.sum < 0 → ∃ s ∈ l, s < 0
  | [], h => by simp at h
  | x :: l, h => by
    by_cases e : x < 0
    · exact ⟨x, List.mem_cons_self, e⟩
    · rw [List.sum_cons] at h
      obtain ⟨s, hs, h0⟩ := neg_of_sum (l := l) (by omega)
      exact ⟨s, List.mem_cons_of_mem _ hs, h0⟩
theorem pos_of_sum : ∀ {l : List Int}, 0 < l.sum → ∃ s ∈ l, 0 < s
  | [], h => by simp at h
  | x :: l, h => by
    by_cases e : 0 < x
    · exact ⟨x, List.mem_cons_self, e⟩
    · rw [List.sum_cons] at h
      obtain ⟨s, hs, h0⟩ := pos_of_sum (l := l) (by omega)
      exact ⟨s, List.mem_cons_of_mem _ hs, h0⟩
/-- steps with the sum -a can be taken in an order that stays within the limit -/
theorem order (hS : ∀ s ∈ S, -L ≤ s ∧ s ≤ L) : ∀ (n : Nat) (l : List Int) (a : Int), l.length = n → (∀ s ∈ l, s ∈ S) → a + l.sum = 0 → -L ≤ a → a ≤ L → ∃ m, m ≤ n ∧ RchB S L a m 0
  | 0, l, a, hl, hm, h0, h1, h2 => by
    have : l = [] := List.length_eq_zero_iff.mp hl
    subst this
    have : a = 0 := by simpa using h0
    subst this
    exact ⟨0, Nat.le_refl _, .zero⟩
  | n + 1, l, a, hl, hm, h0, h1, h2 => by
    have go : ∀ s ∈ l, -L ≤ a + s → a + s ≤ L → ∃ m, m ≤ n + 1 ∧ RchB S L a m 0 := fun s hs g1 g2 => by
      have e := sum_erase hs
      obtain ⟨m, hmn, r⟩ := order hS n (l.erase s) (a + s) (by rw [List.length_erase_of_mem hs, hl]; rfl) (fun t ht => hm t (List.mem_of_mem_erase ht)) (by omega) g1 g2
      exact ⟨m + 1, by omega, r.front (hm s hs) g1 g2⟩
    by_cases c0 : a = 0
    · subst c0
      exact ⟨0, Nat.zero_le _, .zero⟩
    by_cases c : 0 < a
    · obtain ⟨s, hs, hn⟩ := neg_of_sum (l := l) (by omega)
      have := hS s (hm s hs)
      exact go s hs (by omega) (by omega)
    · obtain ⟨s, hs, hn⟩ := pos_of_sum (l := l) (by omega)
      have := hS s (hm s hs)
      exact go s hs (by omega) (by omega)
theorem Rch.within (h : Rch S a n 0) (hS : ∀ s ∈ S, -L ≤ s ∧ s ≤ L) (ha : -L ≤ a ∧ a ≤ L) : ∃ m, m ≤ n ∧ RchB S L a m 0 := by
  obtain ⟨l, h1, h2, h3⟩ := h.list
  exact order hS n l a h1 h2 h3 ha.1 ha.2
theorem Dst.one (h : Dst S L a i x) (h' : Dst S L a j x) : i = j := by
  rcases Nat.lt_trichotomy i j with c | c | c
  · exact absurd h.1 (h'.2 i c)
  · exact c
  · exact absurd h'.1 (h.2 j c)
theorem RchB.dst : ∀ {n : Nat} {x : Int}, RchB S L a n x → ∃ j, j ≤ n ∧ Dst S L a j x := by
  intro n
  induction n using Nat.strongRecOn with
  | _ n ih =>
    intro x h
    rcases Classical.em (∃ j, j < n ∧ RchB S L a j x) with ⟨j, hj, r⟩ | c
    · obtain ⟨k, hk, d⟩ := ih j hj r
      exact ⟨k, by omega, d⟩
    · exact ⟨n, Nat.le_refl _, h, fun j hj r => c ⟨j, hj, r⟩⟩
theorem dst0 (h : Dst S L a i a) : i = 0 := by
  cases i with
  | zero => rfl
  | succ i => exact absurd RchB.zero (h.2 0 (Nat.succ_pos _))
/-- what is known behind i turns: C what came, R the ring -/
structure Lev (S : List Int) (L a : Int) (i : Nat) (C R : List Int) : Prop where
  came : ∀ x, x ∈ C ↔ ∃ j, j ≤ i ∧ RchB S L a j x
  ring : ∀ x, x ∈ R ↔ Dst S L a i x
  nd : C.Nodup
theorem Lev.start : Lev S L a 0 [a] [a] := by
  refine ⟨fun x => ?_, fun x => ?_, by simp⟩
  · rw [List.mem_singleton]
    constructor
    · rintro rfl
      exact ⟨0, Nat.le_refl _, .zero⟩
    · rintro ⟨j, hj, h⟩
      have : j = 0 := by omega
      subst this
      cases h
      rfl
  · rw [List.mem_singleton]
    constructor
    · rintro rfl
      exact ⟨.zero, fun j hj => absurd hj (Nat.not_lt_zero _)⟩
    · rintro ⟨h, _⟩
      cases h
      rfl
/-- what is found in a turn -/
structure Found (S : List Int) (L : Int) (C R F : List Int) : Prop where
  mem : ∀ x, x ∈ F ↔ (x ∉ C ∧ -L ≤ x ∧ x ≤ L ∧ ∃ n ∈ R, ∃ s ∈ S, x = n + s)
  nd : F.Nodup
theorem Lev.next {C R F : List Int} (h : Lev S L a i C R) (f : Found S L C R F) : Lev S L a (i + 1) (C ++ F) F := by
  have key : ∀ x, x ∈ F ↔ Dst S L a (i + 1) x := fun x => by
    rw [f.mem]
    constructor
    · rintro ⟨hc, h1, h2, n, hn, s, hs, rfl⟩
      refine ⟨.succ ((h.ring n).mp hn).1 hs h1 h2, fun j hj r => hc ((h.came _).mpr ⟨j, by omega, r⟩)⟩
    · rintro ⟨r, hmin⟩
      cases r with
      | @succ _ n s r hs h1 h2 =>
        refine ⟨fun hc => ?_, h1, h2, n, (h.ring n).mpr ⟨r, fun j hj r' => ?_⟩, s, hs, rfl⟩
        · obtain ⟨j, hj, r'⟩ := (h.came _).mp hc
          exact hmin j (by omega) r'
        · exact hmin (j + 1) (by omega) (.succ r' hs h1 h2)
  refine ⟨fun x => ?_, key, ?_⟩
  · rw [List.mem_append]
    constructor
    · rintro (hx | hx)
      · obtain ⟨j, hj, r⟩ := (h.came x).mp hx
        exact ⟨j, by omega, r⟩
      · exact ⟨i + 1, Nat.le_refl _, ((key x).mp hx).1⟩
    · rintro ⟨j, hj, r⟩
      obtain ⟨k, hk, d⟩ := r.dst
      by_cases e : k = i + 1
      · exact .inr ((key x).mpr (e ▸ d))
      · exact .inl ((h.came x).mpr ⟨k, by omega, d.1⟩)
  · rw [List.nodup_append]
    refine ⟨h.nd, f.nd, fun x hx y hy e => ?_⟩
    exact ((f.mem y).mp hy).1 (e ▸ hx)
/-- the ring is empty: everything came -/
theorem Lev.all {C : List Int} (h : Lev S L a i C []) : ∀ n x, RchB S L a n x → x ∈ C := by
  intro n x r
  induction r with
  | zero => exact (h.came a).mpr ⟨0, Nat.zero_le _, .zero⟩
  | @succ n x s _ hs h1 h2 ih =>
    obtain ⟨j, hj, r⟩ := (h.came x).mp ih
    obtain ⟨k, hk, d⟩ := r.dst
    have : k ≠ i := fun e => by
      have := (h.ring x).mpr (e ▸ d)
      cases this
    exact (h.came _).mpr ⟨k + 1, by omega, .succ d.1 hs h1 h2⟩
theorem Lev.lim {C R : List Int} (h : Lev S L a i C R) (ha : -L ≤ a ∧ a ≤ L) {x : Int} (hx : x ∈ C) : -L ≤ x ∧ x ≤ L := by
  obtain ⟨j, _, r⟩ := (h.came x).mp hx
  exact r.lim ha
theorem Lev.sub {C R : List Int} (h : Lev S L a i C R) : ∀ x ∈ R, x ∈ C := fun x hx => (h.came x).mpr ⟨i, Nat.le_refl _, ((h.ring x).mp hx).1⟩
/-- a list of different numbers within the limit is no longer than the limit allows -/
theorem few {C : List Int} (nd : C.Nodup) (h : ∀ x ∈ C, -L ≤ x ∧ x ≤ L) (hL : 0 ≤ L) : (C.length : Int) ≤ 2 * L + 1 := by
  have key : ∀ (D : List Int) (k : Nat), D.Nodup → (∀ x ∈ D, 0 ≤ x ∧ x < (k : Int)) → D.length ≤ k := by
    intro D k
    induction k generalizing D with
    | zero =>
      intro _ hb
      cases D with
      | nil => exact Nat.le_refl _
      | cons x D =>
        have := hb x List.mem_cons_self
        omega
    | succ k ih =>
      intro hn hb
      have := ih (D.erase (k : Int)) (hn.erase _) fun x hx => by
        have h1 := hb x (List.mem_of_mem_erase hx)
        have h2 := (hn.mem_erase_iff.mp hx).1
        omega
      have l := List.length_erase (a := (k : Int)) (l := D)
      split at l <;> omega
  have := key (C.map fun x => x + L) (2 * L + 1).toNat (by
    refine List.pairwise_map.mpr (nd.imp ?_)
    intro x y hxy e
    omega) (fun x hx => by
      obtain ⟨y, hy, rfl⟩ := List.mem_map.mp hx
      have := h y hy
      omega)
  rw [List.length_map] at this
  omega
/-- a number that is reached by i steps and no fewer has i others before it -/
theorem dst_len : ∀ {i : Nat} {x : Int}, Dst S L a i x → ∃ l : List Int, l.length = i + 1 ∧ l.Nodup ∧ ∀ y ∈ l, ∃ j, j ≤ i ∧ Dst S L a j y
  | 0, x, d => ⟨[x], rfl, by simp, fun y hy => ⟨0, Nat.le_refl _, by rw [List.mem_singleton.mp hy]; exact d⟩⟩
  | i + 1, x, d => by
    have p : ∃ y, Dst S L a i y := by
      obtain ⟨r, hm⟩ := d
      cases r with
      | @succ _ n s r hs h1 h2 => exact ⟨n, r, fun j hj r' => hm (j + 1) (by omega) (.succ r' hs h1 h2)⟩
    obtain ⟨y, hy⟩ := p
    obtain ⟨l, h1, h2, h3⟩ := dst_len hy
    refine ⟨x :: l, by rw [List.length_cons, h1], List.nodup_cons.mpr ⟨fun hx => ?_, h2⟩, fun z hz => ?_⟩
    · obtain ⟨j, hj, dj⟩ := h3 x hx
      have := d.one dj
      omega
    · rcases List.mem_cons.mp hz with e | hz
      · exact ⟨i + 1, Nat.le_refl _, e ▸ d⟩
      · obtain ⟨j, hj, dj⟩ := h3 z hz
        exact ⟨j, by omega, dj⟩
theorem Dst.le2 (d : Dst S L a i x) (ha : -L ≤ a ∧ a ≤ L) : (i : Int) ≤ 2 * L := by
  obtain ⟨l, h1, h2, h3⟩ := dst_len d
  have := Bf.few (L := L) h2 (fun y hy => by
    obtain ⟨j, _, dj⟩ := h3 y hy
    exact dj.1.lim ha) (by omega)
  omega
/-- the least number of steps that lead to 0 -/
def Least (S : List Int) (a : Int) : Option Nat → Prop
  | none => ∀ n, ¬ Rch S a n 0
  | some m => Rch S a m 0 ∧ ∀ n, Rch S a n 0 → m ≤ n
theorem Least.one {o o' : Option Nat} (h : Least S a o) (h' : Least S a o') : o = o' := by
  cases o with
  | none => cases o' with
    | none => rfl
    | some m => exact absurd h'.1 (h m)
  | some m => cases o' with
    | none => exact absurd h.1 (h' m)
    | some k =>
      have h1 := h.2 k h'.1
      have h2 := h'.2 m h.1
      rw [show m = k by omega]
theorem least_some (hS : ∀ s ∈ S, -L ≤ s ∧ s ≤ L) (ha : -L ≤ a ∧ a ≤ L) (h : Dst S L a i 0) : Least S a (some i) := by
  refine ⟨h.1.un, fun n r => ?_⟩
  obtain ⟨m, hm, r⟩ := r.within hS ha
  rcases Nat.lt_or_ge m i with c | c
  · exact absurd r (h.2 m c)
  · omega
theorem least_none (hS : ∀ s ∈ S, -L ≤ s ∧ s ≤ L) (ha : -L ≤ a ∧ a ≤ L) {C : List Int} (h : Lev S L a i C []) (h0 : (0 : Int) ∉ C) : Least S a none := fun n r => by
  obtain ⟨m, _, r⟩ := r.within hS ha
  exact h0 (h.all m 0 r)
/-- the same steps but 0 -/
theorem Least.steps {o : Option Nat} (h : Least S a o) (e : ∀ s, s ≠ 0 → (s ∈ S ↔ s ∈ S')) : Least S' a o := by
  have f : ∀ n, Rch S' a n 0 → ∃ m, m ≤ n ∧ Rch S a m 0 := fun n r => r.drop fun s hs hn => (e s hn).mpr hs
  have g : ∀ n, Rch S a n 0 → ∃ m, m ≤ n ∧ Rch S' a m 0 := fun n r => r.drop fun s hs hn => (e s hn).mp hs
  cases o with
  | none =>
    intro n r
    obtain ⟨m, _, r⟩ := f n r
    exact h m r
  | some k =>
    obtain ⟨m, hm, r⟩ := g k h.1
    obtain ⟨m', hm', r'⟩ := f m r
    have := h.2 m' r'
    have e : m = k := by omega
    subst e
    refine ⟨r, fun n r => ?_⟩
    obtain ⟨m2, hm2, r2⟩ := f n r
    have := h.2 m2 r2
    omega
end
end Bf

/-! Sl2: comprehensions of ints over a locked dict told by any expression, over lists of ints. -/
namespace Sl
open PySem L2 Sm
/-- [F for k in d], d told by td -/
theorem lock_intsG {σ : L2.St} {H : Hp} {c : Addr} {r : DI} {j : Nat} {te td : TE} {F : List Int → Int → Int} {Q : VK} (hc : H c = some (.dT (enc r))) (hsz : r.length < 1000)
    (hd : ∀ (H' : Hp) (R : VK), (∀ b o, H b = some o → b ≠ c → H' b = some o) → R (.ref c) H' → td σ H' R)
    (step : ∀ (od : Obj) (H' : Hp) (k : List Int) (z : Int) (t : Addr), (∀ b o, H b = some o → b ≠ c → H' b = some o) → H' c = some (.frz od (.dT (enc r))) → (k, z) ∈ r → H' t = some (.tup (k.map V.int)) →
      ∀ R : VK, R (.int (F k z)) H' → te ((wipe σ [j]).set j (some (.ref t))) H' R)
    (done : ∀ (D : Addr) (H' : Hp), H D = none → Same H H' → H' D = some (.lst ((r.map fun y => F y.1 y.2).map V.int)) → Q (.ref D) H') : tLockE (tLc (iKeys td) (gName j) tYes te [j]) σ H Q := by
  refine ⟨c, _, hc, trivial, fun od => ?_⟩
  refine Eg.w_lc (Eg.w_iK (hd _ _ (fun b o e hn => Eg.upd_mut hn e) (Eg.c_iKT upd_same ?_)))
  intro D hD
  have hDc : D ≠ c := fun e => by rw [e, upd_same] at hD; cases hD
  have hD0 : H D = none := by rw [upd_ne hDc] at hD; exact hD
  refine lc_it walk_keysT (fun n H' => H' c = some (.frz od (.dT (enc r))) ∧ H' D = some (.lst (((r.take n).map fun y => F y.1 y.2).map V.int)) ∧ ∀ b o, H b = some o → b ≠ c → H' b = some o) ?_ (fun n H' _ h => h.1) ?_ ?_
  · exact ⟨Eg.upd_old upd_same hD, upd_same, fun b o e hn => Eg.upd_old (Eg.upd_mut hn e) hD⟩
  · rintro n y _ _ hn ⟨h1, h2, h3⟩ ⟨rfl, k, v, t, hk, rfl, ht⟩
    obtain ⟨kk, z, hkz, rfl, rfl⟩ := inl_key hk
    rw [ek_kV] at ht
    obtain ⟨hlt, he⟩ := List.getElem?_eq_some_iff.mp hkz
    refine Eg.w_gN (Eg.w_wipe ?_ (Eg.w_yes (iteT (step od _ kk z t h3 h1 (List.mem_of_getElem? hkz) ht _ ?_))))
    · show (((σ.set j none).set j (some (.ref t))).set j none) = σ.set j none
      rw [List.set_set, List.set_set]
    · refine ⟨_, h2, ?_, Eg.upd_mut hDc.symm h1, ?_, fun b o e hne => Eg.upd_mut (ne_of_none e hD0) (h3 b o e hne)⟩
      · rw [List.length_map, List.length_map, List.length_take, sizeLine_eq]
        omega
      · rw [upd_same, List.take_succ_eq_append_getElem hlt, he]
        simp
  · rintro H1 ⟨h1, h2, h3⟩
    refine ⟨h1, done D _ hD0 (fun b o e => ?_) (Eg.upd_mut hDc ?_)⟩
    · by_cases hb : b = c
      · rw [hb, upd_same]
        rw [hb, hc] at e
        exact e
      · exact Eg.upd_mut hb (h3 b o e hb)
    · rw [h2]
      unfold enc
      rw [List.length_map, List.take_length]
theorem tups_pairs {H : Hp} {xs : List V} {ks : List (List Int)} (h : TupsAt H xs ks) : ∃ L : List (Addr × List Int), xs = L.map (fun q => V.ref q.1) ∧ L.map (·.2) = ks ∧ ∀ q ∈ L, H q.1 = some (.tup (q.2.map V.int)) := by
  induction h with
  | nil => exact ⟨[], rfl, rfl, fun _ z => nomatch z⟩
  | @cons a b as bs hab r ih =>
    obtain ⟨t, rfl, ht⟩ := hab
    obtain ⟨L, e1, e2, e3⟩ := ih
    refine ⟨(t, b) :: L, by rw [List.map_cons, e1], by rw [List.map_cons, e2], fun q hq => ?_⟩
    rcases List.mem_cons.mp hq with rfl | hq
    · exact ht
    · exact e3 q hq
theorem pairs_tups {H : Hp} {L : List (Addr × List Int)} (h : ∀ q ∈ L, H q.1 = some (.tup (q.2.map V.int))) : TupsAt H (L.map fun q => V.ref q.1) (L.map (·.2)) := by
  induction L with
  | nil => exact .nil
  | cons q r ih => exact .cons ⟨q.1, rfl, h q List.mem_cons_self⟩ (ih fun y hy => h y (List.mem_cons_of_mem _ hy))
theorem nz_succ {ps : DI} {i : Nat} {p : List Int × Int} (h : ps[i]? = some p) : nz (ps.take (i + 1)) = nz (ps.take i) ++ nz [p] := by
  obtain ⟨hl, e⟩ := List.getElem?_eq_some_iff.mp h
  rw [List.take_succ_eq_append_getElem hl, e, nz, List.filter_append]
  rfl
/-- [k for k in d if d[k] != 0] -/
theorem lock_keysG {σ : L2.St} {H : Hp} {c : Addr} {r : DI} {j : Nat} {td : TE} {tt : TT} {Q : VK} (hj : j < σ.length) (hc : H c = some (.dT (enc r))) (hsz : r.length < 1000)
    (hd : ∀ (H' : Hp) (R : VK), (∀ b o, H b = some o → b ≠ c → H' b = some o) → R (.ref c) H' → td σ H' R)
    (test : ∀ (od : Obj) (H' : Hp) (k : List Int) (z : Int) (t : Addr), (∀ b o, H b = some o → b ≠ c → H' b = some o) → H' c = some (.frz od (.dT (enc r))) → (k, z) ∈ r → H' t = some (.tup (k.map V.int)) →
      ∀ R : Bool → Hp → Prop, R (decide (z ≠ 0)) H' → tt ((wipe σ [j]).set j (some (.ref t))) H' R)
    (done : ∀ (D : Addr) (ys : List V) (H' : Hp), H D = none → Same H H' → H' D = some (.lst ys) → TupsAt H' ys ((nz r).map (·.1)) → Q (.ref D) H') : tLockE (tLc (iKeys td) (gName j) tt (tVar j) [j]) σ H Q := by
  refine ⟨c, _, hc, trivial, fun od => ?_⟩
  refine Eg.w_lc (Eg.w_iK (hd _ _ (fun b o e hn => Eg.upd_mut hn e) (Eg.c_iKT upd_same ?_)))
  intro D hD
  have hDc : D ≠ c := fun e => by rw [e, upd_same] at hD; cases hD
  have hD0 : H D = none := by rw [upd_ne hDc] at hD; exact hD
  refine lc_it walk_keysT (fun n H' => H' c = some (.frz od (.dT (enc r))) ∧ (∃ ys, H' D = some (.lst ys) ∧ TupsAt H' ys ((nz (r.take n)).map (·.1))) ∧ ∀ b o, H b = some o → b ≠ c → H' b = some o) ?_ (fun n H' _ h => h.1) ?_ ?_
  · exact ⟨Eg.upd_old upd_same hD, ⟨[], upd_same, .nil⟩, fun b o e hn => Eg.upd_old (Eg.upd_mut hn e) hD⟩
  · rintro n y _ H1 hn ⟨h1, ⟨ys, h2, ty⟩, h3⟩ ⟨rfl, k, v, t, hk, rfl, ht⟩
    obtain ⟨kk, z, hkz, rfl, rfl⟩ := inl_key hk
    rw [ek_kV] at ht
    refine Eg.w_gN (Eg.w_wipe ?_ (test od _ kk z t h3 h1 (List.mem_of_getElem? hkz) ht _ ?_))
    · show (((σ.set j none).set j (some (.ref t))).set j none) = σ.set j none
      rw [List.set_set, List.set_set]
    have tyl := ty.len
    have fl := List.length_filter_le (fun p : List Int × Int => decide (p.2 ≠ 0)) (r.take n)
    rw [List.length_take] at fl
    rw [List.length_map] at tyl
    unfold nz at tyl
    by_cases hz : z = 0
    · rw [decide_eq_false (fun h => h hz)]
      refine iteF ⟨h1, ⟨ys, h2, ?_⟩, h3⟩
      rw [nz_succ hkz, hz, List.map_append, show (nz [((kk, 0) : List Int × Int)]).map (·.1) = [] from by simp [nz], List.append_nil]
      exact ty
    · rw [decide_eq_true hz]
      refine iteT (Eg.w_var (v := .ref t) ?_ ⟨_, h2, by rw [sizeLine_eq]; omega, Eg.upd_mut hDc.symm h1, ⟨_, upd_same, ?_⟩, fun b o e hne => Eg.upd_mut (ne_of_none e hD0) (h3 b o e hne)⟩)
      · show ((σ.set j none).set j (some (.ref t)))[j]? = _
        rw [List.getElem?_set_self (by rw [List.length_set]; exact hj)]
      · rw [nz_succ hkz, List.map_append]
        refine TupsAt.app (ty.same (Eg.tup_upd h2)) ?_
        rw [show (nz [((kk, z) : List Int × Int)]).map (·.1) = [kk] from by simp [nz, hz]]
        exact .cons ⟨t, rfl, Eg.tup_upd h2 _ _ ht⟩ .nil
  · rintro H1 ⟨h1, ⟨ys, h2, ty⟩, h3⟩
    have el : (enc r).length = r.length := by unfold enc; rw [List.length_map]
    rw [el, List.take_length] at ty
    refine ⟨h1, done D ys _ hD0 (fun b o e => ?_) (Eg.upd_mut hDc h2) (ty.same fun b zs e => ?_)⟩
    · by_cases hb : b = c
      · rw [hb, upd_same]
        rw [hb, hc] at e
        exact e
      · exact Eg.upd_mut hb (h3 b o e hb)
    · rw [upd_ne (ne_of e h1 (fun z => nomatch z))]
      exact e
/-- [z for z in xs if P z] -/
theorem filt_ints {K : PySem.W.Frag} {σ : L2.St} {H : Hp} {a : Addr} {xs : List Int} {j : Nat} {ti : TE} {tt : TT} {P : Int → Bool} {Q : VK} (hj : j < σ.length) (ha : SqL K H a (xs.map V.int)) (hsz : xs.length < 100000)
    (hi : ∀ R : VK, R (.ref a) H → ti σ H R) (keep : ∀ H', Same H H' → SqL K H' a (xs.map V.int))
    (test : ∀ (H' : Hp) (z : Int) (R : Bool → Hp → Prop), Same H H' → z ∈ xs → R (P z) H' → tt ((wipe σ [j]).set j (some (.int z))) H' R)
    (done : ∀ (D : Addr) (H' : Hp), H D = none → Same H H' → H' D = some (.lst ((xs.filter P).map V.int)) → Q (.ref D) H') : tLc (iList K ti) (gName j) tt (tVar j) [j] σ H Q := by
  refine Eg.w_lc (Eg.w_iL (hi _ (Eg.c_iL ha ?_)))
  intro D hD
  refine lc_list (xs := xs.map V.int) (fun n H' => Same H H' ∧ H' D = some (.lst (((xs.take n).filter P).map V.int))) ⟨Eg.same_new (Same.refl _) hD, upd_same⟩ (fun n H' _ h => keep _ h.1) ?_ ?_
  · rintro n x H1 hx ⟨s1, h2⟩
    rw [List.getElem?_map] at hx
    obtain ⟨z, hz, rfl⟩ := Option.map_eq_some_iff.mp hx
    obtain ⟨hlt, he⟩ := List.getElem?_eq_some_iff.mp hz
    refine Eg.w_gN (Eg.w_wipe ?_ (test H1 z _ s1 (List.mem_of_getElem? hz) ?_))
    · show (((σ.set j none).set j (some (.int z))).set j none) = σ.set j none
      rw [List.set_set, List.set_set]
    · have fl := List.length_filter_le P (xs.take n)
      rw [List.length_take] at fl
      cases hp : P z with
      | true =>
        refine iteT (Eg.w_var (v := .int z) ?_ ⟨_, h2, ?_, Eg.same_mut s1 hD, ?_⟩)
        · show ((σ.set j none).set j (some (.int z)))[j]? = _
          rw [List.getElem?_set_self (by rw [List.length_set]; exact hj)]
        · rw [List.length_map, sizeLine_eq]
          omega
        · rw [upd_same, List.take_succ_eq_append_getElem hlt, he, List.filter_append]
          simp [hp]
      | false =>
        refine iteF ⟨s1, ?_⟩
        rw [h2, List.take_succ_eq_append_getElem hlt, he, List.filter_append]
        simp [hp]
  · rintro H1 ⟨s1, h2⟩
    rw [List.length_map, List.take_length] at h2
    exact done D H1 hD s1 h2
/-- [F z for z in xs] -/
theorem map_ints {K : PySem.W.Frag} {σ : L2.St} {H : Hp} {a : Addr} {xs : List Int} {j : Nat} {ti te : TE} {F : Int → Int} {Q : VK} (ha : SqL K H a (xs.map V.int)) (hsz : xs.length < 100000)
    (hi : ∀ R : VK, R (.ref a) H → ti σ H R) (keep : ∀ H', Same H H' → SqL K H' a (xs.map V.int))
    (elt : ∀ (H' : Hp) (z : Int) (R : VK), Same H H' → z ∈ xs → R (.int (F z)) H' → te ((wipe σ [j]).set j (some (.int z))) H' R)
    (done : ∀ (D : Addr) (H' : Hp), H D = none → Same H H' → H' D = some (.lst ((xs.map F).map V.int)) → Q (.ref D) H') : tLc (iList K ti) (gName j) tYes te [j] σ H Q := by
  refine Eg.w_lc (Eg.w_iL (hi _ (Eg.c_iL ha ?_)))
  intro D hD
  refine lc_list (xs := xs.map V.int) (fun n H' => Same H H' ∧ H' D = some (.lst (((xs.take n).map F).map V.int))) ⟨Eg.same_new (Same.refl _) hD, upd_same⟩ (fun n H' _ h => keep _ h.1) ?_ ?_
  · rintro n x H1 hx ⟨s1, h2⟩
    rw [List.getElem?_map] at hx
    obtain ⟨z, hz, rfl⟩ := Option.map_eq_some_iff.mp hx
    obtain ⟨hlt, he⟩ := List.getElem?_eq_some_iff.mp hz
    refine Eg.w_gN (Eg.w_wipe ?_ (Eg.w_yes (iteT (elt H1 z _ s1 (List.mem_of_getElem? hz) ⟨_, h2, ?_, Eg.same_mut s1 hD, ?_⟩))))
    · show (((σ.set j none).set j (some (.int z))).set j none) = σ.set j none
      rw [List.set_set, List.set_set]
    · rw [List.length_map, List.length_map, List.length_take, sizeLine_eq]
      omega
    · rw [upd_same, List.take_succ_eq_append_getElem hlt, he]
      simp
  · rintro H1 ⟨s1, h2⟩
    rw [List.length_map, List.take_length] at h2
    exact done D H1 hD s1 h2
/-- [n for n in d if P n], d with int keys -/
theorem lock_keysI {σ : L2.St} {H : Hp} {c : Addr} {kvs : List (Key × V)} {xs : List Int} {j : Nat} {td : TE} {tt : TT} {P : Int → Bool} {Q : VK} (hj : j < σ.length) (hc : H c = some (.dK kvs)) (hk : kvs.map (·.1) = xs.map Sum.inl) (hsz : xs.length < 100000)
    (hd : ∀ (H' : Hp) (R : VK), (∀ b o, H b = some o → b ≠ c → H' b = some o) → R (.ref c) H' → td σ H' R)
    (test : ∀ (H' : Hp) (z : Int), (∀ b o, H b = some o → b ≠ c → H' b = some o) → z ∈ xs → ∀ R : Bool → Hp → Prop, R (P z) H' → tt ((wipe σ [j]).set j (some (.int z))) H' R)
    (done : ∀ (D : Addr) (H' : Hp), H D = none → Same H H' → H' D = some (.lst ((xs.filter P).map V.int)) → Q (.ref D) H') : tLockE (tLc (iKeys td) (gName j) tt (tVar j) [j]) σ H Q := by
  refine ⟨c, _, hc, trivial, fun od => ?_⟩
  refine Eg.w_lc (Eg.w_iK (hd _ _ (fun b o e hn => Eg.upd_mut hn e) (Eg.c_iKK upd_same ?_)))
  intro D hD
  have hDc : D ≠ c := fun e => by rw [e, upd_same] at hD; cases hD
  have hD0 : H D = none := by rw [upd_ne hDc] at hD; exact hD
  have hl : kvs.length = xs.length := by
    have := congrArg List.length hk
    simpa only [List.length_map] using this
  refine lc_it walk_keys (fun n H' => H' c = some (.frz od (.dK kvs)) ∧ H' D = some (.lst (((xs.take n).filter P).map V.int)) ∧ ∀ b o, H b = some o → b ≠ c → H' b = some o) ?_ (fun n H' _ h => h.1) ?_ ?_
  · exact ⟨Eg.upd_old upd_same hD, upd_same, fun b o e hn => Eg.upd_old (Eg.upd_mut hn e) hD⟩
  · rintro n y _ H1 hn ⟨h1, h2, h3⟩ ⟨rfl, k, v, hkv, rfl⟩
    have hx : (xs.map (Sum.inl : Int → Key))[n]? = some k := by rw [← hk, List.getElem?_map, hkv]; rfl
    rw [List.getElem?_map] at hx
    obtain ⟨z, hz, rfl⟩ := Option.map_eq_some_iff.mp hx
    obtain ⟨hlt, he⟩ := List.getElem?_eq_some_iff.mp hz
    refine Eg.w_gN (Eg.w_wipe ?_ (test H1 z h3 (List.mem_of_getElem? hz) _ ?_))
    · show (((σ.set j none).set j (some (.int z))).set j none) = σ.set j none
      rw [List.set_set, List.set_set]
    · have fl := List.length_filter_le P (xs.take n)
      rw [List.length_take] at fl
      cases hp : P z with
      | true =>
        refine iteT (Eg.w_var (v := .int z) ?_ ⟨_, h2, ?_, Eg.upd_mut hDc.symm h1, ?_, fun b o e hne => Eg.upd_mut (ne_of_none e hD0) (h3 b o e hne)⟩)
        · show ((σ.set j none).set j (some (.int z)))[j]? = _
          rw [List.getElem?_set_self (by rw [List.length_set]; exact hj)]
        · rw [List.length_map, sizeLine_eq]
          omega
        · rw [upd_same, List.take_succ_eq_append_getElem hlt, he, List.filter_append]
          simp [hp]
      | false =>
        refine iteF ⟨h1, ?_, h3⟩
        rw [h2, List.take_succ_eq_append_getElem hlt, he, List.filter_append]
        simp [hp]
  · rintro H1 ⟨h1, h2, h3⟩
    rw [hl, List.take_length] at h2
    refine ⟨h1, done D _ hD0 (fun b o e => ?_) (Eg.upd_mut hDc h2)⟩
    by_cases hb : b = c
    · rw [hb, upd_same]
      rw [hb, hc] at e
      exact e
    · exact Eg.upd_mut hb (h3 b o e hb)
theorem inV_ints (n : Int) (xs : List Int) : inV (.int n) (xs.map V.int) = decide (n ∈ xs) := by
  unfold inV
  rw [List.any_map]
  by_cases c : n ∈ xs
  · rw [decide_eq_true c]
    exact List.any_eq_true.mpr ⟨n, c, by simp [eqV]⟩
  · rw [decide_eq_false c]
    refine List.any_eq_false.mpr fun y hy e => c ?_
    have : y = n := by
      have e : eqV (.int y) (.int n) = true := e
      simpa [eqV] using e
    rw [← this]
    exact hy
/-- the numbers that were seen -/
def SeenL (H : Hp) (d : Addr) (xs : List Int) : Prop := H d = some (.dK (xs.map fun x => (Sum.inl x, V.bl true)))
theorem seen_val {xs : List Int} {n : Int} : valV (xs.map fun x => ((Sum.inl x : Key), V.bl true)) (Sum.inl n) = if n ∈ xs then some (.bl true) else none := by
  induction xs with
  | nil => rfl
  | cons x r ih =>
    rw [List.map_cons]
    by_cases e : x = n
    · rw [valV_pos (by rw [e]), if_pos (by rw [e]; exact List.mem_cons_self)]
    · rw [valV_neg (fun z => e (Sum.inl.inj z)), ih]
      by_cases h : n ∈ r
      · rw [if_pos h, if_pos (List.mem_cons_of_mem _ h)]
      · rw [if_neg h, if_neg (fun z => (List.mem_cons.mp z).elim (fun z => e z.symm) h)]
theorem SeenL.get {H : Hp} {d : Addr} {xs : List Int} (h : SeenL H d xs) (n : Int) : ∃ r, DGet H d (.int n) r ∧ r.isSome = decide (n ∈ xs) := by
  refine ⟨_, DGet.k (k := Sum.inl n) h, ?_⟩
  rw [seen_val]
  by_cases e : n ∈ xs
  · rw [if_pos e, decide_eq_true e]; rfl
  · rw [if_neg e, decide_eq_false e]; rfl
theorem SeenL.put {H : Hp} {d : Addr} {xs : List Int} {n : Int} (h : SeenL H d xs) (hn : n ∉ xs) (hs : xs.length < 100000) :
    ∃ kvs, DPut H d (.int n) (.bl true) (upd H d (.dK kvs)) ∧ SeenL (upd H d (.dK kvs)) d (xs ++ [n]) := by
  have p := DPut.k (k := Sum.inl n) (v := .bl true) h (by rw [List.length_map, sizeLine_eq]; omega)
  rw [putK_new _ (by rw [seen_val, if_neg hn])] at p
  refine ⟨_, p, ?_⟩
  unfold SeenL
  rw [upd_same, List.map_append]
  rfl
theorem seen_keys (xs : List Int) : (xs.map fun x => ((Sum.inl x : Key), V.bl true)).map (·.1) = xs.map Sum.inl := by
  rw [List.map_map]
  rfl
end Sl
namespace Eg
open PySem L2
def dispLeaf (p : Addr) (x : V) (Q : VK) (y : V) (H2 : Hp) : Prop := H2 p = some (.dK []) ∧ ∃ k : Key, x = kV k ∧ Q (.ref p) (upd H2 p (.dK [(k, y)]))
theorem w_disp1 {tk tv : TE} {σ : L2.St} {H : Hp} {Q : VK} (h : ∀ p, H p = none → tk σ (upd H p (.dK [])) fun x H1 => tv σ H1 (dispLeaf p x Q)) : tDisp [(tk, tv)] σ H Q := by
  intro p hp
  show tk σ _ fun x H1 => tv σ H1 fun y H2 => _
  have e : (fun x H1 => tv σ H1 fun y H2 => H2 p = some (.dK []) ∧ ∃ kvs : List (Key × V), [(x, y)] = kvs.map (fun kv => (kV kv.1, kv.2)) ∧ kvs.length ≤ 15 ∧ Q (.ref p) (upd H2 p (.dK (mergeK [] kvs)))) = fun x H1 => tv σ H1 (dispLeaf p x Q) := by
    funext x H1
    congr 1
    funext y H2
    refine propext ⟨?_, ?_⟩
    · rintro ⟨h0, kvs, e, _, q⟩
      match kvs, e, q with
      | [(k, z)], e, q =>
        have e := (List.cons.inj e).1
        have e1 : x = kV k := (Prod.mk.inj e).1
        have e2 : y = z := (Prod.mk.inj e).2
        exact ⟨h0, k, e1, by rw [e2]; exact q⟩
    · rintro ⟨h0, k, e, q⟩
      exact ⟨h0, [(k, y)], by rw [e]; rfl, (show 1 ≤ 15 by decide), q⟩
  have := h p hp
  rw [← e] at this
  exact this
theorem c_dispI {H : Hp} {Q : VK} {p : Addr} {n : Int} {y : V} (h : H p = some (.dK [])) (q : Q (.ref p) (upd H p (.dK [(Sum.inl n, y)]))) : dispLeaf p (.int n) Q y H := ⟨h, Sum.inl n, rfl, q⟩
theorem c_min {K : PySem.W.Frag} {H : Hp} {p : Addr} {R : VK} {ns : List Int} (h : SqL K H p (ns.map V.int)) (h0 : 0 < ns.length) (q : ∀ m, m ∈ ns → (∀ y, y ∈ ns → m ≤ y) → R (.int m) H) : rMin K [V.ref p] H R := ⟨p, ns, rfl, h, h0, q⟩
def rTupQ (K : PySem.W.Frag) : List V → Hp → VK → Prop := fun xs H Q => ∃ p ys, xs = [V.ref p] ∧ ((SqL K H p ys ∧ ∀ l, H l = none → Q (.ref l) (upd H l (.tup ys))) ∨ (SqT K H p ys ∧ Q (.ref p) H))
theorem cr_tup {X : Cx} : CallR X (.type "tuple") (rTupQ X.K) := call_tuple_of
theorem c_tupL {K : PySem.W.Frag} {H : Hp} {p : Addr} {Q : VK} {ys : List V} (h : SqL K H p ys) (q : ∀ l, H l = none → Q (.ref l) (upd H l (.tup ys))) : rTupQ K [V.ref p] H Q := ⟨p, ys, rfl, .inl ⟨h, q⟩⟩
theorem c_sortI {K : PySem.W.Frag} {H : Hp} {p : Addr} {Q : VK} {ns : List Int} (h : SqL K H p (ns.map V.int)) (q : ∀ (ms : List Int) (l : Addr), ms.Perm ns → ms.Pairwise (· ≤ ·) → H l = none → Q (.ref l) (upd H l (.lst (ms.map V.int)))) : rSortedI K [V.ref p] H Q := ⟨p, ns, rfl, h, q⟩
end Eg

/-! Ow: what a class of the program's own answers to operators, len, [], truth, in, a call. -/
namespace Ow
open PySem PySem.Spec PyProof.Rows L2
section
variable {X : Cx} {CX : CXT} {k : Nat} {f : Addr} {fd : FuncData} {ps : List Str} {sp : Sp} {E : XK}
theorem run_in1 {pins : List (Addr × Obj)} {σ : L2.St} {H : Hp} {s : Shared} {Q : VK} {us : List Value} {vs : List V} (F : FnOk X.prog X.w X.K X.mg X.base CX k f fd ps sp) (hr : Room (k + 1) X.A) (hb : Binds X.K fd ps []) (hx : Passes CX X E)
    (I : Inv X pins σ H s) (r : Vals vs us) (h : sp vs H Q E) : wpAny (model X.prog X.w) X.A.in1 (call (.ref f) us) (EP X pins σ Q) X.xe s := by
  have hl : us.length = ps.length := by rw [← r.length]; exact F.len _ _ _ _ h
  have e0 : Env0 X.prog X.w X.K X.mg X.base X.A.in1 X.stack s H := by
    have e := I.env0
    exact ⟨e.frames, e.mod, e.bs, e.bsz, e.funs, e.frf, e.hok, e.bare⟩
  have b := hb s us I.kIn (by rw [List.append_nil]; exact hl)
  rw [List.append_nil] at b
  refine wpAny_call (codeAny_mono (F.run X.A.in1 X.stack s H ⟨us, []⟩ us vs Q E hr.in1 e0 b r h) fun z s' hq => ?_)
  cases z with
  | error e => exact hx pins σ H s e s' I hq
  | ok fl =>
    cases fl with
    | ret v => exact I.after hq
    | next => exact False.elim hq
    | brk => exact False.elim hq
    | cont => exact False.elim hq
theorem relNN {v : V} {u : Value} (r : RelV v u) : u ≠ .notImplemented := by
  rintro rfl
  cases v <;> first | (cases r; done) | (obtain ⟨_, e⟩ := r; cases e)
theorem back_of {Q : Value → Shared → Prop} {u : Value} {s : Shared} (h : u ≠ .notImplemented) (q : Q u s) : PySem.W.CmpBack Q u s := by
  cases u <;> first | exact q | exact absurd rfl h
/-- x op y by x's own method, y of the same class -/
def rOwn2 (C : Addr) (sp : Sp) (E : XK) : R2 := fun x y H Q => ∃ a b dx dy fs gs, x = .ref a ∧ y = .ref b ∧ H a = some (.ins C dx fs) ∧ H b = some (.ins C dy gs) ∧ sp [x, y] H Q E
theorem op_own2 {C : Addr} {op : Operator} (F : FnOk X.prog X.w X.K X.mg X.base CX k f fd ps sp) (hr : Room k X.A) (hc : PySem.W.selfFirst X.K C = true) (hm : Meth X.K C (PySem.dunder op.info.2) f) (hb : Binds X.K fd ps []) (hx : Passes CX X E) :
    OpR X (binaryOp op) (rOwn2 C sp E) := by
  intro pins s σ H x y v u Q I rx ry h
  obtain ⟨a, b, dx, dy, fs, gs, rfl, rfl, ha, hb', q⟩ := h
  have r2 : Vals [V.ref a, V.ref b] [v, u] := .cons rx (.cons ry .nil)
  cases rx
  cases ry
  obtain ⟨mA, J, _⟩ := ins_get I.hok ha
  obtain ⟨mB, J', _⟩ := ins_get I.hok hb'
  obtain ⟨od, J, _⟩ := J.look
  obtain ⟨od', J', _⟩ := J'.look
  obtain ⟨m, hF⟩ := I.fr
  refine PySem.W.binop_K hF I.ok.mod.kin J J'.type hc hm.at_ hm.fn ?_
  exact wpAny_mono (run_fn F hr hb .nil hx I r2 q) (fun z s' ⟨v', H', I', rz, q'⟩ => back_of (relNN rz) ⟨v', H', I', rz, q'⟩) fun _ _ z => z
/-- -x, ~x by its own method -/
def rOwn1 (C : Addr) (sp : Sp) (E : XK) : V → Hp → VK → Prop := fun x H Q => ∃ a dx fs, x = .ref a ∧ H a = some (.ins C dx fs) ∧ sp [x] H Q E
theorem un_own_neg {C : Addr} (F : FnOk X.prog X.w X.K X.mg X.base CX k f fd ps sp) (hr : Room k X.A) (hm : Meth X.K C "__neg__" f) (hb : Binds X.K fd ps []) (hx : Passes CX X E) : UnR X (unaryOp .USub) (rOwn1 C sp E) := by
  intro pins s σ H x v Q I rx h
  obtain ⟨a, dx, fs, rfl, ha, q⟩ := h
  have r1 : Vals [V.ref a] [v] := .cons rx .nil
  cases rx
  obtain ⟨mA, J, _⟩ := ins_get I.hok ha
  obtain ⟨od, J, _⟩ := J.look
  obtain ⟨m, hF⟩ := I.fr
  exact PySem.W.ksp_neg hF I.ok.mod.kin J hm.at_ hm.fn (run_fn F hr hb .nil hx I r1 q)
theorem un_own_inv {C : Addr} (F : FnOk X.prog X.w X.K X.mg X.base CX k f fd ps sp) (hr : Room k X.A) (hm : Meth X.K C "__invert__" f) (hb : Binds X.K fd ps []) (hx : Passes CX X E) : UnR X (unaryOp .Invert) (rOwn1 C sp E) := by
  intro pins s σ H x v Q I rx h
  obtain ⟨a, dx, fs, rfl, ha, q⟩ := h
  have r1 : Vals [V.ref a] [v] := .cons rx .nil
  cases rx
  obtain ⟨mA, J, _⟩ := ins_get I.hok ha
  obtain ⟨od, J, _⟩ := J.look
  obtain ⟨m, hF⟩ := I.fr
  exact PySem.W.ksp_inv hF I.ok.mod.kin J hm.at_ hm.fn (run_fn F hr hb .nil hx I r1 q)
/-- x[i] by its own __getitem__ -/
def rOwnIx (C : Addr) (sp : Sp) (E : XK) : R2 := fun x y H Q => ∃ a dx fs, x = .ref a ∧ H a = some (.ins C dx fs) ∧ sp [x, y] H Q E
variable {a b : Expr} {ta tb : TE} {pos : Pos}
theorem pe_ixOwn {C : Addr} (F : FnOk X.prog X.w X.K X.mg X.base CX k f fd ps sp) (hr : Room (k + 1) X.A) (hm : Meth X.K C "__getitem__" f) (hfn : PySem.W.fnIn X.K f = true) (hb : Binds X.K fd ps []) (hx : Passes CX X E) (ha : PE X a ta) (hb' : PE X b tb)
    (hsl : ∀ o i : Value, subscripted b true o i = runValue (.builtin "lifetime.subscript" ⟨[o, i], []⟩) := by intro o i; with_unfolding_all rfl) : PE X (.Subscript a b pos) (tOp (rOwnIx C sp E) ta tb) := by
  refine ⟨fun pins s σ H Q I h => ?_⟩
  refine Subscript_ (binT ha hb' I h fun v u s2 x y H2 I2 rx ry q => ?_)
  obtain ⟨p, dx, fs, rfl, hp, q⟩ := q
  have r2 : Vals [V.ref p, y] [v, u] := .cons rx (.cons ry .nil)
  cases rx
  obtain ⟨mA, J, _⟩ := ins_get I2.hok hp
  obtain ⟨od, J, _⟩ := J.look
  obtain ⟨m, hF⟩ := I2.fr
  exact PySem.W.sub_K hF I2.ok.mod.kin J hm.at_ hfn hm.fn (run_in1 F hr hb hx I2 r2 q) (hsl _ _)
/-- len(x) by its own __len__ -/
def rOwnLen (C : Addr) (sp : Sp) (E : XK) : List V → Hp → VK → Prop := fun xs H Q => ∃ a dx fs, xs = [.ref a] ∧ H a = some (.ins C dx fs) ∧ sp [.ref a] H (fun v H' => ∃ n : Int, v = .int n ∧ 0 ≤ n ∧ n < 2 ^ 63 ∧ Q (.int n) H') E
theorem cr_ownLen {C : Addr} (F : FnOk X.prog X.w X.K X.mg X.base CX k f fd ps sp) (hr : Room (k + 1) X.A) (hm : Meth X.K C "__len__" f) (hb : Binds X.K fd ps []) (hx : Passes CX X E) : CallR X (.builtin "len") (rOwnLen C sp E) := by
  intro pins s σ H xs us Q I r h
  obtain ⟨a, dx, fs, rfl, ha, q⟩ := h
  obtain ⟨u, rfl, rx⟩ := vals1 r
  cases rx
  obtain ⟨mA, J, _⟩ := ins_get I.hok ha
  obtain ⟨od, J, _⟩ := J.look
  obtain ⟨m, hF⟩ := I.fr
  refine PySem.W.len_K hF I.ok.mod.kin J hm.at_ hm.fn ?_
  refine wpAny_mono (run_in1 F hr hb hx I (us := [.ref a]) (.cons (show RelV (V.ref a) (.ref a) from rfl) .nil) q) (fun z s' ⟨v, H', I', rz, n, ev, n0, n1, q'⟩ => ?_) fun _ _ z => z
  subst ev
  obtain ⟨t, rfl⟩ := rz
  exact ⟨⟨n0, n1⟩, ⟨.int n, H', I'.tok _, ⟨_, rfl⟩, q'⟩⟩
end
section
variable {K : PySem.W.Frag} {X : Cx} {σ : L2.St} {H : Hp} {Q : VK} {E : XK} {sp : Sp} {C a b dx dy : Addr} {fs gs : List (Str × V)} {y : V} {tf : TE} {t : TA}
theorem c_own2 (ha : H a = some (.ins C dx fs)) (hb : H b = some (.ins C dy gs)) (q : sp [.ref a, .ref b] H Q E) : rOwn2 C sp E (.ref a) (.ref b) H Q := ⟨a, b, dx, dy, fs, gs, rfl, rfl, ha, hb, q⟩
theorem c_own1 (ha : H a = some (.ins C dx fs)) (q : sp [.ref a] H Q E) : rOwn1 C sp E (.ref a) H Q := ⟨a, dx, fs, rfl, ha, q⟩
theorem c_ownIx (ha : H a = some (.ins C dx fs)) (q : sp [.ref a, y] H Q E) : rOwnIx C sp E (.ref a) y H Q := ⟨a, dx, fs, rfl, ha, q⟩
theorem c_ownLen (ha : H a = some (.ins C dx fs)) (q : sp [.ref a] H (fun v H' => ∃ n : Int, v = .int n ∧ 0 ≤ n ∧ n < 2 ^ 63 ∧ Q (.int n) H') E) : rOwnLen C sp E [.ref a] H Q := ⟨a, dx, fs, rfl, ha, q⟩
def callLeaf (X : Cx) (C : Addr) (sp : Sp) (E : XK) (t : TA) (σ : L2.St) (Q : VK) (y : V) (H1 : Hp) : Prop := ∃ a, y = V.ref a ∧ t σ H1 fun vs H2 => StX.InsC X H2 a C ∧ sp (V.ref a :: vs) H2 Q E
theorem w_callO (h : tf σ H (callLeaf X C sp E t σ Q)) : StX.tCallO X C sp E tf t σ H Q := h
def callArgs (X : Cx) (C : Addr) (sp : Sp) (E : XK) (a : Addr) (Q : VK) (vs : List V) (H2 : Hp) : Prop := StX.InsC X H2 a C ∧ sp (V.ref a :: vs) H2 Q E
theorem c_callO (h : t σ H (callArgs X C sp E a Q)) : callLeaf X C sp E t σ Q (.ref a) H := ⟨a, rfl, h⟩
theorem c_callA {vs : List V} (h : H a = some (.ins C dx fs)) (q : sp (V.ref a :: vs) H Q E) : callArgs X C sp E a Q vs H := ⟨.inr ⟨dx, fs, h⟩, q⟩
def getLeaf (t : TE) (t' : TE) (σ : L2.St) (Q : VK) (x : V) (H1 : Hp) : Prop := ∃ a, x = .ref a ∧ IsD H1 a ∧ t σ H1 fun y H2 => t' σ H2 fun z H3 => ∃ o, DGet H3 a y o ∧ Q (o.getD z) H3
theorem w_dget2 {td ty tx : TE} (h : td σ H (getLeaf ty tx σ Q)) : tDGet2 td ty tx σ H Q := h
theorem c_dget2T {ty tx : TE} {kvs : List (List Key × V)} (h : Rd H a (.dT kvs)) (q : ty σ H fun y H2 => tx σ H2 fun z H3 => ∃ o, DGet H3 a y o ∧ Q (o.getD z) H3) : getLeaf ty tx σ Q (.ref a) H := ⟨a, rfl, .inr ⟨kvs, h⟩, q⟩
theorem w_aug {i : Nat} {te : TE} {ti : TIp} {D : Ends} {x : V} (h : σ[i]? = some (some x)) (q : te σ H fun y H1 => ti x y H1 fun z H2 => D.nx (σ.set i (some z)) H2) : tAug i te ti D σ H := ⟨x, h, q⟩
theorem c_ipI {f : Int → Int → Int} {i j : Int} (q : Q (.int (f i j)) H) : ipI f (.int i) (.int j) H Q := ⟨i, j, rfl, rfl, q⟩
theorem w_par3 {i j l : Nat} {D : Ends} (h : t σ H fun vs H1 => ∃ u v w, vs = [u, v, w] ∧ D.nx (((σ.set i (some u)).set j (some v)).set l (some w)) H1) : tPar3 i j l t D σ H := h
theorem c_par3 {G : V → V → V → Prop} {u v w : V} (q : G u v w) : ∃ x y z, [u, v, w] = [x, y, z] ∧ G x y z := ⟨u, v, w, rfl, q⟩
theorem nT : (!true) = false := rfl
end
end Ow

/-! Gd: defs that tell data as text (repr, str, f-strings): the promise where nothing that tells itself is under way. -/
namespace Gd
open PySem PySem.Spec PyProof.Rows L2
/-- nothing that tells itself is under way -/
def Still (A : Around) : Prop := A.guards = some []
structure FnG (P : Program) (w : World) (K : PySem.W.Frag) (mg : Str → Option Value) (base : Heap) (CX : CXT) (k : Nat) (f : Addr) (fd : FuncData) (ps : List Str) (sp : Sp) : Prop where
  lenG : ∀ vs H Q E, sp vs H Q E → vs.length = ps.length
  runG : ∀ (A : Around) (out : List Env) (s : Shared) (H : Hp) (ar : Args) (us : List Value) (vs : List V) (Q : VK) (E : XK), Room k A → Still A → Env0 P w K mg base A out s H → BindsTo s fd ar (ps.zip us) → Vals vs us →
    sp vs H Q E → codeAny (model P w) A (.call (.ref f) ar) (CR CX out P w H s Q E) s
section
variable {P : Program} {w : World} {K : PySem.W.Frag} {mg : Str → Option Value} {base : Heap} {CX : CXT} {k : Nat} {f : Addr} {fd : FuncData} {ps : List Str} {sp : Sp}
theorem FnG.of (F : FnOk P w K mg base CX k f fd ps sp) : FnG P w K mg base CX k f fd ps sp := ⟨F.len, fun A out s H ar us vs Q E hr _ => F.run A out s H ar us vs Q E hr⟩
theorem u70 {A : Around} {k : Nat} (h : Room k A) : A.units + 70 < cLine := by
  have := h.un
  omega
theorem still_deeper {A : Around} {env : Env} (h : Still A) : Still (A.deeper env) := h
/-- a def's body, where nothing is under way -/
theorem Fun.okG {x qual : Str} {st : Stmt} {N : List Str} (F : Fun K x qual st f fd) (S : FnScope N ps (defScope st)) (len : ∀ vs H Q E, sp vs H Q E → vs.length = ps.length)
    (body : ∀ (cdv : Value) (A : Around) (out : List Env) (s : Shared) (H : Hp) (vs : List V) (Q : VK) (E : XK), Room k (A.deeper (envOfC qual (defScope st) s.heap.objs.size f cdv)) → Still (A.deeper (envOfC qual (defScope st) s.heap.objs.size f cdv)) → sp vs H Q E →
      ∃ t, PSs (cxOf CX0 P w K mg base N qual (defScope st) f cdv A out s H E).nox (defBody st) t ∧ t { nx := fun _ H' => Q .non H', rt := Q } (start N vs) H) : FnG P w K mg base CX0 (k + 1) f fd ps sp := by
  obtain ⟨oc, od, kV, doc, pm, an, cdv, ct, osl, rfl, lk, hcd⟩ := F.ex
  refine ⟨len, ?_⟩
  intro A out s H ar us vs Q E hr hg e0 hb r hs
  have hlen := len _ _ _ _ hs
  have kin : K.In s.heap := e0.mod.kin.keeps fun b o z => (e0.bs b o z).1
  have nol : s.heap.NoLimit := e0.mod.nolimit.keeps fun b o z => (e0.bs b o z).1
  have kinds : ∀ y ∈ ps.zip us, (defScope st).names.lookup y.1 = some .local ∨ ((defScope st).names.lookup y.1 = some .cell ∧ ((cellsFrom (s.heap.objs.size + 1) (defScope st).names []).lookup y.1).isSome = true) := by
    rintro ⟨n, v⟩ hy
    exact (S.par n (List.of_mem_zip hy).1).elim .inl fun q => .inr ⟨q, PySem.W.cellsFrom_some _ _ _ (.inl q)⟩
  refine codeAny_call_function hr.depth (kin _ _ lk) rfl S.co S.gen rfl (PySem.W.codeRec_of kin hcd) (hb _ _ _ _ (wpAny_newFunctionEnv_cells S.kind kinds fun env he s1 x => ?_))
  subst he
  obtain ⟨t, ht, q⟩ := body cdv A out s H vs Q E (hr.deeper _) (still_deeper hg) hs
  have I : Inv (cxOf CX0 P w K mg base N qual (defScope st) f cdv A out s H E) [] (start N vs) H s1 := inv_start S hr.hd e0 hlen r x
  refine ⟨nol.keeps x.toInCall.keep, codeAny_func (wpAny_mono (ht.nox.run [] s1 (start N vs) H _ I q) (fun fl s' z => ?_) fun e s' z => z)⟩
  cases fl with
  | ret u => exact let ⟨v, _, H', J, rv, y⟩ := z; (⟨v, H', J.os, J.bare, J.base, J.hok, rv, y⟩ : CE out P w H s Q u s')
  | next => exact let ⟨_, H', J, y⟩ := z; (⟨V.non, H', J.os, J.bare, J.base, J.hok, rfl, y⟩ : CE out P w H s Q Value.none s')
  | brk => exact let ⟨_, _, _, y⟩ := z; False.elim y
  | cont => exact let ⟨_, _, _, y⟩ := z; False.elim y
end
section
variable {X : Cx} {CX : CXT} {k : Nat} {f C : Addr} {fd : FuncData} {ps : List Str} {sp : Sp} {dvs : List V} {ds : List Value} {E : XK} {x m : Str} {p pos apos : Pos} {e o : Expr} {es : List Expr} {ta : TE} {t : TA}
theorem run_fnG {pins : List (Addr × Obj)} {σ : L2.St} {H : Hp} {s : Shared} {Q : VK} {us : List Value} {vs : List V} (F : FnG X.prog X.w X.K X.mg X.base CX k f fd ps sp) (hr : Room k X.A) (hg : Still X.A) (hb : Binds X.K fd ps ds) (hd : Vals dvs ds) (hx : Passes CX X E)
    (I : Inv X pins σ H s) (r : Vals vs us) (q : sp (vs ++ dvs) H Q E) : wpAny (model X.prog X.w) X.A (call (.ref f) us) (EP X pins σ Q) X.xe s := by
  have rr : Vals (vs ++ dvs) (us ++ ds) := r.append hd
  have ll : (us ++ ds).length = ps.length := rr.length.symm.trans (F.lenG _ _ _ _ q)
  refine wpAny_call (codeAny_mono (F.runG X.A X.stack s H ⟨us, []⟩ (us ++ ds) (vs ++ dvs) Q E hr hg I.env0 (hb s us I.kIn ll) rr q) fun z s' hz => ?_)
  cases z with
  | error e => exact hx pins σ H s e s' I hz
  | ok fl => cases fl with
    | ret u => exact I.after hz
    | next => exact hz.elim
    | brk => exact hz.elim
    | cont => exact hz.elim
/-- f(e, ..) -/
theorem pe_callG (F : FnG X.prog X.w X.K X.mg X.base CX k f fd ps sp) (hr : Room k X.A) (st : Still X.A) (hg : Gl X x) (hm : X.mg x = some (.ref f)) (hk : PySem.W.keepIn X.K (.ref f) = true) (hb : Binds X.K fd ps ds) (hd : Vals dvs ds) (hx : Passes CX X E)
    (ha : PA X (e :: es) t) (hdb : (x == ("__debug__" : Str)) = false := by decide) (he : starEach (e :: es) X.env = (false, eval e X.env) :: starEach es X.env := by rfl) (hpl : (backTo pos (starEach es X.env)).any (·.1) = false := by rfl) :
    PE X (.Call (.Name x p) (e :: es) [] pos) (tCall sp dvs E t) := by
  refine ⟨fun pins s σ H Q I q => wpAny_Call_Name_kw (ld_glob I hg hm ?_ hdb)⟩
  exact PySem.W.callWith_K (h₀ := X.base) I.ok.mod.kin hk (thn (ha.run pos pins s σ H _ I q) fun us s1 ⟨vs, H1, I1, r, z⟩ => ⟨I1.kIn, run_fnG F hr st hb hd hx I1 r z⟩) he hpl
/-- o.m(e, ..) -/
theorem pe_methG {pl : Sem Bool} (he : PE X o ta) (c : Cls X.K C) (hm : Meth X.K C m f) (F : FnG X.prog X.w X.K X.mg X.base CX k f fd ps sp) (hr : Room k X.A) (st : Still X.A) (hb : Binds X.K fd ps ds) (hd : Vals dvs ds) (hx : Passes CX X E) (ha : PA X (e :: es) t)
    (hst : starEach (e :: es) X.env = (false, eval e X.env) :: starEach es X.env := by rfl) (hpl : (backTo pos (starEach es X.env)).any (·.1) = false := by rfl)
    (ht : eval (.Call (.Attribute o m apos) (e :: es) [] pos) X.env = (do
      let u ← eval o X.env
      standAt apos.atName
      let (g, first) ← holding [u] (getMethod u m pl)
      callWith pos g first (backTo pos (starEach (e :: es) X.env)) (backToKw pos (keywordEach [] X.env))) := by rfl) :
    PE X (.Call (.Attribute o m apos) (e :: es) [] pos) (tMeth C m sp dvs E ta t) := by
  refine ⟨fun pins s σ H Q I q => PySem.W.methodCall_KW (pl := pl) (thn (he.run pins s σ H _ I q) fun u s1 ⟨y, H1, I1, ry, a, dx, fs, ey, ea, l, z⟩ => ?_) ht⟩
  subst ey
  cases ry
  refine getmeth_ok I1 ea c hm l (PySem.W.callWith_K (first := [.ref a]) (h₀ := X.base) I.ok.mod.kin hm.kp (thn (ha.run pos pins s1 σ H1 _ I1 z) fun us s2 ⟨vs, H2, I2, r, y⟩ => ⟨I2.kIn, ?_⟩) hst hpl)
  exact run_fnG (us := .ref a :: us) (vs := .ref a :: vs) F hr st hb hd hx I2 (.cons rfl r) y
/-- repr(x) of data -/
def rRepr (K : PySem.W.Frag) : List V → Hp → VK → Prop := fun xs H Q => ∃ (a : Addr) (d : PyData), xs = [V.ref a] ∧ Dp K H (.ref a) d ∧ d.showable = true ∧ d.hasDict = false ∧ d.depth ≤ 64 ∧ d.shown.length ≤ sizeLine ∧ Q (.str d.shown) H
theorem cr_repr (st : Still X.A) (hu : X.A.units + 70 < cLine) : CallR X (.builtin "repr") (rRepr X.K) := by
  intro pins s σ H xs us Q I r q
  obtain ⟨a, d, rfl, hd, hs, hn, hdp, hz, q⟩ := q
  obtain ⟨u, rfl, ru⟩ := vals1 r
  obtain ⟨as, rd⟩ := Dp.reads I d _ _ hd ru
  cases ru
  exact repr_of_reads' rd hs (PyData.noDict_hsm hn) st (by omega) (fun _ _ e => e) (fun h' u tk hk => ⟨.str d.shown, H, I.kept hk, ⟨u, rfl⟩, q⟩) hz
/-- {x} of data -/
def tFmtD (K : PySem.W.Frag) (te : TE) : TE := fun σ H Q => te σ H fun x H1 => ∃ (a : Addr) (d : PyData), x = .ref a ∧ Dp K H1 (.ref a) d ∧ d.showable = true ∧ d.hasDict = false ∧ d.depth ≤ 64 ∧ d.shown.length ≤ sizeLine ∧ Q (.str d.shown) H1
theorem pe_fmtD {te : TE} (st : Still X.A) (hu : X.A.units + 70 < cLine) (he : PE X e te) : PE X (.FormattedValue e (-1) none pos) (tFmtD X.K te) := by
  refine ⟨fun pins s σ H Q I q => wpAny_FormattedValue_plain (thn (he.run pins s σ H _ I q) fun v s1 ⟨y, H1, I1, r1, a, d, ey, hd, hs, hn, hdp, hz, q⟩ => ?_)⟩
  subst ey
  obtain ⟨as, rd⟩ := Dp.reads I1 d _ _ hd r1
  cases r1
  exact formatField_of_reads rd hs (PyData.noDict_hsm hn) st (by omega) (fun _ _ z => z) (fun h' u tk hk => ⟨.str d.shown, H1, I1.kept hk, ⟨u, rfl⟩, q⟩) hz
/-- str(x) by its own __str__ -/
def rOwnStr (C : Addr) (sp : Sp) (E : XK) : List V → Hp → VK → Prop := fun xs H Q => ∃ a dx fs, xs = [V.ref a] ∧ H a = some (.ins C dx fs) ∧ sp [V.ref a] H (fun v H' => ∃ z, v = .str z ∧ Q (.str z) H') E
theorem cr_ownStr (F : FnG X.prog X.w X.K X.mg X.base CX k f fd ps sp) (hr : Room (k + 2) X.A) (st : Still X.A) (hm : Meth X.K C "__str__" f) (hb : Binds X.K fd ps []) (hx : Passes CX X E) : CallR X (.type "str") (rOwnStr C sp E) := by
  intro pins s σ H xs us Q I r q
  obtain ⟨a, dx, fs, rfl, ha, q⟩ := q
  obtain ⟨u, rfl, ru⟩ := vals1 r
  cases ru
  obtain ⟨mA, J, _⟩ := ins_get I.hok ha
  obtain ⟨od, J, _⟩ := J.look
  have e0 : Env0 X.prog X.w X.K X.mg X.base X.A.in1.in1 X.stack s H := I.env0.in1.in1
  have b := hb s [.ref a] I.kIn (by
    have := F.lenG _ _ _ _ q
    rw [List.append_nil]
    exact this)
  rw [List.append_nil] at b
  have r1 : Vals [V.ref a] [Value.ref a] := .cons (show RelV (V.ref a) (.ref a) from rfl) .nil
  have hun := hr.units
  refine PySem.W.kso_call (by show X.A.units + 1 + 1 < cLine; omega) I.kIn J hm.at_ hm.fn (wpAny_call (codeAny_mono (F.runG X.A.in1.in1 X.stack s H ⟨[.ref a], []⟩ [.ref a] [.ref a] _ E hr.in1.in1 st e0 b r1 q) fun z s' hz => ?_))
  cases z with
  | error e => exact hx pins σ H s e s' I hz
  | ok fl => cases fl with
    | ret u =>
      obtain ⟨v, H', I', rv, y, ev, q'⟩ := I.after hz
      subst ev
      obtain ⟨t, rfl⟩ := rv
      exact ⟨.str y, H', I', ⟨_, rfl⟩, q'⟩
    | next => exact hz.elim
    | brk => exact hz.elim
    | cont => exact hz.elim
end
end Gd

/-! Ge: the end of a law whose def tells data as text. -/
namespace Gd
open PySem PySem.Spec PyProof.Rows L2
theorem law_callG {P : Program} {w : World} {K : PySem.W.Frag} {mg mb : Str → Option Value} {k : Nat} {fa a : Addr} {fd : FuncData} {x : Str} {sp : Sp} {s : Shared} {vs : List Value} {ns : List Int}
    (kin : K.In s.heap) (gm : s.heap.Ns mainGlobals mg) (gb : s.heap.Ns builtinsNs mb) (bb : ∀ y : Str, y ≠ "__name__" → mb y = bootBuiltins y) (lim : s.heap.NoLimit) (gen : s.gens = #[])
    (ha : s.heap.get? a = some { cls := .type "list", data := .seq vs.toArray }) (hi : IntsAre vs ns) (hl : ns.length ≤ sizeLine) (room : Room k callerA)
    (F : ∀ base : Heap, K.In base → base.Ns mainGlobals mg → FnG P w K mg base CX0 k fa fd [x] sp) (bind : ∀ (t : Shared) (u : Value), BindsTo t fd ⟨[u], []⟩ [(x, u)])
    (told : ∀ H : Hp, Only H → SqL K H a (ns.map V.int) → sp [.ref a] H (fun v _ => v = .bl true) fun _ _ _ => False) :
    codeAny (model P w) callerA (.call (.ref fa) ⟨[.ref a], []⟩) (fun r t => r = .ok (.ret (.bool true)) ∧ OldK s.heap t.heap ∧ t.os = s.os ∧ AllBare t.gens) s := by
  have rel := vals_ints hi
  have len := hi.length
  -- H knows of nothing but the script
  have main : ∀ H : Hp, Only H → SqL K H a (ns.map V.int) → HOk P w H s.heap → (∀ b, b ≠ a → H b = none) → (∀ u, H a = some u → K.lookup a = none) →
      codeAny (model P w) callerA (.call (.ref fa) ⟨[.ref a], []⟩) (fun r t => r = .ok (.ret (.bool true)) ∧ OldK s.heap t.heap ∧ t.os = s.os ∧ AllBare t.gens) s := by
    intro H only seq ok none_at free
    have ns_to : ∀ {b : Addr} {m : Str → Option Value}, s.heap.Ns b m → (hidT s.heap H).Ns b m := by
      rintro b m ⟨o, es, ep, e, d, r⟩
      refine ⟨o, es, ep, hidT_get e (none_at b fun z => ?_), d, r⟩
      subst z
      rw [ha] at e
      obtain rfl := Option.some.inj e
      exact absurd (show Data.seq vs.toArray 0 = Data.dict es ep from d) (fun z => nomatch z)
    have kb : K.In (hidT s.heap H) := fun b o e => hidT_get (kin b o e) <| by
      by_cases hb : b = a
      · subst hb
        cases h : H b with
        | none => rfl
        | some u => exact absurd ((free u h).symm.trans e) (fun z => nomatch z)
      · exact none_at b hb
    obtain ⟨mc, l1, l2⟩ := lim
    have env : Env0 P w K mg (hidT s.heap H) callerA [] s H := { frames := rfl, mod := ⟨kb, ns_to gm, ⟨mb, ns_to gb, bb⟩, ⟨mc, ns_to l1, l2⟩⟩, bs := fun _ _ z => of_hidT z, bsz := Nat.le_of_eq (hidT_size _ _), funs := trivial, frf := fun _ z => (nomatch z), hok := ok, bare := .of_eq gen }
    refine codeAny_mono ((F _ kb (ns_to gm)).runG callerA [] s H ⟨[.ref a], []⟩ [.ref a] [.ref a] _ _ room rfl env (bind s (.ref a)) (.cons rfl .nil) (told H only seq)) fun r t h => ?_
    match r, h with
    | .ok (.ret u), ⟨v, H', os, bare, un, ok', ru, q⟩ =>
      have q : v = .bl true := q
      subst q
      have ru : u = Value.bool true := ru
      subst ru
      refine ⟨rfl, OldK.of_keep fun b o e => ?_, os, bare⟩
      rcases only b with h0 | ⟨ob, xs, h1⟩
      · exact un.keep b o e h0 (fun z => nomatch z) (fun z => nomatch z)
      · have a1 := (ok b _ h1).1
        have a2 := (ok' b _ (un.frzs b ob _ h1)).1
        exact a2.trans (a1.symm.trans e)
  cases look : K.lookup a with
  | some o =>
    have e := kin a o look
    rw [ha] at e
    obtain rfl := Option.some.inj e
    refine main (fun _ => none) (fun _ => .inl rfl) (.inr ⟨_, vs.toArray, _, look, rfl, rfl, rfl, by rw [List.size_toArray, len]; exact hl, by simpa using rel⟩) (fun b u z => (nomatch z)) (fun _ _ => rfl) fun u z => (nomatch z)
  | none =>
    let o1 : HO := .frz { cls := .type "list", data := .seq vs.toArray } (.lst (ns.map V.int))
    have at_a : upd (fun _ => none) a o1 a = some o1 := upd_same
    have off : ∀ b, b ≠ a → upd (fun _ => none) a o1 b = none := fun b hb => upd_ne hb
    refine main (upd (fun _ => none) a o1) (fun b => ?_) (.inl (.inr ⟨_, at_a⟩)) (fun b u z => ?_) off fun u _ => look
    · by_cases hb : b = a
      · rw [hb]
        exact .inr ⟨_, _, at_a⟩
      · exact .inl (off b hb)
    · by_cases hb : b = a
      · subst hb
        rw [at_a] at z
        obtain rfl := Option.some.inj z
        exact ⟨ha, by rw [List.length_map]; exact hl, vs, _, rel, ha⟩
      · rw [off b hb] at z
        cases z
theorem walk_ofG {l : PySem.W.OpenLaw} {n k : Nat} {q : Program} {loose : List Str} {XP : (Str → Option Value) → Heap → Prop} {YP : World → Heap → Prop} {d : DefRec} {K : Params → PySem.W.Frag} {sp : World → Sp} {x : Str}
    (most : l.most = some n) (fits : n ≤ sizeLine) (nodef : d.params.defaults = []) (room : Room k callerA) (hY : ∀ (w : World) (h : Heap), YP w h → (K w.params).In h)
    (F : ∀ (w : World) (mg : Str → Option Value) (fa : Addr) (h : Heap), (K w.params).In h → h.Ns mainGlobals mg → mg d.name = some (.ref fa) →
      ∃ fd : FuncData, (∀ (s : Shared) (u : Value), BindsTo s fd ⟨[u], []⟩ [(x, u)]) ∧ ∀ base : Heap, (K w.params).In base → base.Ns mainGlobals mg → FnG l.prog w (K w.params) mg base CX0 k fa fd [x] (sp w))
    (told : ∀ (w : World) (H : Hp) (a : Addr) (ns : List Int), ns.length ≤ n → Only H → SqL (K w.params) H a (ns.map V.int) → sp w [.ref a] H (fun v _ => v = .bl true) fun _ _ _ => False) :
    PySem.W.WalkO q loose XP YP l.row.toRowW d [] (fun f vs => PySem.call f vs) := by
  refine Att.attach_call most nodef fun w s₀ s₁ mg mb fa o pm cd doc a vs ns G Y _ _ _ hmg hobj hints hlen hg => ?_
  have kin := hY w _ Y
  obtain ⟨fd, hb, hF⟩ := F w mg fa _ kin G.T.g hmg
  exact law_callG kin G.T.g G.T.b G.T.builtins G.T.nolimit hg hobj hints (Nat.le_trans hlen fits) room hF hb fun H hO hS => told w H a ns hlen hO hS
end Gd

/-! Oe: x == y by x's own __eq__, y anything that is told here, either answer. -/
namespace Oe
open PySem PySem.Spec PyProof.Rows L2
inductive NF (K : PySem.W.Frag) (C : Addr) (H : Hp) : V → Prop
  | int (i : Int) : PySem.W.notFirst K C (.type "int") = true → NF K C H (.int i)
  | str (z : Str) : PySem.W.notFirst K C (.type "str") = true → NF K C H (.str z)
  | tup {b : Addr} {xs : List V} : H b = some (.tup xs) → PySem.W.notFirst K C (.type "tuple") = true → NF K C H (.ref b)
  | lst {b : Addr} {xs : List V} : H b = some (.lst xs) → PySem.W.notFirst K C (.type "list") = true → NF K C H (.ref b)
  | ins {b dy : Addr} {gs : List (Str × V)} : H b = some (.ins C dy gs) → NF K C H (.ref b)
section
variable {X : Cx} {CX : CXT} {k : Nat} {f C : Addr} {fd : FuncData} {ps : List Str} {sp : Sp} {E : XK}
theorem NF.looks {M : Model} {pins : List (Addr × Obj)} {σ : L2.St} {H : Hp} {s : Shared} {y : V} {u : Value} (I : Inv X pins σ H s) (h : NF X.K C H y) (ru : RelV y u) : ∃ tb, PySem.W.Looks M s.heap (typeOf u) tb ∧ PySem.W.notFirst X.K C tb = true := by
  cases h with
  | int i n =>
    obtain ⟨t, rfl⟩ := ru
    exact ⟨_, PySem.W.Looks.of_pure rfl, n⟩
  | str z n =>
    obtain ⟨t, rfl⟩ := ru
    exact ⟨_, PySem.W.Looks.of_pure rfl, n⟩
  | @tup b xs e n =>
    cases ru
    obtain ⟨_, _, _, o, h1, h2, _⟩ := I.hok b _ e
    exact ⟨_, fun A Q E s k q => wpAny_typeOf_ref (k _ _ h1) (by rw [h2]; exact q), n⟩
  | @lst b xs e n =>
    cases ru
    obtain ⟨_, _, m, _, h1⟩ := I.hok b _ e
    exact ⟨_, fun A Q E s k q => wpAny_typeOf_ref (k _ _ h1) q, n⟩
  | @ins b dy gs e =>
    cases ru
    obtain ⟨mB, J, _⟩ := ins_get I.hok e
    obtain ⟨od, J, _⟩ := J.look
    exact ⟨_, J.type, by simp [PySem.W.notFirst]⟩
def rOwnEq (K : PySem.W.Frag) (C : Addr) (sp : Sp) (E : XK) : R2 := fun x y H Q => ∃ a dx fs, x = .ref a ∧ H a = some (.ins C dx fs) ∧ NF K C H y ∧ sp [x, y] H (fun v H' => ∃ b, v = .bl b ∧ Q (.bl b) H') E
theorem op_ownEq (F : FnOk X.prog X.w X.K X.mg X.base CX k f fd ps sp) (hr : Room k X.A) (hm : Meth X.K C "__eq__" f) (hb : Binds X.K fd ps []) (hx : Passes CX X E) : OpR X (compareOp .Eq) (rOwnEq X.K C sp E) := by
  intro pins s σ H x y v u Q I rx ry h
  obtain ⟨a, dx, fs, rfl, ha, nf, q⟩ := h
  have r2 : Vals [V.ref a, y] [v, u] := .cons rx (.cons ry .nil)
  cases rx
  obtain ⟨mA, J, _⟩ := ins_get I.hok ha
  obtain ⟨od, J, _⟩ := J.look
  obtain ⟨m, hF⟩ := I.fr
  obtain ⟨tb, lk, nn⟩ := nf.looks (M := model X.prog X.w) I ry
  have un := hr.units
  show wpAny (model X.prog X.w) X.A (richCompare .Eq (.ref a) u) (EP X pins σ Q) X.xe s
  refine PySem.W.cmp_K (op := .Eq) (tb := tb) (by omega) hF I.ok.mod.kin J lk nn hm.at_ hm.fn ?_
  refine wpAny_mono (run_fn F hr hb .nil hx I r2 q) (fun z s' ⟨v', H', I', rz, b, ev, q'⟩ => ?_) fun _ _ z => z
  subst ev
  cases rz
  exact ⟨.bl b, H', I', rfl, q'⟩
theorem c_ownEq {K : PySem.W.Frag} {a dx : Addr} {fs : List (Str × V)} {y : V} {H : Hp} {Q : VK} (ha : H a = some (.ins C dx fs)) (n : NF K C H y) (q : sp [.ref a, y] H (fun v H' => ∃ b, v = .bl b ∧ Q (.bl b) H') E) : rOwnEq K C sp E (.ref a) y H Q := ⟨a, dx, fs, rfl, ha, n, q⟩
end
end Oe

/-! Fs: a form as a text: the pieces and their lengths. -/
namespace Fs
open PySem L2 Sm
abbrev tI (i : Int) : Str := Str.ofString (toString i)
theorem tI_len {i : Int} (h : i.natAbs < 1000000000) : (Str.ofString (toString i)).length ≤ 10 := by

  rw [ofString_length]
  exact int_text_length_le10 (k := 9) (by decide) h
theorem log_small {i : Int} (h : i.natAbs < 1000000000) : i.natAbs.log2 < 1920 := by
  by_cases z : i.natAbs = 0
  · rw [z]
    decide
  · refine (Nat.log2_lt z).mpr (Nat.lt_of_lt_of_le h ?_)
    exact Nat.le_trans (show (1000000000 : Nat) ≤ 2 ^ 30 by decide) (Nat.pow_le_pow_right (by decide) (by decide))
def tupS (k : List Int) : Str := tupleText (k.map tI)
def signS (z : Int) : Str := if decide (z < 0) = true then "-" else "+"
def partS (k : List Int) (z : Int) : Str := Str.empty ++ (" " : Str) ++ signS z ++ (" " : Str) ++ tI (if z < 0 then -z else z) ++ (" * " : Str) ++ tupS k
def shownS (st : Int) (ks : List (List Int)) (f : List Int → Int) : Str := ks.foldl (fun a k => a ++ partS k (f k)) (tI st)
def small (k : List Int) : Prop := k.length = 3 ∧ ∀ x ∈ k, x.natAbs < 1000000000
theorem small_of {k : List Int} (h : Sort3 k) : small k := ⟨h.1, fun x hx => by
  have := h.2 x hx
  omega⟩
theorem sum_le {α : Type} (f : α → Nat) (c : Nat) : ∀ {l : List α}, (∀ x ∈ l, f x ≤ c) → (l.map f).sum ≤ c * l.length
  | [], _ => Nat.le_refl _
  | x :: l, h => by
    rw [List.map_cons, List.sum_cons, List.length_cons, Nat.mul_succ]
    have := h x List.mem_cons_self
    have := sum_le f c (l := l) fun y hy => h y (List.mem_cons_of_mem _ hy)
    omega
theorem tupS_len {k : List Int} (h : small k) : (tupS k).length ≤ 39 := by
  unfold tupS
  have := tupleText_len_le (k.map tI)
  rw [List.length_map, List.map_map, h.1] at this
  have h2 := sum_le ((fun x : Str => x.length) ∘ tI) 10 (l := k) fun x hx => tI_len (h.2 x hx)
  rw [h.1] at h2
  exact Nat.le_trans this (Nat.add_le_add (Nat.add_le_add h2 (Nat.le_refl _)) (Nat.le_refl _))
theorem sp1 : ((" " : Str)).length = 1 := by decide +kernel
theorem sp3 : ((" * " : Str)).length = 3 := by decide +kernel
theorem emp0 : Str.empty.length = 0 := by decide +kernel
theorem sg1 (z : Int) : (signS z).length = 1 := by
  unfold signS
  split <;> decide +kernel
theorem partS_len {k : List Int} {z : Int} (h : small k) (hz : z.natAbs < 1000000000) : (partS k z).length ≤ 60 := by
  unfold partS
  unfold tI
  rw [strLen_append, strLen_append, strLen_append, strLen_append, strLen_append, strLen_append, sp1, sp3, emp0, sg1]
  have := tupS_len h
  have := tI_len (i := if z < 0 then -z else z) (by split <;> omega)
  omega
theorem fold_len {f : List Int → Int} : ∀ {ks : List (List Int)} {a : Str}, (∀ k ∈ ks, small k ∧ (f k).natAbs < 1000000000) → (ks.foldl (fun a k => a ++ partS k (f k)) a).length ≤ a.length + 60 * ks.length
  | [], _, _ => Nat.le_refl _
  | k :: ks, a, h => by
    have h1 := h k List.mem_cons_self
    have h2 := partS_len h1.1 h1.2
    have h3 := fold_len (ks := ks) (a := a ++ partS k (f k)) fun y hy => h y (List.mem_cons_of_mem _ hy)
    rw [List.foldl_cons, List.length_cons]
    rw [strLen_append] at h3
    omega
theorem shownS_len {st : Int} {ks : List (List Int)} {f : List Int → Int} (hs : st.natAbs < 1000000000) (h : ∀ k ∈ ks, small k ∧ (f k).natAbs < 1000000000) : (shownS st ks f).length ≤ 10 + 60 * ks.length := by
  have := fold_len (a := tI st) h
  have := tI_len hs
  unfold shownS
  unfold tI at *
  omega
theorem shownS_snoc (st : Int) (ks : List (List Int)) (k : List Int) (f : List Int → Int) : shownS st (ks ++ [k]) f = shownS st ks f ++ partS k (f k) := by
  unfold shownS
  rw [List.foldl_append]
  rfl
theorem tl_fold (f : List Int → Int) : ∀ (ks : List (List Int)) (a : Str), TL.tl (ks.foldl (fun a k => a ++ partS k (f k)) a) = TL.tl a ++ (ks.map fun k => TL.tl (partS k (f k))).flatten
  | [], a => by rw [List.map_nil, List.flatten_nil, List.append_nil]; rfl
  | k :: ks, a => by rw [List.foldl_cons, tl_fold f ks, TL.tl_append, List.map_cons, List.flatten_cons, List.append_assoc]
theorem joinL_nil : ∀ l : List (List Nat), TL.joinL [] l = l.flatten
  | [] => rfl
  | [p] => by rw [List.flatten_cons, List.flatten_nil, List.append_nil]; rfl
  | p :: q :: r => by
    show p ++ ([] ++ TL.joinL [] (q :: r)) = _
    rw [joinL_nil (q :: r), List.flatten_cons]
    rfl
theorem join_shown (st : Int) (ks : List (List Int)) (f : List Int → Int) : Txt.join ("" : Str) (tI st :: ks.map fun k => partS k (f k)) = shownS st ks f := by
  refine TL.ext_tl ?_
  unfold shownS
  rw [TL.join_eq, TL.tl_join, show TL.tl ("" : Str) = [] by decide +kernel, joinL_nil, tl_fold, List.map_cons, List.flatten_cons, List.map_map]
  rfl
/-- what the law adds for one sort -/
def stepS (a : Str) (k : List Int) (z : Int) : Str := a ++ (if decide (z < 0) = true then (" - " : Str) else (" + " : Str)) ++ tI (if z < 0 then -z else z) ++ (" * " : Str)
def tailS (b : Str) (k : List Int) : Str := b ++ ("(" : Str) ++ Txt.join (", " : Str) (k.map tI) ++ (")" : Str)
theorem tail_part (a : Str) {k : List Int} (z : Int) (h : k.length = 3) : tailS (stepS a k z) k = a ++ partS k z := by
  refine TL.ext_tl ?_
  unfold tailS stepS partS tupS tupleText signS
  rw [List.length_map, h, show ((3 : Nat) == 1) = false from rfl, if_neg Bool.false_ne_true, TL.join_eq]
  simp only [TL.tl_append]
  rw [show TL.tl Str.empty = [] by decide +kernel]
  by_cases hz : z < 0
  · simp only [if_pos hz, decide_eq_true hz, if_true]
    rw [show TL.tl (" - " : Str) = TL.tl (" " : Str) ++ (TL.tl ("-" : Str) ++ TL.tl (" " : Str)) by decide +kernel]
    simp only [List.append_assoc, List.nil_append]
  · simp only [if_neg hz, decide_eq_false hz, if_neg Bool.false_ne_true]
    rw [show TL.tl (" + " : Str) = TL.tl (" " : Str) ++ (TL.tl ("+" : Str) ++ TL.tl (" " : Str)) by decide +kernel]
    simp only [List.append_assoc, List.nil_append]
theorem shown_all (k : List Int) : (PyData.tuple (k.map .int)).shown = tupS k := by
  have : ∀ l : List Int, PyData.shownAll (l.map .int) = l.map tI := by
    intro l
    induction l with
    | nil => simp only [List.map_nil, PyData.shownAll]
    | cons x l ih =>
      simp only [List.map_cons, PyData.shownAll, PyData.shown, ih]
  simp only [PyData.shown, this]
  rfl
theorem showable_all {k : List Int} (h : small k) : (PyData.tuple (k.map .int)).showable = true := by
  have : ∀ l : List Int, (∀ x ∈ l, x.natAbs < 1000000000) → PyData.showableAll (l.map .int) = true := by
    intro l
    induction l with
    | nil => exact fun _ => by simp only [List.map_nil, PyData.showableAll]
    | cons x l ih =>
      intro h
      rw [List.map_cons]
      simp only [PyData.showableAll]
      rw [ih fun y hy => h y (List.mem_cons_of_mem _ hy), Bool.and_true]
      simp only [PyData.showable]
      exact decide_eq_true (log_small (h x List.mem_cons_self))
  simp only [PyData.showable]
  exact this k h.2
theorem nodict_all (k : List Int) : (PyData.tuple (k.map .int)).hasDict = false := by
  have : ∀ l : List Int, PyData.hasDictAll (l.map .int) = false := by
    intro l
    induction l with
    | nil => simp only [List.map_nil, PyData.hasDictAll]
    | cons x l ih => simp only [List.map_cons, PyData.hasDictAll, PyData.hasDict, ih, Bool.or_self]
  simp only [PyData.hasDict]
  exact this k
theorem depth_all (k : List Int) : (PyData.tuple (k.map .int)).depth ≤ 64 := by
  have : ∀ l : List Int, PyData.depthAll (l.map .int) = 0 := by
    intro l
    induction l with
    | nil => simp only [List.map_nil, PyData.depthAll]
    | cons x l ih => simp only [List.map_cons, PyData.depthAll, PyData.depth, ih, Nat.max_self]
  simp only [PyData.depth, this]
  exact (by decide : 0 + 1 ≤ 64)
theorem dp_all {K : PySem.W.Frag} {H : Hp} {b : Addr} {k : List Int} (h : H b = some (.tup (k.map V.int))) : Dp K H (.ref b) (.tuple (k.map .int)) := by
  have : ∀ l : List Int, DpAll K H (l.map V.int) (l.map .int) := by
    intro l
    induction l with
    | nil => exact .nil
    | cons x l ih => exact .cons (.int x) ih
  exact .tup (SqT.of h) (this k)
end Fs

/-! Es: backward steps of the readings of texts. -/
namespace Es
open PySem L2
section
variable {σ : L2.St} {H : Hp} {Q : VK} {ts : List TE} {acc y : Str} {K : PySem.W.Frag} {te to : TE}
def jsL (ts : List TE) (acc : Str) (σ : L2.St) (R : Str → Hp → Prop) : VK := fun x H1 => ∃ y : Str, x = .str y ∧ (acc ++ y).length ≤ sizeLine ∧ tJs ts (acc ++ y) σ H1 R
theorem js_nil {R : Str → Hp → Prop} (q : R acc H) : tJs [] acc σ H R := q
theorem js_cons {t : TE} {R : Str → Hp → Prop} (h : t σ H (jsL ts acc σ R)) : tJs (t :: ts) acc σ H R := h
theorem js_leaf {R : Str → Hp → Prop} (hz : (acc ++ y).length ≤ sizeLine) (q : tJs ts (acc ++ y) σ H R) : jsL ts acc σ R (.str y) H := ⟨y, rfl, hz, q⟩
def fmL (Q : VK) : VK := fun x H1 => (∃ y : Str, x = .str y ∧ y.length ≤ sizeLine ∧ Q (.str y) H1) ∨ ∃ i : Int, x = .int i ∧ i.natAbs.log2 < 1920 ∧ Q (.str (toString i)) H1
theorem w_fmt (h : te σ H (fmL Q)) : tFmt te σ H Q := h
theorem fm_str (hz : y.length ≤ sizeLine) (q : Q (.str y) H) : fmL Q (.str y) H := .inl ⟨y, rfl, hz, q⟩
theorem fm_int {i : Int} (hz : i.natAbs.log2 < 1920) (q : Q (.str (Str.ofString (toString i))) H) : fmL Q (.int i) H := .inr ⟨i, rfl, hz, q⟩
def fdL (K : PySem.W.Frag) (Q : VK) : VK := fun x H1 => ∃ (a : Addr) (d : PyData), x = .ref a ∧ Dp K H1 (.ref a) d ∧ d.showable = true ∧ d.hasDict = false ∧ d.depth ≤ 64 ∧ d.shown.length ≤ sizeLine ∧ Q (.str d.shown) H1
theorem w_fmtD (h : te σ H (fdL K Q)) : Gd.tFmtD K te σ H Q := h
def jnL (K : PySem.W.Frag) (y : Str) (Q : VK) : VK := fun x H => ∃ a p, ∃ ys : List Str, V.str y = .str a ∧ [x] = [.ref p] ∧ (SqL K H p (ys.map V.str) ∨ SqT K H p (ys.map V.str)) ∧ (ys.map (·.length)).sum + ys.length * a.length ≤ 16777216 ∧ Q (.str (Txt.join a ys)) H
/-- 'sep'.join(xs) -/
theorem w_join (h : te σ H (jnL K y Q)) : tM1 (fun x xs H Q => ∃ a p, ∃ ys : List Str, x = .str a ∧ xs = [.ref p] ∧ (SqL K H p (ys.map V.str) ∨ SqT K H p (ys.map V.str)) ∧ (ys.map (·.length)).sum + ys.length * a.length ≤ 16777216 ∧ Q (.str (Txt.join a ys)) H) (tC (.str y)) te σ H Q := ⟨⟨_, rfl⟩, h⟩
theorem jn_leaf {a : Str} {p : Addr} {ys : List Str} (hs : SqL K H p (ys.map V.str) ∨ SqT K H p (ys.map V.str)) (hz : (ys.map (·.length)).sum + ys.length * a.length ≤ 16777216) (q : Q (.str (Txt.join a ys)) H) : jnL K a Q (.ref p) H := ⟨a, p, ys, rfl, rfl, hs, hz, q⟩
def rAddS : R2 := fun x y H Q => ∃ i j, x = .str i ∧ y = .str j ∧ i.length + j.length ≤ sizeLine ∧ Q (.str (i ++ j)) H
theorem op_addS {X : Cx} : OpR X (binaryOp .Add) rAddS := op_add_str
theorem c_addS {i j : Str} (hz : i.length + j.length ≤ sizeLine) (q : Q (.str (i ++ j)) H) : rAddS (.str i) (.str j) H Q := ⟨i, j, rfl, rfl, hz, q⟩
def rStrI : List V → Hp → VK → Prop := fun xs H Q => ∃ i, xs = [V.int i] ∧ i.natAbs.log2 < 1920 ∧ Q (.str (toString i)) H
theorem cr_strI {X : Cx} : CallR X (.type "str") rStrI := call_str_int
theorem c_strI {i : Int} (hz : i.natAbs.log2 < 1920) (q : Q (.str (Str.ofString (toString i))) H) : rStrI [.int i] H Q := ⟨i, rfl, hz, q⟩
/-- 'a' if t else 'b' -/
theorem w_ifSS {t : TT} {a b : Str} (h : t σ H fun c H1 => Q (.str (if c = true then a else b)) H1) : tIf t (tC (.str a)) (tC (.str b)) σ H Q := by
  have e : (fun (c : Bool) (H1 : Hp) => Q (.str (if c = true then a else b)) H1) = fun c H1 => if c = true then tC (.str a) σ H1 Q else tC (.str b) σ H1 Q := by
    funext c H1
    cases c <;> rfl
  rw [e] at h
  exact h
end
/-- [F z for z in xs], xs a list of things alike -/
theorem map_list {α : Type} {K : PySem.W.Frag} {σ : L2.St} {H : Hp} {a : Addr} {xs : List α} {j : Nat} {ti te : TE} {G F : α → V} {Q : VK} (ha : SqL K H a (xs.map G)) (hsz : xs.length < 100000)
    (hi : ∀ R : VK, R (.ref a) H → ti σ H R) (keep : ∀ H', Same H H' → SqL K H' a (xs.map G))
    (elt : ∀ (H' : Hp) (z : α) (R : VK), Same H H' → z ∈ xs → R (F z) H' → te ((wipe σ [j]).set j (some (G z))) H' R)
    (done : ∀ (D : Addr) (H' : Hp), H D = none → Same H H' → H' D = some (.lst (xs.map F)) → Q (.ref D) H') : tLc (iList K ti) (gName j) tYes te [j] σ H Q := by
  refine Eg.w_lc (Eg.w_iL (hi _ (Eg.c_iL ha ?_)))
  intro D hD
  refine lc_list (xs := xs.map G) (fun n H' => Same H H' ∧ H' D = some (.lst ((xs.take n).map F))) ⟨Eg.same_new (Same.refl _) hD, upd_same⟩ (fun n H' _ h => keep _ h.1) ?_ ?_
  · rintro n x H1 hx ⟨s1, h2⟩
    rw [List.getElem?_map] at hx
    obtain ⟨z, hz, rfl⟩ := Option.map_eq_some_iff.mp hx
    obtain ⟨hlt, he⟩ := List.getElem?_eq_some_iff.mp hz
    refine Eg.w_gN (Eg.w_wipe ?_ (Eg.w_yes (iteT (elt H1 z _ s1 (List.mem_of_getElem? hz) ⟨_, h2, ?_, Eg.same_mut s1 hD, ?_⟩))))
    · show (((σ.set j none).set j (some (G z))).set j none) = σ.set j none
      rw [List.set_set, List.set_set]
    · rw [List.length_map, List.length_take, sizeLine_eq]
      omega
    · rw [upd_same, List.take_succ_eq_append_getElem hlt, he]
      simp
  · rintro H1 ⟨s1, h2⟩
    rw [List.length_map, List.take_length] at h2
    exact done D H1 hD s1 h2
/-- [F z for z in xs], xs a tuple of things alike -/
theorem map_tup {α : Type} {K : PySem.W.Frag} {σ : L2.St} {H : Hp} {a : Addr} {xs : List α} {j : Nat} {ti te : TE} {G F : α → V} {Q : VK} (ha : SqT K H a (xs.map G)) (hsz : xs.length < 100000)
    (hi : ∀ R : VK, R (.ref a) H → ti σ H R) (keep : ∀ H', Same H H' → SqT K H' a (xs.map G))
    (elt : ∀ (H' : Hp) (z : α) (R : VK), Same H H' → z ∈ xs → R (F z) H' → te ((wipe σ [j]).set j (some (G z))) H' R)
    (done : ∀ (D : Addr) (H' : Hp), H D = none → Same H H' → H' D = some (.lst (xs.map F)) → Q (.ref D) H') : tLc (iTup K ti) (gName j) tYes te [j] σ H Q := by
  refine Eg.w_lc (Eg.w_iT (hi _ (Eg.c_iT ha ?_)))
  intro D hD
  refine lc_tup (xs := xs.map G) (fun n H' => Same H H' ∧ H' D = some (.lst ((xs.take n).map F))) ⟨Eg.same_new (Same.refl _) hD, upd_same⟩ (fun n H' _ h => keep _ h.1) ?_ ?_
  · rintro n x H1 hx ⟨s1, h2⟩
    rw [List.getElem?_map] at hx
    obtain ⟨z, hz, rfl⟩ := Option.map_eq_some_iff.mp hx
    obtain ⟨hlt, he⟩ := List.getElem?_eq_some_iff.mp hz
    refine Eg.w_gN (Eg.w_wipe ?_ (Eg.w_yes (iteT (elt H1 z _ s1 (List.mem_of_getElem? hz) ⟨_, h2, ?_, Eg.same_mut s1 hD, ?_⟩))))
    · show (((σ.set j none).set j (some (G z))).set j none) = σ.set j none
      rw [List.set_set, List.set_set]
    · rw [List.length_map, List.length_take, sizeLine_eq]
      omega
    · rw [upd_same, List.take_succ_eq_append_getElem hlt, he]
      simp
  · rintro H1 ⟨s1, h2⟩
    rw [List.length_map, List.take_length] at h2
    exact done D H1 hD s1 h2
end Es

/-! Tx: texts with holes, plainly: lists of code points, words, counts, labels, tokens, parts. -/
namespace Tx
open PySem PySem.Builtin PySem.Builtin.Str L2 SX
/-! ### single signs, slices, find -/
theorem tlS (l : List Nat) : (S l).cps.toList = l := rfl
theorem S_eq {a b : List Nat} : (S a = S b) = (a = b) := propext ⟨S_inj, fun e => by rw [e]⟩
theorem str_eqS {a b : List Nat} : decide (V.str (S a) = V.str (S b)) = decide (a = b) := by
  by_cases e : a = b
  · subst e; simp
  · rw [decide_eq_false e, decide_eq_false (fun h => e (S_inj (V.str.inj h)))]
theorem one_lt (c d : Nat) : ([c] < [d]) = (c < d) := by
  apply propext
  constructor
  · intro h
    cases h with
    | rel h => exact h
    | cons h => cases h
  · intro h
    exact List.Lex.rel h
theorem slice_mid (p q r : List Nat) {i j : Int} (hi : i = (p.length : Int)) (hj : j = ((p.length + q.length : Nat) : Int)) : Txt.slice (S (p ++ (q ++ r))) (some i) (some j) = S q := by
  have hl : (S (p ++ (q ++ r))).length = p.length + (q.length + r.length) := by rw [S_len, List.length_append, List.length_append]
  have e := beq_iff_eq.mp (PyProof.Rows.slice_closesL (x := S (p ++ (q ++ r))) (i := i) (j := j) (by omega) (by omega) (by omega))
  refine e.trans (TL.ext_tl ?_)
  show ((p ++ (q ++ r)).drop i.toNat).take (j - i).toNat = q
  rw [show i.toNat = p.length by omega, List.drop_left, show (j - i).toNat = q.length by omega, List.take_left]
theorem getD_S (l : List Nat) (i : Nat) : (S l).cps.getD i 0 = l.getD i 0 := by
  show (l.toArray).getD i 0 = l.getD i 0
  rw [List.getD_eq_getElem?_getD]
  unfold Array.getD
  split
  · rename_i h
    have h : i < l.length := by simpa using h
    rw [List.getElem?_eq_getElem h]
    rfl
  · rename_i h
    have h : ¬ i < l.length := by simpa using h
    rw [List.getElem?_eq_none (by omega)]
    rfl
/-- where the next c stands -/
theorem find_mid (p q r : List Nat) (c : Nat) {i : Int} (hi : i = (p.length : Int)) (hq : c ∉ q) : Txt.find3 (S (p ++ (q ++ c :: r))) (S [c]) i = ((p.length + q.length : Nat) : Int) := by
  have hl : (S (p ++ (q ++ c :: r))).length = p.length + (q.length + (r.length + 1)) := by rw [S_len, List.length_append, List.length_append, List.length_cons]
  have hf : fromIndex (S (p ++ (q ++ c :: r))).length i = p.length := by
    subst hi
    show (max 0 (if ((p.length : Nat) : Int) < 0 then ((p.length : Nat) : Int) + _ else ((p.length : Nat) : Int))).toNat = p.length
    rw [if_neg (by omega)]
    omega
  have at_ : (S (p ++ (q ++ c :: r))).cps.getD (p.length + q.length) 0 = c := by
    rw [getD_S, ← List.append_assoc, List.getD_eq_getElem?_getD, List.getElem?_append_right (by rw [List.length_append]; omega), List.length_append, Nat.sub_self]
    rfl
  have ne_ : ∀ v, p.length ≤ v → v < p.length + q.length → (S (p ++ (q ++ c :: r))).cps.getD v 0 ≠ c := fun v h1 h2 => by
    rw [getD_S, List.getD_eq_getElem?_getD, List.getElem?_append_right h1, List.getElem?_append_left (by omega)]
    rw [List.getElem?_eq_getElem (by omega)]
    intro e
    exact hq (by rw [← show q[v - p.length]'(by omega) = c from e]; exact List.getElem_mem _)
  rcases StrLaws.find3_spec (S (p ++ (q ++ c :: r))) c i with ⟨_, hn⟩ | ⟨k, hk, h1, h2, h3, h4⟩
  · rw [hf, hl] at hn
    exact absurd at_ (hn _ (by omega) (by omega))
  · rw [hf] at h1 h4
    have : k = p.length + q.length := by
      rcases Nat.lt_trichotomy k (p.length + q.length) with h | h | h
      · exact absurd h3 (ne_ k h1 h)
      · exact h
      · exact absurd at_ (h4 _ (by omega) h)
    rw [← this]
    exact hk
/-! ### words, counts, labels -/
def low (c : Nat) : Bool := decide (97 ≤ c) && decide (c ≤ 122)
def dig (c : Nat) : Bool := decide (48 ≤ c) && decide (c ≤ 57)
def wordB (l : List Nat) : Bool := decide (1 ≤ l.length) && decide (l.length ≤ 8) && l.all low
def countB (l : List Nat) : Bool := decide (1 ≤ l.length) && decide (l.length ≤ 6) && !(decide (l.head? = some 48) && decide (l ≠ [48])) && l.all dig
def stem (l : List Nat) : List Nat := (l.reverse.dropWhile dig).reverse
def labelB (l : List Nat) : Bool := wordB (stem l) && (decide (stem l = l) || countB (l.drop (stem l).length))
def litB (c : Nat) : Bool := decide (32 ≤ c) && decide (c ≤ 126) && decide (c ≠ 37) && decide (c ≠ 123) && decide (c ≠ 125)
def digits10 : List Nat := [48, 49, 50, 51, 52, 53, 54, 55, 56, 57]
theorem digits10_S : ("0123456789" : Str) = S digits10 := by decide +kernel
theorem mem_digits10 (c : Nat) : decide (c ∈ digits10) = dig c := by
  unfold digits10 dig
  rw [← Bool.decide_and]
  refine decide_eq_decide.mpr ?_
  simp only [List.mem_cons, List.not_mem_nil, or_false]
  omega
theorem contains_digits (c : Nat) : (S digits10).cps.contains c = dig c := by
  rw [← mem_digits10]
  show digits10.toArray.contains c = _
  rw [List.contains_toArray, List.contains_eq_mem]
theorem stem_app (l : List Nat) : ∃ d, l = stem l ++ d ∧ d.all dig = true := by
  refine ⟨(l.reverse.takeWhile dig).reverse, ?_, ?_⟩
  · unfold stem
    rw [← List.reverse_append, List.takeWhile_append_dropWhile, List.reverse_reverse]
  · rw [List.all_reverse, List.all_eq_true]
    exact fun x hx => List.all_eq_true.mp (List.all_takeWhile (p := dig) (l := l.reverse)) x hx
theorem rstrip_digits (l : List Nat) : Txt.rstripChars (S l) (S digits10) = S (stem l) := by
  have e0 : (fun c => (S digits10).cps.contains c) = dig := funext contains_digits
  have lo0 : stripLo (S digits10).cps.contains false (S l) = 0 := rfl
  have hlen : (S l).length = l.length := S_len l
  have tw : (l.reverse.takeWhile dig).length + (stem l).length = l.length := by
    unfold stem
    rw [List.length_reverse, ← List.length_append, List.takeWhile_append_dropWhile, List.length_reverse]
  have hi0 : stripHi (S digits10).cps.contains true (S l) 0 = (stem l).length := by
    show (S l).length - ((l.drop 0).reverse.takeWhile (S digits10).cps.contains).length = _
    rw [List.drop_zero, hlen, show (S digits10).cps.contains = dig from e0]
    omega
  unfold Txt.rstripChars Txt.stripBy stripSame
  rw [lo0, hi0]
  obtain ⟨d, hd, _⟩ := stem_app l
  split
  · rename_i h
    have h2 : (stem l).length = l.length := by
      rw [hlen] at h
      simpa using h
    have : d = [] := by
      have := congrArg List.length hd
      rw [List.length_append] at this
      exact List.eq_nil_of_length_eq_zero (by omega)
    rw [this, List.append_nil] at hd
    rw [← hd]
  · unfold stripped
    rw [lo0, hi0]
    refine TL.ext_tl ?_
    rw [TL.tl_strSub]
    show (l.drop 0).take ((stem l).length - 0) = stem l
    rw [List.drop_zero, Nat.sub_zero]
    have : (stem l ++ d).take (stem l).length = stem l := List.take_left
    rw [← hd] at this
    exact this
theorem stem_of {w d : List Nat} (hw : ∀ c, w.getLast? = some c → dig c = false) (hd : d.all dig = true) : stem (w ++ d) = w := by
  unfold stem
  rw [List.reverse_append, List.dropWhile_append_of_pos (fun x hx => List.all_eq_true.mp hd x (List.mem_reverse.mp hx))]
  have : w.reverse.dropWhile dig = w.reverse := by
    cases h : w.reverse with
    | nil => rfl
    | cons c r =>
      have hc : w.getLast? = some c := by
        rw [← List.head?_reverse, h]
        rfl
      rw [List.dropWhile_cons, if_neg (by rw [hw c hc]; exact Bool.false_ne_true)]
  rw [this, List.reverse_reverse]
theorem low_nodig {c : Nat} (h : low c = true) : dig c = false := by
  unfold low at h
  unfold dig
  rw [Bool.and_eq_true, decide_eq_true_eq, decide_eq_true_eq] at h
  rw [← Bool.decide_and]
  exact decide_eq_false (by omega)
/-- a word with a number, or with none, is a label -/
theorem label_of {w d : List Nat} (hw : wordB w = true) (hd : d = [] ∨ countB d = true) : labelB (w ++ d) = true := by
  have hl : w.all low = true := by
    unfold wordB at hw
    rw [Bool.and_eq_true] at hw
    exact hw.2
  have hdd : d.all dig = true := by
    rcases hd with rfl | h
    · rfl
    · unfold countB at h
      rw [Bool.and_eq_true] at h
      exact h.2
  have e := stem_of (w := w) (d := d) (fun c hc => low_nodig (List.all_eq_true.mp hl c (List.mem_of_getLast? hc))) hdd
  unfold labelB
  rw [e, hw, Bool.true_and, List.drop_left]
  rcases hd with rfl | h
  · rw [List.append_nil, decide_eq_true rfl, Bool.true_or]
  · rw [h, Bool.or_true]
theorem count_num {n : Nat} (h : n < 1000000) : countB (TL.numL n) = true := by
  have hl := TL.numL_len (n := n) (k := 6) (by decide) h
  have hne := TL.numL_ne n
  have h1 : 1 ≤ (TL.numL n).length := List.length_pos_iff.mpr hne
  have hd : (TL.numL n).all dig = true := List.all_eq_true.mpr fun c hc => by
    have := TL.numL_digits n c hc
    unfold dig
    rw [← Bool.decide_and]
    exact decide_eq_true this
  have h0 : (decide ((TL.numL n).head? = some 48) && decide (TL.numL n ≠ [48])) = false := by
    by_cases z : n = 0
    · subst z
      decide +kernel
    · have : (TL.numL n).head? ≠ some 48 := by
        clear hl hne h1 hd h
        induction n using Nat.strongRecOn with
        | _ n ih =>
          by_cases h : n < 10
          · rw [TL.numL_lt h]
            intro e
            have := Option.some.inj e
            omega
          · rw [TL.numL_step (by omega), List.head?_append]
            have hh := ih (n / 10) (by omega) (by omega)
            cases e : (TL.numL (n / 10)).head? with
            | none =>
              rw [List.head?_eq_none_iff] at e
              exact absurd e (TL.numL_ne _)
            | some c =>
              rw [e] at hh
              exact hh
      rw [decide_eq_false this, Bool.false_and]
  unfold countB
  rw [decide_eq_true h1, decide_eq_true hl, h0, hd]
  rfl
/-! ### tokens and parts -/
inductive Tk | ch (c : Nat) | ho (k : List Nat)
  deriving DecidableEq
def flat : List Tk → List Nat
  | [] => []
  | .ch c :: r => c :: flat r
  | .ho k :: r => 123 :: (k ++ 125 :: flat r)
theorem flat_app : ∀ a b : List Tk, flat (a ++ b) = flat a ++ flat b
  | [], _ => rfl
  | .ch c :: r, b => by show c :: flat (r ++ b) = c :: (flat r ++ flat b); rw [flat_app r b]
  | .ho k :: r, b => by show 123 :: (k ++ 125 :: flat (r ++ b)) = 123 :: (k ++ 125 :: flat r) ++ flat b; rw [flat_app r b]; simp
/-- a part: a literal, or something else that is told by its tag -/
inductive Pc | say (l : List Nat) | oth (tag : Str) (xs : List V)
def Pc.vs : Pc → List V
  | .say l => [.str "say", .str (S l)]
  | .oth t xs => .str t :: xs
def Pc.ok : Pc → Prop
  | .say _ => True
  | .oth t xs => t ≠ "say" ∧ 1 ≤ xs.length ∧ xs.length ≤ 5
def hole (k : List Nat) : Pc := .oth "hole" [.str (S k)]
/-- the parts as they are read -/
def raw : List Nat → List Tk → List Pc
  | cur, [] => [.say cur]
  | cur, .ch c :: r => raw (cur ++ [c]) r
  | cur, .ho k :: r => .say cur :: hole k :: raw [] r
/-- one part more -/
def put (acc : List Pc) : Pc → List Pc
  | .oth t xs => acc ++ [.oth t xs]
  | .say l => if l = [] then acc else match acc.getLast? with
    | some (.say m) => acc.dropLast ++ [.say (m ++ l)]
    | _ => acc ++ [.say l]
def merge (ps : List Pc) : List Pc := ps.foldl put []
/-- parts in the heap -/
def PcsAt (H : Hp) : List V → List Pc → Prop := Paired fun v p => ∃ t, v = .ref t ∧ H t = some (.tup p.vs)
theorem PcsAt.same {H H' : Hp} (e : ∀ b ys, H b = some (.tup ys) → H' b = some (.tup ys)) {xs : List V} {ps : List Pc} (h : PcsAt H xs ps) : PcsAt H' xs ps :=
  Paired.mapP h fun _ _ ⟨t, a, b⟩ => ⟨t, a, e _ _ b⟩
theorem PcsAt.get {H : Hp} {xs : List V} {ps : List Pc} (h : PcsAt H xs ps) {i : Nat} {x : V} (hx : xs[i]? = some x) : ∃ p t, ps[i]? = some p ∧ x = .ref t ∧ H t = some (.tup p.vs) := by
  induction h generalizing i with
  | nil => simp at hx
  | @cons a b as bs hab r ih =>
    cases i with
    | zero =>
      obtain ⟨t, e1, e2⟩ := hab
      have e : a = x := Option.some.inj hx
      exact ⟨b, t, rfl, by rw [← e, e1], e2⟩
    | succ i => exact ih hx
theorem PcsAt.app {H : Hp} {xs ys : List V} {ps qs : List Pc} (h : PcsAt H xs ps) (h' : PcsAt H ys qs) : PcsAt H (xs ++ ys) (ps ++ qs) := by
  induction h with
  | nil => exact h'
  | cons hab r ih => exact .cons hab ih
theorem PcsAt.len {H : Hp} {xs : List V} {ps : List Pc} (h : PcsAt H xs ps) : xs.length = ps.length := Paired.length h
theorem PcsAt.one {H : Hp} {t : Addr} {p : Pc} (h : H t = some (.tup p.vs)) : PcsAt H [.ref t] [p] := .cons ⟨t, rfl, h⟩ .nil
theorem PcsAt.dropLast {H : Hp} {xs : List V} {ps : List Pc} (h : PcsAt H xs ps) : PcsAt H xs.dropLast ps.dropLast := by
  induction h with
  | nil => exact .nil
  | @cons a b as bs hab r ih =>
    cases r with
    | nil => exact .nil
    | cons h2 r2 => exact .cons hab ih
theorem merge_snoc (ps : List Pc) (p : Pc) : merge (ps ++ [p]) = put (merge ps) p := by
  unfold merge
  rw [List.foldl_append]
  rfl
/-! sizes -/
def szP : Pc → Nat | .say l => l.length | .oth _ _ => 0
def sz (ps : List Pc) : Nat := (ps.map szP).sum
theorem sz_app (a b : List Pc) : sz (a ++ b) = sz a + sz b := by
  unfold sz
  rw [List.map_append, List.sum_append]
theorem sz_one (p : Pc) : sz [p] = szP p := by
  unfold sz
  rw [List.map_cons, List.map_nil, List.sum_cons, List.sum_nil, Nat.add_zero]
theorem last_split {α : Type} {l : List α} {x : α} (h : l.getLast? = some x) : l = l.dropLast ++ [x] := by
  rcases List.eq_nil_or_concat l with rfl | ⟨r, y, rfl⟩
  · cases h
  · rw [List.concat_eq_append] at h ⊢
    rw [List.getLast?_append] at h
    have : y = x := Option.some.inj h
    rw [this, List.dropLast_append_of_ne_nil (by simp)]
    simp
theorem put_say_emp (acc : List Pc) : put acc (.say []) = acc := rfl
theorem put_say_say {acc : List Pc} {m l : List Nat} (hl : l ≠ []) (h : acc.getLast? = some (.say m)) : put acc (.say l) = acc.dropLast ++ [.say (m ++ l)] := by
  unfold put
  dsimp only
  rw [if_neg hl, h]
theorem put_say_new {acc : List Pc} {l : List Nat} (hl : l ≠ []) (h : ∀ m, acc.getLast? ≠ some (.say m)) : put acc (.say l) = acc ++ [.say l] := by
  unfold put
  dsimp only
  rw [if_neg hl]
  split
  · rename_i m e
    exact absurd e (h m)
  · rfl
theorem put_cases (acc : List Pc) (p : Pc) : (p = .say [] ∧ put acc p = acc) ∨ (∃ m l, l ≠ [] ∧ p = .say l ∧ acc.getLast? = some (.say m) ∧ put acc p = acc.dropLast ++ [.say (m ++ l)]) ∨ (p ≠ .say [] ∧ put acc p = acc ++ [p]) := by
  cases p with
  | oth t xs => exact .inr (.inr ⟨(fun z => nomatch z), rfl⟩)
  | say l =>
    by_cases hl : l = []
    · subst hl
      exact .inl ⟨rfl, rfl⟩
    · cases h : acc.getLast? with
      | none => exact .inr (.inr ⟨(fun z => hl (Pc.say.inj z)), put_say_new hl (by rw [h]; exact fun _ z => nomatch z)⟩)
      | some q =>
        cases q with
        | say m => exact .inr (.inl ⟨m, l, hl, rfl, rfl, put_say_say hl h⟩)
        | oth t xs => exact .inr (.inr ⟨(fun z => hl (Pc.say.inj z)), put_say_new hl (by rw [h]; exact fun _ z => nomatch z)⟩)
theorem sz_put (acc : List Pc) (p : Pc) : sz (put acc p) = sz acc + szP p := by
  rcases put_cases acc p with ⟨rfl, h⟩ | ⟨m, l, _, rfl, h1, h⟩ | ⟨_, h⟩
  · rw [h]
    rfl
  · rw [h, sz_app, sz_one]
    have e := congrArg sz (last_split h1)
    rw [sz_app, sz_one] at e
    rw [e]
    show _ + (m ++ l).length = _ + m.length + l.length
    rw [List.length_append]
    omega
  · rw [h, sz_app, sz_one]
theorem put_len (acc : List Pc) (p : Pc) : (put acc p).length ≤ acc.length + 1 := by
  rcases put_cases acc p with ⟨rfl, h⟩ | ⟨m, l, _, rfl, h1, h⟩ | ⟨_, h⟩
  · rw [h]
    omega
  · rw [h, List.length_append, List.length_dropLast]
    show acc.length - 1 + 1 ≤ _
    omega
  · rw [h, List.length_append]
    exact Nat.le_refl _
theorem merge_len (ps : List Pc) : (merge ps).length ≤ ps.length := by
  unfold merge
  have : ∀ (qs acc : List Pc), (qs.foldl put acc).length ≤ acc.length + qs.length := by
    intro qs
    induction qs with
    | nil => exact fun acc => Nat.le_refl _
    | cons q r ih =>
      intro acc
      have h1 := ih (put acc q)
      have h2 := put_len acc q
      rw [List.foldl_cons, List.length_cons]
      omega
  have := this ps []
  simpa using this
theorem sz_merge (ps : List Pc) : sz (merge ps) = sz ps := by
  unfold merge
  have : ∀ (qs acc : List Pc), sz (qs.foldl put acc) = sz acc + sz qs := by
    intro qs
    induction qs with
    | nil => exact fun acc => rfl
    | cons q r ih =>
      intro acc
      rw [List.foldl_cons, ih, sz_put, show q :: r = [q] ++ r from rfl, sz_app, sz_one]
      omega
  rw [this]
  show 0 + sz ps = sz ps
  omega
theorem sz_take (ps : List Pc) (i : Nat) : sz (ps.take i) ≤ sz ps := by
  have := congrArg sz (List.take_append_drop i ps)
  rw [sz_app] at this
  omega
theorem sz_get {ps : List Pc} {i : Nat} {p : Pc} (h : ps[i]? = some p) : sz (ps.take i) + szP p ≤ sz ps := by
  obtain ⟨hlt, he⟩ := List.getElem?_eq_some_iff.mp h
  have := sz_take ps (i + 1)
  rw [List.take_succ_eq_append_getElem hlt, he, sz_app, sz_one] at this
  exact this
theorem sz_last {ps : List Pc} {p : Pc} (h : ps.getLast? = some p) : szP p ≤ sz ps := by
  have e := congrArg sz (last_split h)
  rw [sz_app, sz_one] at e
  omega
theorem put_ok {acc : List Pc} {p : Pc} (ha : ∀ q ∈ acc, q.ok) (hp : p.ok) : ∀ q ∈ put acc p, q.ok := by
  rcases put_cases acc p with ⟨rfl, h⟩ | ⟨m, l, _, rfl, h1, h⟩ | ⟨_, h⟩
  · rw [h]
    exact ha
  · rw [h]
    intro q hq
    rcases List.mem_append.mp hq with hq | hq
    · exact ha q ((List.dropLast_sublist acc).subset hq)
    · rw [List.mem_singleton.mp hq]
      trivial
  · rw [h]
    intro q hq
    rcases List.mem_append.mp hq with hq | hq
    · exact ha q hq
    · rw [List.mem_singleton.mp hq]
      exact hp
theorem merge_ok {ps : List Pc} (h : ∀ q ∈ ps, q.ok) : ∀ q ∈ merge ps, q.ok := by
  unfold merge
  have : ∀ (qs acc : List Pc), (∀ q ∈ acc, q.ok) → (∀ q ∈ qs, q.ok) → ∀ q ∈ qs.foldl put acc, q.ok := by
    intro qs
    induction qs with
    | nil => exact fun acc h _ => h
    | cons q r ih => exact fun acc h1 h2 => ih _ (put_ok h1 (h2 q List.mem_cons_self)) fun x hx => h2 x (List.mem_cons_of_mem _ hx)
  exact this ps [] (fun _ z => nomatch z) h
theorem hole_ok (k : List Nat) : (hole k).ok := ⟨by decide +kernel, Nat.le_refl _, Nat.le_of_ble_eq_true rfl⟩
theorem raw_ok : ∀ (ts : List Tk) (cur : List Nat), ∀ q ∈ raw cur ts, q.ok
  | [], cur, q, h => by rw [List.mem_singleton.mp h]; trivial
  | .ch c :: r, cur, q, h => raw_ok r _ q h
  | .ho k :: r, cur, q, h => by
    rcases List.mem_cons.mp h with rfl | h
    · trivial
    · rcases List.mem_cons.mp h with rfl | h
      · exact hole_ok k
      · exact raw_ok r _ q h
theorem raw_len : ∀ (ts : List Tk) (cur : List Nat), (raw cur ts).length ≤ 2 * ts.length + 1
  | [], cur => Nat.le_refl _
  | .ch c :: r, cur => by
    have := raw_len r (cur ++ [c])
    show (raw (cur ++ [c]) r).length ≤ _
    rw [List.length_cons]
    omega
  | .ho k :: r, cur => by
    have := raw_len r []
    show (raw [] r).length + 1 + 1 ≤ _
    rw [List.length_cons]
    omega
theorem raw_sz : ∀ (ts : List Tk) (cur : List Nat), sz (raw cur ts) ≤ cur.length + (flat ts).length
  | [], cur => by
    show sz [.say cur] ≤ _
    rw [sz_one]
    exact Nat.le_add_right _ _
  | .ch c :: r, cur => by
    have := raw_sz r (cur ++ [c])
    rw [List.length_append] at this
    show sz (raw (cur ++ [c]) r) ≤ cur.length + ((flat r).length + 1)
    have e : [c].length = 1 := rfl
    omega
  | .ho k :: r, cur => by
    have := raw_sz r []
    show sz ([.say cur] ++ ([hole k] ++ raw [] r)) ≤ cur.length + (123 :: (k ++ 125 :: flat r)).length
    rw [sz_app, sz_app, sz_one, sz_one, List.length_cons, List.length_append, List.length_cons]
    show cur.length + (0 + sz (raw [] r)) ≤ _
    have e : ([] : List Nat).length = 0 := rfl
    omega
theorem flat_len : ∀ ts : List Tk, ts.length ≤ (flat ts).length
  | [] => Nat.le_refl _
  | .ch c :: r => by
    have := flat_len r
    show r.length + 1 ≤ (flat r).length + 1
    omega
  | .ho k :: r => by
    have := flat_len r
    show r.length + 1 ≤ (123 :: (k ++ 125 :: flat r)).length
    rw [List.length_cons, List.length_append, List.length_cons]
    omega
/-! the end of a list -/
theorem atI_last {α : Type} {xs : List α} {x : α} (h : xs.getLast? = some x) : atI xs (-1) = some x := by
  have e := last_split h
  have hl : 0 < xs.length := by
    cases xs with
    | nil => cases h
    | cons a r => simp
  have h2 : xs[xs.length - 1]? = some x := by rw [← List.getLast?_eq_getElem?]; exact h
  unfold atI
  have hix : ixN xs.length (-1) = some (xs.length - 1) := by
    unfold ixN
    rw [if_neg (by decide), if_pos (by omega)]
    congr 1
    omega
  rw [hix]
  exact h2
theorem ixN_last {n : Nat} (h : 0 < n) : ixN n (-1) = some (n - 1) := by
  unfold ixN
  rw [if_neg (by decide), if_pos (by omega)]
  congr 1
  omega
theorem atI_hd {α : Type} {x : α} {xs : List α} : atI (x :: xs) 0 = some x := atI_nat (j := 0) rfl
theorem atI_hd1 {α : Type} {x y : α} {xs : List α} : atI (x :: y :: xs) 1 = some y := atI_nat (j := 1) rfl
theorem set_last {α : Type} {xs : List α} {y : α} (h : xs ≠ []) : xs.set (xs.length - 1) y = xs.dropLast ++ [y] := by
  rcases List.eq_nil_or_concat xs with rfl | ⟨r, z, rfl⟩
  · exact absurd rfl h
  · rw [List.concat_eq_append, List.length_append, List.dropLast_append_of_ne_nil (by simp)]
    show (r ++ [z]).set (r.length + 1 - 1) y = _
    rw [Nat.add_sub_cancel, List.set_append_right _ _ (Nat.le_refl _), Nat.sub_self]
    simp
theorem PcsAt.last {H : Hp} {xs : List V} {ps : List Pc} (h : PcsAt H xs ps) {p : Pc} (hp : ps.getLast? = some p) : ∃ t, xs.getLast? = some (.ref t) ∧ H t = some (.tup p.vs) := by
  rw [List.getLast?_eq_getElem?] at hp
  have hl := h.len
  have hx : ps.length - 1 < xs.length := by
    have := (List.getElem?_eq_some_iff.mp hp).1
    omega
  obtain ⟨q, t, h1, h2, h3⟩ := h.get (List.getElem?_eq_getElem hx)
  rw [hp] at h1
  cases h1
  exact ⟨t, by rw [List.getLast?_eq_getElem?, hl, List.getElem?_eq_getElem hx, h2], h3⟩
end Tx

/-! Tc: the cells of a query: literals and holes with a key. -/
namespace Tc
open PySem L2 SX Tx
abbrev Cl := Sum (List Nat) Key
instance : LawfulBEq (Sum Int Str) where
  eq_of_beq {a b} h := by
    cases a with
    | inl i =>
      cases b with
      | inl j => exact congrArg Sum.inl (eq_of_beq (show (i == j) = true from h))
      | inr t => cases h
    | inr x =>
      cases b with
      | inl j => cases h
      | inr y => exact congrArg Sum.inr (eq_of_beq (show (x == y) = true from h))
  rfl {a} := by
    cases a with
    | inl i => exact beq_self_eq_true i
    | inr x => exact beq_self_eq_true x
def pc : Cl → Pc
  | .inl l => .say l
  | .inr k => .oth "hole" [kV k]
theorem pc_ok (c : Cl) : (pc c).ok := by
  cases c with
  | inl l => trivial
  | inr k => exact ⟨by decide +kernel, Nat.le_refl _, Nat.le_of_ble_eq_true rfl⟩
def putC (acc : List Cl) : Cl → List Cl
  | .inr k => acc ++ [.inr k]
  | .inl l => if l = [] then acc else match acc.getLast? with
    | some (.inl m) => acc.dropLast ++ [.inl (m ++ l)]
    | _ => acc ++ [.inl l]
def mergeC (cs : List Cl) : List Cl := cs.foldl putC []
theorem put_map (acc : List Cl) (c : Cl) : put (acc.map pc) (pc c) = (putC acc c).map pc := by
  cases c with
  | inr k =>
    show acc.map pc ++ [pc (.inr k)] = (acc ++ [(Sum.inr k : Cl)]).map pc
    rw [List.map_append]
    rfl
  | inl l =>
    unfold putC
    by_cases hl : l = []
    · subst hl
      rfl
    · dsimp only
      rw [if_neg hl]
      cases h : acc.getLast? with
      | none =>
        have : acc = [] := List.getLast?_eq_none_iff.mp h
        subst this
        exact put_say_new hl (fun _ z => nomatch z)
      | some x =>
        have hm : (acc.map pc).getLast? = some (pc x) := by rw [List.getLast?_map, h]; rfl
        cases x with
        | inl m =>
          refine (put_say_say hl hm).trans ?_
          rw [List.map_append, List.map_dropLast]
          rfl
        | inr k =>
          refine (put_say_new hl (fun m z => ?_)).trans ?_
          · rw [hm] at z
            cases z
          · rw [List.map_append]
            rfl
theorem merge_map (cs : List Cl) : merge (cs.map pc) = (mergeC cs).map pc := by
  unfold merge mergeC
  have : ∀ (cs acc : List Cl), (cs.map pc).foldl put (acc.map pc) = (cs.foldl putC acc).map pc := by
    intro cs
    induction cs with
    | nil => exact fun _ => rfl
    | cons c r ih =>
      intro acc
      rw [List.map_cons, List.foldl_cons, List.foldl_cons, put_map, ih]
  exact this cs []
def rawC : List Nat → List Tk → List Cl
  | cur, [] => [.inl cur]
  | cur, .ch c :: r => rawC (cur ++ [c]) r
  | cur, .ho k :: r => .inl cur :: .inr (.inr (S k)) :: rawC [] r
theorem raw_map : ∀ (ts : List Tk) (cur : List Nat), raw cur ts = (rawC cur ts).map pc
  | [], cur => rfl
  | .ch c :: r, cur => raw_map r _
  | .ho k :: r, cur => by
    show Pc.say cur :: hole k :: raw [] r = pc (.inl cur) :: pc (.inr (.inr (S k))) :: (rawC [] r).map pc
    rw [raw_map r []]
    rfl
/-- the cells that are read -/
def read (ts : List Tk) : List Cl := mergeC (rawC [] ts)
theorem read_map (ts : List Tk) : merge (raw [] ts) = (read ts).map pc := by rw [raw_map, merge_map]; rfl
/-- the keys of the holes -/
def keys (cs : List Cl) : List Key := cs.filterMap fun | .inl _ => none | .inr k => some k
theorem keys_app (a b : List Cl) : keys (a ++ b) = keys a ++ keys b := List.filterMap_append
theorem keys_putC (acc : List Cl) (c : Cl) : keys (putC acc c) = keys acc ++ keys [c] := by
  cases c with
  | inr k => exact keys_app _ _
  | inl l =>
    unfold putC
    dsimp only
    by_cases hl : l = []
    · rw [if_pos hl]
      exact (List.append_nil _).symm
    · rw [if_neg hl]
      cases h : acc.getLast? with
      | none => exact keys_app _ _
      | some x =>
        cases x with
        | inr k => exact keys_app _ _
        | inl m =>
          have e := congrArg keys (last_split h)
          rw [keys_app] at e
          show keys (acc.dropLast ++ [.inl (m ++ l)]) = _
          rw [keys_app, e, List.append_assoc]
          rfl
theorem keys_merge (cs : List Cl) : keys (mergeC cs) = keys cs := by
  unfold mergeC
  have : ∀ (cs acc : List Cl), keys (cs.foldl putC acc) = keys acc ++ keys cs := by
    intro cs
    induction cs with
    | nil => exact fun _ => (List.append_nil _).symm
    | cons c r ih =>
      intro acc
      rw [List.foldl_cons, ih, keys_putC, show c :: r = [c] ++ r from rfl, keys_app, List.append_assoc]
  rw [this]
  rfl
/-- the keys of a text's holes, as they stand -/
def holes (ts : List Tk) : List (List Nat) := ts.filterMap fun | .ch _ => none | .ho k => some k
theorem holes_app (a b : List Tk) : holes (a ++ b) = holes a ++ holes b := List.filterMap_append
theorem keys_raw : ∀ (ts : List Tk) (cur : List Nat), keys (rawC cur ts) = (holes ts).map fun k => .inr (S k)
  | [], cur => rfl
  | .ch c :: r, cur => keys_raw r _
  | .ho k :: r, cur => by
    show .inr (S k) :: keys (rawC [] r) = _
    rw [keys_raw r []]
    rfl
theorem keys_read (ts : List Tk) : keys (read ts) = (holes ts).map fun k => .inr (S k) := by
  unfold read
  rw [keys_merge, keys_raw]
theorem keys_sub {cs : List Cl} {k : Key} (h : .inr k ∈ cs) : k ∈ keys cs := List.mem_filterMap.mpr ⟨_, h, rfl⟩
/-! keys by manners -/
def toI : Key → Int
  | .inl i => i
  | .inr s => (intText? s).getD 0
/-- one cell keyed, n holes stand ahead of it -/
def key1 (m : Str) (n : Nat) : Cl → Cl
  | .inl l => .inl l
  | .inr k => .inr (if m = "name" then k else if m = "number" then .inl (toI k) else .inl (n : Int))
def keyC (m : Str) : Nat → List Cl → List Cl
  | _, [] => []
  | n, c :: r => key1 m n c :: keyC m (n + (keys [c]).length) r
theorem keyC_snoc (m : Str) : ∀ (cs : List Cl) (n : Nat) (c : Cl), keyC m n (cs ++ [c]) = keyC m n cs ++ [key1 m (n + (keys cs).length) c]
  | [], n, c => rfl
  | d :: r, n, c => by
    show key1 m n d :: keyC m _ (r ++ [c]) = key1 m n d :: keyC m _ r ++ [_]
    rw [keyC_snoc m r, show d :: r = [d] ++ r from rfl, keys_app, List.length_append, Nat.add_assoc]
    rfl
theorem keyC_len (m : Str) : ∀ (cs : List Cl) (n : Nat), (keyC m n cs).length = cs.length
  | [], _ => rfl
  | c :: r, n => by
    show (keyC m _ r).length + 1 = r.length + 1
    rw [keyC_len m r]
theorem keys_name : ∀ (cs : List Cl) (n : Nat), keyC "name" n cs = cs
  | [], _ => rfl
  | c :: r, n => by
    show key1 "name" n c :: keyC "name" _ r = c :: r
    rw [keys_name r]
    cases c <;> rfl
theorem keys_number {m : Str} (h1 : m ≠ "name") (h2 : m = "number") : ∀ (cs : List Cl) (n : Nat), keys (keyC m n cs) = (keys cs).map fun k => .inl (toI k)
  | [], _ => rfl
  | c :: r, n => by
    show keys ([key1 m n c] ++ keyC m _ r) = (keys ([c] ++ r)).map _
    rw [keys_app, keys_app, keys_number h1 h2 r, List.map_append]
    cases c with
    | inl l => rfl
    | inr k =>
      show [(if m = "name" then k else if m = "number" then .inl (toI k) else .inl (n : Int) : Key)] ++ _ = _
      rw [if_neg h1, if_pos h2]
      rfl
theorem keys_order {m : Str} (h1 : m ≠ "name") (h2 : m ≠ "number") : ∀ (cs : List Cl) (n : Nat), keys (keyC m n cs) = (List.range (keys cs).length).map fun i => (.inl ((n + i : Nat) : Int) : Key)
  | [], _ => rfl
  | c :: r, n => by
    show keys ([key1 m n c] ++ keyC m _ r) = (List.range (keys ([c] ++ r)).length).map _
    rw [keys_app, keys_app, keys_order h1 h2 r, List.length_append]
    cases c with
    | inl l =>
      show [] ++ (List.range (keys r).length).map (fun i => (Sum.inl ((n + 0 + i : Nat) : Int) : Key)) = (List.range (0 + (keys r).length)).map _
      rw [Nat.zero_add, List.nil_append]
      rfl
    | inr k =>
      show [(if m = "name" then k else if m = "number" then .inl (toI k) else .inl (n : Int) : Key)] ++ (List.range (keys r).length).map (fun i => (Sum.inl ((n + 1 + i : Nat) : Int) : Key)) = (List.range (1 + (keys r).length)).map _
      rw [if_neg h1, if_neg h2, Nat.add_comm 1, List.range_succ_eq_map, List.map_cons, List.map_map, List.cons_append, List.nil_append, Nat.add_zero]
      congr 1
      refine List.map_congr_left fun i _ => ?_
      show (Sum.inl ((n + 1 + i : Nat) : Int) : Key) = Sum.inl ((n + (i + 1) : Nat) : Int)
      rw [show n + 1 + i = n + (i + 1) by omega]
/-! each once -/
def add1 (acc : List Key) (k : Key) : List Key := if k ∈ acc then acc else acc ++ [k]
def uniq (ks : List Key) : List Key := ks.foldl add1 []
theorem uniq_snoc (ks : List Key) (k : Key) : uniq (ks ++ [k]) = add1 (uniq ks) k := by
  unfold uniq
  rw [List.foldl_append]
  rfl
theorem add1_mem {acc : List Key} {k x : Key} : x ∈ add1 acc k ↔ x ∈ acc ∨ x = k := by
  unfold add1
  split
  · rename_i h
    exact ⟨.inl, fun z => z.elim id fun e => e ▸ h⟩
  · rw [List.mem_append, List.mem_singleton]
theorem uniq_mem {ks : List Key} {x : Key} : x ∈ uniq ks ↔ x ∈ ks := by
  unfold uniq
  have : ∀ (ks acc : List Key), x ∈ ks.foldl add1 acc ↔ x ∈ acc ∨ x ∈ ks := by
    intro ks
    induction ks with
    | nil => exact fun acc => by simp
    | cons k r ih =>
      intro acc
      rw [List.foldl_cons, ih, add1_mem, List.mem_cons, or_assoc]
  rw [this]
  simp
theorem uniq_len (ks : List Key) : (uniq ks).length ≤ ks.length := by
  unfold uniq
  have : ∀ (ks acc : List Key), (ks.foldl add1 acc).length ≤ acc.length + ks.length := by
    intro ks
    induction ks with
    | nil => exact fun acc => Nat.le_refl _
    | cons k r ih =>
      intro acc
      have h1 := ih (add1 acc k)
      have h2 : (add1 acc k).length ≤ acc.length + 1 := by
        unfold add1
        split
        · omega
        · rw [List.length_append]
          exact Nat.le_refl _
      rw [List.foldl_cons, List.length_cons]
      omega
  have := this ks []
  simpa using this
theorem uniq_nodup (ks : List Key) : (uniq ks).Nodup := by
  unfold uniq
  have : ∀ (ks acc : List Key), acc.Nodup → (ks.foldl add1 acc).Nodup := by
    intro ks
    induction ks with
    | nil => exact fun acc h => h
    | cons k r ih =>
      intro acc h
      refine ih _ ?_
      unfold add1
      split
      · exact h
      · rename_i hk
        exact List.nodup_append.mpr ⟨h, (List.nodup_cons.mpr ⟨List.not_mem_nil, List.nodup_nil⟩), fun a ha b hb z => hk (by rw [List.mem_singleton] at hb; rw [← hb, ← z]; exact ha)⟩
  exact this ks [] List.nodup_nil
/-! keys as values -/
theorem eqV_kV (a b : Key) : eqV (kV a) (kV b) = decide (a = b) := by
  cases a with
  | inl i =>
    cases b with
    | inl j =>
      show (i == j) = _
      by_cases e : i = j
      · subst e; simp
      · rw [decide_eq_false (fun z => e (Sum.inl.inj z))]
        simpa using e
    | inr t =>
      rw [decide_eq_false (fun z => nomatch z)]
      rfl
  | inr s =>
    cases b with
    | inl j =>
      rw [decide_eq_false (fun z => nomatch z)]
      rfl
    | inr t =>
      show (s == t) = _
      by_cases e : s = t
      · subst e; simp
      · rw [decide_eq_false (fun z => e (Sum.inr.inj z))]
        simpa using e
theorem flat_kV (k : Key) : flatV (kV k) = true := by cases k <;> rfl
theorem inV_kV (k : Key) (ks : List Key) : inV (kV k) (ks.map kV) = decide (k ∈ ks) := by
  unfold inV
  induction ks with
  | nil => rfl
  | cons x r ih =>
    rw [List.map_cons, List.any_cons, ih, eqV_kV]
    by_cases e : x = k
    · subst e
      simp
    · rw [decide_eq_false e, Bool.false_or]
      exact decide_eq_decide.mpr (by rw [List.mem_cons]; exact ⟨.inr, fun z => z.resolve_left fun z => e z.symm⟩)
theorem all_flat (ks : List Key) : (ks.map kV).all flatV = true := List.all_eq_true.mpr fun x hx => by
  obtain ⟨k, _, rfl⟩ := List.mem_map.mp hx
  exact flat_kV k
theorem kV_inj {a b : Key} (h : kV a = kV b) : a = b := by
  cases a <;> cases b <;> first | (cases h; rfl) | cases h
/-! cells with their addresses -/
def isHole : Cl → Bool | .inl _ => false | .inr _ => true
def keyV : Cl → V | .inl _ => .non | .inr k => kV k
theorem pcs_pairs {H : Hp} : ∀ {cs : List Cl} {ys : List V}, PcsAt H ys (cs.map pc) → ∃ L : List (Addr × Cl), ys = L.map (fun q => V.ref q.1) ∧ L.map (·.2) = cs ∧ ∀ q ∈ L, H q.1 = some (.tup (pc q.2).vs)
  | [], ys, h => by
    cases h
    exact ⟨[], rfl, rfl, fun _ z => nomatch z⟩
  | c :: cs, ys, h => by
    cases h with
    | cons hab r =>
      obtain ⟨t, e1, e2⟩ := hab
      obtain ⟨L, h1, h2, h3⟩ := pcs_pairs r
      refine ⟨(t, c) :: L, by rw [e1, h1]; rfl, by rw [← h2]; rfl, fun q hq => ?_⟩
      rcases List.mem_cons.mp hq with rfl | hq
      · exact e2
      · exact h3 q hq
theorem filt_keys : ∀ L : List (Addr × Cl), (L.filter fun q => isHole q.2).map (fun q => keyV q.2) = (keys (L.map (·.2))).map kV
  | [] => rfl
  | (t, .inl l) :: L => filt_keys L
  | (t, .inr k) :: L => by
    show kV k :: (L.filter fun q => isHole q.2).map (fun q => keyV q.2) = kV k :: (keys (L.map (·.2))).map kV
    rw [filt_keys L]
theorem read_len (ts : List Tk) : (read ts).length ≤ 2 * ts.length + 1 := by
  have := merge_len (raw [] ts)
  rw [read_map, List.length_map] at this
  exact Nat.le_trans this (raw_len ts [])
end Tc

/-! Tw: readings for texts: dead statements, constants of the module, walks over a text, steps. -/
namespace Tw
open PySem PySem.Spec PyProof.Rows L2 SX Tx
section
variable {X : Cx}
theorem ps_dead {st : Stmt} : PS X st (fun _ _ _ => False) := ⟨fun _ _ _ _ _ _ h => h.elim⟩
theorem pe_dead {e : Expr} : PE X e (fun _ _ _ => False) := ⟨fun _ _ _ _ _ _ h => h.elim⟩
theorem pt_dead {e : Expr} : PT X e (fun _ _ _ => False) := ⟨fun _ _ _ _ _ _ h => h.elim⟩
theorem pe_globS {x : Str} {v : V} {pos : Pos} (hg : Gl X x) (hm : ∃ u, X.mg x = some u ∧ RelV v u) (hd : (x == ("__debug__" : Str)) = false := by decide) : PE X (.Name x pos) (tC v) := by
  obtain ⟨u, h, r⟩ := hm
  exact pe_glob hg h r hd
def rLenS : List V → Hp → VK → Prop := fun xs H Q => ∃ z, xs = [V.str z] ∧ z.length ≤ sizeLine ∧ Q (.int z.length) H
theorem cr_lenS : CallR X (.builtin "len") rLenS := call_len_str
def rOrd : List V → Hp → VK → Prop := fun xs H Q => ∃ x : Str, xs = [V.str x] ∧ x.length = 1 ∧ Q (.int (x.cps.getD 0 0 : Nat)) H
theorem cr_ord : CallR X (.builtin "ord") rOrd := call_ord
def rLeS : R2 := fun x y H Q => ∃ i j : Str, x = .str i ∧ y = .str j ∧ Q (.bl (!decide (j.cps.toList < i.cps.toList))) H
theorem op_leS : OpR X (compareOp .LtE) rLeS := op_le_str
def rInS : R2 := fun x y H Q => ∃ i j : Str, x = .str i ∧ y = .str j ∧ Q (.bl (!(Builtin.Str.occurrences j i 0 j.length 1).isEmpty)) H
theorem op_inS : OpR X (compareOp .In) rInS := op_in_str
def rNotInS : R2 := fun x y H Q => ∃ i j : Str, x = .str i ∧ y = .str j ∧ Q (.bl (!(!(Builtin.Str.occurrences j i 0 j.length 1).isEmpty))) H
theorem op_notInS : OpR X (compareOp .NotIn) rNotInS := op_notIn_str
def rRs : V → List V → Hp → VK → Prop := fun x xs H Q => ∃ a b : Str, x = .str a ∧ xs = [.str b] ∧ a.length ≤ sizeLine ∧ Q (.str (Txt.rstripChars a b)) H
theorem mt_rs : MtR X "str.rstrip" rRs := mt_rstripChars
def rF3 : V → List V → Hp → VK → Prop := fun x xs H Q => ∃ (a b : Str) (i : Int), x = .str a ∧ xs = [.str b, .int i] ∧ Q (.int (Txt.find3 a b i)) H
theorem mt_f3 : MtR X "str.find" rF3 := mt_find3
end
section
variable {σ σ' : L2.St} {H H' : Hp} {Q : VK} {K : PySem.W.Frag} {p : Addr} {te : TE} {l m a b : List Nat} {c d : Nat}
theorem len_ok (h : l.length < 100000) : (S l).length ≤ sizeLine := by
  rw [S_len, sizeLine_eq]
  omega
theorem c_lenS (h : l.length < 100000) (q : Q (.int (l.length : Nat)) H) : rLenS [.str (S l)] H Q := ⟨_, rfl, len_ok h, by rw [S_len]; exact q⟩
theorem c_ord (q : Q (.int (c : Nat)) H) : rOrd [.str (S [c])] H Q := ⟨_, rfl, rfl, q⟩
theorem c_ord' (q : Q (.int (c : Nat)) H) : rOrd [.str ⟨#[c]⟩] H Q := ⟨_, rfl, rfl, q⟩
theorem le_one (c d : Nat) : (!decide ((S [d]).cps.toList < (S [c]).cps.toList)) = decide (c ≤ d) := by
  have e : decide ((S [d]).cps.toList < (S [c]).cps.toList) = decide (d < c) := decide_eq_decide.mpr (iff_of_eq (one_lt d c))
  rw [e, ← decide_not]
  exact decide_eq_decide.mpr Nat.not_lt
theorem c_leS (q : Q (.bl (decide (c ≤ d))) H) : rLeS (.str (S [c])) (.str (S [d])) H Q := ⟨_, _, rfl, rfl, by rw [le_one]; exact q⟩
theorem c_inS (q : Q (.bl (decide (c ∈ l))) H) : rInS (.str (S [c])) (.str (S l)) H Q := ⟨_, _, rfl, rfl, by rw [in_one]; exact q⟩
theorem c_notInS (q : Q (.bl (!decide (c ∈ l))) H) : rNotInS (.str (S [c])) (.str (S l)) H Q := ⟨_, _, rfl, rfl, by rw [in_one]; exact q⟩
theorem c_leA (q : Q (.bl (decide (97 ≤ d))) H) : rLeS (.str "a") (.str (S [d])) H Q := by
  rw [show ("a" : Str) = S [97] by decide +kernel]
  exact c_leS q
theorem c_leZ (q : Q (.bl (decide (c ≤ 122))) H) : rLeS (.str (S [c])) (.str "z") H Q := by
  rw [show ("z" : Str) = S [122] by decide +kernel]
  exact c_leS q
theorem c_inDig (q : Q (.bl (dig c)) H) : rInS (.str (S [c])) (.str "0123456789") H Q := by
  rw [digits10_S]
  refine c_inS ?_
  rw [mem_digits10]
  exact q
theorem c_notInBr (q : Q (.bl (!decide (c = 123 ∨ c = 125))) H) : rNotInS (.str (S [c])) (.str "{}") H Q := by
  rw [show ("{}" : Str) = S [123, 125] by decide +kernel]
  refine c_notInS ?_
  rw [show decide (c ∈ [123, 125]) = decide (c = 123 ∨ c = 125) from decide_eq_decide.mpr (by simp)]
  exact q
theorem c_all {bs : List Bool} (h : H p = some (.lst (bs.map V.bl))) (q : Q (.bl (bs.all id)) H) : rAll K [V.ref p] H Q := ⟨p, bs, rfl, SqL.of h, q⟩
theorem all_map {f : Nat → Bool} (h : H p = some (.lst (l.map fun c => V.bl (f c)))) (q : Q (.bl (l.all f)) H) : rAll K [V.ref p] H Q :=
  c_all (bs := l.map f) (by rw [h, List.map_map]; rfl) (by rw [List.all_map]; exact q)
theorem c_rs (h : l.length < 100000) (q : Q (.str (S (stem l))) H) : rRs (.str (S l)) [.str "0123456789"] H Q := ⟨_, _, rfl, rfl, len_ok h, by rw [digits10_S, rstrip_digits]; exact q⟩
theorem c_ixS {i : Int} {n : Nat} (h : l.length < 100000) (hi : i = (n : Int)) (hc : l[n]? = some c) (q : Q (.str (S [c])) H) : rIxS (.str (S l)) (.int i) H Q := by
  subst hi
  exact ⟨_, _, c, rfl, rfl, len_ok h, atI_nat hc, q⟩
theorem c_slS {i j : Option Int} (h : l.length < 100000) (e : Txt.slice (S l) i j = S m) (q : Q (.str (S m)) H) : rSlS (.str (S l)) i j H Q := ⟨_, rfl, len_ok h, by rw [C8.cutS_slice, e]; exact q⟩
theorem c_addSS (h : a.length + b.length < 100000) (q : Q (.str (S (a ++ b))) H) : Es.rAddS (.str (S a)) (.str (S b)) H Q := ⟨_, _, rfl, rfl, by rw [S_len, S_len, sizeLine_eq]; omega, by rw [S_cat]; exact q⟩
def strLeaf (R : It → Hp → Prop) : VK := fun v H1 => ∃ x : Str, v = .str x ∧ R (Its x) H1
theorem w_iStr {ti : TE} {R : It → Hp → Prop} (h : ti σ H (strLeaf R)) : iStr ti σ H R := h
theorem c_iStr {R : It → Hp → Prop} {x : Str} (q : R (Its x) H) : strLeaf R (.str x) H := ⟨x, rfl, q⟩
theorem w_tyS {x : Str} {A : Prop} (q : A) : tyV K "str" (.str x) H ∧ A := ⟨rfl, q⟩
theorem br_nt {A B : Prop} (h : B) : if (!true) = true then A else B := h
theorem br_nf {A B : Prop} (h : A) : if (!false) = true then A else B := h
/-! isinstance of plain values -/
theorem isi_str {x : Str} {n : String} {r : Bool} (e : kitB "str" n = some r) (q : Q (.bl r) H) : rIsi K [.str x, .ty n] H Q := Eg.c_isi (.ty _) (.base (.str x)) (kit_ty e) q
end
/-- [F z for z in text] -/
theorem map_str {σ : L2.St} {H : Hp} {l : List Nat} {j : Nat} {ti te : TE} {F : Nat → V} {Q : VK} (hsz : l.length < 100000)
    (hi : ∀ R : VK, R (.str (S l)) H → ti σ H R)
    (elt : ∀ (H' : Hp) (z : Nat) (R : VK), Same H H' → z ∈ l → R (F z) H' → te ((wipe σ [j]).set j (some (.str (S [z])))) H' R)
    (done : ∀ (D : Addr) (H' : Hp), H D = none → Same H H' → H' D = some (.lst (l.map F)) → Q (.ref D) H') : tLc (iStr ti) (gName j) tYes te [j] σ H Q := by
  refine Eg.w_lc (w_iStr (hi _ (c_iStr ?_)))
  intro D hD
  refine lc_it (walk_str (z := S l)) (fun n H' => Same H H' ∧ H' D = some (.lst ((l.take n).map F))) ⟨Eg.same_new (Same.refl _) hD, upd_same⟩ (fun n H' _ h => trivial) ?_ ?_
  · rintro n x _ H1 hn ⟨s1, h2⟩ ⟨rfl, c, hc, rfl⟩
    have hc : l[n]? = some c := by simpa using hc
    obtain ⟨hlt, he⟩ := List.getElem?_eq_some_iff.mp hc
    refine Eg.w_gN (Eg.w_wipe ?_ (Eg.w_yes (iteT (elt H1 c _ s1 (List.mem_of_getElem? hc) ⟨_, h2, ?_, Eg.same_mut s1 hD, ?_⟩))))
    · show (((σ.set j none).set j (some (V.str (S [c])))).set j none) = σ.set j none
      rw [List.set_set, List.set_set]
    · rw [List.length_map, List.length_take, sizeLine_eq]
      omega
    · rw [upd_same, List.take_succ_eq_append_getElem hlt, he]
      simp
  · rintro H1 ⟨s1, h2⟩
    rw [show (S l).cps.size = l.length by simp, List.take_length] at h2
    exact done D H1 hD s1 h2
end Tw
/-! xs == [], whatever stands in xs -/
namespace Tw
open PySem PySem.Spec PyProof.Rows L2 SX Tx
def rEmp (neg : Bool) : R2 := fun x y H Q => ∃ (a b : Addr) (xs : List V), x = .ref a ∧ y = .ref b ∧ H a = some (.lst xs) ∧ H b = some (.lst []) ∧ Q (.bl (if neg then !xs.isEmpty else xs.isEmpty)) H
section
variable {X : Cx}
theorem lst_is {pins : List (Addr × Obj)} {σ : L2.St} {H : Hp} {s : Shared} {a : Addr} {xs : List V} (I : Inv X pins σ H s) (h : H a = some (.lst xs)) : ∃ its : Array Value, s.heap.IsList a its ∧ its.size = xs.length := by
  obtain ⟨its, n, m, r, h1⟩ := (show ObjOk X.prog X.w H s.heap a (.lst xs) from I.hok a _ h)
  exact ⟨_, ⟨_, h1, rfl, _, rfl⟩, by simpa using (Paired.length r).symm⟩
theorem op_neE (hu : X.A.units < cLine) : OpR X (compareOp .NotEq) (rEmp true) := by
  intro pins s σ H x y v u Q I rx ry h
  obtain ⟨a, b, xs, rfl, rfl, ha, hb, q⟩ := h
  cases (show v = Value.ref a from rx)
  cases (show u = Value.ref b from ry)
  obtain ⟨i1, l1, e1⟩ := lst_is I ha
  obtain ⟨i2, l2, e2⟩ := lst_is I hb
  cases xs with
  | nil =>
    refine SeqAt.RcNeAt.lists (e := fun _ => true) l1 l2 (by rw [e1, e2]) hu (fun j h1 _ => ?_) X.prog X.w _ _ (fin_bl I q ?_)
    · rw [e1] at h1
      exact absurd h1 (Nat.not_lt_zero _)
    · rw [e1]
      rfl
  | cons y ys =>
    exact SeqAt.RcNeAt.lists_lengths l1 l2 (by rw [e1, e2]; rfl) hu X.prog X.w _ _ (fin_bl I q rfl)
theorem op_eqE (hu : X.A.units < cLine) : OpR X (compareOp .Eq) (rEmp false) := by
  intro pins s σ H x y v u Q I rx ry h
  obtain ⟨a, b, xs, rfl, rfl, ha, hb, q⟩ := h
  cases (show v = Value.ref a from rx)
  cases (show u = Value.ref b from ry)
  obtain ⟨i1, l1, e1⟩ := lst_is I ha
  obtain ⟨i2, l2, e2⟩ := lst_is I hb
  cases xs with
  | nil =>
    refine SeqAt.RcAt.lists (e := fun _ => true) l1 l2 (by rw [e1, e2]) hu (fun j h1 _ => ?_) X.prog X.w _ _ (fin_bl I q ?_)
    · rw [e1] at h1
      exact absurd h1 (Nat.not_lt_zero _)
    · rw [e1]
      rfl
  | cons y ys =>
    exact SeqAt.RcAt.lists_lengths l1 l2 (by rw [e1, e2]; rfl) hu X.prog X.w _ _ (fin_bl I q rfl)
end
theorem c_neE {a b : Addr} {xs : List V} {H : Hp} {Q : VK} (ha : H a = some (.lst xs)) (hb : H b = some (.lst [])) (q : Q (.bl (!xs.isEmpty)) H) : rEmp true (.ref a) (.ref b) H Q := ⟨a, b, xs, rfl, rfl, ha, hb, q⟩
theorem c_eqE {a b : Addr} {xs : List V} {H : Hp} {Q : VK} (ha : H a = some (.lst xs)) (hb : H b = some (.lst [])) (q : Q (.bl xs.isEmpty) H) : rEmp false (.ref a) (.ref b) H Q := ⟨a, b, xs, rfl, rfl, ha, hb, q⟩
end Tw

/-! keys: in, sorted, dicts, int of a text -/
namespace Tw
open PySem PySem.Spec PyProof.Rows L2 SX Tx Tc
section
variable {X : Cx}
def rIntS : List V → Hp → VK → Prop := fun xs H Q => ∃ a n, xs = [V.str a] ∧ PySem.intText? a = some n ∧ a.length ≤ 640 ∧ Q (.int n) H
theorem cr_intS : CallR X (.type "int") rIntS := call_int_str
def rSortedIS (K : PySem.W.Frag) : List V → Hp → VK → Prop := fun xs H Q => rSorted K xs H Q ∨ rSortedS K xs H Q
theorem cr_sortedIS : CallR X (.builtin "sorted") (rSortedIS X.K) := by
  intro pins s σ H xs us Q I r h
  rcases h with h | h
  · exact cr_sorted pins s σ H xs us Q I r h
  · exact cr_sortedS pins s σ H xs us Q I r h
end
section
variable {H : Hp} {Q : VK} {K : PySem.W.Frag} {p : Addr} {k : Key} {ks : List Key} {kvs : List (Key × V)}
theorem c_in (h : H p = some (.lst (ks.map kV))) (q : Q (.bl (decide (k ∈ ks))) H) : rIn K false (kV k) (.ref p) H Q :=
  ⟨p, _, rfl, .inl (SqL.of h), flat_kV k, all_flat ks, by rw [inV_kV]; exact q⟩
theorem c_notIn (h : H p = some (.lst (ks.map kV))) (q : Q (.bl (!decide (k ∈ ks))) H) : rIn K true (kV k) (.ref p) H Q :=
  ⟨p, _, rfl, .inl (SqL.of h), flat_kV k, all_flat ks, by rw [inV_kV]; exact q⟩
theorem c_notInT (h : H p = some (.tup (ks.map kV))) (q : Q (.bl (!decide (k ∈ ks))) H) : rIn K true (kV k) (.ref p) H Q :=
  ⟨p, _, rfl, .inr (SqT.of h), flat_kV k, all_flat ks, by rw [inV_kV]; exact q⟩
theorem dgetK (h : Rd H p (.dK kvs)) : DGet H p (kV k) (valV kvs k) := .inl ⟨kvs, k, h, rfl, rfl⟩
end
end Tw

/-! Tl: comprehensions over dicts with int and text keys, over lists with a test, over enumerate. -/
namespace Tl
open PySem L2
section
variable {σ : L2.St} {H : Hp} {c : Addr} {kvs : List (Key × V)} {j : Nat} {te td : TE} {tt : TT} {Q : VK}
/-- behind a lock: what stood stands, new things are new -/
def LockAt (H : Hp) (c : Addr) (od : Obj) (kvs : List (Key × V)) (H' : Hp) : Prop := H' c = some (.frz od (.dK kvs)) ∧ ∀ b o, H b = some o → b ≠ c → H' b = some o
theorem LockAt.to {H H' H'' : Hp} {c : Addr} {od : Obj} {kvs : List (Key × V)} (h : LockAt H c od kvs H') (s : Same H' H'') : LockAt H c od kvs H'' := ⟨s _ _ h.1, fun b o e n => s _ _ (h.2 b o e n)⟩
theorem LockAt.open_ {H H' : Hp} {c : Addr} {od : Obj} {kvs : List (Key × V)} (h : LockAt H c od kvs H') (hc : H c = some (.dK kvs)) : Same H (upd H' c (.dK kvs)) := fun b o e => by
  by_cases hb : b = c
  · rw [hb, upd_same]
    rw [hb, hc] at e
    exact e
  · exact Eg.upd_mut hb (h.2 b o e hb)
/-- [F k v for k in d] -/
theorem map_keysK {F : Key → V → V} (hc : H c = some (.dK kvs)) (hsz : kvs.length < 100000)
    (hi : ∀ (H' : Hp) (R : VK), (∀ b o, H b = some o → b ≠ c → H' b = some o) → R (.ref c) H' → td σ H' R)
    (step : ∀ (od : Obj) (H' : Hp) (k : Key) (v : V) (R : VK), LockAt H c od kvs H' → (k, v) ∈ kvs → (∀ H'', Same H' H'' → R (F k v) H'') → te ((wipe σ [j]).set j (some (kV k))) H' R)
    (done : ∀ (D : Addr) (H' : Hp), H D = none → Same H H' → H' D = some (.lst (kvs.map fun y => F y.1 y.2)) → Q (.ref D) H') : tLockE (tLc (iKeys td) (gName j) tYes te [j]) σ H Q := by
  refine ⟨c, _, hc, trivial, fun od => ?_⟩
  refine Eg.w_lc (Eg.w_iK (hi _ _ (fun b o e n => Eg.upd_mut n e) (Eg.c_iKK upd_same ?_)))
  intro D hD
  have hDc : D ≠ c := fun e => by rw [e, upd_same] at hD; cases hD
  have hD0 : H D = none := by rw [upd_ne hDc] at hD; exact hD
  refine lc_it walk_keys (fun n H' => LockAt H c od kvs H' ∧ H' D = some (.lst ((kvs.take n).map fun y => F y.1 y.2))) ⟨⟨Eg.upd_old upd_same hD, fun b o e n => Eg.upd_old (Eg.upd_mut n e) hD⟩, upd_same⟩ (fun n H' _ h => h.1.1) ?_ ?_
  · rintro n y _ H1 hn ⟨h1, h2⟩ ⟨rfl, k, v, hk, rfl⟩
    obtain ⟨hlt, he⟩ := List.getElem?_eq_some_iff.mp hk
    refine Eg.w_gN (Eg.w_wipe ?_ (Eg.w_yes (iteT (step od _ k v _ h1 (List.mem_of_getElem? hk) fun H2 s2 => ⟨_, s2 _ _ h2, ?_, ?_, ?_⟩))))
    · show (((σ.set j none).set j (some (kV k))).set j none) = σ.set j none
      rw [List.set_set, List.set_set]
    · rw [List.length_map, List.length_take, sizeLine_eq]
      omega
    · have l2 := h1.to s2
      exact ⟨Eg.upd_mut hDc.symm l2.1, fun b o e n => Eg.upd_mut (ne_of_none e hD0) (l2.2 b o e n)⟩
    · rw [upd_same, List.take_succ_eq_append_getElem hlt, he]
      simp
  · rintro H1 ⟨h1, h2⟩
    rw [List.take_length] at h2
    exact ⟨h1.1, done D _ hD0 (h1.open_ hc) (Eg.upd_mut hDc h2)⟩
/-- [k for k in d if P k] -/
theorem filt_keysK {P : Key → Bool} (hj : j < σ.length) (hc : H c = some (.dK kvs)) (hsz : kvs.length < 100000)
    (hi : ∀ (H' : Hp) (R : VK), (∀ b o, H b = some o → b ≠ c → H' b = some o) → R (.ref c) H' → td σ H' R)
    (test : ∀ (od : Obj) (H' : Hp) (k : Key) (v : V) (R : Bool → Hp → Prop), LockAt H c od kvs H' → (k, v) ∈ kvs → R (P k) H' → tt ((wipe σ [j]).set j (some (kV k))) H' R)
    (done : ∀ (D : Addr) (H' : Hp), H D = none → Same H H' → H' D = some (.lst (((kvs.map (·.1)).filter P).map kV)) → Q (.ref D) H') : tLockE (tLc (iKeys td) (gName j) tt (tVar j) [j]) σ H Q := by
  refine ⟨c, _, hc, trivial, fun od => ?_⟩
  refine Eg.w_lc (Eg.w_iK (hi _ _ (fun b o e n => Eg.upd_mut n e) (Eg.c_iKK upd_same ?_)))
  intro D hD
  have hDc : D ≠ c := fun e => by rw [e, upd_same] at hD; cases hD
  have hD0 : H D = none := by rw [upd_ne hDc] at hD; exact hD
  refine lc_it walk_keys (fun n H' => LockAt H c od kvs H' ∧ H' D = some (.lst ((((kvs.take n).map (·.1)).filter P).map kV))) ⟨⟨Eg.upd_old upd_same hD, fun b o e n => Eg.upd_old (Eg.upd_mut n e) hD⟩, upd_same⟩ (fun n H' _ h => h.1.1) ?_ ?_
  · rintro n y _ H1 hn ⟨h1, h2⟩ ⟨rfl, k, v, hk, rfl⟩
    obtain ⟨hlt, he⟩ := List.getElem?_eq_some_iff.mp hk
    refine Eg.w_gN (Eg.w_wipe ?_ (test od _ k v _ h1 (List.mem_of_getElem? hk) ?_))
    · show (((σ.set j none).set j (some (kV k))).set j none) = σ.set j none
      rw [List.set_set, List.set_set]
    · have fl := List.length_filter_le P ((kvs.take n).map (·.1))
      rw [List.length_map, List.length_take] at fl
      have e1 : (kvs.take (n + 1)).map (·.1) = (kvs.take n).map (·.1) ++ [k] := by rw [List.take_succ_eq_append_getElem hlt, he, List.map_append]; rfl
      cases hp : P k with
      | true =>
        refine iteT (Eg.w_var (v := kV k) ?_ ⟨_, h2, ?_, ⟨Eg.upd_mut hDc.symm h1.1, fun b o e n => Eg.upd_mut (ne_of_none e hD0) (h1.2 b o e n)⟩, ?_⟩)
        · show ((σ.set j none).set j (some (kV k)))[j]? = _
          rw [List.getElem?_set_self (by rw [List.length_set]; exact hj)]
        · rw [List.length_map, sizeLine_eq]
          omega
        · rw [upd_same, e1, List.filter_append]
          simp [hp]
      | false =>
        refine iteF ⟨h1, ?_⟩
        rw [h2, e1, List.filter_append]
        simp [hp]
  · rintro H1 ⟨h1, h2⟩
    rw [List.take_length] at h2
    exact ⟨h1.1, done D _ hD0 (h1.open_ hc) (Eg.upd_mut hDc h2)⟩
theorem val_mem : ∀ {kvs : List (Key × V)} {k : Key} {v : V}, (kvs.map (·.1)).Nodup → (k, v) ∈ kvs → valV kvs k = some v
  | p :: r, k, v, nd, h => by
    have nd' := List.nodup_cons.mp nd
    by_cases e : p.1 = k
    · rw [valV_pos e]
      rcases List.mem_cons.mp h with h | h
      · rw [← h]
      · exact absurd (List.mem_map.mpr ⟨_, h, e.symm⟩) nd'.1
    · rw [valV_neg e]
      refine val_mem nd'.2 ((List.mem_cons.mp h).resolve_left fun z => e ?_)
      rw [← z]
theorem val_some {kvs : List (Key × V)} {k : Key} (h : k ∈ kvs.map (·.1)) : ∃ v, valV kvs k = some v := by
  induction kvs with
  | nil => cases h
  | cons p r ih =>
    by_cases e : p.1 = k
    · exact ⟨_, valV_pos e⟩
    · rw [valV_neg e]
      exact ih ((List.mem_cons.mp h).resolve_left fun z => e z.symm)
theorem putK_new {kvs : List (Key × V)} {k : Key} {v : V} (h : k ∉ kvs.map (·.1)) : putK kvs k v = kvs ++ [(k, v)] := by
  unfold putK
  have : (kvs.any fun p => decide (p.1 = k)) = false := by
    rw [← Bool.not_eq_true, List.any_eq_true]
    rintro ⟨p, hp, e⟩
    exact h (List.mem_map.mpr ⟨p, hp, of_decide_eq_true e⟩)
  first
    | rw [if_neg (by rw [this]; exact Bool.false_ne_true)]
    | simp [this]
theorem w_dc {wi : TI} {g : TG} {tk tv : TE} {vs : List Nat} (h : wi σ H fun J H1 => ∀ D, H1 D = none → ∃ W : Nat → Nat → Hp → Prop, (∃ m, W 0 m (upd H1 D (.dK []))) ∧ ∀ i m H, W i m H →
  (J.stop i H ∧ Q (.ref D) H) ∨ (J.go i H ∧ ∃ Nx : Hp → Prop, (∀ H', Nx H' → ∃ m', m' < m ∧ W (i + 1) m' H') ∧ ∀ x H', J.yld i H x H' → g x (wipe σ vs) H' fun σ2 H2 => wipe σ2 vs = wipe σ vs ∧ tt σ2 H2 fun b H3 =>
    if b = true then tk σ2 H3 fun y H4 => tv σ2 H4 fun z H5 => ∃ kvs k, y = kV k ∧ H5 D = some (.dK kvs) ∧ kvs.length < sizeLine ∧ Nx (upd H5 D (.dK (putK kvs k z))) else Nx H3)) : tDc wi g tt tk tv vs σ H Q := h
/-- a dict comprehension over a walk -/
theorem dc_it {J : It} {n : Nat} {G : Hp → Prop} {Y : Nat → Hp → V → Hp → Prop} (w : Walk J n G Y) {g : TG} {tt : TT} {tk tv : TE} {vs : List Nat} {σ : L2.St} {H1 : Hp} {D : Addr} {Qd : Hp → Prop} (Pv : Nat → Hp → Prop) (h0 : Pv 0 (upd H1 D (.dK []))) (hG : ∀ i H, i ≤ n → Pv i H → G H)
    (hs : ∀ i x H H', i < n → Pv i H → Y i H x H' → g x (wipe σ vs) H' fun σ2 H2 => wipe σ2 vs = wipe σ vs ∧ tt σ2 H2 fun b H3 =>
      if b = true then tk σ2 H3 fun y H4 => tv σ2 H4 fun z H5 => ∃ kvs k, y = kV k ∧ H5 D = some (.dK kvs) ∧ kvs.length < sizeLine ∧ Pv (i + 1) (upd H5 D (.dK (putK kvs k z))) else Pv (i + 1) H3) (hd : ∀ H, Pv n H → Qd H) :
    ∃ W : Nat → Nat → Hp → Prop, (∃ m, W 0 m (upd H1 D (.dK []))) ∧ ∀ i m H, W i m H →
      (J.stop i H ∧ Qd H) ∨ (J.go i H ∧ ∃ Nx : Hp → Prop, (∀ H', Nx H' → ∃ m', m' < m ∧ W (i + 1) m' H') ∧ ∀ x H', J.yld i H x H' → g x (wipe σ vs) H' fun σ2 H2 => wipe σ2 vs = wipe σ vs ∧ tt σ2 H2 fun b H3 =>
        if b = true then tk σ2 H3 fun y H4 => tv σ2 H4 fun z H5 => ∃ kvs k, y = kV k ∧ H5 D = some (.dK kvs) ∧ kvs.length < sizeLine ∧ Nx (upd H5 D (.dK (putK kvs k z))) else Nx H3) := by
  refine ⟨fun i m H => m = n - i ∧ i ≤ n ∧ Pv i H, ⟨n, by simp, Nat.zero_le _, h0⟩, ?_⟩
  rintro i m H ⟨rfl, hi, p⟩
  have q := hG i H hi p
  by_cases hlt : i < n
  · refine .inr ⟨w.goes i H hlt q, Pv (i + 1), fun H' p' => ⟨n - (i + 1), by omega, rfl, hlt, p'⟩, fun x H' y => hs i x H H' hlt p (w.yields i H x H' hlt q y)⟩
  · have e : i = n := by omega
    subst e
    exact .inl ⟨w.stops H q, hd H p⟩
/-- {k: d[k] for k in d} -/
theorem copyK {tv : TE} (hj : j < σ.length) (hc : H c = some (.dK kvs)) (hsz : kvs.length < 100000) (hnd : (kvs.map (·.1)).Nodup)
    (hi : ∀ (H' : Hp) (R : VK), (∀ b o, H b = some o → b ≠ c → H' b = some o) → R (.ref c) H' → td σ H' R)
    (val : ∀ (od : Obj) (H' : Hp) (k : Key) (v : V) (R : VK), LockAt H c od kvs H' → (k, v) ∈ kvs → R v H' → tv ((wipe σ [j]).set j (some (kV k))) H' R)
    (done : ∀ (D : Addr) (H' : Hp), H D = none → Same H H' → H' D = some (.dK kvs) → Q (.ref D) H') : tLockE (tDc (iKeys td) (gName j) tYes (tVar j) tv [j]) σ H Q := by
  refine ⟨c, _, hc, trivial, fun od => ?_⟩
  refine w_dc (Eg.w_iK (hi _ _ (fun b o e n => Eg.upd_mut n e) (Eg.c_iKK upd_same ?_)))
  intro D hD
  have hDc : D ≠ c := fun e => by rw [e, upd_same] at hD; cases hD
  have hD0 : H D = none := by rw [upd_ne hDc] at hD; exact hD
  refine dc_it walk_keys (fun n H' => LockAt H c od kvs H' ∧ H' D = some (.dK (kvs.take n))) ⟨⟨Eg.upd_old upd_same hD, fun b o e n => Eg.upd_old (Eg.upd_mut n e) hD⟩, upd_same⟩ (fun n H' _ h => h.1.1) ?_ ?_
  · rintro n y _ H1 hn ⟨h1, h2⟩ ⟨rfl, k, v, hk, rfl⟩
    obtain ⟨hlt, he⟩ := List.getElem?_eq_some_iff.mp hk
    refine Eg.w_gN (Eg.w_wipe ?_ (Eg.w_yes (iteT (Eg.w_var (v := kV k) ?_ (val od _ k v _ h1 (List.mem_of_getElem? hk) ⟨_, k, rfl, h2, ?_, ⟨Eg.upd_mut hDc.symm h1.1, fun b o e n => Eg.upd_mut (ne_of_none e hD0) (h1.2 b o e n)⟩, ?_⟩)))))
    · show (((σ.set j none).set j (some (kV k))).set j none) = σ.set j none
      rw [List.set_set, List.set_set]
    · show ((σ.set j none).set j (some (kV k)))[j]? = _
      rw [List.getElem?_set_self (by rw [List.length_set]; exact hj)]
    · rw [List.length_take, sizeLine_eq]
      omega
    · rw [upd_same, putK_new, List.take_succ_eq_append_getElem hlt, he]
      intro hm
      rw [List.map_take] at hm
      obtain ⟨i, hi'⟩ := List.mem_iff_getElem?.mp hm
      rw [List.getElem?_take] at hi'
      split at hi'
      · rename_i hin
        have e2 : (kvs.map (·.1))[n]? = some k := by rw [List.getElem?_map, hk]; rfl
        obtain ⟨l1, e1⟩ := List.getElem?_eq_some_iff.mp hi'
        obtain ⟨l2, e3⟩ := List.getElem?_eq_some_iff.mp e2
        exact List.pairwise_iff_getElem.mp hnd i n l1 l2 hin (e1.trans e3.symm)
      · cases hi'
  · rintro H1 ⟨h1, h2⟩
    rw [List.take_length] at h2
    exact ⟨h1.1, done D _ hD0 (h1.open_ hc) (Eg.upd_mut hDc h2)⟩
/-- numbered from f on -/
def numd (f : Int) : List V → List (Key × V)
  | [] => []
  | x :: r => (.inl f, x) :: numd (f + 1) r
theorem numd_snoc : ∀ (xs : List V) (f : Int) (x : V), numd f (xs ++ [x]) = numd f xs ++ [(.inl (f + xs.length), x)]
  | [], f, x => by
    show [((Sum.inl f : Key), x)] = [(.inl (f + 0), x)]
    rw [Int.add_zero]
  | y :: r, f, x => by
    show (.inl f, y) :: numd (f + 1) (r ++ [x]) = ((Sum.inl f : Key), y) :: numd (f + 1) r ++ [_]
    rw [numd_snoc r]
    show _ = (.inl f, y) :: (numd (f + 1) r ++ [(.inl (f + ((r.length + 1 : Nat) : Int)), x)])
    congr 4
    show (Sum.inl (f + 1 + (r.length : Int)) : Key) = Sum.inl (f + ((r.length + 1 : Nat) : Int))
    congr 1
    omega
theorem numd_len : ∀ (xs : List V) (f : Int), (numd f xs).length = xs.length
  | [], _ => rfl
  | x :: r, f => by
    show (numd (f + 1) r).length + 1 = r.length + 1
    rw [numd_len r]
theorem numd_keys : ∀ (xs : List V) (f : Int), (numd f xs).map (·.1) = (List.range xs.length).map fun i : Nat => (.inl (f + (i : Int)) : Key)
  | [], _ => rfl
  | x :: r, f => by
    show (Sum.inl f : Key) :: (numd (f + 1) r).map (·.1) = (List.range (r.length + 1)).map _
    rw [numd_keys r, List.range_succ_eq_map, List.map_cons, List.map_map]
    congr 1
    · show Sum.inl f = (Sum.inl (f + 0) : Key)
      rw [Int.add_zero]
    · refine List.map_congr_left fun i _ => ?_
      show (Sum.inl (f + 1 + (i : Int)) : Key) = Sum.inl (f + ((i + 1 : Nat) : Int))
      congr 1
      omega
theorem numd_nodup (xs : List V) (f : Int) : ((numd f xs).map (·.1)).Nodup := by
  rw [numd_keys]
  refine List.pairwise_map.mpr (List.nodup_range.imp ?_)
  intro a b h e
  have := Sum.inl.inj e
  omega
end
section
variable {σ : L2.St} {H : Hp} {K : PySem.W.Frag} {a : Addr} {j : Nat} {ti te : TE} {tt : TT} {Q : VK}
/-- [F p for p in xs if P p], xs a list of things that stand as they are -/
theorem fm_list {α : Type} {xs : List α} {G F : α → V} {P : α → Bool} (ha : H a = some (.lst (xs.map G))) (hsz : xs.length < 100000)
    (hi : ∀ R : VK, R (.ref a) H → ti σ H R)
    (test : ∀ (H' : Hp) (z : α) (R : Bool → Hp → Prop), Same H H' → z ∈ xs → (∀ H'', Same H' H'' → R (P z) H'') → tt ((wipe σ [j]).set j (some (G z))) H' R)
    (elt : ∀ (H' : Hp) (z : α) (R : VK), Same H H' → z ∈ xs → P z = true → (∀ H'', Same H' H'' → R (F z) H'') → te ((wipe σ [j]).set j (some (G z))) H' R)
    (done : ∀ (D : Addr) (H' : Hp), H D = none → Same H H' → H' D = some (.lst ((xs.filter P).map F)) → Q (.ref D) H') : tLc (iList K ti) (gName j) tt te [j] σ H Q := by
  refine Eg.w_lc (Eg.w_iL (hi _ (Eg.c_iL (SqL.of ha) ?_)))
  intro D hD
  refine lc_list (xs := xs.map G) (fun n H' => Same H H' ∧ H' D = some (.lst (((xs.take n).filter P).map F))) ⟨Eg.same_new (Same.refl _) hD, upd_same⟩ (fun n H' _ h => SqL.of (h.1 _ _ ha)) ?_ ?_
  · rintro n x H1 hx ⟨s1, h2⟩
    rw [List.getElem?_map] at hx
    obtain ⟨z, hz, rfl⟩ := Option.map_eq_some_iff.mp hx
    obtain ⟨hlt, he⟩ := List.getElem?_eq_some_iff.mp hz
    refine Eg.w_gN (Eg.w_wipe ?_ (test H1 z _ s1 (List.mem_of_getElem? hz) fun H2 s2 => ?_))
    · show (((σ.set j none).set j (some (G z))).set j none) = σ.set j none
      rw [List.set_set, List.set_set]
    · have fl := List.length_filter_le P (xs.take n)
      rw [List.length_take] at fl
      cases hp : P z with
      | true =>
        refine iteT (elt H2 z _ (s1.trans s2) (List.mem_of_getElem? hz) hp fun H3 s3 => ⟨_, s3 _ _ (s2 _ _ h2), ?_, Eg.same_mut ((s1.trans s2).trans s3) hD, ?_⟩)
        · rw [List.length_map, sizeLine_eq]
          omega
        · rw [upd_same, List.take_succ_eq_append_getElem hlt, he, List.filter_append]
          simp [hp]
      | false =>
        refine iteF ⟨s1.trans s2, ?_⟩
        rw [s2 _ _ h2, List.take_succ_eq_append_getElem hlt, he, List.filter_append]
        simp [hp]
  · rintro H1 ⟨s1, h2⟩
    rw [List.length_map, List.take_length] at h2
    exact done D H1 hD s1 h2
def enumLeaf (K : PySem.W.Frag) (R : It → Hp → Prop) (vs : List V) (H1 : Hp) : Prop := ∃ (a : Addr) (xs : List V), vs = [.ref a] ∧ SqL K H1 a xs ∧ R (Ite K a) H1
theorem w_iE {t : TA} {R : It → Hp → Prop} (h : t σ H (enumLeaf K R)) : iEnum K t σ H R := h
theorem c_iE {R : It → Hp → Prop} {xs : List V} (hs : SqL K H a xs) (q : R (Ite K a) H) : enumLeaf K R [.ref a] H := ⟨a, xs, rfl, hs, q⟩
end
end Tl

/-! Ls: list(text). -/
namespace PySem.Ls
open PySem PySem.W PySem.Calls PyProof.Rows PySem.Spec
section
variable {prog : Program} {w : World} {A : Around} {E : Value → Shared → Prop} {s : Shared} {x : Str} {t : Tok}
theorem hint_str {Q : Bool → Shared → Prop} (h : Q false s) : wpAny (model prog w) A (Builtin.List.listLengthHint (.str x t)) Q E s := by
  have hT : typeOf (.str x t) = pure (.type "str") := rfl
  unfold Builtin.List.listLengthHint
  refine wpAny_bind (wpAny_specialOf_val hT PySem.F.slot_str_len.lookup ?_)
  generalize hid : ("str.__len__" : String) = id0
  wp_delta
  rw [show splitId id0 = some ("str", "__len__") from by subst hid; decide +kernel]
  subst hid
  refine wpAny_bind (wpAny_isInstance_val (T := "str") (b := true) hT (by rw [isSubtype_type]; kernel_rfl) ?_)
  refine wpAny_ite_split (fun hab => absurd hab (by decide)) (fun _ => ?_)
  refine wpAny_ite_split (fun _ => ?_) (fun hab => absurd (by decide +kernel) hab)
  exact wpAny_pure h
theorem extend_str {R : Result → Shared → Prop} (hh : A.handled = none) (S : Addr) (res : Value) (c₀ : Nat) (hS : s.heap.get? S = some { cls := .type "list", data := .seq #[] c₀ })
    (hR : ∀ h' tk acc' c', (∀ b o, b ≠ S → s.heap.get? b = some o → h'.get? b = some o) → h'.get? S = some { cls := .type "list", dict := none, data := .seq acc' c', slots := #[] } → ItemsOf (SignAt x) acc' x.cps.size → R (.ok (.ret res)) { s with heap := h', toks := tk }) (hn : x.cps.size ≤ sizeLine) :
    wpAny (model prog w) A.in1 (Builtin.List.listExtendWith (.ref S) (.str x t) res)
      (fun fin s' => match fin with | .done f => R (.ok f) s' | .again c' => c'.quiet = true ∧ codeAny (model prog w) A c' R s') (fun e s' => R (.error e) s') s := by
  have hSI : S ≠ s.heap.objs.size := Nat.ne_of_lt (Heap.lt_size hS)
  have hSf : S ∉ [s.heap.objs.size] := by simp only [List.mem_cons, List.not_mem_nil, or_false]; exact hSI
  unfold Builtin.List.listExtendWith
  refine wpAny_bind (wpAny_of_eq (show typeOf (.str x t) = pure (.type "str") from rfl) ?_)
  have h1 : Builtin.List.listSameRef (.ref S) (.str x t) = false := rfl
  simp only [h1, show (Value.type "str" == Value.type "list") = false by decide, show (Value.type "str" == Value.type "tuple") = false by decide, Bool.or_false, Bool.false_eq_true, if_false]
  refine wpAny_bind (wpAny_pyIter_str fun oI St W0 st => ?_)
  have W := W0 A.in1 hh
  have key : ∀ (h : Heap) (c₁ tk : Nat), St 0 h → (∀ b o, b ≠ S → s.heap.get? b = some o → h.get? b = some o) →
      h.get? S = some { cls := .type "list", data := .seq #[] c₁ } → codeAny (model prog w) A (.builtin "list.extend.loop" ⟨[.ref S, .ref s.heap.objs.size, res], []⟩) R { s with heap := h, toks := tk } := by
    intro h c₁ tk hst hk hS₁
    refine codeAny_extend_loopS W.toS hn S hSf res x.cps.size 0 _ #[] c₁ rfl (Nat.zero_le _) hst hS₁ (ItemsOf.nil _) fun s' acc' c' hm hS' hacc => ?_
    rw [Moved.eq_with hm]
    refine hR s'.heap s'.toks acc' c' (fun b o hb e => hm.heap b o (fun hmem => ?_) (hk b o hb e)) hS' hacc
    rcases List.mem_cons.mp hmem with e' | hmem
    · exact hb e'
    · exact absurd (Heap.lt_size e) (by rw [List.mem_singleton.mp hmem]; exact Nat.lt_irrefl _)
  have hS₁ := Heap.get?_push_of_some oI hS
  refine wpAny_bind (wpAny_holding (hint_str ?_))
  refine wpAny_ite_split (fun _ => ?_) (fun _ => wpAny_pure ⟨plainId_quiet PySem.F.plain_extend_loop _, key _ c₀ _ st (fun b o _ e => Heap.get?_push_of_some _ e) hS₁⟩)
  refine wpAny_bind (wpAny_rule ?_)
  refine wpAny_bind ?_
  show wpAny _ _ (updateSeq S (·.push .none) >>= fun _ => updateSeq S (·.pop)) _ _ _
  refine wpAny_bind (wpAny_updateSeq hS₁ rfl ?_)
  have hS₂ := Heap.get?_update_self (Obj.mapSeq (·.push Value.none)) hS₁ rfl
  refine wpAny_updateSeq (hz := by seq_fits) hS₂ rfl ?_
  have hS₃ := Heap.get?_update_self (Obj.mapSeq (·.pop)) hS₂ rfl
  refine wpAny_pure ⟨plainId_quiet PySem.F.plain_extend_loop _, key _ _ _ ?_ (fun b o hb e => ?_) hS₃⟩
  · refine W.frame 0 _ _ st fun b hb o e => ?_
    have hbS : b ≠ S := fun h => hSf (h ▸ hb)
    exact (Heap.get?_update_other _ _ (Ne.symm hbS)).trans ((Heap.get?_update_other _ _ (Ne.symm hbS)).trans e)
  · exact (Heap.get?_update_other _ _ (Ne.symm hb)).trans ((Heap.get?_update_other _ _ (Ne.symm hb)).trans (Heap.get?_push_of_some _ e))
theorem init_str {R : Result → Shared → Prop} (hh : A.handled = none) (S : Addr) (hS : s.heap.get? S = some { cls := .type "list", data := .seq #[] })
    (hR : ∀ h' tk acc' c', (∀ b o, b ≠ S → s.heap.get? b = some o → h'.get? b = some o) → h'.get? S = some { cls := .type "list", dict := none, data := .seq acc' c', slots := #[] } → ItemsOf (SignAt x) acc' x.cps.size → R (.ok (.ret .none)) { s with heap := h', toks := tk }) (hn : x.cps.size ≤ sizeLine) :
    wpAny (model prog w) A.in1 (Builtin.«list.__init__» ⟨[.ref S, .str x t], []⟩)
      (fun fin s' => match fin with | .done f => R (.ok f) s' | .again c' => c'.quiet = true ∧ codeAny (model prog w) A c' R s') (fun e s' => R (.error e) s') s := by
  show wpAny _ _ (do let old ← Builtin.List.listItems (.ref S); Builtin.List.listUpdate (.ref S) (fun _ => #[]); letGo old.toList.reverse; Builtin.List.listExtendWith (.ref S) (.str x t) .none) _ _ s
  refine wpAny_bind ?_
  unfold Builtin.List.listItems
  refine wpAny_bind (wpAny_seqItems hS rfl (wpAny_pure ?_))
  show wpAny _ _ (updateSeq S (fun _ => #[]) >>= fun _ => letGo (#[] : Array Value).toList.reverse >>= fun _ => Builtin.List.listExtendWith (.ref S) (.str x t) .none) _ _ s
  refine wpAny_bind (wpAny_updateSeq hS rfl ?_)
  have hS₂ := Heap.get?_update_self (Obj.mapSeq (fun _ => (#[] : Array Value))) hS rfl
  have oth : ∀ b o, b ≠ S → s.heap.get? b = some o → (s.heap.update S (Obj.mapSeq (fun _ => (#[] : Array Value)))).get? b = some o :=
    fun b o hb e => (Heap.get?_update_other _ _ (Ne.symm hb)).trans e
  refine wpAny_bind (wpAny_letGo ?_)
  refine extend_str hh S .none _ hS₂ (fun h' tk acc' c' hk hS' hacc => ?_) hn
  exact hR h' tk acc' c' (fun b o hb e => hk b o hb (oth b o hb e)) hS' hacc
theorem call_str {Q : Value → Shared → Prop} (hh : A.handled = none) (hn : x.cps.size ≤ sizeLine)
    (hQ : ∀ h' tk acc' c', (∀ b o, s.heap.get? b = some o → h'.get? b = some o) → h'.get? s.heap.objs.size = some { cls := .type "list", dict := none, data := .seq acc' c', slots := #[] } → ItemsOf (SignAt x) acc' x.cps.size → Q (.ref s.heap.objs.size) { s with heap := h', toks := tk }) :
    wpAny (model prog w) A (call (.type "list") [.str x t]) Q E s := by
  refine callType_codes (Q₁ := fun obj s₁ => obj = .ref s.heap.objs.size ∧ s₁ = { s with heap := s.heap.push { cls := .type "list", data := .seq #[] } }) PySem.F.called_list (PySem.F.typeCall_list_1 _) PySem.F.entry_list_init
    (code_list_new _ ⟨rfl, rfl⟩) fun obj s₁ h₁ => ?_
  obtain ⟨rfl, rfl⟩ := h₁
  have hS : (s.heap.push { cls := .type "list", data := .seq #[] }).get? s.heap.objs.size = some { cls := .type "list", data := .seq #[] } := Heap.get?_push_size _ rfl
  refine ⟨⟨_, hS, rfl⟩, PySem.F.args_list_init_2 _ _, init_str (A := A.in1) hh _ hS (fun h' tk acc' c' hk hS' hacc => ?_) hn⟩
  exact ⟨rfl, hQ h' tk acc' c' (fun b o e => hk b o (Nat.ne_of_lt (Heap.lt_size e)) (Heap.get?_push_of_some _ e)) hS' hacc⟩
end
end PySem.Ls
namespace Tw
open PySem PySem.Spec PyProof.Rows L2 SX Tx
section
variable {X : Cx}
def rListS : List V → Hp → VK → Prop := fun xs H Q => ∃ l : List Nat, xs = [V.str (S l)] ∧ l.length < 100000 ∧ ∀ p, H p = none → Q (.ref p) (upd H p (.lst (l.map fun c => V.str (S [c]))))
theorem cr_listS (hc : X.calm = true) : CallR X (.type "list") rListS := by
  intro pins s σ H xs us Q I r q
  obtain ⟨l, ex, hl, q⟩ := q
  subst ex
  obtain ⟨u, eu, t, rx⟩ := vals1 r
  subst eu
  subst rx
  refine PySem.Ls.call_str (I.ok.hd hc) (by rw [sizeLine_eq]; simp; omega) fun h' tk acc c' hk hD hacc => ?_
  have hsz : acc.size = l.length := by rw [hacc.1]; simp
  have hv : Vals (l.map fun c => V.str (S [c])) acc.toList := by
    have key : ∀ (m : List Nat) (ws : List Value), ws.length = m.length → (∀ (j : Nat) (v : Value), ws[j]? = some v → ∃ (c : Nat) (u : PySem.Tok), m[j]? = some c ∧ v = Value.str ⟨#[c]⟩ u) → Vals (m.map fun c => V.str (S [c])) ws := by
      intro m
      induction m with
      | nil =>
        intro ws e _
        rw [List.eq_nil_of_length_eq_zero e]
        exact .nil
      | cons c m ih =>
        intro ws e h
        cases ws with
        | nil => cases e
        | cons v ws =>
          obtain ⟨c', u, h1, h2⟩ := h 0 v rfl
          cases h1
          exact .cons ⟨u, h2⟩ (ih ws (by simpa using e) fun j v hj => h (j + 1) v hj)
    refine key l acc.toList (by rw [Array.length_toList]; exact hsz) fun j v e => ?_
    obtain ⟨c, u, h1, h2⟩ := hacc.2 j v (by rw [← Array.getElem?_toList]; exact e)
    exact ⟨c, u, by simpa using h1, h2⟩
  refine ⟨.ref s.heap.objs.size, upd H s.heap.objs.size (.lst (l.map fun c => V.str (S [c]))), I.laid (t' := tk) hk (Nat.le_refl _)
    (show ObjOk X.prog X.w _ _ _ (.lst (l.map fun c => V.str (S [c]))) from ⟨by rw [List.length_map, sizeLine_eq]; omega, acc.toList, c', hv, by rw [Array.toArray_toList]; exact hD⟩), rfl, q _ (I.hok.fresh (Nat.le_refl _))⟩
end
end Tw

/-! Rp: data that repr shows, with sizes. -/
namespace Rp
open PySem PySem.Spec PyProof.Rows L2 SX
structure Ok (k N : Nat) (d : PyData) : Prop where
  sh : d.showable = true
  nd : d.hasDict = false
  dp : d.depth ≤ k
  ls : d.leavesShort 200 = true
  wt : d.weight ≤ N
theorem Ok.mono {k k' N N' : Nat} {d : PyData} (h : Ok k N d) (hk : k ≤ k') (hN : N ≤ N') : Ok k' N' d := ⟨h.sh, h.nd, Nat.le_trans h.dp hk, h.ls, Nat.le_trans h.wt hN⟩
theorem Ok.int {i : Int} (h : i.natAbs < 10 ^ 40) : Ok 0 200 (.int i) := by
  have h2 : i.natAbs < 2 ^ 134 := Nat.lt_of_lt_of_le h (by decide +kernel)
  have hl : i.natAbs.log2 < 134 := by
    by_cases z : i.natAbs = 0
    · rw [z]
      decide
    · exact (Nat.log2_lt z).mpr h2
  refine ⟨?_, rfl, Nat.le_refl _, ?_, ?_⟩
  · simp only [PyData.showable]
    exact decide_eq_true (by omega)
  · simp only [PyData.leavesShort, PyData.shown]
    refine decide_eq_true ?_
    show (Str.ofString (toString i)).length ≤ 200
    rw [PySem.ofString_length]
    exact Nat.le_trans (int_text_length_le10 (k := 40) (by decide) h) (by decide)
  · simp only [PyData.weight]
    split <;> omega
theorem Ok.str {l : List Nat} (h : ∀ c ∈ l, c < 16 ^ 8) : Ok 0 l.length (.str (S l)) := by
  refine ⟨rfl, rfl, Nat.le_refl _, ?_, ?_⟩
  · simp only [PyData.leavesShort, List.all_eq_true, decide_eq_true_eq]
    exact h
  · simp only [PyData.weight]
    show l.toArray.size ≤ _
    rw [List.size_toArray]
    exact Nat.le_refl _
theorem all_ok {k N : Nat} : ∀ {ds : List PyData}, (∀ d ∈ ds, Ok k N d) → PyData.showableAll ds = true ∧ PyData.hasDictAll ds = false ∧ PyData.depthAll ds ≤ k ∧ PyData.leavesShortAll 200 ds = true ∧ PyData.weightAll ds ≤ ds.length * (N + 1)
  | [], _ => ⟨by simp only [PyData.showableAll], by simp only [PyData.hasDictAll], by simp only [PyData.depthAll]; omega, by simp only [PyData.leavesShortAll], by simp only [PyData.weightAll]; omega⟩
  | d :: ds, h => by
    have h1 := h d List.mem_cons_self
    obtain ⟨a1, a2, a3, a4, a5⟩ := all_ok (ds := ds) fun x hx => h x (List.mem_cons_of_mem _ hx)
    have w := h1.wt
    have dp := h1.dp
    refine ⟨?_, ?_, ?_, ?_, ?_⟩
    · simp only [PyData.showableAll, h1.sh, a1, Bool.and_self]
    · simp only [PyData.hasDictAll, h1.nd, a2, Bool.or_self]
    · simp only [PyData.depthAll]
      omega
    · simp only [PyData.leavesShortAll, h1.ls, a4, Bool.and_self]
    · simp only [PyData.weightAll, List.length_cons, Nat.succ_mul]
      omega
theorem Ok.list {k N : Nat} {ds : List PyData} (h : ∀ d ∈ ds, Ok k N d) : Ok (k + 1) (ds.length * (N + 1)) (.list ds) := by
  obtain ⟨a1, a2, a3, a4, a5⟩ := all_ok h
  exact ⟨by simp only [PyData.showable]; exact a1, by simp only [PyData.hasDict]; exact a2, by simp only [PyData.depth]; omega, by simp only [PyData.leavesShort]; exact a4, by simp only [PyData.weight]; exact a5⟩
theorem Ok.tuple {k N : Nat} {ds : List PyData} (h : ∀ d ∈ ds, Ok k N d) : Ok (k + 1) (ds.length * (N + 1)) (.tuple ds) := by
  obtain ⟨a1, a2, a3, a4, a5⟩ := all_ok h
  exact ⟨by simp only [PyData.showable]; exact a1, by simp only [PyData.hasDict]; exact a2, by simp only [PyData.depth]; omega, by simp only [PyData.leavesShort]; exact a4, by simp only [PyData.weight]; exact a5⟩
theorem c_repr {K : PySem.W.Frag} {H : Hp} {a : Addr} {d : PyData} {Q : VK} {N : Nat} (hd : Dp K H (.ref a) d) (ok : Ok 60 N d) (hN : N ≤ 80000) (q : Q (.str d.shown) H) : Gd.rRepr K [V.ref a] H Q := by
  refine ⟨a, d, rfl, hd, ok.sh, ok.nd, Nat.le_trans ok.dp (by decide), ?_, q⟩
  have := PyData.shown_le 200 (by decide) d ok.ls
  have w := ok.wt
  rw [sizeLine_eq]
  omega
/-! keys -/
def dK : Key → PyData | .inl i => .int i | .inr s => .str s
def KeyS (k : Key) : Prop := (∃ i : Int, k = .inl i ∧ i.natAbs < 1000000) ∨ ∃ l : List Nat, k = .inr (S l) ∧ l.length ≤ 200 ∧ ∀ c ∈ l, c < 16 ^ 8
theorem KeyS.ok {k : Key} (h : KeyS k) : Ok 0 200 (dK k) := by
  rcases h with ⟨i, rfl, hi⟩ | ⟨l, rfl, hl, hc⟩
  · exact .int (Nat.lt_trans hi (by decide +kernel))
  · exact (Ok.str hc).mono (Nat.le_refl _) hl
theorem dp_key {K : PySem.W.Frag} {H : Hp} (k : Key) : Dp K H (kV k) (dK k) := by
  cases k with
  | inl i => exact .int i
  | inr s => exact .str s
theorem dp_keys {K : PySem.W.Frag} {H : Hp} : ∀ ks : List Key, DpAll K H (ks.map kV) (ks.map dK)
  | [] => .nil
  | k :: r => .cons (dp_key k) (dp_keys r)
theorem dp_keyL {K : PySem.W.Frag} {H : Hp} {a : Addr} {ks : List Key} (h : H a = some (.lst (ks.map kV))) : Dp K H (.ref a) (.list (ks.map dK)) := .lst (SqL.of h) (dp_keys ks)
theorem keys_ok {ks : List Key} (h : ∀ k ∈ ks, KeyS k) : Ok 1 (ks.length * 201) (.list (ks.map dK)) := by
  have := Ok.list (k := 0) (N := 200) (ds := ks.map dK) fun d hd => by
    obtain ⟨k, hk, rfl⟩ := List.mem_map.mp hd
    exact (h k hk).ok
  rw [List.length_map] at this
  exact this
end Rp

/-! Kq: plain facts for the keys of queries: each once, sorted, texts of picks. -/
namespace Kq
open PySem L2 SX Tx Tc
/-! sorted lists are one -/
theorem sorted_uniq {α : Type} {R : α → α → Prop} (anti : ∀ a b, R a b → R b a → a = b) : ∀ {l m : List α}, l.Perm m → l.Pairwise R → m.Pairwise R → l = m
  | [], m, p, _, _ => (List.nil_perm.mp p).symm
  | a :: l, [], p, _, _ => absurd p.length_eq (by simp)
  | a :: l, b :: m, p, h1, h2 => by
    have h1' := List.pairwise_cons.mp h1
    have h2' := List.pairwise_cons.mp h2
    have e : a = b := by
      rcases List.mem_cons.mp (p.mem_iff.mp List.mem_cons_self) with e | ha
      · exact e
      · rcases List.mem_cons.mp (p.mem_iff.mpr List.mem_cons_self) with e | hb
        · exact e.symm
        · exact anti _ _ (h1'.1 b hb) (h2'.1 a ha)
    subst e
    rw [sorted_uniq anti (List.Perm.cons_inv p) h1'.2 h2'.2]
def leS (a b : Str) : Prop := PySem.Spec.ltCps b.cps.toList a.cps.toList = false
theorem leS_iff {a b : Str} : leS a b ↔ ¬ b.cps.toList < a.cps.toList := by
  unfold leS
  rw [PyProof.Rows.ltCps_eq, decide_eq_false_iff_not]
theorem leS_anti (a b : Str) (h1 : leS a b) (h2 : leS b a) : a = b := by
  rw [leS_iff] at h1 h2
  have e : a.cps.toList = b.cps.toList := List.le_antisymm (List.not_lt.mp h1) (List.not_lt.mp h2)
  cases a with
  | mk x =>
    cases b with
    | mk y =>
      congr 1
      exact Array.toList_inj.mp e
theorem leS_trans {a b c : Str} (h1 : leS a b) (h2 : leS b c) : leS a c := by
  rw [leS_iff] at *
  exact List.not_lt.mpr (List.le_trans (List.not_lt.mp h1) (List.not_lt.mp h2))
theorem rising_pw : ∀ {r : List Str} {p : Str}, PyProof.Rows.risingS p r = true → (p :: r).Pairwise leS
  | [], p, _ => List.pairwise_cons.mpr ⟨fun _ z => (nomatch z), .nil⟩
  | x :: r, p, h => by
    have h' : (!PySem.Spec.ltCps x.cps.toList p.cps.toList && PyProof.Rows.risingS x r) = true := h
    rw [Bool.and_eq_true, Bool.not_eq_true'] at h'
    have ih := rising_pw h'.2
    refine List.pairwise_cons.mpr ⟨fun y hy => ?_, ih⟩
    rcases List.mem_cons.mp hy with rfl | hy
    · exact h'.1
    · exact leS_trans (show leS p x from h'.1) ((List.pairwise_cons.mp ih).1 y hy)
theorem sortedS_pw {l : List Str} (h : PyProof.Rows.sortedS l = true) : l.Pairwise leS := by
  cases l with
  | nil => exact .nil
  | cons x r => exact rising_pw h
theorem sortedS_uniq {l m : List Str} (p : l.Perm m) (h1 : PyProof.Rows.sortedS l = true) (h2 : PyProof.Rows.sortedS m = true) : l = m :=
  sorted_uniq leS_anti p (sortedS_pw h1) (sortedS_pw h2)
/-! each once -/
section
variable {α : Type} [DecidableEq α]
def addN (acc : List α) (n : α) : List α := if n ∈ acc then acc else acc ++ [n]
def uq (ns : List α) : List α := ns.foldl addN []
theorem uq_snoc (ns : List α) (n : α) : uq (ns ++ [n]) = addN (uq ns) n := by
  unfold uq
  rw [List.foldl_append]
  rfl
theorem addN_mem {acc : List α} {n x : α} : x ∈ addN acc n ↔ x ∈ acc ∨ x = n := by
  unfold addN
  split
  · rename_i h
    exact ⟨.inl, fun z => z.elim id fun e => e ▸ h⟩
  · rw [List.mem_append, List.mem_singleton]
theorem uq_mem {ns : List α} {x : α} : x ∈ uq ns ↔ x ∈ ns := by
  unfold uq
  have : ∀ (ks acc : List α), x ∈ ks.foldl addN acc ↔ x ∈ acc ∨ x ∈ ks := by
    intro ks
    induction ks with
    | nil => exact fun acc => by simp
    | cons k r ih =>
      intro acc
      rw [List.foldl_cons, ih, addN_mem, List.mem_cons, or_assoc]
  rw [this]
  simp
theorem uq_len (ns : List α) : (uq ns).length ≤ ns.length := by
  unfold uq
  have : ∀ (ks acc : List α), (ks.foldl addN acc).length ≤ acc.length + ks.length := by
    intro ks
    induction ks with
    | nil => exact fun acc => Nat.le_refl _
    | cons k r ih =>
      intro acc
      have h1 := ih (addN acc k)
      have h2 : (addN acc k).length ≤ acc.length + 1 := by
        unfold addN
        split
        · omega
        · rw [List.length_append]
          exact Nat.le_refl _
      rw [List.foldl_cons, List.length_cons]
      omega
  have := this ns []
  simpa using this
end
/-- keys that are told apart as the numbers are -/
theorem uniq_map {f : Nat → Key} : ∀ {ns : List Nat}, (∀ a ∈ ns, ∀ b ∈ ns, f a = f b → a = b) → uniq (ns.map f) = (uq ns).map f := by
  intro ns
  have : ∀ (ks acc : List Nat), (∀ a ∈ acc ++ ks, ∀ b ∈ acc ++ ks, f a = f b → a = b) → (ks.map f).foldl add1 (acc.map f) = (ks.foldl addN acc).map f := by
    intro ks
    induction ks with
    | nil => exact fun acc _ => rfl
    | cons k r ih =>
      intro acc h
      rw [List.map_cons, List.foldl_cons, List.foldl_cons]
      have e : add1 (acc.map f) (f k) = (addN acc k).map f := by
        unfold add1 addN
        by_cases hk : k ∈ acc
        · rw [if_pos hk, if_pos (List.mem_map.mpr ⟨k, hk, rfl⟩)]
        · rw [if_neg hk, if_neg, List.map_append]
          · rfl
          · intro hm
            obtain ⟨x, hx, e⟩ := List.mem_map.mp hm
            exact hk (h x (List.mem_append_left _ hx) k (List.mem_append_right _ List.mem_cons_self) e ▸ hx)
      rw [e]
      refine ih _ fun a ha b hb => h a ?_ b ?_
      · rcases List.mem_append.mp ha with ha | ha
        · rcases addN_mem.mp ha with ha | rfl
          · exact List.mem_append_left _ ha
          · exact List.mem_append_right _ List.mem_cons_self
        · exact List.mem_append_right _ (List.mem_cons_of_mem _ ha)
      · rcases List.mem_append.mp hb with hb | hb
        · rcases addN_mem.mp hb with hb | rfl
          · exact List.mem_append_left _ hb
          · exact List.mem_append_right _ List.mem_cons_self
        · exact List.mem_append_right _ (List.mem_cons_of_mem _ hb)
  intro h
  exact this ns [] (by rw [List.nil_append]; exact h)
theorem uniq_nodup_id {ks : List Key} (h : ks.Nodup) : uniq ks = ks := by
  unfold uniq
  have : ∀ (ks acc : List Key), (acc ++ ks).Nodup → ks.foldl add1 acc = acc ++ ks := by
    intro ks
    induction ks with
    | nil => exact fun acc _ => (List.append_nil _).symm
    | cons k r ih =>
      intro acc hn
      have hk : k ∉ acc := fun hm => (List.nodup_append.mp hn).2.2 k hm k List.mem_cons_self rfl
      rw [List.foldl_cons]
      have e : add1 acc k = acc ++ [k] := by
        unfold add1
        rw [if_neg hk]
      rw [e, ih _ (by rw [List.append_assoc]; exact hn), List.append_assoc]
      rfl
  exact this ks [] (by rw [List.nil_append]; exact h)
/-! texts of picks -/
def tks (f : Nat → List Nat) (ps : List (List Nat × Nat)) : List Tk := ps.flatMap fun p => p.1.map Tk.ch ++ [Tk.ho (f p.2)]
theorem flat_ch : ∀ l : List Nat, flat (l.map Tk.ch) = l
  | [] => rfl
  | c :: r => by
    show c :: flat (r.map Tk.ch) = c :: r
    rw [flat_ch r]
theorem holes_ch : ∀ l : List Nat, holes (l.map Tk.ch) = []
  | [] => rfl
  | c :: r => holes_ch r
theorem tks_snoc (f : Nat → List Nat) (ps : List (List Nat × Nat)) (p : List Nat × Nat) : tks f (ps ++ [p]) = tks f ps ++ (p.1.map Tk.ch ++ [Tk.ho (f p.2)]) := by
  unfold tks
  rw [List.flatMap_append, List.flatMap_cons, List.flatMap_nil, List.append_nil]
theorem flat_snoc (f : Nat → List Nat) (ps : List (List Nat × Nat)) (l : List Nat) (n : Nat) : flat (tks f (ps ++ [(l, n)])) = flat (tks f ps) ++ l ++ [123] ++ f n ++ [125] := by
  rw [tks_snoc, flat_app, flat_app, flat_ch]
  show flat (tks f ps) ++ (l ++ (123 :: (f n ++ [125]))) = _
  simp
theorem holes_tks (f : Nat → List Nat) : ∀ ps : List (List Nat × Nat), holes (tks f ps) = ps.map fun p => f p.2
  | [] => rfl
  | p :: r => by
    show holes ((p.1.map Tk.ch ++ [Tk.ho (f p.2)]) ++ tks f r) = f p.2 :: r.map _
    rw [holes_app, holes_app, holes_ch, holes_tks f r]
    rfl
theorem tks_mem {f : Nat → List Nat} {ps : List (List Nat × Nat)} {t : Tk} (h : t ∈ tks f ps) : (∃ p ∈ ps, ∃ c ∈ p.1, t = .ch c) ∨ ∃ p ∈ ps, t = .ho (f p.2) := by
  obtain ⟨p, hp, ht⟩ := List.mem_flatMap.mp h
  rcases List.mem_append.mp ht with ht | ht
  · obtain ⟨c, hc, rfl⟩ := List.mem_map.mp ht
    exact .inl ⟨p, hp, c, hc, rfl⟩
  · exact .inr ⟨p, hp, List.mem_singleton.mp ht⟩
end Kq

/-! Mk: o.m(a, .., k = v), own methods with keyword-only parameters; name = {..} with keys ints or texts on one line. -/
namespace Mk
open PySem PySem.Spec PyProof.Rows L2
/-- two values and one keyword -/
def g21 {α : Type} : List α → List α → List α
  | [a, b], [c] => [a, b, c]
  | _, _ => []
theorem g21_rel {vs : List V} {us : List Value} {zs : List V} {ws : List Value} (r : Vals vs us) (rz : Vals zs ws) : Vals (g21 vs zs) (g21 us ws) := by
  cases r with
  | nil => exact .nil
  | cons h1 r =>
    cases r with
    | nil => exact .nil
    | cons h2 r =>
      cases r with
      | nil =>
        cases rz with
        | nil => exact .nil
        | cons h3 rz =>
          cases rz with
          | nil => exact .cons h1 (.cons h2 (.cons h3 .nil))
          | cons h4 rz => exact .nil
      | cons h3 r => exact .nil
def methKLeaf (C : Addr) (m : Str) (sp : Sp) (gV : List V → List V → List V) (E : XK) (t tk : TA) (σ : L2.St) (Q : VK) (x : V) (H1 : Hp) : Prop := ∃ a dx fs, x = .ref a ∧ H1 a = some (.ins C dx fs) ∧ fs.lookup m = none ∧ t σ H1 fun vs H2 => tk σ H2 fun zs H3 => sp (gV (x :: vs) zs) H3 Q E
def tMethK (C : Addr) (m : Str) (sp : Sp) (gV : List V → List V → List V) (E : XK) (ta : TE) (t tk : TA) : TE := fun σ H Q => ta σ H (methKLeaf C m sp gV E t tk σ Q)
section
variable {X : Cx} {CX : CXT} {k : Nat} {f C : Addr} {fd : FuncData} {ps ks : List Str} {sp : Sp} {E : XK} {m : Str} {apos pos : Pos} {e o : Expr} {es : List Expr} {kws : List Keyword} {ta : TE} {t tk : TA} {g : List Value → List Value → List Value} {gV : List V → List V → List V}
theorem pe_methK {pl : Sem Bool} (he : PE X o ta) (c : Cls X.K C) (hm : Meth X.K C m f) (F : FnOk X.prog X.w X.K X.mg X.base CX k f fd ps sp) (hr : Room k X.A) (hb : KBinds X.K fd ps ks g gV) (hx : Passes CX X E) (ha : PA X (e :: es) t) (hkw : PK X kws tk)
    (hall : (backToKw pos (keywordEach kws X.env)).all (·.1.isSome) = true := by rfl) (hks : (backToKw pos (keywordEach kws X.env)).filterMap (·.1) = ks := by rfl)
    (hst : starEach (e :: es) X.env = (false, eval e X.env) :: starEach es X.env := by rfl) (hpl : ((backTo pos (starEach (e :: es) X.env)).any (·.1) || (backToKw pos (keywordEach kws X.env)).any (·.1.isNone)) = false := by rfl)
    (ht : eval (.Call (.Attribute o m apos) (e :: es) kws pos) X.env = (do
      let u ← eval o X.env
      standAt apos.atName
      let (g, first) ← holding [u] (getMethod u m pl)
      callWith pos g first (backTo pos (starEach (e :: es) X.env)) (backToKw pos (keywordEach kws X.env))) := by rfl) :
    PE X (.Call (.Attribute o m apos) (e :: es) kws pos) (tMethK C m sp gV E ta t tk) := by
  refine ⟨fun pins s σ H Q I q => PySem.W.methodCall_KW (pl := pl) (thn (he.run pins s σ H _ I q) fun u s1 ⟨y, H1, I1, ry, a, dx, fs, ey, ea, l, z⟩ => ?_) ht⟩
  subst ey
  cases ry
  refine getmeth_ok I1 ea c hm l (PySem.W.callWith_KW (first := [.ref a]) (h₀ := X.base) I.ok.mod.kin hm.kp hall (thn (ha.run pos pins s1 σ H1 _ I1 z) fun us s2 ⟨vs, H2, I2, r, y⟩ => ?_) hpl hst)
  refine thn (hkw.run pos pins s2 σ H2 _ I2 y) fun ws s3 ⟨zs, H3, I3, rz, q2⟩ => ⟨I3.kIn, ?_⟩
  rw [hks]
  exact run_fnk (us := .ref a :: us) (vs := .ref a :: vs) F hr hb hx I3 (.cons rfl r) rz q2
end
section
variable {σ : L2.St} {H : Hp} {Q : VK} {C p dx : Addr} {m : Str} {sp : Sp} {gV : List V → List V → List V} {E : XK} {ta : TE} {t tk : TA} {fs : List (Str × V)}
theorem w_methK (h : ta σ H (methKLeaf C m sp gV E t tk σ Q)) : tMethK C m sp gV E ta t tk σ H Q := h
theorem c_methK (h : H p = some (.ins C dx fs)) (hl : fs.lookup m = none) (q : t σ H fun vs H2 => tk σ H2 fun zs H3 => sp (gV (.ref p :: vs) zs) H3 Q E) : methKLeaf C m sp gV E t tk σ Q (.ref p) H := ⟨p, dx, fs, rfl, h, hl, q⟩
def propLeaf (C : Addr) (sp : Sp) (dvs : List V) (E : XK) (Q : VK) (x : V) (H1 : Hp) : Prop := ∃ a dx fs, x = .ref a ∧ H1 a = some (.ins C dx fs) ∧ sp (.ref a :: dvs) H1 Q E
theorem w_prop {dvs : List V} (h : ta σ H (propLeaf C sp dvs E Q)) : tProp C sp dvs E ta σ H Q := h
theorem c_prop {dvs : List V} (h : H p = some (.ins C dx fs)) (q : sp (.ref p :: dvs) H Q E) : propLeaf C sp dvs E Q (.ref p) H := ⟨p, dx, fs, rfl, h, q⟩
end
section
variable {X : Cx}
/-- name = {..} on one line, the name a local, keys ints or texts -/
theorem ps_setDcK {i : Nat} {y : Str} {py : Pos} {kx vx tg iter : Expr} {ifs : List Expr} {scope : Scope} {own : List (Str × Nat)} {pos spos : Pos} {wi : TI} {g : TG} {tt : TT} {tk tv : TE} (calm : X.calm = true) (nd : X.N.Nodup) (hy : X.N[i]? = some y) (hyl : X.env.scope.names.lookup y = some .local)
    (hsw : swapsWith (.DictComp kx vx [⟨tg, iter, ifs, 0⟩] scope pos) (some (.Name y py)) spos.line X.env = pure true) (hi : PI X tg iter wi) (ok : BlkOk X.N X.env.scope scope own)
    (hg : ∀ (s : Shared) (H : Hp) (C : Addr) (cl : List (Str × Addr)) (fp : List Addr), PG (X.blk s H scope (compEnvC scope cl C X.env) fp) tg g) (ht : ∀ (s : Shared) (H : Hp) (C : Addr) (cl : List (Str × Addr)) (fp : List Addr), PTs (X.blk s H scope (compEnvC scope cl C X.env) fp) ifs tt)
    (hk : ∀ (s : Shared) (H : Hp) (C : Addr) (cl : List (Str × Addr)) (fp : List Addr), PE (X.blk s H scope (compEnvC scope cl C X.env) fp) kx tk)
    (hv : ∀ (s : Shared) (H : Hp) (C : Addr) (cl : List (Str × Addr)) (fp : List Addr), PE (X.blk s H scope (compEnvC scope cl C X.env) fp) vx tv) (hs : ∀ x, foldedSetIterable iter X.env x = pure x := by intro _; rfl) :
    PS X (.Assign [.Name y py] (.DictComp kx vx [⟨tg, iter, ifs, 0⟩] scope pos) spos) (tAsg (tDc wi g tt tk tv (own.map (·.2))) (gName i)) := by
  refine ⟨fun pins s σ H D I h => ?_⟩
  rw [exec_Assign_Name_used _ _ _ _ hsw]
  refine wpAny_bind (wpAny_standAt (wpAny_bind ?_))
  show wpAny _ X.A (do let _ ← comprehension (.DictComp kx vx [⟨tg, iter, ifs, 0⟩] scope pos) scope X.env (firstIterPos [⟨tg, iter, ifs, 0⟩] pos) newDict false (eval iter X.env) (some (assign (.Name y py) X.env))) _ _ s
  have h : tDc wi g tt tk tv (own.map (·.2)) σ H (fun x H1 => gName i x σ H1 D.nx) := h
  refine wpAny_bind (thn (dc_core (Qf := fun _ s' => SP X pins D .next s') calm nd I hi ok hg ht hk hv hs h fun L C s' m H' I' q hn f => ?_) fun _ s' hq => wpAny_pure (wpAny_pure hq))
  show wpAny _ _ (assign (.Name y py) X.env (.ref L)) _ _ _
  refine wpAny_assign_Name (store_ok2 (v := V.ref L) I' nd hy (.inl hyl) rfl (fun s2 I2 ⟨a, sb, ha⟩ => ?_) (.inr hyl))
  obtain ⟨f0, f1, f2, f3, f4, f5⟩ := f
  have haC : C ≠ a := by
    rcases ha with z | z
    · rw [z]; exact f1
    · exact fun e => f4 y a z e.symm
  refine ⟨m, hn.sameBut sb haC, fun h3 sb3 => ?_⟩
  exact ⟨_, H', I2.turned (t' := s2.toks) (fun b o hb e => (sb3.2 b hb).trans e) f0 f1 f3 f4 f5, q⟩
end
/-! x.clear() of a list or a dict; tuple(xs) -/
def clrLeaf (K : PySem.W.Frag) (Q : VK) (x : V) (H1 : Hp) : Prop := ∃ a, x = .ref a ∧ ((∃ kvs, H1 a = some (.dK kvs) ∧ Q .non (upd H1 a (.dK []))) ∨ ∃ xs, H1 a = some (.lst xs) ∧ Q .non (upd H1 a (.lst [])))
def tClr (K : PySem.W.Frag) (to : TE) : TE := fun σ H Q => to σ H (clrLeaf K Q)
section
variable {X : Cx} {o : Expr} {to : TE} {apos cpos : Pos}
theorem pe_clearE (ho : PE X o to) (hbase : attributeBase o "clear" X.env (eval o X.env) = eval o X.env := by rfl) (hline : (apos.endLine == cpos.line) = true := by rfl) : PE X (.Call (.Attribute o "clear" apos) [] [] cpos) (tClr X.K to) := by
  refine ⟨fun pins s σ H Q I h => ?_⟩
  refine wpAny_Call_method0_late hbase hline (thn (ho.run pins s σ H _ I h) fun v s1 ⟨x, H1, I1, r1, a, ex, q⟩ => ?_)
  subst ex
  rcases q with ⟨kvs, e, q⟩ | ⟨xs, e, q⟩
  · obtain ⟨h1, h2⟩ := tyV_is (T := "dict") I1 r1 (show tyV X.K "dict" (.ref a) H1 from .inr (.inr (.inl ⟨rfl, .inl ⟨kvs, e⟩⟩)))
    exact ⟨"dict", "dict.clear", PySem.F.plainAttrs_dict, PySem.F.slot_dict_clear, PySem.F.type_dict_clear, h1, h2, Calls.callWith_builtin rfl (PySem.evalArgs_none (mtd_clear pins s1 σ H1 (.ref a) [] v [] Q I1 r1 .nil ⟨a, kvs, rfl, rfl, e, q⟩))⟩
  · obtain ⟨h1, h2⟩ := tyV_is (T := "list") I1 r1 (show tyV X.K "list" (.ref a) H1 from .inl ⟨rfl, xs, SqL.of e⟩)
    exact ⟨"list", "list.clear", PySem.F.plainAttrs_list, PySem.F.slot_list_clear, PySem.F.type_list_clear, h1, h2, Calls.callWith_builtin rfl (PySem.evalArgs_none (mt_clear pins s1 σ H1 (.ref a) [] v [] Q I1 r1 .nil ⟨a, xs, rfl, rfl, e, q⟩))⟩
end
section
variable {σ : L2.St} {H : Hp} {Q : VK} {K : PySem.W.Frag} {p : Addr} {xs : List V} {ta : TE}
theorem w_clr (h : ta σ H (clrLeaf K Q)) : tClr K ta σ H Q := h
theorem c_clrD {kvs : List (Key × V)} (h : H p = some (.dK kvs)) (q : Q .non (upd H p (.dK []))) : clrLeaf K Q (.ref p) H := ⟨p, rfl, .inl ⟨kvs, h, q⟩⟩
theorem c_clrL (h : H p = some (.lst xs)) (q : Q .non (upd H p (.lst []))) : clrLeaf K Q (.ref p) H := ⟨p, rfl, .inr ⟨xs, h, q⟩⟩
end
/-! x != y, both data (lists, tuples, ..) or both dicts of flat values that are alike -/
def rNeE (K : PySem.W.Frag) : R2 := fun x y H Q => rNeD K x y H Q ∨ rNeDA x y H Q
theorem op_neDE {X : Cx} (hu : X.A.units + 64 < cLine) : OpR X (compareOp .NotEq) (rNeE X.K) := by
  intro pins s σ H x y v u Q I rx ry h
  rcases h with h | h
  · exact op_neD hu pins s σ H x y v u Q I rx ry h
  · exact op_ne_dictA (Nat.lt_of_le_of_lt (Nat.le_add_right _ _) hu) pins s σ H x y v u Q I rx ry h
def rEqE (K : PySem.W.Frag) : R2 := fun x y H Q => rEqD K x y H Q ∨ rEqDA x y H Q
theorem op_eqDE {X : Cx} (hu : X.A.units + 64 < cLine) : OpR X (compareOp .Eq) (rEqE X.K) := by
  intro pins s σ H x y v u Q I rx ry h
  rcases h with h | h
  · exact op_eqD hu pins s σ H x y v u Q I rx ry h
  · exact op_eq_dictA (Nat.lt_of_le_of_lt (Nat.le_add_right _ _) hu) pins s σ H x y v u Q I rx ry h
theorem c_eqDA {H : Hp} {Q : VK} {a b : Addr} {ks : List (Key × V)} (h1 : H a = some (.dK ks)) (h2 : H b = some (.dK ks)) (hv : ∀ p ∈ ks, valV ks p.1 = some p.2 ∧ flatB p.2 = true) (q : Q (.bl true) H) : rEqDA (.ref a) (.ref b) H Q := ⟨a, b, ks, ks, rfl, rfl, h1, h2, rfl, hv, q⟩
theorem c_neDA {H : Hp} {Q : VK} {a b : Addr} {ks : List (Key × V)} (h1 : H a = some (.dK ks)) (h2 : H b = some (.dK ks)) (hv : ∀ p ∈ ks, valV ks p.1 = some p.2 ∧ flatB p.2 = true) (q : Q (.bl false) H) : rNeDA (.ref a) (.ref b) H Q := ⟨a, b, ks, ks, rfl, rfl, h1, h2, rfl, hv, q⟩
/-! len and list of a list, a tuple or a dict -/
def rLenE (K : PySem.W.Frag) : List V → Hp → VK → Prop := fun xs H Q => Eg.rLenQ K xs H Q ∨ ∃ a kvs, xs = [V.ref a] ∧ H a = some (.dK kvs) ∧ Q (.int (kvs.length : Nat)) H
theorem cr_lenE {X : Cx} : CallR X (.builtin "len") (rLenE X.K) := by
  intro pins s σ H xs us Q I r h
  rcases h with h | h
  · exact Eg.cr_len pins s σ H xs us Q I r h
  · exact call_lenD pins s σ H xs us Q I r h
def rListL (K : PySem.W.Frag) : List V → Hp → VK → Prop := fun xs H Q => ∃ p ys, xs = [V.ref p] ∧ (SqL K H p ys ∨ SqT K H p ys) ∧ ∀ l, H l = none → Q (.ref l) (upd H l (.lst ys))
def rListE (K : PySem.W.Frag) : List V → Hp → VK → Prop := fun xs H Q => rListL K xs H Q ∨ ∃ a kvs, xs = [V.ref a] ∧ H a = some (.dK kvs) ∧ ∀ p, H p = none → Q (.ref p) (upd H p (.lst (kvs.map fun kv => kV kv.1)))
theorem cr_listE {X : Cx} (hc : X.calm = true) : CallR X (.type "list") (rListE X.K) := by
  intro pins s σ H xs us Q I r h
  rcases h with h | ⟨a, kvs, e, h, q⟩
  · exact call_list_of pins s σ H xs us Q I r h
  · exact call_listD hc pins s σ H xs us Q I r ⟨a, kvs, e, .inl h, q⟩
section
variable {H : Hp} {Q : VK} {K : PySem.W.Frag} {p : Addr} {ys : List V} {kvs : List (Key × V)}
theorem c_lenL (h : H p = some (.lst ys)) (q : Q (.int (ys.length : Nat)) H) : rLenE K [V.ref p] H Q := .inl ⟨p, ys, rfl, .inl (SqL.of h), q⟩
theorem c_lenD (h : H p = some (.dK kvs)) (q : Q (.int (kvs.length : Nat)) H) : rLenE K [V.ref p] H Q := .inr ⟨p, kvs, rfl, h, q⟩
theorem c_listL (h : H p = some (.lst ys)) (q : ∀ l, H l = none → Q (.ref l) (upd H l (.lst ys))) : rListE K [V.ref p] H Q := .inl ⟨p, ys, rfl, .inl (SqL.of h), q⟩
theorem c_listT (h : H p = some (.tup ys)) (q : ∀ l, H l = none → Q (.ref l) (upd H l (.lst ys))) : rListE K [V.ref p] H Q := .inl ⟨p, ys, rfl, .inr (SqT.of h), q⟩
theorem c_listD (h : H p = some (.dK kvs)) (q : ∀ l, H l = none → Q (.ref l) (upd H l (.lst (kvs.map fun kv => kV kv.1)))) : rListE K [V.ref p] H Q := .inr ⟨p, kvs, rfl, h, q⟩
end
/-! displays of dicts, pair by pair -/
section
variable {σ : L2.St} {H : Hp} {tk tv : TE} {r : List (TE × TE)}
theorem w_pairC {R : List (V × V) → Hp → Prop} (h : tk σ H fun x H1 => tv σ H1 fun y H2 => tPairs r σ H2 fun ps H3 => R ((x, y) :: ps) H3) : tPairs ((tk, tv) :: r) σ H R := h
theorem w_pairN {R : List (V × V) → Hp → Prop} (h : R [] H) : tPairs [] σ H R := h
end
/-! repr of data, of None too -/
def rReprA (K : PySem.W.Frag) : List V → Hp → VK → Prop := fun xs H Q => Gd.rRepr K xs H Q ∨ (xs = [V.non] ∧ Q (.str "None") H)
theorem cr_reprA {X : Cx} (st : Gd.Still X.A) (hu : X.A.units + 70 < cLine) : CallR X (.builtin "repr") (rReprA X.K) := by
  intro pins s σ H xs us Q I r q
  rcases q with q | ⟨rfl, q⟩
  · exact Gd.cr_repr st hu pins s σ H xs us Q I r q
  · obtain ⟨u, rfl, ru⟩ := vals1 r
    cases ru
    exact PySem.P.repr_of_none ⟨.str "None", H, I.tok _, ⟨_, rfl⟩, q⟩
end Mk

/-! Pz: classes whose __init__ has a default, *values and **named; static methods; classmethods. -/
namespace Pz
open PySem PySem.Spec PyProof.Rows L2 StX
section
variable {CX : CXT} {P : Program} {w : World} {K : PySem.W.Frag} {mg : Str → Option Value} {base : Heap} {k : Nat} {f T : Addr} {name qual : Str} {params : Arguments} {body : List Stmt} {scope : Scope} {kV doc pm cdv ct oc : Value} {an od : Option Addr}
  {osl : Array (Option Value)} {N : List Str} {sp : Sp} {oT : Obj} {du : Value} {dv : V} {nT : Nat} {p1 p2 pv pd : Str}
/-- what a call binds when its positional values are us, the rest goes into a tuple, and an empty dict stands for the names -/
def Lays (T : Addr) (du : Value) (m : Sem (List (Str × Value))) (bs : List (Str × Value)) (rest : List Value) (pv pd : Str) : Prop :=
  ∃ kk : Option (Array Value) → Sem (List (Str × Value)), m = (seqItems? (.ref T) >>= kk) ∧ kk (some #[du]) = (newTuple rest >>= fun t => (alloc ({ cls := .type "dict", data := .dict #[] } : Obj) : Sem Addr) >>= fun d => pure (bs ++ [(pv, t), (pd, Value.ref d)]))
/-- def f(self, text=d, *values, **named), called without keywords -/
theorem fn_starkwD (lk : K.lookup f = some ⟨oc, od, .func (PySem.W.fnOf name qual params body scope (.ref T) kV doc pm an cdv ct), osl⟩) (lT : K.lookup T = some oT) (hT : oT.data = .seq #[du] nT) (rd : RelV dv du)
    (hcd : PySem.W.codeIn K cdv qual = true) (S : FnScope N [p1, p2, pv, pd] scope) (hCX : CXUp CX)
    (hb : ∀ (a b : Value) (rest : List Value), Lays T du (bindArgs (PySem.W.fnOf name qual params body scope (.ref T) kV doc pm an cdv ct) ⟨a :: b :: rest, []⟩) [(p1, a), (p2, b)] rest pv pd)
    (hb0 : ∀ a : Value, Lays T du (bindArgs (PySem.W.fnOf name qual params body scope (.ref T) kV doc pm an cdv ct) ⟨[a], []⟩) [(p1, a), (p2, du)] [] pv pd)
    (hbody : ∀ (A : Around) (outer : List Env) (s : Shared) (H : Hp) (vs : List V) (Q : VK) (E : XK), Room k (A.deeper (envOfC qual scope s.heap.objs.size f cdv)) → sp vs H Q E →
      ∃ t, PSs (cxOf CX P w K mg base N qual scope f cdv A outer s H E) body t ∧ t { nx := fun _ H' => Q .non H', rt := Q } (start N vs) H) :
    FnR P w K mg base CX (k + 1) f (fun vs H Q E => ∃ (x y : V) (rest : List V), (vs = x :: y :: rest ∨ (vs = [x] ∧ y = dv ∧ rest = [])) ∧ rest.length ≤ sizeLine ∧ ∀ p d, H p = Option.none → H d = Option.none → d ≠ p → sp [x, y, V.ref p, V.ref d] (upd (upd H p (.tup rest)) d (.dK [])) Q E) := by
  intro A outer s H us vs Q E hr e0 r hsp
  obtain ⟨x, y, rest, ev, hz, hq⟩ := hsp
  have KX : K.In s.heap := e0.mod.kin.keeps fun b o e => (e0.bs b o e).1
  obtain ⟨u1, u2, ur, rx, ry, rr, lay⟩ : ∃ (u1 u2 : Value) (ur : List Value), RelV x u1 ∧ RelV y u2 ∧ Vals rest ur ∧ Lays T du (bindArgs (PySem.W.fnOf name qual params body scope (.ref T) kV doc pm an cdv ct) ⟨us, []⟩) [(p1, u1), (p2, u2)] ur pv pd := by
    rcases ev with rfl | ⟨rfl, rfl, rfl⟩
    · cases r with
      | cons a r1 =>
        cases r1 with
        | cons b r2 => exact ⟨_, _, _, a, b, r2, hb _ _ _⟩
    · cases r with
      | cons a r1 =>
        cases r1
        exact ⟨_, _, _, a, rd, .nil, hb0 _⟩
  obtain ⟨kk, e1, e2⟩ := lay
  have hn : H s.heap.objs.size = Option.none := e0.hok.fresh (Nat.le_refl _)
  have hl2 : ur.length ≤ sizeLine := by rw [← rr.length]; exact hz
  refine run_bnd lk hcd S hr e0 (G := fun xs H2 => ∃ p d, H p = Option.none ∧ H d = Option.none ∧ d ≠ p ∧ xs = [x, y, V.ref p, V.ref d] ∧ H2 = upd (upd H p (.tup rest)) d (.dK [])) (fun A' Ex Q' h => ?_) fun s2 H2 xs ⟨p, d, hp, hd, hne, ex, eH⟩ hr' => ?_
  · rw [e1]
    refine wpAny_bind (wpAny_seqItems (KX _ _ lT) hT ?_)
    rw [e2]
    refine wpAny_bind (wpAny_newTuple (wpAny_bind (wpAny_alloc (wpAny_pure ?_))) hl2)
    have new : ObjOk P w (upd H s.heap.objs.size (.tup rest)) (s.heap.push ({ cls := .type "tuple", data := .seq ur.toArray } : Obj)) s.heap.objs.size (.tup rest) := ⟨hz, ur, rr, ⟨_, Heap.get?_push_size _ rfl, rfl, _, rfl⟩⟩
    have e1 := env0_laid e0 new
    have un1 := un_laid (fs := frs outer) (s := s) (o := ({ cls := .type "tuple", data := .seq ur.toArray } : Obj)) (u := .tup rest) hn
    have hn2 := e1.hok.fresh (Nat.le_refl _)
    have e2 := env0_laid (u := .dK []) (o := ({ cls := .type "dict", data := .dict #[] } : Obj)) e1 (dk_empty _ (env0_big e1))
    have un2 := un1.trans (un_laid (fs := frs outer) (s := { s with heap := s.heap.push ({ cls := .type "tuple", data := .seq ur.toArray } : Obj) }) (o := ({ cls := .type "dict", data := .dict #[] } : Obj)) (u := .dK []) hn2)
    have sz : (s.heap.push ({ cls := .type "tuple", data := .seq ur.toArray } : Obj)).objs.size = s.heap.objs.size + 1 := Heap.size_push _ _
    have ne : (s.heap.push ({ cls := .type "tuple", data := .seq ur.toArray } : Obj)).objs.size ≠ s.heap.objs.size := by
      rw [sz]
      exact Nat.succ_ne_self _
    have hd : H (s.heap.push ({ cls := .type "tuple", data := .seq ur.toArray } : Obj)).objs.size = Option.none := e0.hok.fresh (by rw [sz]; exact Nat.le_succ _)
    exact h _ _ [x, y, V.ref s.heap.objs.size, V.ref (s.heap.push ({ cls := .type "tuple", data := .seq ur.toArray } : Obj)).objs.size] [u1, u2, Value.ref s.heap.objs.size, Value.ref (s.heap.push ({ cls := .type "tuple", data := .seq ur.toArray } : Obj)).objs.size] e2 un2 rfl
      (fun e s' => hCX outer s H _ _ E e s' un2 (fun b o q => Heap.get?_push_of_some _ (Heap.get?_push_of_some _ q)) rfl) (.cons rx (.cons ry (.cons rfl (.cons rfl .nil)))) rfl ⟨_, _, hn, hd, ne, rfl, rfl⟩
  · subst ex eH
    exact hbody A outer s2 _ _ Q E hr' (hq p d hp hd hne)
end
section
variable {X : Cx} {CX : CXT} {k i : Nat} {f C p g : Addr} {mc : Value} {sp : Sp} {E : XK} {x m : Str} {e o : Expr} {es : List Expr} {ta : TE} {t : TA} {p0 pos apos : Pos} {pl : Sem Bool}
/-- C() -/
theorem pe_make0R (M : Mk X.K C f) (F : FnR X.prog X.w X.K X.mg X.base CX k f sp) (hr : Room (k + 1) X.A) (hg : Gl X x) (hm : X.mg x = some (.ref C)) (hx : Passes CX X E) (hdb : (x == ("__debug__" : Str)) = false := by decide) : PE X (.Call (.Name x p0) [] [] pos) (tMakeR C sp E tNil) := by
  refine ⟨fun pins s σ H Q I h => ?_⟩
  refine wpAny_Call_Name_kw (ld_glob I hg hm ?_ hdb)
  exact PySem.W.callWith_K0 I.kIn M.kp (run_makeR (us := []) M F hr hx I .nil h)
/-- cls(..), cls a local that holds the class -/
def tMkVar (i : Nat) (C : Addr) (sp : Sp) (E : XK) (t : TA) : TE := fun σ H Q => σ[i]? = some (some (.ref C)) ∧ tMakeR C sp E t σ H Q
theorem pe_mkVar (M : Mk X.K C f) (F : FnR X.prog X.w X.K X.mg X.base CX k f sp) (hr : Room (k + 1) X.A) (hN : X.N[i]? = some x) (hv : Vis X.env.scope x) (hx : Passes CX X E) (ha : PA X (e :: es) t)
    (hdb : (x == ("__debug__" : Str)) = false := by decide) (hcd : (x == ("__classdict__" : Str)) = false := by decide)
    (he : starEach (e :: es) X.env = (false, eval e X.env) :: starEach es X.env := by rfl) (hpl : (backTo pos (starEach es X.env)).any (·.1) = false := by rfl) : PE X (.Call (.Name x p0) (e :: es) [] pos) (tMkVar i C sp E t) := by
  refine ⟨fun pins s σ H Q I h => ?_⟩
  obtain ⟨hs, ht⟩ := h
  refine wpAny_Call_Name_kw (thn ((pe_var (pos := p0) hN hv hdb hcd).run pins s σ H (fun v H1 => v = .ref C ∧ H1 = H) I ⟨.ref C, hs, rfl, rfl⟩) fun u s1 ⟨v, H1, I1, r1, q1⟩ => ?_)
  obtain ⟨rfl, rfl⟩ := q1
  cases r1
  refine PySem.W.callWith_K (h₀ := X.base) I.ok.mod.kin M.kp (thn (ha.run pos pins s1 σ _ _ I1 ht) fun us s2 ⟨vs, H2, I2, r, q⟩ => ⟨I2.kIn, ?_⟩) he hpl
  exact run_makeR M F hr hx I2 r q
theorem pe_mkVar0 (M : Mk X.K C f) (F : FnR X.prog X.w X.K X.mg X.base CX k f sp) (hr : Room (k + 1) X.A) (hN : X.N[i]? = some x) (hv : Vis X.env.scope x) (hx : Passes CX X E)
    (hdb : (x == ("__debug__" : Str)) = false := by decide) (hcd : (x == ("__classdict__" : Str)) = false := by decide) : PE X (.Call (.Name x p0) [] [] pos) (tMkVar i C sp E tNil) := by
  refine ⟨fun pins s σ H Q I h => ?_⟩
  obtain ⟨hs, ht⟩ := h
  refine wpAny_Call_Name_kw (thn ((pe_var (pos := p0) hN hv hdb hcd).run pins s σ H (fun v H1 => v = .ref C ∧ H1 = H) I ⟨.ref C, hs, rfl, rfl⟩) fun u s1 ⟨v, H1, I1, r1, q1⟩ => ?_)
  obtain ⟨rfl, rfl⟩ := q1
  cases r1
  exact PySem.W.callWith_K0 I1.kIn M.kp (run_makeR (us := []) M F hr hx I1 .nil ht)
/-- C.m is a static method: its record at p, its def at g -/
structure CSta (K : PySem.W.Frag) (C : Addr) (mc : Value) (m : Str) (p g : Addr) : Prop where
  at_ : PySem.W.findCls K (.ref C) mc m = some (.get (.builtin "staticmethod.__get__") (.ref p) .none (.ref C))
  rc : ∃ rest, PySem.W.recIn K p "staticmethod" = some (.ref g :: rest)
  kp : PySem.W.keepIn K (.ref g) = true
theorem getsta_ok {pins : List (Addr × Obj)} {σ : L2.St} {H : Hp} {s : Shared} {A : Around} {E : Value → Shared → Prop} {Q : Value × List Value → Shared → Prop} (I : Inv X pins σ H s) (r : ClX.CRead X.K C mc) (c : CSta X.K C mc m p g)
    (h : ∀ s', Inv X pins σ H s' → Q (.ref g, []) s') : wpAny (model X.prog X.w) A (getMethod (.ref C) m pl) Q E s := by
  obtain ⟨rest, hp⟩ := c.rc
  refine PySem.W.method_cls I.kIn r.ga ?_
  refine PySem.W.cls_bind I.kIn r.rd c.at_ ?_
  refine wpAny_call (PySem.W.sm_get (s := { s with toks := s.toks + 1 }) I.kIn hp (PySem.W.handed_on rfl ?_))
  exact h _ (I.tok _)
/-- C.m(), m a classmethod -/
theorem pe_cmeth0 (he : PE X o ta) (r : ClX.CRead X.K C mc) (c : ClX.CMet X.K C mc m p g) (F : FnR X.prog X.w X.K X.mg X.base CX k g sp) (hr : Room k X.A) (hx : Passes CX X E)
    (ht : eval (.Call (.Attribute o m apos) [] [] pos) X.env = (do
      let ov ← eval o X.env
      standAt apos.atName
      let (f, first) ← holding [ov] (getMethod ov m pl)
      callWith pos f first (backTo pos (starEach [] X.env)) (backToKw pos (keywordEach [] X.env))) := by rfl) :
    PE X (.Call (.Attribute o m apos) [] [] pos) (ClX.tCMeth C sp E ta tNil) := by
  refine ⟨fun pins s σ H Q I h => ?_⟩
  refine PySem.W.methodCall_KW (pl := pl) (thn (he.run pins s σ H _ I h) fun u s1 ⟨x, H1, I1, rx, ex, q⟩ => ?_) ht
  subst ex
  obtain rfl : u = Value.ref C := rx
  refine ClX.getmethcm_ok I1 r c fun s2 I2 => ?_
  exact PySem.W.callWith_M0 ⟨ClX.pin_at I2, I2.kIn⟩ c.fi (ClX.run_cm (us := []) F hr hx I2 .nil q)
/-- C.m(e, ..), m a static method -/
def tSMeth (C : Addr) (sp : Sp) (E : XK) (ta : TE) (t : TA) : TE := fun σ H Q => ta σ H fun x H1 => x = .ref C ∧ t σ H1 fun vs H2 => sp vs H2 Q E
theorem pe_smeth (he : PE X o ta) (r : ClX.CRead X.K C mc) (c : CSta X.K C mc m p g) (F : FnR X.prog X.w X.K X.mg X.base CX k g sp) (hr : Room k X.A) (hx : Passes CX X E) (ha : PA X (e :: es) t)
    (hst : starEach (e :: es) X.env = (false, eval e X.env) :: starEach es X.env := by rfl) (hpl : (backTo pos (starEach es X.env)).any (·.1) = false := by rfl)
    (ht : eval (.Call (.Attribute o m apos) (e :: es) [] pos) X.env = (do
      let ov ← eval o X.env
      standAt apos.atName
      let (f, first) ← holding [ov] (getMethod ov m pl)
      callWith pos f first (backTo pos (starEach (e :: es) X.env)) (backToKw pos (keywordEach [] X.env))) := by rfl) :
    PE X (.Call (.Attribute o m apos) (e :: es) [] pos) (tSMeth C sp E ta t) := by
  refine ⟨fun pins s σ H Q I h => ?_⟩
  refine PySem.W.methodCall_KW (pl := pl) (thn (he.run pins s σ H _ I h) fun u s1 ⟨x, H1, I1, rx, ex, q⟩ => ?_) ht
  subst ex
  obtain rfl : u = Value.ref C := rx
  refine getsta_ok I1 r c fun s2 I2 => ?_
  exact PySem.W.callWith_K (h₀ := X.base) I2.ok.mod.kin c.kp (thn (ha.run pos pins s2 σ H1 _ I2 q) fun us s3 ⟨vs, H2, I3, rv, q2⟩ => ⟨I3.kIn, wpAny_call (run_fnR F hr hx I3 rv q2)⟩) hst hpl
end
/-- a def with one default, *values and **named, as it stands behind the top -/
structure FunS (K : PySem.W.Frag) (x qual : Str) (st : Stmt) (p1 p2 pv pd : Str) (dv : V) (f : Addr) : Prop where
  ex : ∃ (oc : Value) (od : Option Addr) (T : Addr) (oT : Obj) (du : Value) (nT : Nat) (kV doc pm : Value) (an : Option Addr) (cdv ct : Value) (osl : Array (Option Value)),
    K.lookup f = some ⟨oc, od, .func (PySem.W.fnOf x qual (defArgs st) (defBody st) (defScope st) (.ref T) kV doc pm an cdv ct), osl⟩ ∧ K.lookup T = some oT ∧ oT.data = .seq #[du] nT ∧ RelV dv du ∧ PySem.W.codeIn K cdv qual = true ∧
    (∀ (a b : Value) (rest : List Value), Lays T du (bindArgs (PySem.W.fnOf x qual (defArgs st) (defBody st) (defScope st) (.ref T) kV doc pm an cdv ct) ⟨a :: b :: rest, []⟩) [(p1, a), (p2, b)] rest pv pd) ∧
    ∀ a : Value, Lays T du (bindArgs (PySem.W.fnOf x qual (defArgs st) (defBody st) (defScope st) (.ref T) kV doc pm an cdv ct) ⟨[a], []⟩) [(p1, a), (p2, du)] [] pv pd
theorem FunS.ok {CX : CXT} {P : Program} {w : World} {K : PySem.W.Frag} {mg : Str → Option Value} {base : Heap} {k : Nat} {f : Addr} {x qual : Str} {st : Stmt} {N : List Str} {sp : Sp} {p1 p2 pv pd : Str} {dv : V} (F : FunS K x qual st p1 p2 pv pd dv f) (S : FnScope N [p1, p2, pv, pd] (defScope st)) (hCX : CXUp CX)
    (hbody : ∀ (cdv : Value) (A : Around) (outer : List Env) (s : Shared) (H : Hp) (vs : List V) (Q : VK) (E : XK), Room k (A.deeper (envOfC qual (defScope st) s.heap.objs.size f cdv)) → sp vs H Q E →
      ∃ t, PSs (cxOf CX P w K mg base N qual (defScope st) f cdv A outer s H E) (defBody st) t ∧ t { nx := fun _ H' => Q .non H', rt := Q } (start N vs) H) :
    FnR P w K mg base CX (k + 1) f (fun vs H Q E => ∃ (x y : V) (rest : List V), (vs = x :: y :: rest ∨ (vs = [x] ∧ y = dv ∧ rest = [])) ∧ rest.length ≤ sizeLine ∧ ∀ p d, H p = Option.none → H d = Option.none → d ≠ p → sp [x, y, V.ref p, V.ref d] (upd (upd H p (.tup rest)) d (.dK [])) Q E) := by
  obtain ⟨oc, od, T, oT, du, nT, kV, doc, pm, an, cdv, ct, osl, lk, lT, hT, rd, hcd, hb, hb0⟩ := F.ex
  exact fn_starkwD lk lT hT rd hcd S hCX hb hb0 fun A outer s H vs Q E => hbody cdv A outer s H vs Q E
/-! named leaves -/
section
variable {K : PySem.W.Frag} {σ : L2.St} {H : Hp} {Q : VK} {te : TE} {t : TA} {C : Addr} {sp : Sp} {E : XK}
def starL (K : PySem.W.Frag) (t : TA) (σ : L2.St) (R : List V → Hp → Prop) : VK := fun x H1 => ∃ p xs, x = V.ref p ∧ (SqT K H1 p xs ∨ SqL K H1 p xs) ∧ t σ H1 fun ys H2 => R (xs ++ ys) H2
theorem w_star {R : List V → Hp → Prop} (h : te σ H (starL K t σ R)) : tStar K te t σ H R := h
theorem c_starL {R : List V → Hp → Prop} {a : Addr} {xs : List V} (ha : H a = some (.lst xs)) (h : t σ H fun ys H2 => R (xs ++ ys) H2) : starL K t σ R (.ref a) H := ⟨a, xs, rfl, .inr (SqL.of ha), h⟩
/-- the promise of a def with a default, *values and **named, from that of its body -/
def SpStar (dv : V) (sp : Sp) : Sp := fun vs H Q E => ∃ (x y : V) (rest : List V), (vs = x :: y :: rest ∨ (vs = [x] ∧ y = dv ∧ rest = [])) ∧ rest.length ≤ sizeLine ∧ ∀ p d, H p = Option.none → H d = Option.none → d ≠ p → sp [x, y, V.ref p, V.ref d] (upd (upd H p (.tup rest)) d (.dK [])) Q E
def mkRL (C : Addr) (sp : Sp) (E : XK) (Q : VK) : List V → Hp → Prop := fun vs H1 => ∀ x dx, H1 x = Option.none → H1 dx = Option.none → dx ≠ x → sp (V.ref x :: vs) (upd (upd H1 dx (.own x)) x (.ins C dx [])) (fun v H2 => v = .non ∧ Q (.ref x) H2) E
theorem w_mkR (h : t σ H (mkRL C sp E Q)) : tMakeR C sp E t σ H Q := h
theorem w_mkVar {i : Nat} (hs : σ[i]? = some (some (.ref C))) (h : t σ H (mkRL C sp E Q)) : tMkVar i C sp E t σ H Q := ⟨hs, h⟩
end
end Pz

/-! Po: own operators where the other side is a text; += without an own in-place method; bool(own); o[i] = v by an own method. -/
namespace Po
open PySem PySem.Spec PySem.Calls PySem.W
section
variable {prog : Program} {w : World} {A : Around} {E : Value → Shared → Prop} {s : Shared} {K : Frag} {x C L f g : Addr} {h₀ : Heap} {m : Str → Option Value} {ox : Obj} {od : Option Obj}
theorem noFill_str : ∀ {M : Model} {h : Heap}, Looks M h (fillsNumberSlot (.type "str") "add") false := Looks.of_pure _root_.PySem.noFill_str_add
/-- a text + own, by own __radd__ -/
theorem add_strR {y : Str} {t : Tok} {Q : Value → Shared → Prop} (F : PyProof.Rows.Fr h₀ L s.heap m) (X₀ : K.In h₀) (I : InstAt s.heap x ox C od) (hc : selfFirst K C = true)
    (hs : findIn K (.ref C) "__add__" = some (some (.ref g))) (hr : findIn K (.ref C) "__radd__" = some (some (.ref f))) (hf : isFn K (.ref f) = true)
    (h : wpAny (model prog w) A (call (.ref f) [.ref x, .str y t]) (PySem.W.CmpBack Q) E s) : wpAny (model prog w) A (binaryOp .Add (.str y t) (.ref x)) Q E s := by
  have X := X₀.keeps F.keep
  obtain ⟨cd, rest, hcd, hm⟩ := ksp_first hc
  have one := ksp_try X I hr hf h
  obtain ⟨hh, gg, d, tt, os⟩ := s
  have L1 : Looks (model prog w) hh (typeOf (.str y t)) (.type "str") := Looks.of_pure rfl
  have L2 : Looks (model prog w) hh (typeOf (.ref x)) (.ref C) := I.type
  have L3 : Looks (model prog w) hh (fillsNumberSlot (.type "str") "add") false := noFill_str
  have L4 : Looks (model prog w) hh (fillsNumberSlot (.ref C) "add") true := fills_K X hcd hm hs
  have hne : (Value.type "str" == Value.ref C) = false := Bool.eq_false_iff.mpr fun q => by cases beq_iff_eq.mp q
  unfold binaryOp
  refine wpAny_holding (wpAny_bind ?_)
  unfold binaryOp1
  refine wpAny_bind (L1.at (wpAny_bind (L2.at (wpAny_bind (L3.at ?_)))))
  simp only [hne, Bool.false_eq_true, if_false]
  ksp_lk
  refine wpAny_mono one (fun r s' hr' => ?_) fun _ _ e => e
  obtain ⟨v, rfl, hq⟩ := hr'
  ksp_lk
  exact hq
/-- own + a text, as one operator of two -/
theorem bin1_strL {y : Str} {t : Tok} {Q : Value → Shared → Prop} (X : K.In s.heap) (I : InstAt s.heap x ox C od) (hc : selfFirst K C = true)
    (hs : findIn K (.ref C) "__add__" = some (some (.ref f))) (hf : isFn K (.ref f) = true)
    (h : wpAny (model prog w) A (call (.ref f) [.ref x, .str y t]) (PySem.W.CmpBack Q) E s) : wpAny (model prog w) A (binaryOp1 "add" (.ref x) (.str y t)) (fun r s' => ∃ v, r = some v ∧ Q v s') E s := by
  obtain ⟨cd, rest, hcd, hm⟩ := ksp_first hc
  have one := ksp_try X I hs hf h
  obtain ⟨hh, gg, d, tt, os⟩ := s
  have L1 : Looks (model prog w) hh (typeOf (.ref x)) (.ref C) := I.type
  have L2 : Looks (model prog w) hh (typeOf (.str y t)) (.type "str") := Looks.of_pure rfl
  have L3 : Looks (model prog w) hh (fillsNumberSlot (.ref C) "add") true := fills_K X hcd hm hs
  have L4 : Looks (model prog w) hh (fillsNumberSlot (.type "str") "add") false := noFill_str
  have hne : (Value.ref C == Value.type "str") = false := Bool.eq_false_iff.mpr fun q => by cases beq_iff_eq.mp q
  unfold binaryOp1
  refine wpAny_bind (L1.at (wpAny_bind (L2.at (wpAny_bind (L3.at ?_)))))
  simp only [hne, Bool.false_eq_true, if_false]
  ksp_lk
  refine wpAny_mono one (fun r s' hr' => ?_) fun _ _ e => e
  obtain ⟨v, rfl, hq⟩ := hr'
  ksp_lk
  exact ⟨_, rfl, hq⟩
theorem add_strL {y : Str} {t : Tok} {Q : Value → Shared → Prop} (F : PyProof.Rows.Fr h₀ L s.heap m) (X₀ : K.In h₀) (I : InstAt s.heap x ox C od) (hc : selfFirst K C = true)
    (hs : findIn K (.ref C) "__add__" = some (some (.ref f))) (hf : isFn K (.ref f) = true)
    (h : wpAny (model prog w) A (call (.ref f) [.ref x, .str y t]) (PySem.W.CmpBack Q) E s) : wpAny (model prog w) A (binaryOp .Add (.ref x) (.str y t)) Q E s := by
  have X := X₀.keeps F.keep
  have one := bin1_strL X I hc hs hf h
  obtain ⟨hh, gg, d, tt, os⟩ := s
  unfold binaryOp
  refine wpAny_holding (wpAny_bind ?_)
  refine wpAny_mono one (fun r s' hr' => ?_) fun _ _ e => e
  obtain ⟨v, rfl, hq⟩ := hr'
  ksp_lk
  exact hq
/-- own += a text, own without __iadd__ -/
theorem noI_obj : typeLookup (.type "object") (dunderI "add") = pure none := by rw [typeLookup_type, builtinLookup_eq_fast]; kernel_rfl
theorem iadd_str {cd : ClassData} {y : Str} {t : Tok} {Q : Value → Shared → Prop} (F : PyProof.Rows.Fr h₀ L s.heap m) (X₀ : K.In h₀) (I : InstAt s.heap x ox C od) (hc : selfFirst K C = true) (hcd : clsIn K C = some cd) (hm : cd.mro = [.ref C, .type "object"]) (hi : findIn K (.ref C) "__iadd__" = some none)
    (hs : findIn K (.ref C) "__add__" = some (some (.ref f))) (hf : isFn K (.ref f) = true)
    (h : wpAny (model prog w) A (call (.ref f) [.ref x, .str y t]) (PySem.W.CmpBack Q) E s) : wpAny (model prog w) A (inplaceOp .Add (.ref x) (.str y t)) Q E s := by
  have X := X₀.keeps F.keep
  have one := bin1_strL X I hc hs hf h
  obtain ⟨hh, gg, d, tt, os⟩ := s
  have L1 : Looks (model prog w) hh (typeOf (.ref x)) (.ref C) := I.type
  have L2 : Looks (model prog w) hh (fillsInplaceSlot (.ref C) (Operator.info .Add).2 (Operator.Add == Operator.Add)) false := by
    show Looks (model prog w) hh (fillsInplaceSlot (.ref C) "add" true) false
    intro A Q E s k q
    have Lm : Looks (model prog w) hh (mroOf (.ref C)) cd.mro := (looks_clsIn X hcd).andThen (f := fun cd => pure cd.mro) .now
    have Lm' := Lm.keeps k
    obtain ⟨hh2, g2, d2, t2, o2⟩ := s
    have X' : K.In hh2 := X.keeps k
    have M1 : Looks (model prog w) hh2 (typeLookup (.ref C) (dunderI "add")) none := looks_findIn X' hi
    have M2 : Looks (model prog w) hh2 (typeLookup (.type "object") (dunderI "add")) none := Looks.of_pure noI_obj
    unfold fillsInplaceSlot
    refine wpAny_bind (Lm'.at ?_)
    rw [hm, List.anyM_cons]
    refine wpAny_bind ?_
    repeat lk
    exact q
  unfold inplaceOp
  refine wpAny_holding (wpAny_bind (L1.at (wpAny_bind (L2.at ?_))))
  simp only [Bool.false_eq_true, if_false]
  refine wpAny_bind (m := binaryOp1 "add" (.ref x) (.str y t)) ?_
  refine wpAny_mono one (fun r s' hr' => ?_) fun _ _ e => e
  obtain ⟨v, rfl, hq⟩ := hr'
  ksp_lk
  exact hq
/-- bool(own) by its own __bool__ -/
theorem bool_own {Q : Value → Shared → Prop} (X : K.In s.heap) (I : InstAt s.heap x ox C od) (hs : findIn K (.ref C) "__bool__" = some (some (.ref f))) (hf : isFn K (.ref f) = true)
    (h : wpAny (model prog w) A.in1.in1 (call (.ref f) [.ref x]) (fun r s' => ∃ b, r = .bool b ∧ Q (.bool b) s') E s) : wpAny (model prog w) A (call (.type "bool") [.ref x]) Q E s := by
  refine callType_codes (T := "bool") (Bi := Builtin.«object.__init__») (Q₁ := fun r s₁ => ∃ b, r = .bool b ∧ Q r s₁) PySem.F.called_bool (PySem.F.typeCall_bool_1 _) PySem.F.entry_object_init ?_ ?_
  · refine codeAny_of_tree ?_
    show wpAny _ A.in1.in1 (do checkBuiltinCall "bool.__new__" ⟨[.type "bool", .ref x], []⟩; again (.builtin "bool.__new__" ⟨[.type "bool", .ref x], []⟩)) _ _ s
    refine wpAny_bind (wpAny_of_eq (PySem.F.newCall_bool_1 _) (wpAny_pure ⟨plainId_quiet (by decide +kernel) _, codeAny_builtin PySem.F.entry_bool_new ?_⟩))
    rw [Around.under_plainId (by decide +kernel) _]
    have tr : wpAny (model prog w) A.in1.in1 (truthy (.ref x)) (fun b s' => Q (.bool b) s') E s := by
      unfold truthy
      refine wpAny_bind (m := callSpecial? (.ref x) (Str.ofString "__bool__")) (special_fn X I hs (beq_iff_eq.mp hf) (wpAny_mono h (fun r s' hr => ?_) fun _ _ y => y))
      obtain ⟨b, rfl, q⟩ := hr
      exact wpAny_pure q
    obtain ⟨hp, gg, d, tk, os⟩ := s
    have f1 := PySem.F.conv_sub_bool
    repeat (any_goals (first | assumption | (with_reducible refine wpAny_mono tr (fun b s' q => ?_) fun _ _ z => z) | wp_step))
    all_goals exact ⟨_, rfl, q⟩
  · rintro obj s₁ ⟨b, rfl, hq⟩
    exact ⟨rfl, PySem.F.args_object_init_2 _ _, object_init_meets PySem.F.called_bool.init.lookup PySem.F.called_bool.made (by decide) prog w A.in1 _ s₁ ⟨rfl, rfl, hq⟩⟩
end
section
open L2 PyProof.Rows
variable {X : Cx} {CX : CXT} {k : Nat} {f g : Addr} {fd : FuncData} {ps : List Str} {sp : Sp} {E : XK} {C : Addr}
def rOwnS (C : Addr) (sp : Sp) (E : XK) : R2 := fun x y H Q => ∃ a z dx fs, x = .ref a ∧ y = .str z ∧ H a = some (.ins C dx fs) ∧ sp [x, y] H Q E
def rOwnSR (C : Addr) (sp : Sp) (E : XK) : R2 := fun x y H Q => ∃ a z dx fs, y = .ref a ∧ x = .str z ∧ H a = some (.ins C dx fs) ∧ sp [y, x] H Q E
/-- own + a text -/
theorem op_ownS (F : FnOk X.prog X.w X.K X.mg X.base CX k f fd ps sp) (hr : Room k X.A) (hc : selfFirst X.K C = true) (hm : Meth X.K C "__add__" f) (hb : Binds X.K fd ps []) (hx : Passes CX X E) :
    OpR X (binaryOp .Add) (rOwnS C sp E) := by
  intro pins s σ H x y v u Q I rx ry h
  obtain ⟨a, z, dx, fs, rfl, rfl, ha, q⟩ := h
  have r2 : Vals [V.ref a, V.str z] [v, u] := .cons rx (.cons ry .nil)
  cases rx
  obtain ⟨t, rfl⟩ := ry
  obtain ⟨mA, J, _⟩ := ins_get I.hok ha
  obtain ⟨od, J, _⟩ := J.look
  obtain ⟨m, hF⟩ := I.fr
  refine add_strL hF I.ok.mod.kin J hc hm.at_ hm.fn ?_
  exact wpAny_mono (run_fn F hr hb .nil hx I r2 q) (fun z s' ⟨v', H', I', rz, q'⟩ => Ow.back_of (Ow.relNN rz) ⟨v', H', I', rz, q'⟩) fun _ _ z => z
/-- a text + own -/
theorem op_ownSR (F : FnOk X.prog X.w X.K X.mg X.base CX k f fd ps sp) (hr : Room k X.A) (hc : selfFirst X.K C = true) (hl : Meth X.K C "__add__" g) (hm : Meth X.K C "__radd__" f) (hb : Binds X.K fd ps []) (hx : Passes CX X E) :
    OpR X (binaryOp .Add) (rOwnSR C sp E) := by
  intro pins s σ H x y v u Q I rx ry h
  obtain ⟨a, z, dx, fs, rfl, rfl, ha, q⟩ := h
  have r2 : Vals [V.ref a, V.str z] [u, v] := .cons ry (.cons rx .nil)
  cases ry
  obtain ⟨t, rfl⟩ := rx
  obtain ⟨mA, J, _⟩ := ins_get I.hok ha
  obtain ⟨od, J, _⟩ := J.look
  obtain ⟨m, hF⟩ := I.fr
  refine add_strR hF I.ok.mod.kin J hc hl.at_ hm.at_ hm.fn ?_
  exact wpAny_mono (run_fn F hr hb .nil hx I r2 q) (fun z s' ⟨v', H', I', rz, q'⟩ => Ow.back_of (Ow.relNN rz) ⟨v', H', I', rz, q'⟩) fun _ _ z => z
/-- a class of which it is known that it has no own += -/
def NoIAdd (K : Frag) (C : Addr) : Prop := findIn K (.ref C) "__iadd__" = some none ∧ ∃ cd, clsIn K C = some cd ∧ cd.mro = [.ref C, .type "object"]
theorem ip_ownS (F : FnOk X.prog X.w X.K X.mg X.base CX k f fd ps sp) (hr : Room k X.A) (hc : selfFirst X.K C = true) (hn : NoIAdd X.K C) (hm : Meth X.K C "__add__" f) (hb : Binds X.K fd ps []) (hx : Passes CX X E) :
    PIp X .Add (rOwnS C sp E) := by
  intro pins s σ H x y v u Q I rx ry h
  obtain ⟨a, z, dx, fs, rfl, rfl, ha, q⟩ := h
  have r2 : Vals [V.ref a, V.str z] [v, u] := .cons rx (.cons ry .nil)
  cases rx
  obtain ⟨t, rfl⟩ := ry
  obtain ⟨mA, J, _⟩ := ins_get I.hok ha
  obtain ⟨od, J, _⟩ := J.look
  obtain ⟨m, hF⟩ := I.fr
  obtain ⟨hi, cd, hcd, hmro⟩ := hn
  refine iadd_str hF I.ok.mod.kin J hc hcd hmro hi hm.at_ hm.fn ?_
  exact wpAny_mono (run_fn F hr hb .nil hx I r2 q) (fun z s' ⟨v', H', I', rz, q'⟩ => Ow.back_of (Ow.relNN rz) ⟨v', H', I', rz, q'⟩) fun _ _ z => z
/-- bool(x) by its own __bool__ -/
def rOwnBool (C : Addr) (sp : Sp) (E : XK) : List V → Hp → VK → Prop := fun xs H Q => ∃ a dx fs, xs = [V.ref a] ∧ H a = some (.ins C dx fs) ∧ sp [V.ref a] H (fun v H' => ∃ b, v = .bl b ∧ Q (.bl b) H') E
theorem cr_ownBool (F : FnOk X.prog X.w X.K X.mg X.base CX k f fd ps sp) (hr : Room (k + 2) X.A) (hm : Meth X.K C "__bool__" f) (hb : Binds X.K fd ps []) (hx : Passes CX X E) : CallR X (.type "bool") (rOwnBool C sp E) := by
  intro pins s σ H xs us Q I r q
  obtain ⟨a, dx, fs, rfl, ha, q⟩ := q
  obtain ⟨u, rfl, ru⟩ := vals1 r
  cases ru
  obtain ⟨mA, J, _⟩ := ins_get I.hok ha
  obtain ⟨od, J, _⟩ := J.look
  have e0 : Env0 X.prog X.w X.K X.mg X.base X.A.in1.in1 X.stack s H := I.env0.in1.in1
  have b := hb s [.ref a] I.kIn (by
    have := F.len _ _ _ _ q
    rw [List.append_nil]
    exact this)
  rw [List.append_nil] at b
  have r1 : Vals [V.ref a] [Value.ref a] := .cons (show RelV (V.ref a) (.ref a) from rfl) .nil
  refine bool_own I.kIn J hm.at_ hm.fn (wpAny_call (codeAny_mono (F.run X.A.in1.in1 X.stack s H ⟨[.ref a], []⟩ [.ref a] [.ref a] _ E hr.in1.in1 e0 b r1 q) fun z s' hz => ?_))
  cases z with
  | error e => exact hx pins σ H s e s' I hz
  | ok fl => cases fl with
    | ret u =>
      obtain ⟨v, H', I', rv, y, ev, q'⟩ := I.after hz
      subst ev
      cases rv
      exact ⟨y, rfl, .bl y, H', I', rfl, q'⟩
    | next => exact hz.elim
    | brk => exact hz.elim
    | cont => exact hz.elim
/-- o[i] = v by o's own __setitem__ -/
def rOwnSet (C : Addr) (sp : Sp) (E : XK) : TSet := fun o i v H Q => ∃ a dx fs, o = .ref a ∧ H a = some (.ins C dx fs) ∧ sp [o, i, v] H (fun _ H' => Q H') E
theorem set_own (F : FnOk X.prog X.w X.K X.mg X.base CX k f fd ps sp) (hr : Room k X.A) (hq : noSeq X.K C = true) (hm : Meth X.K C "__setitem__" f) (hb : Binds X.K fd ps []) (hx : Passes CX X E) : PSet X (rOwnSet C sp E) := by
  intro pins s σ H o i v ov iv u Q I ro ri rv h
  obtain ⟨a, dx, fs, rfl, ha, q⟩ := h
  have r3 : Vals [V.ref a, i, v] [ov, iv, u] := .cons ro (.cons ri (.cons rv .nil))
  cases ro
  obtain ⟨mA, J, _⟩ := ins_get I.hok ha
  obtain ⟨od, J, _⟩ := J.look
  obtain ⟨m, hF⟩ := I.fr
  refine ksp_setItem hF I.ok.mod.kin J hq hm.at_ hm.fn ?_
  exact wpAny_mono (run_fn F hr hb .nil hx I r3 q) (fun z s' ⟨v', H', I', rz, q'⟩ => ⟨H', I', q'⟩) fun _ _ z => z
end
section
open L2
variable {σ : L2.St} {H : Hp} {Q : VK} {E : XK} {sp : Sp} {C a dx : Addr} {fs : List (Str × V)} {y v : V} {z : Str}
theorem c_ownS (ha : H a = some (.ins C dx fs)) (q : sp [.ref a, .str z] H Q E) : rOwnS C sp E (.ref a) (.str z) H Q := ⟨a, z, dx, fs, rfl, rfl, ha, q⟩
theorem c_ownSR (ha : H a = some (.ins C dx fs)) (q : sp [.ref a, .str z] H Q E) : rOwnSR C sp E (.str z) (.ref a) H Q := ⟨a, z, dx, fs, rfl, rfl, ha, q⟩
theorem c_ownBool (ha : H a = some (.ins C dx fs)) (q : sp [.ref a] H (fun v H' => ∃ b, v = .bl b ∧ Q (.bl b) H') E) : rOwnBool C sp E [.ref a] H Q := ⟨a, dx, fs, rfl, ha, q⟩
theorem c_ownSet {R : Hp → Prop} (ha : H a = some (.ins C dx fs)) (q : sp [.ref a, y, v] H (fun _ H' => R H') E) : rOwnSet C sp E (.ref a) y v H R := ⟨a, dx, fs, rfl, ha, q⟩
/-- a test that is a list's truth -/
def truLeaf (K : Frag) (Q : Bool → Hp → Prop) (x : V) (H' : Hp) : Prop := ∃ k, TruV K x H' k ∧ Q k H'
def tTru (K : Frag) (te : TE) : TT := fun σ H Q => te σ H (truLeaf K Q)
theorem pt_tru {X : Cx} {a : Expr} {ta : TE} (ha : PE X a ta) (he : ∀ whole, isTrue a X.env whole = (do let v ← whole; standAt a.pos; holding [v] (truthy v))) : PT X a (tTru X.K ta) := pt_truth ha he
theorem w_tru {K : Frag} {te : TE} {R : Bool → Hp → Prop} (h : te σ H (truLeaf K R)) : tTru K te σ H R := h
theorem c_truL {K : Frag} {xs : List V} {R : Bool → Hp → Prop} (h : H a = some (.lst xs)) (q : R (!xs.isEmpty) H) : truLeaf K R (.ref a) H := ⟨!xs.isEmpty, .inl ⟨xs, SqL.of h, rfl⟩, q⟩
/-- bool(a list) -/
def rBoolL (K : Frag) : List V → Hp → VK → Prop := fun xs H Q => ∃ (a : Addr) (zs : List V), xs = [.ref a] ∧ SqL K H a zs ∧ Q (.bl (!zs.isEmpty)) H
theorem cr_boolL {X : Cx} : CallR X (.type "bool") (rBoolL X.K) := call_boolL
theorem c_boolL {K : Frag} {zs : List V} (h : SqL K H a zs) (q : Q (.bl (!zs.isEmpty)) H) : rBoolL K [.ref a] H Q := ⟨a, zs, rfl, h, q⟩
end
section
open L2
theorem w_gUnl {K : Frag} {n : Nat} {g : TGs} {xs : List V} {σ : L2.St} {H : Hp} {R : L2.St → Hp → Prop} {p : Addr} (hs : SqL K H p xs) (hn : xs.length = n) (h : g xs σ H R) : gUnl K n g (.ref p) σ H R := ⟨p, xs, rfl, hs, hn, h⟩
end
/-! lists or tuples -/
section
open L2 PyProof.Rows
def SeqAt (H : Hp) (a : Addr) (xs : List V) : Prop := H a = some (.lst xs) ∨ H a = some (.tup xs)
theorem SeqAt.keep {H H' : Hp} {a : Addr} {xs : List V} (h : SeqAt H a xs) (s : ∀ o, H a = some o → H' a = some o) : SeqAt H' a xs := h.elim (fun h => .inl (s _ h)) fun h => .inr (s _ h)
def seqLeaf (K : Frag) (R : It → Hp → Prop) (x : V) (H1 : Hp) : Prop := Eg.lstLeaf K R x H1 ∨ Eg.tupLeaf K R x H1
def iSeq (K : Frag) (te : TE) : TI := fun σ H R => te σ H (seqLeaf K R)
theorem pi_seq {X : Cx} {tg l : Expr} {tl : TE} (hl : PE X l tl) : PI X tg l (iSeq X.K tl) := by
  refine ⟨fun pins s σ H R I h => ?_⟩
  refine thn (hl.run pins s σ H _ I h) fun v s1 ⟨x, H1, I1, r1, q1⟩ => ?_
  rcases q1 with ⟨a, e, ⟨xs, hq⟩, q⟩ | ⟨a, e, ⟨xs, hq⟩, q⟩
  · subst e
    cases r1
    obtain ⟨its, rv, p, hz⟩ := I1.list hq
    refine wpAny_pyIter_list p.isList ?_
    refine ⟨s1.heap.objs.size, [s1.heap.objs.size], _, _, H1, rfl, I1.kept (t' := s1.toks) fun b o e => Heap.get?_push_of_some _ e, turn_list a _, ⟨_, Heap.get?_push_size _ rfl, rfl, rfl⟩, fun b hb => ?_, q⟩
    have e : b = s1.heap.objs.size := by simpa using hb
    subst e
    exact I1.fpOk (Nat.le_refl _) (I1.hok.fresh (Nat.le_refl _))
  · subst e
    cases r1
    obtain ⟨its, rv, p, hz⟩ := I1.tuple hq
    refine wpAny_pyIter_tuple (show s1.heap.IsTuple a its.toArray from p) ?_
    refine ⟨s1.heap.objs.size, [s1.heap.objs.size], _, _, H1, rfl, I1.kept (t' := s1.toks) fun b o e => Heap.get?_push_of_some _ e, turn_tuple a _, ⟨_, Heap.get?_push_size _ rfl, rfl, rfl⟩, fun b hb => ?_, q⟩
    have e : b = s1.heap.objs.size := by simpa using hb
    subst e
    exact I1.fpOk (Nat.le_refl _) (I1.hok.fresh (Nat.le_refl _))
def rIxA (K : Frag) : R2 := fun x y H Q => rIxL K x y H Q ∨ rIxT K x y H Q
theorem ix_seq {X : Cx} : IxR X (rIxA X.K) := IxR.or ix_list ix_tup
variable {K : Frag} {σ : L2.St} {H : Hp} {Q : VK} {te : TE} {a : Addr} {xs : List V}
theorem w_iSeq {R : It → Hp → Prop} (h : te σ H (seqLeaf K R)) : iSeq K te σ H R := h
theorem c_ixA {i : Int} {v : V} (h : SeqAt H a xs) (hv : atI xs i = some v) (q : Q v H) : rIxA K (.ref a) (.int i) H Q := h.elim (fun h => .inl ⟨a, xs, i, v, rfl, rfl, SqL.of h, hv, q⟩) fun h => .inr ⟨a, xs, i, v, rfl, rfl, SqT.of h, hv, q⟩
theorem c_lenA (h : SeqAt H a xs) (q : Q (.int (xs.length : Nat)) H) : Eg.rLenQ K [V.ref a] H Q := ⟨a, xs, rfl, h.imp SqL.of SqT.of, q⟩
theorem for_seq {g : TG} {tb : TS} {D : Ends} (h : SeqAt H a xs) (Pv : Nat → L2.St → Hp → Prop) (h0 : Pv 0 σ H) (hl : ∀ i σ H', Pv i σ H' → ∀ o, H a = some o → H' a = some o)
    (hs : ∀ i x σ H, xs[i]? = some x → Pv i σ H → g x σ H fun σ2 H2 => tb { D with nx := Pv (i + 1), ct := Pv (i + 1), bk := D.nx } σ2 H2) (hd : ∀ σ H, Pv xs.length σ H → D.nx σ H) :
    seqLeaf K (fun J H1 => ∃ W : Nat → Nat → L2.St → Hp → Prop, (∃ m, W 0 m σ H1) ∧ ∀ i m σ H, W i m σ H →
      (J.stop i H ∧ D.nx σ H) ∨ (J.go i H ∧ ∃ N : L2.St → Hp → Prop, (∀ σ' H', N σ' H' → ∃ m', m' < m ∧ W (i + 1) m' σ' H') ∧ ∀ x H', J.yld i H x H' → g x σ H' fun σ2 H2 => tb { D with nx := N, ct := N, bk := D.nx } σ2 H2)) (.ref a) H := by
  rcases h with h | h
  · exact .inl ⟨a, rfl, ⟨xs, SqL.of h⟩, for_list Pv h0 (fun i σ H' _ p => SqL.of (hl i σ H' p _ h)) hs hd⟩
  · exact .inr ⟨a, rfl, ⟨xs, SqT.of h⟩, for_tup Pv h0 (fun i σ H' _ p => SqT.of (hl i σ H' p _ h)) hs hd⟩
end
/-! v in own; xs[i:j] = ys -/
section
open L2 PyProof.Rows
variable {X : Cx} {CX : CXT} {k : Nat} {f : Addr} {fd : FuncData} {ps : List Str} {sp : Sp} {E : XK} {C : Addr}
def rOwnIn (C : Addr) (sp : Sp) (E : XK) : R2 := fun x y H Q => ∃ a dx fs, y = .ref a ∧ H a = some (.ins C dx fs) ∧ sp [y, x] H (fun v H' => ∃ b, v = .bl b ∧ Q (.bl b) H') E
theorem op_inOwn (F : FnOk X.prog X.w X.K X.mg X.base CX k f fd ps sp) (hr : Room k X.A) (hm : Meth X.K C "__contains__" f) (hb : Binds X.K fd ps []) (hx : Passes CX X E) : OpR X (compareOp .In) (rOwnIn C sp E) := by
  intro pins s σ H x y v u Q I rx ry h
  obtain ⟨a, dx, fs, rfl, ha, q⟩ := h
  have r2 : Vals [V.ref a, x] [u, v] := .cons ry (.cons rx .nil)
  cases ry
  obtain ⟨mA, J, _⟩ := ins_get I.hok ha
  obtain ⟨od, J, _⟩ := J.look
  obtain ⟨m, hF⟩ := I.fr
  refine in_K hF I.ok.mod.kin J hm.at_ hm.fn ?_
  refine wpAny_mono (run_fn F hr hb .nil hx I r2 q) (fun z s' ⟨v', H', I', rz, b, ev, q'⟩ => ?_) fun _ _ z => z
  subst ev
  cases rz
  exact wpAny_truthy_bool ⟨.bl b, H', I', rfl, q'⟩
theorem c_ownIn {a dx : Addr} {fs : List (Str × V)} {x : V} {H : Hp} {Q : VK} (ha : H a = some (.ins C dx fs)) (q : sp [.ref a, x] H (fun v H' => ∃ b, v = .bl b ∧ Q (.bl b) H') E) : rOwnIn C sp E x (.ref a) H Q := ⟨a, dx, fs, rfl, ha, q⟩
/-- o[i:j] = v, v another list -/
def slcLeaf (v o i j : V) (R : Hp → Prop) (H : Hp) : Prop := ∃ (l b : Addr) (xs ys : List V) (a c : Int), o = .ref l ∧ v = .ref b ∧ i = .int a ∧ j = .int c ∧ H l = some (.lst xs) ∧ H b = some (.lst ys) ∧ l ≠ b ∧ 0 ≤ a ∧ a ≤ c ∧ c ≤ xs.length ∧ xs.length + ys.length ≤ sizeLine ∧ R (upd H l (.lst (xs.take a.toNat ++ ys ++ xs.drop c.toNat)))
def gSlc (to tl th : TE) : TG := fun v σ H R => to σ H fun o H1 => tl σ H1 fun i H2 => th σ H2 fun j H3 => slcLeaf v o i j (R σ) H3
theorem pg_slc {o lo hi : Expr} {to tl th : TE} {pos p2 : Pos} (ho : PE X o to) (hl : PE X lo tl) (hu : PE X hi th)
    (ha : ∀ v, assign (.Subscript o (.Slice (some lo) (some hi) none p2) pos) X.env v = (do
      let ov ← holding [v] (eval o X.env)
      let iv ← holding [v, ov] (eval (.Slice (some lo) (some hi) none p2) X.env)
      standAt pos
      holding [v, ov, iv] (setItem ov iv v)
      release [iv, v, ov] []) := by intro _; rfl) : PG X (.Subscript o (.Slice (some lo) (some hi) none p2) pos) (gSlc to tl th) := by
  refine ⟨fun pins s σ H v u Q I r h => ?_⟩
  rw [ha]
  refine wpAny_bind (wpAny_holding (thn (ho.run pins s σ H _ I h) fun ov s1 ⟨x, H1, I1, r1, q1⟩ => ?_))
  refine wpAny_bind (wpAny_holding ?_)
  refine wpAny_Slice ?_
  rw [evalPart_some]
  refine thn (hl.run pins s1 σ H1 _ I1 q1) fun vl s2 ⟨i, H2, I2, pl, q2⟩ => ?_
  rw [evalPart_some]
  refine thn (hu.run pins s2 σ H2 _ I2 q2) fun vu s3 ⟨j, H3, I3, pu, q3⟩ => ?_
  rw [evalPart_none]
  refine wpAny_pure ?_
  obtain ⟨l, b, xs, ys, a, c, rfl, rfl, rfl, rfl, hH, hB, hne, h0, hac, hc, hz, q⟩ := q3
  cases r1
  cases r
  have I4 : Inv X pins σ H3 { s3 with heap := s3.heap.push { cls := .type "slice", data := .fields #[vl, vu, .none] } } := I3.kept (t' := s3.toks) fun b ob q => Heap.get?_push_of_some _ q
  refine wpAny_bind (wpAny_standAt (wpAny_bind (wpAny_holding ?_)))
  exact set_slice I4 hH hB hne (Heap.IsSliceOf.new ..) pl pu h0 hac hc hz fun s' I' => wpAny_release ⟨σ, _, I', q⟩
theorem w_gSlc {to tl th : TE} {σ : L2.St} {H : Hp} {v : V} {R : L2.St → Hp → Prop} (h : to σ H fun o H1 => tl σ H1 fun i H2 => th σ H2 fun j H3 => slcLeaf v o i j (R σ) H3) : gSlc to tl th v σ H R := h
theorem c_slc {l b : Addr} {xs ys : List V} {a c : Int} {R : Hp → Prop} {H : Hp} (hH : H l = some (.lst xs)) (hB : H b = some (.lst ys)) (hne : l ≠ b) (h0 : 0 ≤ a) (hac : a ≤ c) (hc : c ≤ xs.length) (hz : xs.length + ys.length < 100000) (q : R (upd H l (.lst (xs.take a.toNat ++ ys ++ xs.drop c.toNat)))) :
    slcLeaf (.ref b) (.ref l) (.int a) (.int c) R H := ⟨l, b, xs, ys, a, c, rfl, rfl, rfl, rfl, hH, hB, hne, h0, hac, hc, Nat.le_trans (Nat.le_of_lt hz) (by decide), q⟩
end
end Po

set_option maxHeartbeats 1000000
/-! Et: enumerate over a list or a tuple. -/
namespace Et
open PySem L2 PyProof.Rows
open AutoSeq1 (wpAny_loadPart')
theorem meets_enumerate_newT (l : Addr) (items : Array Value) :
    Meets (Builtin.«enumerate.__new__» ⟨[.type "enumerate", .ref l], []⟩) (fun _ R s => s.heap.IsTuple l items ∧
      R (.ok (.ret (.ref (s.heap.push { cls := .type "tuple_iterator", data := .fields #[.ref l, .int 0 0] }).objs.size)))
        { s with heap := (s.heap.push { cls := .type "tuple_iterator", data := .fields #[.ref l, .int 0 0] }).push { cls := .type "enumerate", data := .fields #[.none, .bool false, .ref s.heap.objs.size, rawInt 0, .none, .none] } }) :=
  .of_wp fun prog w A R s h => by
    obtain ⟨hp, g, d, tk, os⟩ := s; obtain ⟨hL, h⟩ := h
    have hsub := sub_enumerate
    have hL : Heap.IsTuple (Shared.heap ⟨hp, g, d, tk, os⟩) l items := hL
    have q1 : ∀ {A' : Around} {E : Value → Shared → Prop} {Q : Value → Shared → Prop}, Q (.ref hp.objs.size) ⟨hp.push { cls := .type "tuple_iterator", data := .fields #[.ref l, .int 0 0] }, g, d, tk, os⟩ → wpAny (model prog w) A' (pyIter (.ref l)) Q E ⟨hp, g, d, tk, os⟩ :=
      fun q => wpAny_pyIter_tuple hL q
    wp_walk using q1
    refine wpAny_stack_any fun st => wpAny_pure ?_
    split
    · rename_i c _ _ _ _ _
      cases (c == Value.type "enumerate")
      · wp_walk using q1
        exact ⟨_, rfl, h⟩
      · wp_walk using q1
        exact ⟨_, rfl, h⟩
    · wp_walk using q1
      exact ⟨_, rfl, h⟩
section
variable {prog : Program} {w : World} {A : Around} {E : Value → Shared → Prop} {s : Shared}
theorem call_enumerate_tuple {l : Addr} {items : Array Value} {Q : Value → Shared → Prop} (hL : s.heap.IsTuple l items)
    (h : ∀ h', IsEnum h' (s.heap.objs.size + 1) s.heap.objs.size 0 .none → h'.IsTupleIter s.heap.objs.size l 0 → h'.objs.size = s.heap.objs.size + 2 →
      (∀ b o, s.heap.get? b = some o → h'.get? b = some o) → Q (.ref (s.heap.objs.size + 1)) { s with heap := h' }) :
    wpAny (model prog w) A (call (.type "enumerate") [.ref l]) Q E s := by
  refine callType_new F.called_enumerate (by decide) (F.typeCall_enumerate_1 _) (F.newCall_enumerate_1 _) (fun obj => F.args_object_init_2 obj _) F.entry_enumerate_new
    (meets_enumerate_newT l items) ⟨hL, ?_⟩
  have hz : (s.heap.push { cls := .type "tuple_iterator", data := .fields #[.ref l, .int 0 0] }).objs.size = s.heap.objs.size + 1 := Heap.size_push ..
  show _ ∧ _
  rw [hz]
  have he : IsEnum ((s.heap.push { cls := .type "tuple_iterator", data := .fields #[.ref l, .int 0 0] }).push
      { cls := .type "enumerate", data := .fields #[.none, .bool false, .ref s.heap.objs.size, rawInt 0, .none, .none] }) (s.heap.objs.size + 1) s.heap.objs.size 0 .none := by
    have := Heap.get?_push_size (s.heap.push { cls := .type "tuple_iterator", data := .fields #[.ref l, .int 0 0] })
      (o := { cls := .type "enumerate", data := .fields #[.none, .bool false, .ref s.heap.objs.size, rawInt 0, .none, .none] }) rfl
    rw [hz] at this; exact this
  refine ⟨⟨_, he, rfl⟩, h _ he ⟨_, Heap.get?_push_of_some _ (Heap.get?_push_size _ rfl), rfl, rfl⟩ (by rw [Heap.size_push, hz]) fun b o x => Heap.get?_push_of_some _ (Heap.get?_push_of_some _ x)⟩
end
/-- the tuple at a, each item in a new pair -/
def Itet (K : PySem.W.Frag) (a : Addr) : It :=
  ⟨fun i H => ∃ (xs : List V) (x : V), SqT K H a xs ∧ xs[i]? = some x, fun i H v H' => ∃ T x, v = .ref T ∧ H T = none ∧ H' = upd H T (.tup [.int (i : Nat), x]) ∧ ∀ xs, SqT K H a xs → xs[i]? = some x, fun i H => ∃ xs : List V, SqT K H a xs ∧ xs.length ≤ i⟩
theorem turn_enumT {P : Program} {w : World} {K : PySem.W.Frag} {elts : List Expr} {kk : Nat} {tpos : Pos} (a e it : Addr) :
    Turn P w K (.Tuple elts kk tpos) (Itet K a) [e, it] e (fun i h => (∃ old, IsEnum h e it ((i : Nat) : Int) old) ∧ h.IsTupleIter it a i ∧ e ≠ it) where
  mem := by simp
  obj := fun i h st b hb => by
    obtain ⟨⟨old, he⟩, ⟨o, ho, hc, hd⟩, _⟩ := st
    have e' : b = e ∨ b = it := by simpa using hb
    rcases e' with z | z
    · rw [z]; exact ⟨_, he, fun v q => nomatch q⟩
    · rw [z]; exact ⟨o, ho, fun v q => by rw [hd] at q; cases q⟩
  keep := fun i h h' st k => let ⟨⟨old, he⟩, hi, hne⟩ := st; ⟨⟨old, k e (by simp) _ he⟩, hi.at fun o q => k it (by simp) o q, hne⟩
  item := by
    intro X hP hw hK hc i pins s σ H E I hf st hg
    subst hP hw hK
    obtain ⟨⟨old, he⟩, hit, hne⟩ := st
    obtain ⟨xs, x, hq, hx⟩ := hg
    obtain ⟨its, rv, p, hz⟩ := I.tuple hq
    obtain ⟨u, hu, ru⟩ := rv.get hx
    have hel : e < s.heap.objs.size := Heap.lt_size he
    have hil : it < s.heap.objs.size := by obtain ⟨_, q, _⟩ := hit; exact Heap.lt_size q
    have pt : s.heap.IsTuple a its.toArray := p
    have hae : a ≠ e := fun z => by
      subst z
      obtain ⟨o, ho, hco, _⟩ := pt
      have := he.symm.trans ho
      rw [← Option.some.inj this] at hco
      exact absurd hco (show ¬ (Value.type "enumerate" = Value.type "tuple") by decide)
    have hai : a ≠ it := fun z => by
      subst z
      obtain ⟨o, ho, hco, _⟩ := pt
      obtain ⟨o2, ho2, hc2, _⟩ := hit
      have e3 := Option.some.inj (ho2.symm.trans ho)
      rw [← e3, hc2] at hco
      exact absurd hco (by decide)
    have hil' := (List.getElem?_eq_some_iff.mp hu).1
    refine wpAny_pyNext_enum_itemD (Draws.tuple (A := X.A.in1) (I.ok.hd hc) it a hai its.toArray) he ⟨hit, pt⟩ (by simpa using hil') hne (by simp [hne, hae.symm]) fun y h' tk hy ho hst hT hsz hk => ?_
    have hy : u = y := by
      have hy : its.toArray[i]? = some y := hy
      rw [List.getElem?_toArray] at hy
      exact Option.some.inj (hu.symm.trans hy)
    subst hy
    refine ⟨_, rfl, wpAny_letOwnedTupleGo_enum (s := { s with heap := h', toks := tk + 1 }) ho fun h'' he' sb => ?_⟩
    have hT2 : h''.get? s.heap.objs.size = some { cls := .type "tuple", data := .seq #[.int i tk, u] } := (sb.2 _ (Nat.ne_of_gt hel)).trans hT
    have new : ObjOk X.prog X.w (upd H s.heap.objs.size (.tup [.int (i : Nat), x])) h'' s.heap.objs.size (.tup [.int (i : Nat), x]) :=
      ⟨by show 2 ≤ sizeLine; decide, [.int i tk, u], .cons ⟨_, rfl⟩ (.cons ru .nil), ⟨_, hT2, rfl, _, rfl⟩⟩
    have I1 : Inv X pins σ (upd H s.heap.objs.size (.tup [.int (i : Nat), x])) { s with heap := h'', toks := tk + 1 } :=
      I.turnedNew (ch := [e, it]) (fun b ob hb q => (sb.2 b (fun z => hb (by simp [z]))).trans (hk b ob (fun z => hb (by simp [z])) (fun z => hb (by simp [z])) q)) hf (Nat.le_refl _) new
    refine ⟨.ref s.heap.objs.size, _, I1, rfl, ⟨_, x, rfl, I.hok.fresh (Nat.le_refl _), rfl, fun ys hy => by rw [I.tuple_inj hy hq]; exact hx⟩, ⟨⟨u, ?_⟩, hst.1.at fun o q => (sb.2 it (Ne.symm hne)).trans q, hne⟩, fun b hb => ?_⟩
    · have e1 : ((i + 1 : Nat) : Int) = (i : Int) + 1 := by omega
      rw [e1]; exact he'
    · have hb' : b < s.heap.objs.size := by
        have e' : b = e ∨ b = it := by simpa using hb
        rcases e' with z | z
        · rw [z]; exact hel
        · rw [z]; exact hil
      rw [upd_ne (Nat.ne_of_lt hb')]
      exact (hf b hb).1
  done := by
    intro X hP hw hK hc i pins s σ H E I hf st hg
    subst hP hw hK
    obtain ⟨⟨old, he⟩, hit, hne⟩ := st
    obtain ⟨xs, hq, hx⟩ := hg
    obtain ⟨its, rv, p, hz⟩ := I.tuple hq
    have pt : s.heap.IsTuple a its.toArray := p
    obtain ⟨f0, f1, f2, f3, f4, f5⟩ := hf it (by simp)
    have hl := rv.length
    have hT : s.TypeIs (.ref e) "enumerate" := ⟨_, he, rfl⟩
    have key : ∀ {Q : Option Value → Shared → Prop}, (∀ h', Heap.ExtBut it s.heap h' → Q none { s with heap := h' }) → wpAny (model X.prog X.w) X.A (pyNext (.ref e)) Q E s := by
      intro Q hQ
      unfold pyNext
      refine wpAny_bind (wpAny_attempt (wpAny_callSpecial?_slot (name := Str.ofString "__next__") hT F.slot_enumerate_next
        (wpAny_call_entry F.slot_enumerate_next hT F.entry_enumerate_next ?_ (F.args_enumerate_next_1 _))))
      show wpAny _ _ (field (.ref e) 2 >>= _) _ _ _
      refine wpAny_bind (wpAny_field he rfl (x := .ref it) rfl ?_)
      refine wpAny_bind (wpAny_nextOf_tuple_end (I.ok.hd hc) hit pt (by simp; omega) fun h' x he' hx' => ?_)
      obtain ⟨o, ho, hc'⟩ := hx'
      refine wpAny_bind (wpAny_isInstance (T := "StopIteration") (b := true) ⟨o, ho, hc'⟩ isSubtype_stop ?_)
      exact wpAny_pure (hQ _ he')
    exact key fun h' eb => ⟨rfl, I.turned (t' := s.toks) (fun b o hb q => eb b o hb q) f0 f1 f3 f4 f5⟩
  self := fun A i s Q E st h => let ⟨⟨_, he⟩, _⟩ := st; wpAny_pyIter_enum he h
theorem walk_enumT {K : PySem.W.Frag} {a : Addr} {xs : List V} : Walk (Itet K a) xs.length (fun H => SqT K H a xs) (YPair (fun i => some (.int (i : Nat))) (fun i => xs[i]?)) := by
  refine ⟨fun i _ hi q => ⟨xs, xs[i], q, by simp [hi]⟩, fun _ q => ⟨xs, q, Nat.le_refl _⟩, fun i H v H' _ q y => ?_⟩
  obtain ⟨T, x, h1, h2, h3, h4⟩ := y
  exact ⟨T, .int (i : Nat), x, h1, h2, h3, rfl, h4 xs q⟩
def enumLeafA (K : PySem.W.Frag) (R : It → Hp → Prop) (vs : List V) (H1 : Hp) : Prop := ∃ (a : Addr) (xs : List V), vs = [.ref a] ∧ ((SqL K H1 a xs ∧ R (Ite K a) H1) ∨ (SqT K H1 a xs ∧ R (Itet K a) H1))
def iEnumA (K : PySem.W.Frag) (ta : TA) : TI := fun σ H R => ta σ H (enumLeafA K R)
theorem pi_enumA {X : Cx} {e : Expr} {ta : TA} {p pos tpos : Pos} {elts : List Expr} {kk : Nat} (hg : Gl X "enumerate") (hm : X.mg "enumerate" = none) (ha : PA X [e] ta) (hs : starEach [e] X.env = [(false, eval e X.env)] := by rfl) :
    PI X (.Tuple elts kk tpos) (.Call (.Name "enumerate" p) [e] [] pos) (iEnumA X.K ta) := by
  refine ⟨fun pins s σ H R I h => ?_⟩
  refine Call_ (ld_blt I hg hm boot_enumerate (PyProof.Rows.callWith_type1 (thn (ha.run pos pins s σ H _ I h) fun us s1 ⟨vs, H1, I1, r1, q1⟩ => ?_) hs rfl))
  obtain ⟨a, xs, ex, q1⟩ := q1
  subst ex
  cases r1 with
  | cons r rr =>
    cases rr
    cases r
    rcases q1 with ⟨hq, q⟩ | ⟨hq, q⟩
    · obtain ⟨its, rv, p', hz⟩ := I1.list hq
      refine call_enumerate_list p'.isList fun h' he hit hsz hk => wpAny_pyIter_enum he ?_
      have I2 : Inv X pins σ H1 { s1 with heap := h' } := I1.kept (t' := s1.toks) hk
      refine ⟨s1.heap.objs.size + 1, [s1.heap.objs.size + 1, s1.heap.objs.size], _, _, H1, rfl, I2, turn_enum a (s1.heap.objs.size + 1) s1.heap.objs.size, ⟨⟨.none, he⟩, hit, Nat.succ_ne_self _⟩, fun b hb => ?_, q⟩
      have e' : b = s1.heap.objs.size + 1 ∨ b = s1.heap.objs.size := by simpa using hb
      have hle : s1.heap.objs.size ≤ b := by
        rcases e' with z | z
        · rw [z]; exact Nat.le_add_right _ _
        · rw [z]; exact Nat.le_refl _
      exact I1.fpOk hle (I1.hok.fresh hle)
    · obtain ⟨its, rv, p', hz⟩ := I1.tuple hq
      refine call_enumerate_tuple (show s1.heap.IsTuple a its.toArray from p') fun h' he hit hsz hk => wpAny_pyIter_enum he ?_
      have I2 : Inv X pins σ H1 { s1 with heap := h' } := I1.kept (t' := s1.toks) hk
      refine ⟨s1.heap.objs.size + 1, [s1.heap.objs.size + 1, s1.heap.objs.size], _, _, H1, rfl, I2, turn_enumT a (s1.heap.objs.size + 1) s1.heap.objs.size, ⟨⟨.none, he⟩, hit, Nat.succ_ne_self _⟩, fun b hb => ?_, q⟩
      have e' : b = s1.heap.objs.size + 1 ∨ b = s1.heap.objs.size := by simpa using hb
      have hle : s1.heap.objs.size ≤ b := by
        rcases e' with z | z
        · rw [z]; exact Nat.le_add_right _ _
        · rw [z]; exact Nat.le_refl _
      exact I1.fpOk hle (I1.hok.fresh hle)
variable {σ : L2.St} {H : Hp} {K : PySem.W.Frag} {a : Addr}
theorem w_iEA {t : TA} {R : It → Hp → Prop} (h : t σ H (enumLeafA K R)) : iEnumA K t σ H R := h
/-- one walk for a list or a tuple -/
theorem enum_seq {xs : List V} (h : Po.SeqAt H a xs) : ∃ J : It, Walk J xs.length (fun H' => Po.SeqAt H' a xs ∧ H' a = H a) (YPair (fun i => some (.int (i : Nat))) (fun i => xs[i]?)) ∧
    ∀ {H1 : Hp} {R : It → Hp → Prop}, H1 a = H a → R J H1 → enumLeafA K R [.ref a] H1 := by
  rcases h with h | h
  · exact ⟨Ite K a, walk_enum.mono (fun H' g => SqL.of (g.2.trans h)) fun _ _ _ _ _ _ y => y, fun e r => ⟨a, xs, rfl, .inl ⟨SqL.of (e.trans h), r⟩⟩⟩
  · exact ⟨Itet K a, walk_enumT.mono (fun H' g => SqT.of (g.2.trans h)) fun _ _ _ _ _ _ y => y, fun e r => ⟨a, xs, rfl, .inr ⟨SqT.of (e.trans h), r⟩⟩⟩
end Et

/-! Rv: repr of texts, ints and data; data with the sum of its sizes. -/
namespace Rv
open PySem PySem.Spec PyProof.Rows L2 SX Rp
theorem all_okS {α : Type} {k : Nat} (f : α → PyData) (w : α → Nat) : ∀ {xs : List α}, (∀ x ∈ xs, Ok k (w x) (f x)) → PyData.showableAll (xs.map f) = true ∧ PyData.hasDictAll (xs.map f) = false ∧ PyData.depthAll (xs.map f) ≤ k ∧ PyData.leavesShortAll 200 (xs.map f) = true ∧ PyData.weightAll (xs.map f) ≤ (xs.map fun x => w x + 1).sum
  | [], _ => ⟨by simp only [List.map_nil, PyData.showableAll], by simp only [List.map_nil, PyData.hasDictAll], by simp only [List.map_nil, PyData.depthAll]; omega, by simp only [List.map_nil, PyData.leavesShortAll], by simp only [List.map_nil, PyData.weightAll]; omega⟩
  | x :: xs, h => by
    have h1 := h x List.mem_cons_self
    obtain ⟨a1, a2, a3, a4, a5⟩ := all_okS f w (xs := xs) fun y hy => h y (List.mem_cons_of_mem _ hy)
    have w := h1.wt
    have dp := h1.dp
    refine ⟨?_, ?_, ?_, ?_, ?_⟩
    · simp only [List.map_cons, PyData.showableAll, h1.sh, a1, Bool.and_self]
    · simp only [List.map_cons, PyData.hasDictAll, h1.nd, a2, Bool.or_self]
    · simp only [List.map_cons, PyData.depthAll]
      omega
    · simp only [List.map_cons, PyData.leavesShortAll, h1.ls, a4, Bool.and_self]
    · simp only [List.map_cons, PyData.weightAll, List.sum_cons]
      omega
theorem okListS {α : Type} {k : Nat} (f : α → PyData) (w : α → Nat) {xs : List α} (h : ∀ x ∈ xs, Ok k (w x) (f x)) : Ok (k + 1) ((xs.map fun x => w x + 1).sum) (.list (xs.map f)) := by
  obtain ⟨a1, a2, a3, a4, a5⟩ := all_okS f w h
  exact ⟨by simp only [PyData.showable]; exact a1, by simp only [PyData.hasDict]; exact a2, by simp only [PyData.depth]; omega, by simp only [PyData.leavesShort]; exact a4, by simp only [PyData.weight]; exact a5⟩
theorem okTupS {α : Type} {k : Nat} (f : α → PyData) (w : α → Nat) {xs : List α} (h : ∀ x ∈ xs, Ok k (w x) (f x)) : Ok (k + 1) ((xs.map fun x => w x + 1).sum) (.tuple (xs.map f)) := by
  obtain ⟨a1, a2, a3, a4, a5⟩ := all_okS f w h
  exact ⟨by simp only [PyData.showable]; exact a1, by simp only [PyData.hasDict]; exact a2, by simp only [PyData.depth]; omega, by simp only [PyData.leavesShort]; exact a4, by simp only [PyData.weight]; exact a5⟩
/-- repr of a text, an int, data -/
def rReprV (K : PySem.W.Frag) : List V → Hp → VK → Prop := fun xs H Q => Gd.rRepr K xs H Q ∨ (∃ z : Str, xs = [V.str z] ∧ (reprText z).length ≤ sizeLine ∧ Q (.str (reprText z)) H) ∨ ∃ i : Int, xs = [V.int i] ∧ i.natAbs.log2 < 1920 ∧ Q (.str (Str.ofString (toString i))) H
theorem cr_reprV {X : Cx} (st : Gd.Still X.A) (hu : X.A.units + 70 < cLine) : CallR X (.builtin "repr") (rReprV X.K) := by
  intro pins s σ H xs us Q I r q
  rcases q with q | ⟨z, rfl, hz, q⟩ | ⟨i, rfl, hi, q⟩
  · exact Gd.cr_repr st hu pins s σ H xs us Q I r q
  · obtain ⟨u, rfl, ru⟩ := vals1 r
    obtain ⟨t, rfl⟩ := ru
    exact PySem.P.repr_of_str ⟨.str (reprText z), H, I.tok _, ⟨_, rfl⟩, q⟩ hz
  · obtain ⟨u, rfl, ru⟩ := vals1 r
    obtain ⟨t, rfl⟩ := ru
    exact PySem.P.repr_of_int hi ⟨.str (Str.ofString (toString i)), H, I.tok _, ⟨_, rfl⟩, q⟩
theorem shown_str (z : Str) : (PyData.str z).shown = reprText z := by simp only [PyData.shown]
theorem reprText_size {l : List Nat} (h : l.length ≤ 80000) (hc : ∀ c ∈ l, c < 16 ^ 8) : (reprText (S l)).length ≤ sizeLine := by
  have ok := Ok.str hc
  have := PyData.shown_le 200 (by decide) (.str (S l)) ok.ls
  have w := ok.wt
  rw [shown_str] at this
  rw [sizeLine_eq]
  omega
theorem c_reprD {K : PySem.W.Frag} {H : Hp} {a : Addr} {d : PyData} {Q : VK} {N : Nat} (hd : Dp K H (.ref a) d) (ok : Ok 60 N d) (hN : N ≤ 80000) (q : Q (.str d.shown) H) : rReprV K [V.ref a] H Q := .inl (c_repr hd ok hN q)
theorem c_reprS {K : PySem.W.Frag} {H : Hp} {l : List Nat} {Q : VK} (h : l.length ≤ 80000) (hc : ∀ c ∈ l, c < 16 ^ 8) (q : Q (.str (reprText (S l))) H) : rReprV K [V.str (S l)] H Q := .inr (.inl ⟨_, rfl, reprText_size h hc, q⟩)
theorem c_reprI {K : PySem.W.Frag} {H : Hp} {i : Int} {Q : VK} (h : i.natAbs < 2 ^ 64) (q : Q (.str (Str.ofString (toString i))) H) : rReprV K [V.int i] H Q := by
  refine .inr (.inr ⟨_, rfl, ?_, q⟩)
  by_cases z : i.natAbs = 0
  · rw [z]
    decide
  · exact (Nat.log2_lt z).mpr (Nat.lt_of_lt_of_le h (Nat.pow_le_pow_right (by decide) (by decide)))
end Rv

/-! Ri: repr tells data apart: texts of printable signs, ints, lists and tuples of such. -/
namespace Ri
open PySem PySem.Spec PyProof.Rows L2 SX TL
/-- the signs of a told datum -/
def eD (d : PyData) : List Nat := tl d.shown
/-- behind a datum: nothing, or a comma or a closing bracket -/
def Del (r : List Nat) : Prop := r = [] ∨ ∃ c t, r = c :: t ∧ (c = 44 ∨ c = 41 ∨ c = 93)
/-- repr tells the data of C apart, each from where it begins -/
def Pf (C : PyData → Prop) : Prop := ∀ d d', C d → C d' → ∀ r r', Del r → Del r' → eD d ++ r = eD d' ++ r' → d = d' ∧ r = r'
/-- how the data of C begin -/
def Hd (p : Nat → Prop) (C : PyData → Prop) : Prop := ∀ d, C d → ∃ h t, eD d = h :: t ∧ p h
theorem Pf.inj {C : PyData → Prop} (h : Pf C) {d d' : PyData} (c : C d) (c' : C d') (e : d.shown = d'.shown) : d = d' :=
  (h d d' c c' [] [] (.inl rfl) (.inl rfl) (by unfold eD; rw [e])).1
theorem Pf.or {p : Nat → Prop} {C C' : PyData → Prop} (h : Pf C) (h' : Pf C') (a : Hd p C) (b : Hd (fun c => ¬ p c) C') : Pf fun d => C d ∨ C' d := by
  intro d d' c c' r r' dr dr' e
  rcases c with c | c <;> rcases c' with c' | c'
  · exact h d d' c c' r r' dr dr' e
  · obtain ⟨x, t, e1, px⟩ := a d c
    obtain ⟨y, u, e2, py⟩ := b d' c'
    rw [e1, e2] at e
    rw [List.cons_append, List.cons_append] at e
    exact absurd ((List.cons.inj e).1 ▸ px) py
  · obtain ⟨x, t, e1, px⟩ := a d' c'
    obtain ⟨y, u, e2, py⟩ := b d c
    rw [e1, e2] at e
    rw [List.cons_append, List.cons_append] at e
    exact absurd ((List.cons.inj e).1.symm ▸ px) py
  · exact h' d d' c c' r r' dr dr' e
/-! texts -/
def encC (q c : Nat) : List Nat := if c = q ∨ c = 92 then [92, c] else [c]
theorem print_ok : ∀ c, c < 127 → 32 ≤ c → Unicode.isPrintable c = true := by decide +kernel
theorem reprChar_enc {q c : Nat} (h : 32 ≤ c ∧ c ≤ 126) : Builtin.Str.reprChar q c = encC q c := by
  unfold Builtin.Str.reprChar encC
  by_cases e : c = q ∨ c = 92
  · rw [if_pos e, if_pos (by simpa using e)]
  · rw [if_neg e, if_neg (by simpa using e), if_neg (by simp; omega), if_neg (by simp; omega), if_neg (by simp; omega), if_pos (print_ok c (by omega) h.1)]
theorem fold_enc (q : Nat) : ∀ (l : List Nat) (acc : Array Nat), (∀ c ∈ l, 32 ≤ c ∧ c ≤ 126) → (l.foldl (fun out c => out ++ (Builtin.Str.reprChar q c).toArray) acc).toList = acc.toList ++ l.flatMap (encC q)
  | [], acc, _ => by simp
  | c :: r, acc, h => by
    rw [List.foldl_cons, fold_enc q r _ fun d hd => h d (List.mem_cons_of_mem _ hd), reprChar_enc (h c List.mem_cons_self)]
    simp
theorem str_enc {l : List Nat} (h : ∀ c ∈ l, 32 ≤ c ∧ c ≤ 126) : ∃ q, (q = 39 ∨ q = 34) ∧ eD (.str (S l)) = q :: (l.flatMap (encC q) ++ [q]) := by
  refine ⟨reprQuote (S l), ?_, ?_⟩
  · unfold reprQuote
    split
    · exact .inr rfl
    · exact .inl rfl
  · unfold eD
    rw [PyData.shown]
    unfold reprText
    show (((S l).cps.foldl (fun out c => out ++ (Builtin.Str.reprChar (reprQuote (S l)) c).toArray) #[reprQuote (S l)]).push (reprQuote (S l))).toList = _
    rw [Array.toList_push, ← Array.foldl_toList, show (S l).cps.toList = l from rfl, fold_enc _ l _ h]
    simp
theorem dec_enc {q : Nat} (hq : q ≠ 92) : ∀ (l l' r r' : List Nat), l.flatMap (encC q) ++ q :: r = l'.flatMap (encC q) ++ q :: r' → l = l' ∧ r = r'
  | [], [], r, r', e => ⟨rfl, (List.cons.inj e).2⟩
  | [], c :: l', r, r', e => by
    exfalso
    rw [List.flatMap_cons, List.flatMap_nil, List.nil_append] at e
    unfold encC at e
    split at e
    · exact hq (List.cons.inj e).1
    · rename_i h
      exact h (.inl (List.cons.inj e).1.symm)
  | c :: l, [], r, r', e => by
    exfalso
    rw [List.flatMap_cons, List.flatMap_nil, List.nil_append] at e
    unfold encC at e
    split at e
    · exact hq (List.cons.inj e).1.symm
    · rename_i h
      exact h (.inl (List.cons.inj e).1)
  | c :: l, c' :: l', r, r', e => by
    rw [List.flatMap_cons, List.flatMap_cons, List.append_assoc, List.append_assoc] at e
    have key : c = c' ∧ l.flatMap (encC q) ++ q :: r = l'.flatMap (encC q) ++ q :: r' := by
      by_cases h : c = q ∨ c = 92 <;> by_cases h' : c' = q ∨ c' = 92
      · rw [show encC q c = [92, c] from if_pos h, show encC q c' = [92, c'] from if_pos h'] at e
        have e := (List.cons.inj e).2
        exact List.cons.inj e
      · rw [show encC q c = [92, c] from if_pos h, show encC q c' = [c'] from if_neg h'] at e
        exact absurd (.inr (List.cons.inj e).1.symm) h'
      · rw [show encC q c = [c] from if_neg h, show encC q c' = [92, c'] from if_pos h'] at e
        exact absurd (.inr (List.cons.inj e).1) h
      · rw [show encC q c = [c] from if_neg h, show encC q c' = [c'] from if_neg h'] at e
        exact List.cons.inj e
    obtain ⟨h1, h2⟩ := dec_enc hq l l' r r' key.2
    exact ⟨by rw [key.1, h1], h2⟩
/-- texts of printable signs -/
def PS (d : PyData) : Prop := ∃ l : List Nat, d = .str (S l) ∧ ∀ c ∈ l, 32 ≤ c ∧ c ≤ 126
theorem pf_str : Pf PS := by
  rintro _ _ ⟨l, rfl, hl⟩ ⟨l', rfl, hl'⟩ r r' _ _ e
  obtain ⟨q, hq, e1⟩ := str_enc hl
  obtain ⟨q', hq', e2⟩ := str_enc hl'
  rw [e1, e2] at e
  have hqq : q = q' := (List.cons.inj e).1
  subst hqq
  have e : l.flatMap (encC q) ++ [q] ++ r = l'.flatMap (encC q) ++ [q] ++ r' := (List.cons.inj e).2
  rw [List.append_assoc, List.append_assoc] at e
  obtain ⟨h1, h2⟩ := dec_enc (by rcases hq with rfl | rfl <;> decide) l l' r r' e
  exact ⟨by rw [h1], h2⟩
theorem hd_str : Hd (fun c => c = 39 ∨ c = 34) PS := by
  rintro _ ⟨l, rfl, hl⟩
  obtain ⟨q, hq, e1⟩ := str_enc hl
  exact ⟨q, _, e1, hq⟩
/-! ints -/
def PI_ (d : PyData) : Prop := ∃ i : Int, d = .int i
def dgt (c : Nat) : Prop := c = 45 ∨ (48 ≤ c ∧ c ≤ 57)
theorem int_enc (i : Int) : eD (.int i) = if i < 0 then 45 :: numL i.natAbs else numL i.natAbs := by
  unfold eD
  rw [PyData.shown]
  by_cases h : i < 0
  · rw [if_pos h]
    have : toString i = "-" ++ toString (0 - i) := toString_neg h
    have e : (0 - i) = ((i.natAbs : Nat) : Int) := by omega
    show tl (Str.ofString (toString i)) = _
    have hn := tl_num i.natAbs
    rw [tl_ofString] at hn
    rw [tl_ofString, this, String.toList_append, List.map_append, e, hn]
    rfl
  · rw [if_neg h]
    have e : i = ((i.natAbs : Nat) : Int) := by omega
    show tl (Str.ofString (toString i)) = _
    rw [← tl_num i.natAbs, ← e]
theorem int_dgt (i : Int) : ∀ c ∈ eD (.int i), dgt c := by
  rw [int_enc]
  have h : ∀ c ∈ numL i.natAbs, dgt c := fun c hc => by
    by_cases g : c < 48 ∨ 57 < c
    · exact absurd hc (numL_free g)
    · exact .inr ⟨by omega, by omega⟩
  split
  · intro c hc
    rcases List.mem_cons.mp hc with rfl | hc
    · exact .inl rfl
    · exact h c hc
  · exact h
theorem int_inj {i j : Int} (h : eD (.int i) = eD (.int j)) : i = j := by
  rw [int_enc, int_enc] at h
  have n45 : ∀ n, 45 ∉ numL n := fun n => numL_free (.inl (by decide))
  split at h <;> split at h
  · have := numL_inj (List.cons.inj h).2
    omega
  · exact absurd (h ▸ List.mem_cons_self) (n45 _)
  · exact absurd (h ▸ List.mem_cons_self) (n45 _)
  · have := numL_inj h
    omega
theorem split_at_del {p : Nat → Prop} : ∀ (l l' r r' : List Nat), (∀ c ∈ l, p c) → (∀ c ∈ l', p c) → (∀ c t, r = c :: t → ¬ p c) → (∀ c t, r' = c :: t → ¬ p c) → l ++ r = l' ++ r' → l = l' ∧ r = r'
  | [], [], r, r', _, _, _, _, e => ⟨rfl, e⟩
  | [], c :: l', r, r', _, h', hr, _, e => absurd (h' c List.mem_cons_self) (hr c _ e)
  | c :: l, [], r, r', h, _, _, hr', e => absurd (h c List.mem_cons_self) (hr' c _ e.symm)
  | c :: l, c' :: l', r, r', h, h', hr, hr', e => by
    obtain ⟨e1, e2⟩ := List.cons.inj e
    obtain ⟨h1, h2⟩ := split_at_del l l' r r' (fun x hx => h x (List.mem_cons_of_mem _ hx)) (fun x hx => h' x (List.mem_cons_of_mem _ hx)) hr hr' e2
    exact ⟨by rw [e1, h1], h2⟩
theorem Del.nd {r : List Nat} (h : Del r) : ∀ c t, r = c :: t → ¬ dgt c := by
  rintro c t rfl g
  rcases h with h | ⟨d, u, e, h⟩
  · cases h
  · have := (List.cons.inj e).1
    subst this
    rcases h with rfl | rfl | rfl <;> rcases g with g | g <;> omega
theorem pf_int : Pf PI_ := by
  rintro _ _ ⟨i, rfl⟩ ⟨j, rfl⟩ r r' dr dr' e
  obtain ⟨h1, h2⟩ := split_at_del _ _ r r' (int_dgt i) (int_dgt j) dr.nd dr'.nd e
  exact ⟨by rw [int_inj h1], h2⟩
theorem hd_int : Hd dgt PI_ := by
  rintro _ ⟨i, rfl⟩
  have h := int_dgt i
  cases e : eD (.int i) with
  | nil =>
    rw [int_enc] at e
    split at e
    · cases e
    · exact absurd e (numL_ne _)
  | cons c t => exact ⟨c, t, rfl, h c (by rw [e]; exact List.mem_cons_self)⟩
/-! lists and tuples -/
theorem shown_all : ∀ ds : List PyData, (PyData.shownAll ds).map tl = ds.map eD
  | [] => by rw [PyData.shownAll]; rfl
  | d :: r => by rw [PyData.shownAll, List.map_cons, shown_all r]; rfl
theorem all_len : ∀ ds : List PyData, (PyData.shownAll ds).length = ds.length
  | [] => by rw [PyData.shownAll]; rfl
  | d :: r => by rw [PyData.shownAll, List.length_cons, all_len r, List.length_cons]
theorem list_enc (ds : List PyData) : eD (.list ds) = 91 :: (joinL [44, 32] (ds.map eD) ++ [93]) := by
  unfold eD
  rw [PyData.shown, listText_eq_join, tl_append, tl_append, tl_join, shown_all]
  rfl
theorem tup_enc (ds : List PyData) : eD (.tuple ds) = 40 :: (joinL [44, 32] (ds.map eD) ++ (if ds.length = 1 then [44, 41] else [41])) := by
  unfold eD
  rw [PyData.shown]
  unfold tupleText
  rw [tl_append, tl_append, tl_join, shown_all, all_len]
  by_cases h : ds.length = 1
  · rw [if_pos h, if_pos (by rw [h]; rfl)]
    rfl
  · rw [if_neg h, if_neg (by simpa using h)]
    rfl
def opn (c : Nat) : Prop := c ≠ 93 ∧ c ≠ 41 ∧ c ≠ 44
theorem del_c (t : List Nat) : Del (44 :: t) := .inr ⟨44, t, rfl, .inl rfl⟩
theorem join_apart {C : PyData → Prop} (h : Pf C) (b : Hd opn C) {z : Nat} (hz : z = 93 ∨ z = 41) : ∀ (ds ds' : List PyData) (r r' : List Nat), (∀ d ∈ ds, C d) → (∀ d ∈ ds', C d) →
    joinL [44, 32] (ds.map eD) ++ z :: r = joinL [44, 32] (ds'.map eD) ++ z :: r' → ds = ds' ∧ r = r'
  | [], [], r, r', _, _, e => ⟨rfl, (List.cons.inj e).2⟩
  | [], d' :: l', r, r', _, c', e => by
    obtain ⟨x, t, e1, px⟩ := b d' (c' d' List.mem_cons_self)
    exfalso
    have key : ∃ u, z :: r = x :: u := by
      cases l' with
      | nil =>
        refine ⟨t ++ z :: r', ?_⟩
        rw [show joinL [44, 32] ([d'].map eD) = eD d' from rfl, e1] at e
        exact e
      | cons d2 l2 =>
        refine ⟨t ++ (([44, 32] ++ joinL [44, 32] ((d2 :: l2).map eD)) ++ z :: r'), ?_⟩
        rw [show joinL [44, 32] ((d' :: d2 :: l2).map eD) = eD d' ++ ([44, 32] ++ joinL [44, 32] ((d2 :: l2).map eD)) from rfl, e1, List.append_assoc] at e
        exact e
    obtain ⟨u, hu⟩ := key
    have := (List.cons.inj hu).1
    subst this
    rcases hz with rfl | rfl
    · exact px.1 rfl
    · exact px.2.1 rfl
  | d :: l, [], r, r', c, _, e => by
    obtain ⟨x, t, e1, px⟩ := b d (c d List.mem_cons_self)
    exfalso
    have key : ∃ u, z :: r' = x :: u := by
      cases l with
      | nil =>
        refine ⟨t ++ z :: r, ?_⟩
        rw [show joinL [44, 32] ([d].map eD) = eD d from rfl, e1] at e
        exact e.symm
      | cons d2 l2 =>
        refine ⟨t ++ (([44, 32] ++ joinL [44, 32] ((d2 :: l2).map eD)) ++ z :: r), ?_⟩
        rw [show joinL [44, 32] ((d :: d2 :: l2).map eD) = eD d ++ ([44, 32] ++ joinL [44, 32] ((d2 :: l2).map eD)) from rfl, e1, List.append_assoc] at e
        exact e.symm
    obtain ⟨u, hu⟩ := key
    have := (List.cons.inj hu).1
    subst this
    rcases hz with rfl | rfl
    · exact px.1 rfl
    · exact px.2.1 rfl
  | d :: l, d' :: l', r, r', c, c', e => by
    have dz : ∀ t, Del (z :: t) := fun t => .inr ⟨z, t, rfl, by rcases hz with h | h; exact .inr (.inr h); exact .inr (.inl h)⟩
    have z44 : z ≠ 44 := by rcases hz with rfl | rfl <;> decide
    have hd := c d List.mem_cons_self
    have hd' := c' d' List.mem_cons_self
    cases l with
    | nil =>
      cases l' with
      | nil =>
        obtain ⟨h1, h2⟩ := h d d' hd hd' _ _ (dz r) (dz r') e
        exact ⟨by rw [h1], (List.cons.inj h2).2⟩
      | cons d2 l2 =>
        rw [show joinL [44, 32] ((d' :: d2 :: l2).map eD) = eD d' ++ ([44, 32] ++ joinL [44, 32] ((d2 :: l2).map eD)) from rfl, List.append_assoc] at e
        obtain ⟨_, h2⟩ := h d d' hd hd' _ _ (dz r) (del_c _) e
        exact absurd (List.cons.inj h2).1 z44
    | cons d2 l2 =>
      rw [show joinL [44, 32] ((d :: d2 :: l2).map eD) = eD d ++ ([44, 32] ++ joinL [44, 32] ((d2 :: l2).map eD)) from rfl, List.append_assoc] at e
      cases l' with
      | nil =>
        obtain ⟨_, h2⟩ := h d d' hd hd' _ _ (del_c _) (dz r') e
        exact absurd (List.cons.inj h2).1.symm z44
      | cons d3 l3 =>
        rw [show joinL [44, 32] ((d' :: d3 :: l3).map eD) = eD d' ++ ([44, 32] ++ joinL [44, 32] ((d3 :: l3).map eD)) from rfl, List.append_assoc (eD d')] at e
        obtain ⟨h1, h2⟩ := h d d' hd hd' _ _ (del_c _) (del_c _) e
        have h3 := (List.cons.inj (List.cons.inj h2).2).2
        obtain ⟨h4, h5⟩ := join_apart h b hz (d2 :: l2) (d3 :: l3) r r' (fun x hx => c x (List.mem_cons_of_mem _ hx)) (fun x hx => c' x (List.mem_cons_of_mem _ hx)) h3
        exact ⟨by rw [h1, h4], h5⟩
/-- lists of C -/
def LS (C : PyData → Prop) (d : PyData) : Prop := ∃ ds, d = .list ds ∧ ∀ x ∈ ds, C x
/-- tuples of C -/
def TS_ (C : PyData → Prop) (d : PyData) : Prop := ∃ ds, d = .tuple ds ∧ ∀ x ∈ ds, C x
theorem pf_list {C : PyData → Prop} (h : Pf C) (b : Hd opn C) : Pf (LS C) := by
  rintro _ _ ⟨ds, rfl, c⟩ ⟨ds', rfl, c'⟩ r r' _ _ e
  rw [list_enc, list_enc] at e
  have e : joinL [44, 32] (ds.map eD) ++ [93] ++ r = joinL [44, 32] (ds'.map eD) ++ [93] ++ r' := (List.cons.inj e).2
  rw [List.append_assoc, List.append_assoc] at e
  obtain ⟨h1, h2⟩ := join_apart h b (.inl rfl) ds ds' r r' c c' e
  exact ⟨by rw [h1], h2⟩
theorem hd_list {C : PyData → Prop} : Hd (fun c => c = 91) (LS C) := by
  rintro _ ⟨ds, rfl, _⟩
  exact ⟨91, _, list_enc ds, rfl⟩
theorem hd_tup {C : PyData → Prop} : Hd (fun c => c = 40) (TS_ C) := by
  rintro _ ⟨ds, rfl, _⟩
  exact ⟨40, _, tup_enc ds, rfl⟩
/-- tuples of at least two -/
def T2 (C : PyData → Prop) (d : PyData) : Prop := ∃ ds, d = .tuple ds ∧ (∀ x ∈ ds, C x) ∧ ds.length ≠ 1
theorem pf_tup {C : PyData → Prop} (h : Pf C) (b : Hd opn C) : Pf (T2 C) := by
  rintro _ _ ⟨ds, rfl, c, n⟩ ⟨ds', rfl, c', n'⟩ r r' _ _ e
  rw [tup_enc, tup_enc, if_neg n, if_neg n'] at e
  have e : joinL [44, 32] (ds.map eD) ++ [41] ++ r = joinL [44, 32] (ds'.map eD) ++ [41] ++ r' := (List.cons.inj e).2
  rw [List.append_assoc, List.append_assoc] at e
  obtain ⟨h1, h2⟩ := join_apart h b (.inr rfl) ds ds' r r' c c' e
  exact ⟨by rw [h1], h2⟩
theorem hd_t2 {C : PyData → Prop} : Hd (fun c => c = 40) (T2 C) := by
  rintro _ ⟨ds, rfl, _⟩
  exact ⟨40, _, tup_enc ds, rfl⟩
theorem Hd.imp {p q : Nat → Prop} {C : PyData → Prop} (h : Hd p C) (i : ∀ c, p c → q c) : Hd q C := fun d c => by
  obtain ⟨x, t, e, px⟩ := h d c
  exact ⟨x, t, e, i x px⟩
theorem Hd.or {p : Nat → Prop} {C C' : PyData → Prop} (h : Hd p C) (h' : Hd p C') : Hd p fun d => C d ∨ C' d := fun d c => c.elim (h d) (h' d)
/-- texts and ints -/
def At (d : PyData) : Prop := PS d ∨ PI_ d
theorem pf_at : Pf At := Pf.or pf_str pf_int hd_str (hd_int.imp fun c h z => by rcases h with h | h <;> rcases z with z | z <;> omega)
theorem opn_at : Hd opn At := Hd.or (hd_str.imp fun c h => by rcases h with rfl | rfl <;> exact ⟨by decide, by decide, by decide⟩) (hd_int.imp fun c h => by
  refine ⟨?_, ?_, ?_⟩ <;> intro z <;> subst z <;> rcases h with h | h <;> omega)
theorem opn_at_ne : Hd (fun c => ¬ c = 91) At := Hd.or (hd_str.imp fun c h => by rcases h with rfl | rfl <;> decide) (hd_int.imp fun c h z => by subst z; rcases h with h | h <;> omega)
/-- a list of parts of texts and ints, and a text or int behind -/
theorem pf_parts : Pf (LS (T2 At)) := pf_list (pf_tup pf_at opn_at) (hd_t2.imp fun c h => by subst h; exact ⟨by decide, by decide, by decide⟩)
theorem pf_due : Pf (T2 fun d => LS (T2 At) d ∨ At d) := pf_tup (Pf.or pf_parts pf_at hd_list (opn_at_ne)) (Hd.or (hd_list.imp fun c h => by subst h; exact ⟨by decide, by decide, by decide⟩) opn_at)
end Ri

/-! Rd: repr of a dict whose keys are texts or ints and whose values are flat. -/
namespace Rd
open PySem PySem.Spec PyProof.Rows L2 SX Rp
def keyD : Key → PyData
  | .inl i => .int i
  | .inr x => .str x
def flD : V → PyData
  | .int i => .int i
  | .str x => .str x
  | .bl b => .bool b
  | _ => .none
def Flat : V → Prop
  | .int _ => True
  | .str _ => True
  | .bl _ => True
  | .non => True
  | _ => False
def dD (kvs : List (Key × V)) : PyData := .dict (kvs.map fun p => (keyD p.1, flD p.2))
section
variable {prog : Program} {w : World} {h : Heap}
theorem rd_key {u : Value} {k : Key} (e : keyIs k u = true) : Reads h u (keyD k) [] := by
  rcases keyIs_shape e with ⟨i, t, rfl, rfl⟩ | ⟨x, t, rfl, rfl⟩
  · exact .int i t
  · exact .str x t
theorem rd_keys : ∀ {es : List DictEntry} {vs : List (Key × Value)} {kvs : List (Key × V)}, Pairs (mixKind prog w) es vs → KV kvs vs → ReadsAll h (es.map (·.key)) (kvs.map fun p => keyD p.1) []
  | _, _, _, .nil, .nil => .nil
  | e :: _, q :: _, p :: _, .cons h1 _ r, .cons a k => by
    have ih := rd_keys r k
    have h1 : keyIs q.1 e.key = true := h1
    have x : Reads h e.key (keyD p.1) [] := by
      rw [a.1]
      exact rd_key h1
    exact ReadsAll.cons (as := []) (bs := []) x ih
theorem rd_flat {v : V} {u : Value} (f : Flat v) (r : RelV v u) : Reads h u (flD v) [] := by
  cases v with
  | int i => obtain ⟨t, rfl⟩ := r; exact .int i t
  | str x => obtain ⟨t, rfl⟩ := r; exact .str x t
  | bl b => cases r; exact .bool b
  | non => cases r; exact .none
  | _ => exact False.elim f
theorem rd_vals : ∀ {es : List DictEntry} {vs : List (Key × Value)} {kvs : List (Key × V)}, Pairs (mixKind prog w) es vs → KV kvs vs → (∀ p ∈ kvs, Flat p.2) → ReadsAll h (es.map (·.val)) (kvs.map fun p => flD p.2) []
  | _, _, _, .nil, .nil, _ => .nil
  | e :: _, q :: _, p :: _, .cons _ h2 r, .cons a k, f => by
    have ih := rd_vals r k fun p hp => f p (List.mem_cons_of_mem _ hp)
    have h2 : e.val = q.2 := h2
    have x : Reads h e.val (flD p.2) [] := by
      rw [h2]
      exact rd_flat (f _ List.mem_cons_self) a.2
    exact ReadsAll.cons (as := []) (bs := []) x ih
end
/-- repr of a text, an int, data, a dict -/
def rReprK (K : PySem.W.Frag) : List V → Hp → VK → Prop := fun xs H Q => Rv.rReprV K xs H Q ∨ ∃ (a : Addr) (kvs : List (Key × V)), xs = [V.ref a] ∧ H a = some (.dK kvs) ∧ (∀ p ∈ kvs, Flat p.2) ∧ (dD kvs).showable = true ∧ (dD kvs).depth ≤ 64 ∧ (dD kvs).shown.length ≤ sizeLine ∧ Q (.str (dD kvs).shown) H
theorem cr_reprK {X : Cx} (st : Gd.Still X.A) (hu : X.A.units + 70 < cLine) : CallR X (.builtin "repr") (rReprK X.K) := by
  intro pins s σ H xs us Q I r q
  rcases q with q | ⟨a, kvs, rfl, ha, fl, sh, dp, sz, q⟩
  · exact Rv.cr_reprV st hu pins s σ H xs us Q I r q
  · obtain ⟨u, rfl, ru⟩ := vals1 r
    cases ru
    obtain ⟨_, hne, vs, kv, o, es, ep, ho, hc, hd, _, hp, _⟩ := (show ObjOk X.prog X.w H s.heap a (.dK kvs) from I.hok a _ ha)
    have rk := rd_keys (h := s.heap) hp kv
    have rv := rd_vals (h := s.heap) hp kv fl
    have rd : Reads s.heap (.ref a) (dD kvs) (a :: [] ++ []) := Reads.dict ho hc.1 hd (by rw [List.map_map]; exact rk) (by rw [List.map_map]; exact rv)
    exact repr_of_reads' rd sh (fun _ hm => by
      have e : sysModules = a := List.mem_singleton.mp hm
      rw [e, beq_self_eq_true] at hne
      cases hne) st (by omega) (fun _ _ e => e) (fun h' u tk hk => ⟨.str (dD kvs).shown, H, I.kept hk, ⟨u, rfl⟩, q⟩) sz
theorem all_okK {N : Nat} : ∀ {kvs : List (Key × V)}, (∀ p ∈ kvs, Ok 0 N (keyD p.1) ∧ Ok 0 N (flD p.2)) → PyData.showableKv (kvs.map fun p => (keyD p.1, flD p.2)) = true ∧ PyData.depthKv (kvs.map fun p => (keyD p.1, flD p.2)) = 0 ∧ PyData.leavesShortKv 200 (kvs.map fun p => (keyD p.1, flD p.2)) = true ∧
    PyData.weightKv (kvs.map fun p => (keyD p.1, flD p.2)) ≤ kvs.length * (2 * N + 2)
  | [], _ => ⟨by simp only [List.map_nil, PyData.showableKv], by simp only [List.map_nil, PyData.depthKv], by simp only [List.map_nil, PyData.leavesShortKv], by simp only [List.map_nil, PyData.weightKv]; omega⟩
  | p :: r, h => by
    obtain ⟨h1, h2⟩ := h p List.mem_cons_self
    obtain ⟨a1, a2, a3, a4⟩ := all_okK (N := N) (kvs := r) fun q hq => h q (List.mem_cons_of_mem _ hq)
    have w1 := h1.wt
    have w2 := h2.wt
    have d1 := h1.dp
    have d2 := h2.dp
    refine ⟨?_, ?_, ?_, ?_⟩
    · simp only [List.map_cons, PyData.showableKv, h1.sh, h2.sh, a1, Bool.and_self]
    · simp only [List.map_cons, PyData.depthKv, a2]
      omega
    · simp only [List.map_cons, PyData.leavesShortKv, h1.ls, h2.ls, a3, Bool.and_self]
    · simp only [List.map_cons, PyData.weightKv, List.length_cons]
      rw [Nat.succ_mul]
      omega
theorem c_reprK {K : PySem.W.Frag} {H : Hp} {a : Addr} {kvs : List (Key × V)} {Q : VK} {N : Nat} (ha : H a = some (.dK kvs)) (fl : ∀ p ∈ kvs, Flat p.2) (ok : ∀ p ∈ kvs, Ok 0 N (keyD p.1) ∧ Ok 0 N (flD p.2)) (hN : kvs.length * (2 * N + 2) ≤ 80000) (q : Q (.str (dD kvs).shown) H) : rReprK K [V.ref a] H Q := by
  obtain ⟨a1, a2, a3, a4⟩ := all_okK ok
  have ls : (dD kvs).leavesShort 200 = true := by
    unfold dD
    rw [PyData.leavesShort]
    exact a3
  have wt : (dD kvs).weight ≤ 80000 := by
    unfold dD
    rw [PyData.weight]
    omega
  refine .inr ⟨a, kvs, rfl, ha, fl, ?_, ?_, ?_, q⟩
  · unfold dD
    rw [PyData.showable]
    exact a1
  · unfold dD
    rw [PyData.depth, a2]
    decide
  · have := PyData.shown_le 200 (by decide) (dD kvs) ls
    rw [sizeLine_eq]
    omega
/-! a tuple of flat values and of dicts with flat values -/
inductive DxE (H : Hp) : V → PyData → Prop
  | flat {v : V} : Flat v → DxE H v (flD v)
  | dict {a : Addr} {kvs : List (Key × V)} : H a = some (.dK kvs) → (∀ p ∈ kvs, Flat p.2) → DxE H (.ref a) (dD kvs)
inductive DxAll (H : Hp) : List V → List PyData → Prop
  | nil : DxAll H [] []
  | cons {v : V} {vs : List V} {d : PyData} {ds : List PyData} : DxE H v d → DxAll H vs ds → DxAll H (v :: vs) (d :: ds)
theorem dx_reads {X : Cx} {pins : List (Addr × Obj)} {σ : L2.St} {H : Hp} {s : Shared} (I : Inv X pins σ H s) {v : V} {d : PyData} {u : Value} (h : DxE H v d) (r : RelV v u) : ∃ as, Reads s.heap u d as ∧ sysModules ∉ as := by
  cases h with
  | flat f => exact ⟨[], rd_flat f r, fun z => nomatch z⟩
  | @dict a kvs ha fl =>
    cases r
    obtain ⟨_, hne, vs, kv, o, es, ep, ho, hc, hd, _, hp, _⟩ := (show ObjOk X.prog X.w H s.heap a (.dK kvs) from I.hok a _ ha)
    have rk := rd_keys (h := s.heap) hp kv
    have rv := rd_vals (h := s.heap) hp kv fl
    refine ⟨a :: [] ++ [], Reads.dict ho hc.1 hd (by rw [List.map_map]; exact rk) (by rw [List.map_map]; exact rv), fun hm => ?_⟩
    have e : sysModules = a := List.mem_singleton.mp hm
    rw [e, beq_self_eq_true] at hne
    cases hne
theorem dx_all {X : Cx} {pins : List (Addr × Obj)} {σ : L2.St} {H : Hp} {s : Shared} (I : Inv X pins σ H s) : ∀ {vs : List V} {ds : List PyData} {us : List Value}, DxAll H vs ds → Vals vs us → ∃ as, ReadsAll s.heap us ds as ∧ sysModules ∉ as
  | _, _, _, .nil, .nil => ⟨[], .nil, fun z => nomatch z⟩
  | _, _, _, .cons h t, .cons a r => by
    obtain ⟨as, q1, n1⟩ := dx_reads I h a
    obtain ⟨bs, q2, n2⟩ := dx_all I t r
    exact ⟨as ++ bs, .cons q1 q2, fun z => (List.mem_append.mp z).elim n1 n2⟩
/-- repr of a text, an int, data, a dict, a tuple with dicts, None -/
def rReprX (K : PySem.W.Frag) : List V → Hp → VK → Prop := fun xs H Q => rReprK K xs H Q ∨ (∃ (a : Addr) (vs : List V) (ds : List PyData), xs = [V.ref a] ∧ SqT K H a vs ∧ DxAll H vs ds ∧ (PyData.tuple ds).showable = true ∧ (PyData.tuple ds).depth ≤ 64 ∧ (PyData.tuple ds).shown.length ≤ sizeLine ∧ Q (.str (PyData.tuple ds).shown) H) ∨ (xs = [V.non] ∧ Q (.str "None") H)
theorem cr_reprX {X : Cx} (st : Gd.Still X.A) (hu : X.A.units + 70 < cLine) : CallR X (.builtin "repr") (rReprX X.K) := by
  intro pins s σ H xs us Q I r q
  rcases q with q | ⟨a, vs, ds, rfl, ha, dx, sh, dp, sz, q⟩ | ⟨rfl, q⟩
  · exact cr_reprK st hu pins s σ H xs us Q I r q
  · obtain ⟨u, rfl, ru⟩ := vals1 r
    cases ru
    obtain ⟨its, rv, ⟨o, ho, hc, n, hd⟩, _⟩ := I.tuple ha
    obtain ⟨as, hr, nm⟩ := dx_all I dx rv
    have rd : Reads s.heap (.ref a) (.tuple ds) as := Reads.tuple ho hc hd hr
    exact repr_of_reads' rd sh (fun _ => nm) st (by omega) (fun _ _ e => e) (fun h' u tk hk => ⟨.str (PyData.tuple ds).shown, H, I.kept hk, ⟨u, rfl⟩, q⟩) sz
  · obtain ⟨u, rfl, ru⟩ := vals1 r
    cases ru
    exact PySem.P.repr_of_none ⟨.str "None", H, I.tok _, ⟨_, rfl⟩, q⟩
end Rd
/-! x is True -/
namespace Rd
open PySem PySem.Spec PyProof.Rows L2
def rIsT : R2 := fun x y H Q => ∃ b : Bool, y = .bl b ∧ (x = .non ∨ (∃ c, x = .bl c) ∨ (∃ i, x = .int i) ∨ (∃ z, x = .str z) ∨ ∃ a, x = .ref a) ∧ Q (.bl (decide (x = .bl b))) H
theorem op_isT {X : Cx} : OpR X (compareOp .Is) rIsT := by
  intro pins s σ H x y v u Q I rx ry h
  obtain ⟨b, rfl, hx, q⟩ := h
  cases (show u = Value.bool b from ry)
  rcases hx with rfl | ⟨c, rfl⟩ | ⟨i, rfl⟩ | ⟨z, rfl⟩ | ⟨a, rfl⟩
  · cases rx
    exact wpAny_is_other rfl (fun z => by cases z) ⟨.bl false, H, I, rfl, q⟩
  · cases (show v = Value.bool c from rx)
    by_cases e : c = b
    · subst e
      rw [decide_eq_true rfl] at q
      exact wpAny_is_self rfl ⟨.bl true, H, I, rfl, q⟩
    · rw [decide_eq_false (fun z => e (V.bl.inj z))] at q
      exact wpAny_is_other rfl (fun z => e (Value.bool.inj z)) ⟨.bl false, H, I, rfl, q⟩
  · obtain ⟨t, rfl⟩ := rx
    exact wpAny_is_other rfl (fun z => by cases z) ⟨.bl false, H, I, rfl, q⟩
  · obtain ⟨t, rfl⟩ := rx
    exact wpAny_is_other rfl (fun z => by cases z) ⟨.bl false, H, I, rfl, q⟩
  · cases rx
    exact wpAny_is_other rfl (fun z => by cases z) ⟨.bl false, H, I, rfl, q⟩
end Rd

local macro_rules | `(tactic| walk_at "blk") => `(tactic| first | exact rfl | dsimp only [L2.cxOf, L2.Cx.nox, L2.Cx.wish, L2.Cx.blk])
local macro_rules | `(tactic| walk_at "hp") => `(tactic| first
  | assumption
  | exact L2.upd_same
  | (refine Eg.upd_old ?_ (by assumption); walk_at "hp")
  | (refine Eg.upd_mut (by first | assumption | exact Ne.symm (by assumption)) ?_; walk_at "hp")
  | (refine Eg.frame_at (by assumption) (by first | assumption | exact Ne.symm (by assumption)) ?_; walk_at "hp")
  | ((refine (show L2.Same _ _ by assumption) _ _ ?_); walk_at "hp"))
local macro_rules | `(tactic| walk_at "sq") => `(tactic| first
  | assumption
  | exact L2.SqL.of (by walk_at "hp")
  | exact L2.SqT.of (by walk_at "hp"))
local macro_rules | `(tactic| walk_at "g0") => `(tactic| first
  | with_reducible refine Eg.w_seq ?_
  | (with_reducible show L2.Ends.nx _ _ _; with_reducible refine Eg.w_nx ?_)
  | with_reducible refine Eg.w_asg ?_
  | with_reducible refine Eg.w_gN ?_
  | with_reducible refine Eg.w_op ?_
  | with_reducible refine Eg.w_c ?_
  | ((with_reducible refine' Eg.w_var ?hv ?_); (case hv => exact rfl))
  | with_reducible refine Eg.w_cons ?_
  | with_reducible refine Eg.w_nil ?_
  | with_reducible refine Eg.w_rI0 ?_
  | ((with_reducible refine' Eg.w_rI ?hc ?_); (case hc => walk_at "cond"))
  | with_reducible refine Eg.w_rU ?_
  | with_reducible refine Eg.w_un ?_
  | ((with_reducible refine' Eg.w_ixL ?hs ?hv ?_); (case hs => walk_at "sq"); (case hv => walk_at "at"))
  | ((with_reducible refine' Eg.w_ixT ?hs ?hv ?_); (case hs => walk_at "sq"); (case hv => walk_at "at"))
  | with_reducible refine Eg.w_cb ?_
  | with_reducible refine Eg.w_call ?_
  | with_reducible refine Eg.w_ifS ?_
  | with_reducible refine Eg.w_test ?_
  | with_reducible refine Eg.w_B ?_
  | with_reducible refine Eg.w_bl ?_
  | with_reducible refine Eg.w_bl' ?_
  | with_reducible refine Eg.w_ret ?_
  | (with_reducible show L2.Ends.rt _ _ _; with_reducible refine Eg.w_rt ?_)
  | with_reducible refine Eg.w_next ?_
  | with_reducible refine Eg.w_drop ?_
  | with_reducible refine Eg.w_gSub ?_
  | ((with_reducible refine' Eg.w_setL ?hs ?hv ?_); (case hs => walk_at "hp"); (case hv => exact rfl))
  | with_reducible refine Eg.c_int ?_
  | with_reducible refine Eg.c_abs ?_
  | with_reducible refine Eg.c_min2 ?_
  | with_reducible refine Eg.c_max2 ?_
  | with_reducible refine Eg.c_isN ?_
  | with_reducible refine Eg.c_notN ?_
  | ((with_reducible refine' Eg.c_len ?hs ?_); (case hs => walk_at "sq"))
  | with_reducible refine Eg.w_dget ?_
  | with_reducible refine Eg.w_din ?_
  | with_reducible refine Eg.w_dnin ?_
  | with_reducible refine Eg.w_dput ?_
  | with_reducible refine Eg.w_dnewT ?_
  | with_reducible refine Eg.w_dnewK ?_
  | with_reducible refine Eg.w_iK ?_
  | ((with_reducible refine' Eg.w_eq ?hs ?_); (case hs => rfl))
  | ((with_reducible refine' Eg.w_ne ?hs ?_); (case hs => rfl))
  | with_reducible refine Es.w_ifSS ?_
  | with_reducible refine Eg.w_if ?_
  | with_reducible refine Eg.w_not ?_
  | with_reducible refine Eg.w_andV ?_
  | with_reducible refine Eg.w_orV ?_
  | with_reducible refine Eg.w_notV ?_
  | with_reducible refine Eg.w_chain ?_
  | with_reducible refine Eg.w_tup ?_
  | with_reducible refine Eg.w_lst ?_
  | ((with_reducible refine' Eg.w_sz ?hs ?_); (case hs => first | decide | (simp only [List.length_cons, List.length_nil]; omega)))
  | with_reducible refine Eg.w_bm ?_
  | with_reducible refine Eg.w_bm0 ?_
  | ((with_reducible refine' Eg.w_tyl ?hs ?_); (case hs => walk_at "sq"))
  | ((with_reducible refine' Eg.w_append ?hs ?hz ?_); (case hs => walk_at "hp"); (case hz => walk_at "size"))
  | with_reducible refine Eg.w_fld ?_
  | ((with_reducible refine' Eg.c_fld ?hs ?hc ?hn ?hl ?_); (case hs => walk_at "hp"); (case hc => assumption); (case hn => assumption); (case hl => walk_at "lk"))
  | with_reducible refine Eg.w_sl ?_
  | with_reducible refine Eg.w_sfld ?_
  | ((with_reducible refine' Eg.c_sfld ?hs ?hc ?hn ?hl ?_); (case hs => walk_at "hp"); (case hc => assumption); (case hn => assumption); (case hl => walk_at "few"))
  | with_reducible refine Eg.w_meth ?_
  | ((with_reducible refine' Eg.c_meth ?hs ?hl ?_); (case hs => walk_at "hp"); (case hl => walk_at "lk"))
  | with_reducible refine Eg.w_make ?_
  | with_reducible refine Eg.w_nopart ?_
  | with_reducible refine Eg.w_part ?_
  | with_reducible refine Eg.c_part ?_
  | ((with_reducible refine' Eg.w_gTup ?hs ?hn ?_); (case hs => walk_at "sq"); (case hn => exact rfl))
  | with_reducible refine Eg.w_gCons ?_
  | with_reducible refine Eg.w_gNil ?_
  | with_reducible refine Eg.w_for ?_
  | with_reducible refine Eg.w_iL ?_
  | with_reducible refine Eg.w_iR1 ?_
  | with_reducible refine Eg.w_iR2 ?_
  | ((with_reducible refine' Eg.c_iR2 ?hs ?_); (case hs => first | decide | (refine ⟨?_, ?_, ?_, ?_⟩ <;> omega)))
  | with_reducible refine Eg.w_iT ?_
  | ((with_reducible refine' Eg.c_iT ?hs ?_); (case hs => walk_at "sq"))
  | with_reducible refine Eg.w_iZ ?_
  | ((with_reducible refine' Eg.c_iZ ?hs ?hz ?_); (case hs => walk_at "sq"); (case hz => walk_at "sq"))
  | with_reducible refine Eg.w_lc ?_
  | with_reducible refine Eg.w_yes ?_
  | with_reducible refine Eg.w_par ?_
  | with_reducible refine Eg.c_par ?_
  | ((with_reducible show DTx.tDt _ _ _ _ _ _ _ _ _); unfold DTx.tDt)
  | ((with_reducible refine' Eg.w_wipe ?hs ?_); (case hs => exact rfl))
  | with_reducible refine L2.iteT ?_
  | with_reducible refine L2.iteF ?_
  | ((with_reducible show ∃ acc, _ = some (L2.HO.lst acc) ∧ acc.length < PySem.sizeLine ∧ _); (refine' ⟨_, ?hs, Nat.lt_of_lt_of_le (m := 100000) ?hz (by decide), ?_⟩); (case hs => walk_at "hp"); (case hz => walk_at "size"))
  | ((with_reducible refine' Eg.c_iR1 ?hs ?hz ?_); (case hs => first | decide | omega); (case hz => first | decide | omega))
  | ((with_reducible refine' Eg.c_iL ?hs ?_); (case hs => walk_at "sq"))
  | with_reducible refine Eg.w_disp1 ?_
  | ((with_reducible refine' Eg.c_dispI ?hs ?_); (case hs => walk_at "hp"))
  | with_reducible refine Eg.w_retN ?_
  | with_reducible refine Eg.w_brk ?_
  | with_reducible refine Eg.w_cont ?_
  | with_reducible refine Es.js_cons ?_
  | with_reducible refine Es.js_nil ?_
  | ((with_reducible refine' Es.js_leaf ?hz ?_); (case hz => walk_at "len"))
  | with_reducible refine Es.w_fmt ?_
  | ((with_reducible refine' Es.fm_str ?hz ?_); (case hz => walk_at "len"))
  | ((with_reducible refine' Es.fm_int ?hz ?_); (case hz => exact Fs.log_small (by first | assumption | omega)))
  | with_reducible refine Es.w_fmtD ?_
  | with_reducible refine Es.w_join ?_
  | ((with_reducible refine' Es.c_addS ?hz ?_); (case hz => walk_at "len"))
  | ((with_reducible refine' Es.c_strI ?hz ?_); (case hz => exact Fs.log_small (by first | assumption | omega)))
  | (with_reducible show L2.Ends.bk _ _ _; with_reducible refine Eg.w_bk ?_)
  | (with_reducible show L2.Ends.ct _ _ _; with_reducible refine Eg.w_ct ?_))
local macro_rules | `(tactic| walk_at "g2") => `(tactic| first
  | with_reducible refine Eg.w_seq ?_
  | (with_reducible show L2.Ends.nx _ _ _; with_reducible refine Eg.w_nx ?_)
  | with_reducible refine Eg.w_asg ?_
  | with_reducible refine Eg.w_gN ?_
  | with_reducible refine Eg.w_op ?_
  | with_reducible refine Eg.w_c ?_
  | ((with_reducible refine' Eg.w_var ?hv ?_); (case hv => exact rfl))
  | with_reducible refine Eg.w_cons ?_
  | with_reducible refine Eg.w_nil ?_
  | with_reducible refine Eg.w_rI0 ?_
  | ((with_reducible refine' Eg.w_rI ?hc ?_); (case hc => walk_at "cond"))
  | with_reducible refine Eg.w_rU ?_
  | with_reducible refine Eg.w_un ?_
  | ((with_reducible refine' Eg.w_ixL ?hs ?hv ?_); (case hs => walk_at "sq"); (case hv => walk_at "at"))
  | ((with_reducible refine' Eg.w_ixT ?hs ?hv ?_); (case hs => walk_at "sq"); (case hv => walk_at "at"))
  | with_reducible refine Eg.w_cb ?_
  | with_reducible refine Eg.w_call ?_
  | with_reducible refine Eg.w_ifS ?_
  | with_reducible refine Eg.w_test ?_
  | with_reducible refine Eg.w_B ?_
  | with_reducible refine Eg.w_bl ?_
  | with_reducible refine Eg.w_bl' ?_
  | with_reducible refine Eg.w_ret ?_
  | (with_reducible show L2.Ends.rt _ _ _; with_reducible refine Eg.w_rt ?_)
  | with_reducible refine Eg.w_next ?_
  | with_reducible refine Eg.w_drop ?_
  | with_reducible refine Eg.w_gSub ?_
  | ((with_reducible refine' Eg.w_setL ?hs ?hv ?_); (case hs => walk_at "hp"); (case hv => exact rfl))
  | with_reducible refine Eg.c_int ?_
  | with_reducible refine Eg.c_abs ?_
  | with_reducible refine Eg.c_min2 ?_
  | with_reducible refine Eg.c_max2 ?_
  | with_reducible refine Eg.c_isN ?_
  | with_reducible refine Eg.c_notN ?_
  | ((with_reducible refine' Eg.c_len ?hs ?_); (case hs => walk_at "sq"))
  | with_reducible refine Eg.w_dget ?_
  | with_reducible refine Eg.w_din ?_
  | with_reducible refine Eg.w_dnin ?_
  | with_reducible refine Eg.w_dput ?_
  | with_reducible refine Eg.w_dnewT ?_
  | with_reducible refine Eg.w_dnewK ?_
  | with_reducible refine Eg.w_iK ?_
  | ((with_reducible refine' Eg.w_eq ?hs ?_); (case hs => rfl))
  | ((with_reducible refine' Eg.w_ne ?hs ?_); (case hs => rfl))
  | with_reducible refine Es.w_ifSS ?_
  | with_reducible refine Eg.w_if ?_
  | with_reducible refine Eg.w_not ?_
  | with_reducible refine Eg.w_andV ?_
  | with_reducible refine Eg.w_orV ?_
  | with_reducible refine Eg.w_notV ?_
  | with_reducible refine Eg.w_chain ?_
  | with_reducible refine Eg.w_tup ?_
  | with_reducible refine Eg.w_lst ?_
  | ((with_reducible refine' Eg.w_sz ?hs ?_); (case hs => first | decide | (simp only [List.length_cons, List.length_nil]; omega)))
  | with_reducible refine Eg.w_bm ?_
  | with_reducible refine Eg.w_bm0 ?_
  | ((with_reducible refine' Eg.w_tyl ?hs ?_); (case hs => walk_at "sq"))
  | ((with_reducible refine' Eg.w_append ?hs ?hz ?_); (case hs => walk_at "hp"); (case hz => walk_at "size"))
  | with_reducible refine Eg.w_fld ?_
  | ((with_reducible refine' Eg.c_fld ?hs ?hc ?hn ?hl ?_); (case hs => walk_at "hp"); (case hc => assumption); (case hn => assumption); (case hl => walk_at "lk"))
  | with_reducible refine Eg.w_sl ?_
  | with_reducible refine Eg.w_sfld ?_
  | ((with_reducible refine' Eg.c_sfld ?hs ?hc ?hn ?hl ?_); (case hs => walk_at "hp"); (case hc => assumption); (case hn => assumption); (case hl => walk_at "few"))
  | with_reducible refine Eg.w_meth ?_
  | ((with_reducible refine' Eg.c_meth ?hs ?hl ?_); (case hs => walk_at "hp"); (case hl => walk_at "lk"))
  | with_reducible refine Eg.w_make ?_
  | with_reducible refine Eg.w_nopart ?_
  | with_reducible refine Eg.w_part ?_
  | with_reducible refine Eg.c_part ?_
  | ((with_reducible refine' Eg.w_gTup ?hs ?hn ?_); (case hs => walk_at "sq"); (case hn => exact rfl))
  | with_reducible refine Eg.w_gCons ?_
  | with_reducible refine Eg.w_gNil ?_
  | with_reducible refine Eg.w_for ?_
  | with_reducible refine Eg.w_iL ?_
  | with_reducible refine Eg.w_iR1 ?_
  | with_reducible refine Eg.w_iR2 ?_
  | ((with_reducible refine' Eg.c_iR2 ?hs ?_); (case hs => first | decide | (refine ⟨?_, ?_, ?_, ?_⟩ <;> omega)))
  | with_reducible refine Eg.w_iT ?_
  | ((with_reducible refine' Eg.c_iT ?hs ?_); (case hs => walk_at "sq"))
  | with_reducible refine Eg.w_iZ ?_
  | ((with_reducible refine' Eg.c_iZ ?hs ?hz ?_); (case hs => walk_at "sq"); (case hz => walk_at "sq"))
  | with_reducible refine Eg.w_yes ?_
  | with_reducible refine Eg.w_par ?_
  | with_reducible refine Eg.c_par ?_
  | ((with_reducible show DTx.tDt _ _ _ _ _ _ _ _ _); unfold DTx.tDt)
  | ((with_reducible refine' Eg.w_wipe ?hs ?_); (case hs => exact rfl))
  | with_reducible refine L2.iteT ?_
  | with_reducible refine L2.iteF ?_
  | ((with_reducible show ∃ acc, _ = some (L2.HO.lst acc) ∧ acc.length < PySem.sizeLine ∧ _); (refine' ⟨_, ?hs, Nat.lt_of_lt_of_le (m := 100000) ?hz (by decide), ?_⟩); (case hs => walk_at "hp"); (case hz => walk_at "size"))
  | ((with_reducible refine' Eg.c_iR1 ?hs ?hz ?_); (case hs => first | decide | omega); (case hz => first | decide | omega))
  | ((with_reducible refine' Eg.c_iL ?hs ?_); (case hs => walk_at "sq"))
  | with_reducible refine Eg.w_disp1 ?_
  | ((with_reducible refine' Eg.c_dispI ?hs ?_); (case hs => walk_at "hp"))
  | with_reducible refine Eg.w_retN ?_
  | with_reducible refine Eg.w_brk ?_
  | with_reducible refine Eg.w_cont ?_
  | with_reducible refine Es.js_cons ?_
  | with_reducible refine Es.js_nil ?_
  | ((with_reducible refine' Es.js_leaf ?hz ?_); (case hz => walk_at "len"))
  | with_reducible refine Es.w_fmt ?_
  | ((with_reducible refine' Es.fm_str ?hz ?_); (case hz => walk_at "len"))
  | ((with_reducible refine' Es.fm_int ?hz ?_); (case hz => exact Fs.log_small (by first | assumption | omega)))
  | with_reducible refine Es.w_fmtD ?_
  | with_reducible refine Es.w_join ?_
  | ((with_reducible refine' Es.c_addS ?hz ?_); (case hz => walk_at "len"))
  | ((with_reducible refine' Es.c_strI ?hz ?_); (case hz => exact Fs.log_small (by first | assumption | omega)))
  | (with_reducible show L2.Ends.bk _ _ _; with_reducible refine Eg.w_bk ?_)
  | (with_reducible show L2.Ends.ct _ _ _; with_reducible refine Eg.w_ct ?_))
local macro_rules | `(tactic| walk_at "at") => `(tactic| first | exact rfl | assumption)
local macro_rules | `(tactic| walk_at "size") => `(tactic| first | decide | omega | (simp only [List.length_append, List.length_map, List.length_cons, List.length_nil]; omega))
local macro_rules | `(tactic| walk_at "cond") => `(tactic| first | assumption | decide | exact ⟨by decide, by decide⟩ | exact .inl ⟨by omega, by omega⟩ | exact .inr ⟨by omega, by omega⟩ | exact ⟨by omega, by omega⟩ | exact ⟨by omega, by omega, by omega⟩ | (show (0 : Int) < _; omega))
local macro_rules | `(tactic| walk_at "g1") => `(tactic| first | walk_at "g0" | with_reducible refine Eg.w_and ?_ | with_reducible refine Eg.w_or ?_)
local macro_rules | `(tactic| walk_at "go") => `(tactic| repeat walk_at "g1")
local macro_rules | `(tactic| walk_at "gp") => `(tactic| repeat walk_at "g0")
local macro_rules | `(tactic| walk_at "lk") => `(tactic| first | assumption | exact rfl | decide +kernel)
local macro_rules | `(tactic| walk_at "few") => `(tactic| first | decide | exact (show 1 < 1000 by decide) | exact (show 2 < 1000 by decide) | exact (show 3 < 1000 by decide) | exact (show 4 < 1000 by decide) | exact (show 5 < 1000 by decide))
local macro_rules | `(tactic| walk_at "g3") => `(tactic| first | walk_at "g2" | with_reducible refine Eg.w_and ?_ | with_reducible refine Eg.w_or ?_)
local macro_rules | `(tactic| walk_at "gw") => `(tactic| repeat walk_at "g3")
local macro_rules | `(tactic| walk_at "len") => `(tactic| first | assumption | (simp only [PySem.strLen_append, PySem.sizeLine_eq, Fs.sp1, Fs.sp3, Fs.emp0, Fs.sg1, Fs.tI]; omega))

local macro_rules | `(tactic| walk_at "tx") => `(tactic| first
  | ((with_reducible refine' Tw.c_lenS ?hz ?_); (case hz => first | assumption | omega))
  | with_reducible refine Tw.c_ord ?_
  | with_reducible refine Tw.c_leS ?_
  | with_reducible refine Tw.c_leA ?_
  | with_reducible refine Tw.c_leZ ?_
  | with_reducible refine Tw.c_inDig ?_
  | with_reducible refine Tw.c_notInBr ?_
  | with_reducible refine Tw.c_inS ?_
  | with_reducible refine Tw.c_notInS ?_
  | ((with_reducible refine' Tw.c_rs ?hz ?_); (case hz => first | assumption | omega))
  | with_reducible refine Tw.w_iStr ?_
  | with_reducible refine Tw.w_tyS ?_
  | with_reducible refine Tw.c_iStr ?_
  | ((with_reducible refine' Tw.c_addSS ?hz ?_); (case hz => first | assumption | omega | (simp only [List.length_append, List.length_cons, List.length_nil]; omega)))
  | ((with_reducible refine' Tw.c_neE ?hs ?hn ?_); (case hs => walk_at "hp"); (case hn => walk_at "hp"))
  | ((with_reducible refine' Tw.c_eqE ?hs ?hn ?_); (case hs => walk_at "hp"); (case hn => walk_at "hp"))
  | with_reducible refine Tw.br_nt ?_
  | with_reducible refine Tw.br_nf ?_
  | ((with_reducible refine' Tw.isi_str ?hz ?_); (case hz => exact rfl)))
local macro_rules | `(tactic| walk_at "at") => `(tactic| first | exact Tx.atI_hd | exact Tx.atI_hd1 | exact Tx.atI_last (by assumption))
local macro_rules | `(tactic| walk_at "g0") => `(tactic| walk_at "tx")
local macro_rules | `(tactic| walk_at "g2") => `(tactic| walk_at "tx")

namespace LW
open PySem L2 SX Tx
def top (i : Nat) : Stmt := PySem.Challenge.pw_ownholes_k14_queries_filled.main.body.getD i (.Pass ⟨0, 0, 0, 0⟩)
abbrev s_is_word : Stmt := top 14
abbrev N_is_word : List Str := ["thing", "sign"]
theorem sc_is_word : FnScope N_is_word ["thing"] (defScope s_is_word) := ⟨rfl, rfl, rfl, by decide +kernel, rfl, by decide +kernel, by decide +kernel⟩
abbrev s_is_count : Stmt := top 15
abbrev N_is_count : List Str := ["text", "sign"]
theorem sc_is_count : FnScope N_is_count ["text"] (defScope s_is_count) := ⟨rfl, rfl, rfl, by decide +kernel, rfl, by decide +kernel, by decide +kernel⟩
abbrev s_is_label : Stmt := top 16
abbrev N_is_label : List Str := ["thing", "word"]
theorem sc_is_label : FnScope N_is_label ["thing"] (defScope s_is_label) := ⟨rfl, rfl, rfl, by decide +kernel, rfl, by decide +kernel, by decide +kernel⟩
abbrev s_is_value : Stmt := top 17
abbrev N_is_value : List Str := ["thing"]
theorem sc_is_value : FnScope N_is_value ["thing"] (defScope s_is_value) := ⟨rfl, rfl, rfl, by decide +kernel, rfl, by decide +kernel, by decide +kernel⟩
abbrev s_is_literal : Stmt := top 19
abbrev N_is_literal : List Str := ["sign"]
theorem sc_is_literal : FnScope N_is_literal ["sign"] (defScope s_is_literal) := ⟨rfl, rfl, rfl, by decide +kernel, rfl, by decide +kernel, by decide +kernel⟩
abbrev s_is_key : Stmt := top 20
abbrev N_is_key : List Str := ["key", "kind"]
theorem sc_is_key : FnScope N_is_key ["key", "kind"] (defScope s_is_key) := ⟨rfl, rfl, rfl, by decide +kernel, rfl, by decide +kernel, by decide +kernel⟩
abbrev s_read_parts : Stmt := top 21
abbrev N_read_parts : List Str := ["text", "kind", "parts", "at", "begin", "end", "key"]
theorem sc_read_parts : FnScope N_read_parts ["text", "kind"] (defScope s_read_parts) := ⟨rfl, rfl, rfl, by decide +kernel, rfl, by decide +kernel, by decide +kernel⟩
abbrev s_merged : Stmt := top 22
abbrev N_merged : List Str := ["parts", "found", "part"]
theorem sc_merged : FnScope N_merged ["parts"] (defScope s_merged) := ⟨rfl, rfl, rfl, by decide +kernel, rfl, by decide +kernel, by decide +kernel⟩
abbrev s_check_manner : Stmt := top 25
abbrev N_check_manner : List Str := ["manner"]
theorem sc_check_manner : FnScope N_check_manner ["manner"] (defScope s_check_manner) := ⟨rfl, rfl, rfl, by decide +kernel, rfl, by decide +kernel, by decide +kernel⟩
abbrev s_keyed : Stmt := top 26
abbrev N_keyed : List Str := ["manner", "parts", "found", "many", "part"]
theorem sc_keyed : FnScope N_keyed ["manner", "parts"] (defScope s_keyed) := ⟨rfl, rfl, rfl, by decide +kernel, rfl, by decide +kernel, by decide +kernel⟩
abbrev s_table_of : Stmt := top 27
abbrev N_table_of : List Str := ["manner", "row", "at", "value", "first", "label"]
theorem sc_table_of : FnScope N_table_of ["manner", "row"] (defScope s_table_of) := ⟨rfl, rfl, rfl, by decide +kernel, rfl, by decide +kernel, by decide +kernel⟩
abbrev s_Query_init : Stmt := inClass (top 24) 1
abbrev N_Query_init : List Str := ["self", "manner", "text", "row", "held", "at", "key", "part"]
theorem sc_Query_init : FnScope N_Query_init ["self", "manner", "text", "row"] (defScope s_Query_init) := ⟨rfl, rfl, rfl, by decide +kernel, rfl, by decide +kernel, by decide +kernel⟩
abbrev s_Query_row : Stmt := inClass (top 24) 2
abbrev N_Query_row : List Str := ["self", "key", "label"]
theorem sc_Query_row : FnScope N_Query_row ["self"] (defScope s_Query_row) := ⟨rfl, rfl, rfl, by decide +kernel, rfl, by decide +kernel, by decide +kernel⟩
abbrev s_Query_filled : Stmt := inClass (top 24) 3
abbrev N_Query_filled : List Str := ["self", "parts", "part"]
theorem sc_Query_filled : FnScope N_Query_filled ["self"] (defScope s_Query_filled) := ⟨rfl, rfl, rfl, by decide +kernel, rfl, by decide +kernel, by decide +kernel⟩
abbrev s_Query_len : Stmt := inClass (top 24) 7
abbrev N_Query_len : List Str := ["self", "part"]
theorem sc_Query_len : FnScope N_Query_len ["self"] (defScope s_Query_len) := ⟨rfl, rfl, rfl, by decide +kernel, rfl, by decide +kernel, by decide +kernel⟩
abbrev s_Query_eq : Stmt := inClass (top 24) 8
abbrev N_Query_eq : List Str := ["self", "other"]
theorem sc_Query_eq : FnScope N_Query_eq ["self", "other"] (defScope s_Query_eq) := ⟨rfl, rfl, rfl, by decide +kernel, rfl, by decide +kernel, by decide +kernel⟩
abbrev s_l_bag : Stmt := top 33
abbrev N_l_bag : List Str := ["_law_script", "_law_at", "_law_cell", "_law_mixed", "_law_k", "_law_each"]
theorem sc_l_bag : FnScope N_l_bag ["_law_script", "_law_at"] (defScope s_l_bag) := ⟨rfl, rfl, rfl, by decide +kernel, rfl, by decide +kernel, by decide +kernel⟩
abbrev s_l_take : Stmt := top 34
abbrev N_l_take : List Str := ["_law_bag_here", "_law_many", "_law_digit"]
theorem sc_l_take : FnScope N_l_take ["_law_bag_here", "_law_many"] (defScope s_l_take) := ⟨rfl, rfl, rfl, by decide +kernel, rfl, by decide +kernel, by decide +kernel⟩
abbrev s_l_of : Stmt := top 35
abbrev N_l_of : List Str := ["_law_bag_here", "_law_some"]
theorem sc_l_of : FnScope N_l_of ["_law_bag_here", "_law_some"] (defScope s_l_of) := ⟨rfl, rfl, rfl, by decide +kernel, rfl, by decide +kernel, by decide +kernel⟩
abbrev s_l_wide : Stmt := top 36
abbrev N_l_wide : List Str := ["_law_bag_here", "_law_many", "_law_found", "_law_k"]
theorem sc_l_wide : FnScope N_l_wide ["_law_bag_here", "_law_many"] (defScope s_l_wide) := ⟨rfl, rfl, rfl, by decide +kernel, rfl, by decide +kernel, by decide +kernel⟩
abbrev s_l_value : Stmt := top 37
abbrev N_l_value : List Str := ["_law_bag_here", "_law_way", "_law_found", "_law_k"]
theorem sc_l_value : FnScope N_l_value ["_law_bag_here"] (defScope s_l_value) := ⟨rfl, rfl, rfl, by decide +kernel, rfl, by decide +kernel, by decide +kernel⟩
abbrev s_l_labels : Stmt := top 38
abbrev N_l_labels : List Str := ["_law_bag_here", "_law_many", "_law_left", "_law_found", "_law_stem", "_law_is_ahead", "_law_k", "_law_sign", "_law_word", "_law_number"]
theorem sc_l_labels : FnScope N_l_labels ["_law_bag_here", "_law_many"] (defScope s_l_labels) := ⟨rfl, rfl, rfl, by decide +kernel, rfl, by decide +kernel, by decide +kernel⟩
abbrev s_l_literal : Stmt := top 39
abbrev N_l_literal : List Str := ["_law_bag_here", "_law_limit", "_law_signs", "_law_found", "_law_k"]
theorem sc_l_literal : FnScope N_l_literal ["_law_bag_here", "_law_limit"] (defScope s_l_literal) := ⟨rfl, rfl, rfl, by decide +kernel, rfl, by decide +kernel, by decide +kernel⟩
abbrev s_l_merged : Stmt := top 40
abbrev N_l_merged : List Str := ["_law_parts", "_law_found", "_law_part", "_law_last"]
theorem sc_l_merged : FnScope N_l_merged ["_law_parts"] (defScope s_l_merged) := ⟨rfl, rfl, rfl, by decide +kernel, rfl, by decide +kernel, by decide +kernel⟩
abbrev s_l_query : Stmt := top 42
abbrev N_l_query : List Str := ["_law_bag_here", "_law_manner", "_law_k", "_law_values", "_law_labels_here", "_law_text_here", "_law_filled", "_law_row", "_law_said", "_law_at", "_law_label", "_law_value_here"]
theorem sc_l_query : FnScope N_l_query ["_law_bag_here", "_law_manner"] (defScope s_l_query) := ⟨rfl, rfl, rfl, by decide +kernel, rfl, by decide +kernel, by decide +kernel⟩
abbrev s_l_is_due : Stmt := top 43
abbrev N_l_is_due : List Str := ["_law_query_here", "_law_manner", "_law_case", "_law_text_here", "_law_row", "_law_filled", "_law_told", "_law_part"]
theorem sc_l_is_due : FnScope N_l_is_due ["_law_query_here", "_law_manner", "_law_case"] (defScope s_l_is_due) := ⟨rfl, rfl, rfl, by decide +kernel, rfl, by decide +kernel, by decide +kernel⟩
abbrev s_law : Stmt := top 44
abbrev N_law : List Str := ["_law_script", "_law_at", "_law_bag_here", "_law_cases", "_law_queries", "_law_manner", "_law_case", "_law_row", "_law_query_here", "_law_kept", "_law_told", "_law_other", "_law_less", "_law_second"]
theorem sc_law : FnScope N_law ["_law_script"] (defScope s_law) := ⟨rfl, rfl, rfl, by decide +kernel, rfl, by decide +kernel, by decide +kernel⟩
structure Ad where
  a_is_word : Addr
  d_is_word : FuncData
  a_is_count : Addr
  d_is_count : FuncData
  a_is_label : Addr
  d_is_label : FuncData
  a_is_value : Addr
  d_is_value : FuncData
  a_is_literal : Addr
  d_is_literal : FuncData
  a_is_key : Addr
  d_is_key : FuncData
  a_read_parts : Addr
  d_read_parts : FuncData
  a_merged : Addr
  d_merged : FuncData
  a_check_manner : Addr
  d_check_manner : FuncData
  a_keyed : Addr
  d_keyed : FuncData
  a_table_of : Addr
  d_table_of : FuncData
  a_Query_init : Addr
  d_Query_init : FuncData
  a_Query_row : Addr
  d_Query_row : FuncData
  p_Query_row : Addr
  a_Query_filled : Addr
  d_Query_filled : FuncData
  p_Query_filled : Addr
  a_Query_len : Addr
  d_Query_len : FuncData
  a_Query_eq : Addr
  d_Query_eq : FuncData
  a_l_bag : Addr
  d_l_bag : FuncData
  a_l_take : Addr
  d_l_take : FuncData
  a_l_of : Addr
  d_l_of : FuncData
  a_l_wide : Addr
  d_l_wide : FuncData
  a_l_value : Addr
  d_l_value : FuncData
  a_l_labels : Addr
  d_l_labels : FuncData
  a_l_literal : Addr
  d_l_literal : FuncData
  a_l_merged : Addr
  d_l_merged : FuncData
  a_l_query : Addr
  d_l_query : FuncData
  a_l_is_due : Addr
  d_l_is_due : FuncData
  a_law : Addr
  d_law : FuncData
  c_Query : Addr
structure Txt (K : PySem.W.Frag) (mg : Str → Option Value) (Z : Ad) : Prop where
  F_is_word : Fun K "is_word" "is_word" s_is_word Z.a_is_word Z.d_is_word
  b_is_word : Binds K Z.d_is_word ["thing"] []
  g_is_word : mg "is_word" = some (.ref Z.a_is_word)
  F_is_count : Fun K "is_count" "is_count" s_is_count Z.a_is_count Z.d_is_count
  b_is_count : Binds K Z.d_is_count ["text"] []
  g_is_count : mg "is_count" = some (.ref Z.a_is_count)
  F_is_label : Fun K "is_label" "is_label" s_is_label Z.a_is_label Z.d_is_label
  b_is_label : Binds K Z.d_is_label ["thing"] []
  g_is_label : mg "is_label" = some (.ref Z.a_is_label)
  F_is_value : Fun K "is_value" "is_value" s_is_value Z.a_is_value Z.d_is_value
  b_is_value : Binds K Z.d_is_value ["thing"] []
  g_is_value : mg "is_value" = some (.ref Z.a_is_value)
  F_is_literal : Fun K "is_literal" "is_literal" s_is_literal Z.a_is_literal Z.d_is_literal
  b_is_literal : Binds K Z.d_is_literal ["sign"] []
  g_is_literal : mg "is_literal" = some (.ref Z.a_is_literal)
  F_is_key : Fun K "is_key" "is_key" s_is_key Z.a_is_key Z.d_is_key
  b_is_key : Binds K Z.d_is_key ["key", "kind"] []
  g_is_key : mg "is_key" = some (.ref Z.a_is_key)
  F_read_parts : Fun K "read_parts" "read_parts" s_read_parts Z.a_read_parts Z.d_read_parts
  b_read_parts : Binds K Z.d_read_parts ["text", "kind"] []
  g_read_parts : mg "read_parts" = some (.ref Z.a_read_parts)
  F_merged : Fun K "merged" "merged" s_merged Z.a_merged Z.d_merged
  b_merged : Binds K Z.d_merged ["parts"] []
  g_merged : mg "merged" = some (.ref Z.a_merged)
  F_check_manner : Fun K "check_manner" "check_manner" s_check_manner Z.a_check_manner Z.d_check_manner
  b_check_manner : Binds K Z.d_check_manner ["manner"] []
  g_check_manner : mg "check_manner" = some (.ref Z.a_check_manner)
  F_keyed : Fun K "keyed" "keyed" s_keyed Z.a_keyed Z.d_keyed
  b_keyed : Binds K Z.d_keyed ["manner", "parts"] []
  g_keyed : mg "keyed" = some (.ref Z.a_keyed)
  F_table_of : Fun K "table_of" "table_of" s_table_of Z.a_table_of Z.d_table_of
  b_table_of : Binds K Z.d_table_of ["manner", "row"] []
  g_table_of : mg "table_of" = some (.ref Z.a_table_of)
  F_Query_init : Fun K "__init__" "Query.__init__" s_Query_init Z.a_Query_init Z.d_Query_init
  b_Query_init : Binds K Z.d_Query_init ["self", "manner", "text", "row"] []
  m_Query_init : Meth K Z.c_Query "__init__" Z.a_Query_init
  F_Query_row : Fun K "row" "Query.row" s_Query_row Z.a_Query_row Z.d_Query_row
  b_Query_row : Binds K Z.d_Query_row ["self"] []
  p_Query_row : PropOf K Z.c_Query "row" Z.p_Query_row Z.a_Query_row
  F_Query_filled : Fun K "filled" "Query.filled" s_Query_filled Z.a_Query_filled Z.d_Query_filled
  b_Query_filled : Binds K Z.d_Query_filled ["self"] []
  p_Query_filled : PropOf K Z.c_Query "filled" Z.p_Query_filled Z.a_Query_filled
  F_Query_len : Fun K "__len__" "Query.__len__" s_Query_len Z.a_Query_len Z.d_Query_len
  b_Query_len : Binds K Z.d_Query_len ["self"] []
  m_Query_len : Meth K Z.c_Query "__len__" Z.a_Query_len
  F_Query_eq : Fun K "__eq__" "Query.__eq__" s_Query_eq Z.a_Query_eq Z.d_Query_eq
  b_Query_eq : Binds K Z.d_Query_eq ["self", "other"] []
  m_Query_eq : Meth K Z.c_Query "__eq__" Z.a_Query_eq
  F_l_bag : Fun K "_law_bag" "_law_bag" s_l_bag Z.a_l_bag Z.d_l_bag
  b_l_bag : Binds K Z.d_l_bag ["_law_script", "_law_at"] []
  g_l_bag : mg "_law_bag" = some (.ref Z.a_l_bag)
  F_l_take : Fun K "_law_take" "_law_take" s_l_take Z.a_l_take Z.d_l_take
  b_l_take : Binds K Z.d_l_take ["_law_bag_here", "_law_many"] []
  g_l_take : mg "_law_take" = some (.ref Z.a_l_take)
  F_l_of : Fun K "_law_of" "_law_of" s_l_of Z.a_l_of Z.d_l_of
  b_l_of : Binds K Z.d_l_of ["_law_bag_here", "_law_some"] []
  g_l_of : mg "_law_of" = some (.ref Z.a_l_of)
  F_l_wide : Fun K "_law_wide" "_law_wide" s_l_wide Z.a_l_wide Z.d_l_wide
  b_l_wide : Binds K Z.d_l_wide ["_law_bag_here", "_law_many"] []
  g_l_wide : mg "_law_wide" = some (.ref Z.a_l_wide)
  F_l_value : Fun K "_law_value" "_law_value" s_l_value Z.a_l_value Z.d_l_value
  b_l_value : Binds K Z.d_l_value ["_law_bag_here"] []
  g_l_value : mg "_law_value" = some (.ref Z.a_l_value)
  F_l_labels : Fun K "_law_labels" "_law_labels" s_l_labels Z.a_l_labels Z.d_l_labels
  b_l_labels : Binds K Z.d_l_labels ["_law_bag_here", "_law_many"] []
  g_l_labels : mg "_law_labels" = some (.ref Z.a_l_labels)
  F_l_literal : Fun K "_law_literal" "_law_literal" s_l_literal Z.a_l_literal Z.d_l_literal
  b_l_literal : Binds K Z.d_l_literal ["_law_bag_here", "_law_limit"] []
  g_l_literal : mg "_law_literal" = some (.ref Z.a_l_literal)
  F_l_merged : Fun K "_law_merged" "_law_merged" s_l_merged Z.a_l_merged Z.d_l_merged
  b_l_merged : Binds K Z.d_l_merged ["_law_parts"] []
  g_l_merged : mg "_law_merged" = some (.ref Z.a_l_merged)
  F_l_query : Fun K "_law_query" "_law_query" s_l_query Z.a_l_query Z.d_l_query
  b_l_query : Binds K Z.d_l_query ["_law_bag_here", "_law_manner"] []
  g_l_query : mg "_law_query" = some (.ref Z.a_l_query)
  F_l_is_due : Fun K "_law_is_due" "_law_is_due" s_l_is_due Z.a_l_is_due Z.d_l_is_due
  b_l_is_due : Binds K Z.d_l_is_due ["_law_query_here", "_law_manner", "_law_case"] []
  g_l_is_due : mg "_law_is_due" = some (.ref Z.a_l_is_due)
  F_law : Fun K "law" "law" s_law Z.a_law Z.d_law
  b_law : Binds K Z.d_law ["_law_script"] []
  g_law : mg "law" = some (.ref Z.a_law)
  cl_Query : Cls K Z.c_Query
  g_Query : mg "Query" = some (.ref Z.c_Query)
  mk_Query : Mk K Z.c_Query Z.a_Query_init
  cr_Query : ClX.CRead K Z.c_Query (.type "type")
  n_Query_cells : NoAttr K Z.c_Query "cells"
  n_Query_assigned : NoAttr K Z.c_Query "assigned"
  n_Query_manner : NoAttr K Z.c_Query "manner"
  n_Query_text : NoAttr K Z.c_Query "text"
  v_Query_MANNERS : ∃ T : Addr, ClX.CVal K Z.c_Query (.type "type") "MANNERS" (.ref T) (.ref T) ∧ ∀ H, SqT K H T [.str "order", .str "number", .str "name"]
  nf_Query_str : PySem.W.notFirst K Z.c_Query (.type "str") = true
  nf_Query_list : PySem.W.notFirst K Z.c_Query (.type "list") = true
  nf_Query_tuple : PySem.W.notFirst K Z.c_Query (.type "tuple") = true
  ki_Query_str : PySem.W.kitOne K (.type "str") (.ref Z.c_Query) = some false
  ki_Query_list : PySem.W.kitOne K (.type "list") (.ref Z.c_Query) = some false
  ki_Query_tuple : PySem.W.kitOne K (.type "tuple") (.ref Z.c_Query) = some false
  i_Query : ∀ {H : Hp} {a dx : Addr} {fs : List (Str × V)}, H a = some (.ins Z.c_Query dx fs) → TyOf K H (.ref a) (.ref Z.c_Query)
  u_abs : mg "abs" = none
  u_all : mg "all" = none
  u_bool : mg "bool" = none
  u_dict : mg "dict" = none
  u_enumerate : mg "enumerate" = none
  u_int : mg "int" = none
  u_isinstance : mg "isinstance" = none
  u_len : mg "len" = none
  u_list : mg "list" = none
  u_max : mg "max" = none
  u_min : mg "min" = none
  u_ord : mg "ord" = none
  u_range : mg "range" = none
  u_repr : mg "repr" = none
  u_str : mg "str" = none
  u_tuple : mg "tuple" = none
  u_zip : mg "zip" = none
  g_DIGITS : ∃ u, mg "DIGITS" = some u ∧ RelV (.str "0123456789") u
  g_MOST_DIGITS : ∃ u, mg "MOST_DIGITS" = some u ∧ RelV (.int 6) u
  g_MOST_VALUE : ∃ u, mg "MOST_VALUE" = some u ∧ RelV (.int 10000000000000000000000000000000000000000) u
  g_MOST_WORD : ∃ u, mg "MOST_WORD" = some u ∧ RelV (.int 8) u

/-! words, counts, labels, values, signs -/
def sp_is_word : Sp := fun vs H Q _ => ∃ l : List Nat, vs = [.str (S l)] ∧ l.length < 100000 ∧ ∀ H', Same H H' → Q (.bl (wordB l)) H'
def sp_is_count : Sp := fun vs H Q _ => ∃ l : List Nat, vs = [.str (S l)] ∧ l.length < 100000 ∧ ∀ H', Same H H' → Q (.bl (countB l)) H'
def sp_is_label : Sp := fun vs H Q _ => ∃ l : List Nat, vs = [.str (S l)] ∧ l.length < 100000 ∧ ∀ H', Same H H' → Q (.bl (labelB l)) H'
def most : Int := 10000000000000000000000000000000000000000
/-- a value of a hole -/
inductive IsVal : V → Prop
  | int (i : Int) : (if i < 0 then -i else i) < most → IsVal (.int i)
  | str (l : List Nat) : IsVal (.str (S l))
def sp_is_value : Sp := fun vs H Q _ => ∃ v, vs = [v] ∧ IsVal v ∧ Q (.bl true) H
def sp_is_literal : Sp := fun vs H Q _ => ∃ c : Nat, vs = [.str (S [c])] ∧ Q (.bl (litB c)) H
/-- may stand in a text of this kind -/
def keyB (kind : Str) (k : List Nat) : Bool := if decide (kind = "order") = true then decide (k = []) else if decide (kind = "number") = true then !decide (k = [48]) && countB k else labelB k || (decide (kind = "template") && decide (k = []))
def sp_is_key : Sp := fun vs H Q _ => ∃ (k : List Nat) (kind : Str), vs = [.str (S k), .str kind] ∧ k.length < 100000 ∧ ∀ H', Same H H' → Q (.bl (keyB kind k)) H'
theorem str_emp (l : List Nat) : decide (V.str (S l) = V.str "") = decide (l = []) := by
  rw [show ("" : Str) = S [] by decide +kernel, str_eqS]
theorem str_one (l : List Nat) : decide (V.str (S l) = V.str "0") = decide (l = [48]) := by
  rw [show ("0" : Str) = S [48] by decide +kernel, str_eqS]
section
variable {P : Program} {w : World} {K : PySem.W.Frag} {mg : Str → Option Value} {base : Heap} {Z : Ad}
theorem all_id {l : List Nat} {f : Nat → Bool} : (l.map f).all id = l.all f := by
  rw [List.all_map]
  rfl
theorem ok_is_word (T : Txt K mg Z) : FnOk P w K mg base CX0 1 Z.a_is_word Z.d_is_word ["thing"] sp_is_word := by
  refine T.F_is_word.ok sc_is_word (fun vs H Q E h => ?_) (fun cdv A outer s H vs Q E hr h => ?_)
  · obtain ⟨l, rfl, _⟩ := h
    rfl
  · obtain ⟨l, rfl, hl, q⟩ := h
    have nd := sc_is_word.nd
    refine ⟨_, (pss_cons (ps_if (PW.pt (pw_or (pt_not (pt_val (pe_callB call_isi (by rfl) T.u_isinstance (by decide +kernel) (pa_cons (pv 0) (pa_cons (pe_bltn (v := .ty "str") (u := .type "str") (by rfl) T.u_str (by decide +kernel) rfl) pa_nil))))) (pw_or1 (pt_not (pt_chain op_le op_le pe_int (pe_callB Tw.cr_lenS (by rfl) T.u_len (by decide +kernel) (pa_cons (pv 0) pa_nil)) (Tw.pe_globS (by rfl) T.g_MOST_WORD))))))
  (pss_one (ps_ret pe_bl))
  pss_nil)
  (pss_one (ps_ret (pe_callB (cr_all rfl) (by rfl) T.u_all (by decide +kernel) (pa_cons (pe_lc (own := [("sign", 1)]) rfl nd (pi_str (pv 0)) (blkOk_by (N := N_is_word) (sc := defScope s_is_word) (by decide +kernel)) (fun _ _ _ _ _ => (pg_name (i := 1) nd rfl (Or.inl rfl))) (fun _ _ _ _ _ => pts_nil) (fun _ _ _ _ _ => (Eg.peE (pe_chain Tw.op_leS Tw.op_leS pe_str (pv 1) pe_str) (by walk_at "blk")))) pa_nil))))), ?_⟩
    refine Eg.w_sig (σ := [some (.str (S l)), none]) rfl ?_
    walk_at "go"
    have wl : wordB l = (decide ((1 : Int) ≤ (l.length : Nat)) && decide (((l.length : Nat) : Int) ≤ 8) && l.all low) := by
      unfold wordB
      congr 2
      · exact decide_eq_decide.mpr (by omega)
      · exact decide_eq_decide.mpr (by omega)
    rw [wl] at q
    by_cases h1 : (1 : Int) ≤ (l.length : Nat)
    · rw [decide_eq_true h1] at q ⊢
      walk_at "go"
      by_cases h2 : ((l.length : Nat) : Int) ≤ 8
      · rw [decide_eq_true h2] at q ⊢
        walk_at "gw"
        refine Tw.map_str (F := fun c => .bl (low c)) hl (fun R h => Eg.w_var rfl h) (fun H' z R s1 hz h => ?_) (fun D H1 hD s1 h1 => ?_)
        · unfold low at h
          walk_at "go"
          refine Eg.br (fun e => ?_) (fun e => ?_)
          · rw [e, Bool.true_and] at h
            walk_at "go"
            exact h
          · rw [e] at h
            walk_at "go"
            exact h
        · walk_at "go"
          refine Tw.all_map h1 ?_
          walk_at "go"
          exact q H1 s1
      · rw [decide_eq_false h2] at q ⊢
        walk_at "go"
        exact q H (Same.refl H)
    · rw [decide_eq_false h1] at q ⊢
      walk_at "go"
      exact q H (Same.refl H)
theorem ok_is_count (T : Txt K mg Z) : FnOk P w K mg base CX0 1 Z.a_is_count Z.d_is_count ["text"] sp_is_count := by
  refine T.F_is_count.ok sc_is_count (fun vs H Q E h => ?_) (fun cdv A outer s H vs Q E hr h => ?_)
  · obtain ⟨l, rfl, _⟩ := h
    rfl
  · obtain ⟨l, rfl, hl, q⟩ := h
    have nd := sc_is_count.nd
    refine ⟨_, (pss_cons (ps_if (PW.pt (pw_or (pt_not (pt_chain op_le op_le pe_int (pe_callB Tw.cr_lenS (by rfl) T.u_len (by decide +kernel) (pa_cons (pv 0) pa_nil)) (Tw.pe_globS (by rfl) T.g_MOST_DIGITS))) (pw_or1 (PW.pt (pw_and (pt_cmpR op_eq (pe_ix ix_str (pv 0) pe_int (fun _ _ => rfl)) pe_str (nomark _)) (pw_and1 (pt_cmpR op_ne (pv 0) pe_str (nomark _))))))))
  (pss_one (ps_ret pe_bl))
  pss_nil)
  (pss_one (ps_ret (pe_callB (cr_all rfl) (by rfl) T.u_all (by decide +kernel) (pa_cons (pe_lc (own := [("sign", 1)]) rfl nd (pi_str (pv 0)) (blkOk_by (N := N_is_count) (sc := defScope s_is_count) (by decide +kernel)) (fun _ _ _ _ _ => (pg_name (i := 1) nd rfl (Or.inl rfl))) (fun _ _ _ _ _ => pts_nil) (fun _ _ _ _ _ => (Eg.peE (pe_cmpR Tw.op_inS (pv 1) (Tw.pe_globS (by rfl) T.g_DIGITS) (by rfl)) (by walk_at "blk")))) pa_nil))))), ?_⟩
    refine Eg.w_sig (σ := [some (.str (S l)), none]) rfl ?_
    walk_at "go"
    have wl : countB l = (decide ((1 : Int) ≤ (l.length : Nat)) && decide (((l.length : Nat) : Int) ≤ 6) && !(decide (l.head? = some 48) && decide (l ≠ [48])) && l.all dig) := by
      unfold countB
      congr 3
      · exact decide_eq_decide.mpr (by omega)
      · exact decide_eq_decide.mpr (by omega)
    rw [wl] at q
    by_cases h1 : (1 : Int) ≤ (l.length : Nat)
    · rw [decide_eq_true h1] at q ⊢
      walk_at "go"
      by_cases h2 : ((l.length : Nat) : Int) ≤ 6
      · rw [decide_eq_true h2] at q ⊢
        walk_at "go"
        cases l with
        | nil => exact absurd h1 (by decide)
        | cons c r =>
          refine Tw.c_ixS hl (n := 0) rfl rfl ?_
          walk_at "go"
          rw [str_one]
          have hc : decide ((c :: r).head? = some 48) = decide ([c] = [48]) := by
            refine decide_eq_decide.mpr ?_
            simp
          rw [hc] at q
          refine Eg.br (fun e => ?_) (fun e => ?_)
          · rw [e] at q
            walk_at "go"
            rw [str_one]
            by_cases e2 : c :: r = [48]
            · rw [decide_eq_false (show ¬ c :: r ≠ [48] from fun z => z e2)] at q
              rw [decide_eq_true e2]
              walk_at "gw"
              refine Tw.map_str (F := fun c => .bl (dig c)) hl (fun R h => Eg.w_var rfl h) (fun H' z R s1 hz h => ?_) (fun D H1 hD s1 h1 => ?_)
              · walk_at "go"
                exact h
              · walk_at "go"
                refine Tw.all_map h1 ?_
                walk_at "go"
                exact q H1 s1
            · rw [decide_eq_true (show c :: r ≠ [48] from e2)] at q
              rw [decide_eq_false e2]
              walk_at "go"
              exact q H (Same.refl H)
          · rw [e] at q
            walk_at "gw"
            refine Tw.map_str (F := fun c => .bl (dig c)) hl (fun R h => Eg.w_var rfl h) (fun H' z R s1 hz h => ?_) (fun D H1 hD s1 h1 => ?_)
            · walk_at "go"
              exact h
            · walk_at "go"
              refine Tw.all_map h1 ?_
              walk_at "go"
              exact q H1 s1
      · rw [decide_eq_false h2] at q ⊢
        walk_at "go"
        exact q H (Same.refl H)
    · rw [decide_eq_false h1] at q ⊢
      walk_at "go"
      exact q H (Same.refl H)
theorem ok_is_label (T : Txt K mg Z) : FnOk P w K mg base CX0 2 Z.a_is_label Z.d_is_label ["thing"] sp_is_label := by
  refine T.F_is_label.ok sc_is_label (fun vs H Q E h => ?_) (fun cdv A outer s H vs Q E hr h => ?_)
  · obtain ⟨l, rfl, _⟩ := h
    rfl
  · obtain ⟨l, rfl, hl, q⟩ := h
    have nd := sc_is_label.nd
    refine ⟨_, (pss_cons (ps_if (pt_not (pt_val (pe_callB call_isi (by rfl) T.u_isinstance (by decide +kernel) (pa_cons (pv 0) (pa_cons (pe_bltn (v := .ty "str") (u := .type "str") (by rfl) T.u_str (by decide +kernel) rfl) pa_nil)))))
  (pss_one (ps_ret pe_bl))
  pss_nil)
  (pss_cons (ps_set (i := 1) nd rfl (Or.inl rfl) (pe_bm PySem.F.plainAttrs_str PySem.F.slot_str_rstrip PySem.F.type_str_rstrip Tw.mt_rs (pv 0) (pa_cons (Tw.pe_globS (by rfl) T.g_DIGITS) pa_nil)))
  (pss_one (ps_ret (pe_and (pe_call (ok_is_word T) (hr.mono (by decide)) (by rfl) T.g_is_word T.F_is_word.kp T.b_is_word .nil pass0 (pa_cons (pv 1) pa_nil)) (pe_one (pe_or (pe_cmpR op_eq (pv 1) (pv 0) (nomark _)) (pe_one (pe_call (ok_is_count T) (hr.mono (by decide)) (by rfl) T.g_is_count T.F_is_count.kp T.b_is_count .nil pass0 (pa_cons (pe_slice sl_str (pv 0) (po_some (pe_callB Tw.cr_lenS (by rfl) T.u_len (by decide +kernel) (pa_cons (pv 1) pa_nil))) po_none) pa_nil)))))))))), ?_⟩
    refine Eg.w_sig (σ := [some (.str (S l)), none]) rfl ?_
    obtain ⟨d, hd, _⟩ := stem_app l
    have hsl : (stem l).length < 100000 := by
      have := congrArg List.length hd
      rw [List.length_append] at this
      omega
    walk_at "go"
    refine ⟨_, rfl, hsl, fun H1 s1 => ?_⟩
    unfold labelB at q
    walk_at "go"
    refine Eg.br (fun e => ?_) (fun e => ?_)
    · rw [e, Bool.true_and] at q
      walk_at "go"
      rw [str_eqS]
      refine Eg.br (fun e => ?_) (fun e => ?_)
      · rw [e] at q
        walk_at "go"
        exact q H1 s1
      · rw [e] at q
        walk_at "go"
        refine Tw.c_slS (m := l.drop (stem l).length) hl (by rw [slice_from (by omega)]; rfl) ?_
        walk_at "go"
        refine ⟨_, rfl, by rw [List.length_drop]; omega, fun H2 s2 => ?_⟩
        walk_at "go"
        exact q H2 (s1.trans s2)
    · rw [e] at q
      walk_at "go"
      exact q H1 s1
theorem ok_is_value (T : Txt K mg Z) : FnOk P w K mg base CX0 1 Z.a_is_value Z.d_is_value ["thing"] sp_is_value := by
  refine T.F_is_value.ok sc_is_value (fun vs H Q E h => ?_) (fun cdv A outer s H vs Q E hr h => ?_)
  · obtain ⟨v, rfl, _⟩ := h
    rfl
  · obtain ⟨v, rfl, hv, q⟩ := h
    have nd := sc_is_value.nd
    refine ⟨_, (pss_cons (ps_if (pt_val (pe_callB call_isi (by rfl) T.u_isinstance (by decide +kernel) (pa_cons (pv 0) (pa_cons (pe_bltn (v := .ty "str") (u := .type "str") (by rfl) T.u_str (by decide +kernel) rfl) pa_nil))))
  (pss_one (ps_ret pe_bl))
  pss_nil)
  (pss_one (ps_ret (pe_and (pe_callB call_isi (by rfl) T.u_isinstance (by decide +kernel) (pa_cons (pv 0) (pa_cons (pe_bltn (v := .ty "int") (u := .type "int") (by rfl) T.u_int (by decide +kernel) rfl) pa_nil))) (pe_and (pe_not (pe_callB call_isi (by rfl) T.u_isinstance (by decide +kernel) (pa_cons (pv 0) (pa_cons (pe_bltn (v := .ty "bool") (u := .type "bool") (by rfl) T.u_bool (by decide +kernel) rfl) pa_nil)))) (pe_one (pe_cmpR op_lt (pe_callB Eg.cr_abs (by rfl) T.u_abs (by decide +kernel) (pa_cons (pv 0) pa_nil)) (Tw.pe_globS (by rfl) T.g_MOST_VALUE) (nomark _)))))))), ?_⟩
    refine Eg.w_sig (σ := [some v]) rfl ?_
    walk_at "go"
    cases hv with
    | str l =>
      walk_at "go"
      exact q
    | int i hi =>
      refine Eg.c_isi (.ty _) (.base (.int i)) (kit_ty (b := "str") (r := false) (by decide +kernel)) ?_
      walk_at "go"
      refine Eg.c_isi (.ty _) (.base (.int i)) (kit_ty (b := "int") (r := true) (by decide +kernel)) ?_
      walk_at "go"
      refine Eg.c_isi (.ty _) (.base (.int i)) (kit_ty (b := "bool") (r := false) (by decide +kernel)) ?_
      walk_at "go"
      unfold most at hi
      rw [decide_eq_true hi]
      exact q
theorem ok_is_literal (T : Txt K mg Z) : FnOk P w K mg base CX0 1 Z.a_is_literal Z.d_is_literal ["sign"] sp_is_literal := by
  refine T.F_is_literal.ok sc_is_literal (fun vs H Q E h => ?_) (fun cdv A outer s H vs Q E hr h => ?_)
  · obtain ⟨c, rfl, _⟩ := h
    rfl
  · obtain ⟨c, rfl, q⟩ := h
    have nd := sc_is_literal.nd
    refine ⟨_, (pss_one (ps_ret (pe_and (pe_chain op_le op_le pe_int (pe_callB Tw.cr_ord (by rfl) T.u_ord (by decide +kernel) (pa_cons (pv 0) pa_nil)) pe_int) (pe_and (pe_cmpR op_ne (pe_callB Tw.cr_ord (by rfl) T.u_ord (by decide +kernel) (pa_cons (pv 0) pa_nil)) pe_int (nomark _)) (pe_one (pe_cmpR Tw.op_notInS (pv 0) pe_str (by rfl))))))), ?_⟩
    refine Eg.w_sig (σ := [some (.str (S [c]))]) rfl ?_
    have e : litB c = (decide ((32 : Int) ≤ (c : Nat)) && decide (((c : Nat) : Int) ≤ 126) && !decide (V.int (c : Nat) = V.int 37) && !decide (c = 123 ∨ c = 125)) := by
      unfold litB
      rw [Eg.int_eq]
      simp only [← Bool.decide_and, ← decide_not]
      refine decide_eq_decide.mpr ?_
      omega
    rw [e] at q
    walk_at "go"
    refine Eg.br (fun e => ?_) (fun e => ?_)
    · rw [e] at q
      walk_at "go"
      refine Eg.br (fun e => ?_) (fun e => ?_)
      · rw [e] at q
        walk_at "go"
        refine Eg.br (fun e => ?_) (fun e => ?_)
        · rw [e] at q
          walk_at "go"
          exact q
        · rw [e] at q
          walk_at "go"
          exact q
      · rw [e] at q
        walk_at "go"
        exact q
    · rw [e] at q
      walk_at "go"
      exact q
theorem ok_is_key (T : Txt K mg Z) : FnOk P w K mg base CX0 3 Z.a_is_key Z.d_is_key ["key", "kind"] sp_is_key := by
  refine T.F_is_key.ok sc_is_key (fun vs H Q E h => ?_) (fun cdv A outer s H vs Q E hr h => ?_)
  · obtain ⟨k, kind, rfl, _⟩ := h
    rfl
  · obtain ⟨k, kind, rfl, hk, q⟩ := h
    have nd := sc_is_key.nd
    refine ⟨_, (pss_cons (ps_if (pt_cmpR op_eq (pv 1) pe_str (nomark _))
  (pss_one (ps_ret (pe_cmpR op_eq (pv 0) pe_str (nomark _))))
  pss_nil)
  (pss_cons (ps_if (pt_cmpR op_eq (pv 1) pe_str (nomark _))
  (pss_one (ps_ret (pe_and (pe_cmpR op_ne (pv 0) pe_str (nomark _)) (pe_one (pe_call (ok_is_count T) (hr.mono (by decide)) (by rfl) T.g_is_count T.F_is_count.kp T.b_is_count .nil pass0 (pa_cons (pv 0) pa_nil))))))
  pss_nil)
  (pss_one (ps_ret (pe_or (pe_call (ok_is_label T) (hr.mono (by decide)) (by rfl) T.g_is_label T.F_is_label.kp T.b_is_label .nil pass0 (pa_cons (pv 0) pa_nil)) (pe_one (pe_and (pe_cmpR op_eq (pv 1) pe_str (nomark _)) (pe_one (pe_cmpR op_eq (pv 0) pe_str (nomark _)))))))))), ?_⟩
    refine Eg.w_sig (σ := [some (.str (S k)), some (.str kind)]) rfl ?_
    unfold keyB at q
    walk_at "go"
    rw [Eg.str_eq]
    refine Eg.br (fun e => ?_) (fun e => ?_)
    · rw [e, if_pos rfl] at q
      walk_at "go"
      rw [str_emp]
      exact q H (Same.refl H)
    · rw [e, if_neg Bool.false_ne_true] at q
      walk_at "go"
      rw [Eg.str_eq]
      refine Eg.br (fun e => ?_) (fun e => ?_)
      · rw [e, if_pos rfl] at q
        walk_at "go"
        rw [str_one]
        refine Eg.br (fun e => ?_) (fun e => ?_)
        · rw [e, Bool.true_and] at q
          walk_at "go"
          refine ⟨_, rfl, hk, fun H1 s1 => ?_⟩
          exact q H1 s1
        · rw [e] at q
          walk_at "go"
          exact q H (Same.refl H)
      · rw [e, if_neg Bool.false_ne_true] at q
        walk_at "go"
        refine ⟨_, rfl, hk, fun H1 s1 => ?_⟩
        walk_at "go"
        refine Eg.br (fun e => ?_) (fun e => ?_)
        · rw [e] at q
          walk_at "go"
          exact q H1 s1
        · rw [e, Bool.false_or] at q
          walk_at "go"
          rw [Eg.str_eq]
          refine Eg.br (fun e => ?_) (fun e => ?_)
          · rw [e, Bool.true_and] at q
            walk_at "go"
            rw [str_emp]
            exact q H1 s1
          · rw [e] at q
            walk_at "go"
            exact q H1 s1
end
end LW

namespace LW
open PySem L2 SX Tx
/-! the parts of a text -/
def sp_merged : Sp := fun vs H Q _ => ∃ (a : Addr) (xs : List V) (ps : List Pc), vs = [.ref a] ∧ H a = some (.lst xs) ∧ PcsAt H xs ps ∧ (∀ p ∈ ps, p.ok) ∧ ps.length < 90000 ∧ sz ps < 50000 ∧
  ∀ (p : Addr) (ys : List V) (H' : Hp), H p = none → H' p = some (.lst ys) → PcsAt H' ys (merge ps) → Same H H' → Q (.ref p) H'
section
variable {P : Program} {w : World} {K : PySem.W.Frag} {mg : Str → Option Value} {base : Heap} {Z : Ad}
set_option maxHeartbeats 1000000 in
theorem ok_merged (T : Txt K mg Z) : FnOk P w K mg base CX0 1 Z.a_merged Z.d_merged ["parts"] sp_merged := by
  refine T.F_merged.ok sc_merged (fun vs H Q E h => ?_) (fun cdv A outer s H vs Q E hr h => ?_)
  · obtain ⟨a, xs, ps, rfl, _⟩ := h
    rfl
  · obtain ⟨a, xs, ps, rfl, ha, px, pok, pl, pz, q⟩ := h
    have nd := sc_merged.nd
    have hu := hu_of hr
    refine ⟨_, (pss_cons (ps_set (i := 1) nd rfl (Or.inl rfl) (pe_lst pa_nil))
  (pss_cons (ps_for PassesOwn.never rfl (pi_list (pv 0)) (pg_name (i := 2) nd rfl (Or.inl rfl))
  (pss_one (ps_if (pt_cmpR op_ne (pe_ix ix_tup (pv 2) pe_int (fun _ _ => rfl)) pe_str (nomark _))
  (pss_one (ps_expr (pe_bm PySem.F.plainAttrs_list PySem.F.slot_list_append PySem.F.type_list_append mt_append (pv 1) (pa_cons (pv 2) pa_nil))))
  (pss_one (ps_if (PW.pt (pw_and (pt_cmpR op_ne (pe_ix ix_tup (pv 2) pe_int (fun _ _ => rfl)) pe_str (nomark _)) (pw_and (pt_cmpR (Tw.op_neE (Nat.lt_of_succ_lt hu)) (pv 1) (pe_lst pa_nil) (nomark _)) (pw_and1 (pt_cmpR op_eq (pe_ix ix_tup (pe_ix ix_list (pv 1) (pe_un un_neg pe_int) (fun _ _ => rfl)) pe_int (fun _ _ => rfl)) pe_str (nomark _))))))
  (pss_one (ps_asg (pe_tup (pa_cons pe_str (pa_cons (pe_op Es.op_addS (pe_ix ix_tup (pe_ix ix_list (pv 1) (pe_un un_neg pe_int) (fun _ _ => rfl)) pe_int (fun _ _ => rfl)) (pe_ix ix_tup (pv 2) pe_int (fun _ _ => rfl))) pa_nil))) (pg_sub (pv 1) (pe_un un_neg pe_int) set_list)))
  (pss_one (ps_if (pt_cmpR op_ne (pe_ix ix_tup (pv 2) pe_int (fun _ _ => rfl)) pe_str (nomark _))
  (pss_one (ps_expr (pe_bm PySem.F.plainAttrs_list PySem.F.slot_list_append PySem.F.type_list_append mt_append (pv 1) (pa_cons (pv 2) pa_nil))))
  pss_nil)))))))
  (pss_one (ps_ret (pv 1))))), ?_⟩
    refine Eg.w_sig (σ := [some (.ref a), none, none]) rfl ?_
    walk_at "go"
    intro f hf
    walk_at "go"
    have len := px.len
    have hfa : f ≠ a := (ne_of_none ha hf).symm
    refine for_list (xs := xs) (fun j σ' H' => ∃ (v2 : Option V) (ys : List V), σ' = [some (.ref a), some (.ref f), v2] ∧ H' f = some (.lst ys) ∧ PcsAt H' ys (merge (ps.take j)) ∧ Same H H') ⟨none, [], rfl, upd_same, .nil, fun c o e => Eg.upd_old e hf⟩ ?_ ?_ ?_
    · rintro j _ H1 _ ⟨v2, ys, rfl, _, _, s1⟩
      exact SqL.of (s1 _ _ ha)
    · rintro j x _ H1 hx ⟨v2, ys, rfl, h1f, py, s1⟩
      obtain ⟨p, t, hp, rfl, ht0⟩ := px.get hx
      have ht := s1 _ _ ht0
      have hpo := pok p (List.mem_of_getElem? hp)
      obtain ⟨hlt, he⟩ := List.getElem?_eq_some_iff.mp hp
      have tk : ps.take (j + 1) = ps.take j ++ [p] := by rw [List.take_succ_eq_append_getElem hlt, he]
      have szz := sz_get hp
      have yl := py.len
      have ml := merge_len (ps.take j)
      rw [List.length_take] at ml
      have fresh : ∀ c o, H c = some o → c ≠ f := fun c o e => ne_of_none e hf
      cases p with
      | oth tg zs =>
        have ht : H1 t = some (.tup (.str tg :: zs)) := ht
        have hne : decide (V.str tg = V.str "say") = false := decide_eq_false fun z => hpo.1 (V.str.inj z)
        walk_at "go"
        rw [hne]
        walk_at "go"
        refine ⟨_, _, rfl, upd_same, ?_, fun c o e => Eg.upd_mut (fresh c o e) (s1 c o e)⟩
        rw [tk, merge_snoc]
        have tf : t ≠ f := ne_of ht h1f (fun z => nomatch z)
        exact PcsAt.app (py.same fun b ys e => Eg.upd_mut (ne_of e h1f (fun z => nomatch z)) e) (PcsAt.one (p := .oth tg zs) (Eg.upd_mut tf ht))
      | say l =>
        have ht : H1 t = some (.tup [.str "say", .str (S l)]) := ht
        have hne : decide (V.str "say" = V.str "say") = true := decide_eq_true rfl
        have tf : t ≠ f := ne_of ht h1f (fun z => nomatch z)
        have szl : l.length ≤ sz ps := Nat.le_trans (Nat.le_add_left _ _) szz
        walk_at "go"
        rw [hne]
        walk_at "go"
        rw [str_emp]
        by_cases hl : l = []
        · rw [decide_eq_true hl]
          walk_at "go"
          rw [str_emp, decide_eq_true hl]
          walk_at "go"
          subst hl
          refine ⟨_, _, rfl, h1f, ?_, s1⟩
          rw [tk, merge_snoc]
          exact py
        · rw [decide_eq_false hl]
          walk_at "go"
          intro n0 hn0
          have s2 : Same H1 (upd H1 n0 (.lst [])) := fun b o e => Eg.upd_old e hn0
          have h2n : upd H1 n0 (.lst []) n0 = some (.lst []) := upd_same
          have hn0f : n0 ≠ f := (ne_of_none h1f hn0).symm
          generalize upd H1 n0 (.lst []) = H2 at s2 h2n ⊢
          have h2f := s2 _ _ h1f
          have h2t := s2 _ _ ht
          have py2 := py.same fun b ys e => s2 _ _ e
          have s02 := s1.trans s2
          clear s1 s2 py ht h1f hn0
          walk_at "go"
          have fin : (∀ m, (merge (ps.take j)).getLast? ≠ some (.say m)) → ∃ (v2 : Option V) (ys' : List V), [some (V.ref a), some (V.ref f), some (V.ref t)] = [some (V.ref a), some (V.ref f), v2] ∧ upd H2 f (.lst (ys ++ [V.ref t])) f = some (.lst ys') ∧ PcsAt (upd H2 f (.lst (ys ++ [V.ref t]))) ys' (merge (ps.take (j + 1))) ∧ Same H (upd H2 f (.lst (ys ++ [V.ref t]))) := fun hno => by
            refine ⟨_, _, rfl, upd_same, ?_, fun c o e => Eg.upd_mut (fresh c o e) (s02 c o e)⟩
            rw [tk, merge_snoc, put_say_new hl hno]
            exact PcsAt.app (py2.same fun b ys e => Eg.upd_mut (ne_of e h2f (fun z => nomatch z)) e) (PcsAt.one (p := .say l) (Eg.upd_mut tf h2t))
          cases hlast : (merge (ps.take j)).getLast? with
          | none =>
            have hno : ∀ m, (merge (ps.take j)).getLast? ≠ some (.say m) := by rw [hlast]; exact fun _ z => nomatch z
            have me : merge (ps.take j) = [] := List.getLast?_eq_none_iff.mp hlast
            have ye : ys = [] := List.eq_nil_of_length_eq_zero (by rw [yl, me]; rfl)
            rw [show ys.isEmpty = true by rw [ye]; rfl]
            walk_at "go"
            rw [str_emp, decide_eq_false hl]
            walk_at "go"
            exact fin hno
          | some q0 =>
            obtain ⟨t0, hl0, ht0⟩ := py2.last hlast
            have yne : ys ≠ [] := fun z => by rw [z] at hl0; cases hl0
            rw [show ys.isEmpty = false by cases ys with | nil => exact absurd rfl yne | cons _ _ => rfl]
            have pos : 0 < ys.length := List.length_pos_iff.mpr yne
            have mok := merge_ok (ps := ps.take j) (fun z hz => pok z (List.mem_of_mem_take hz)) q0 (List.mem_of_getLast? hlast)
            cases q0 with
            | oth tg zs =>
              have ht0 : H2 t0 = some (.tup (.str tg :: zs)) := ht0
              have hne : decide (V.str tg = V.str "say") = false := decide_eq_false fun z => mok.1 (V.str.inj z)
              walk_at "go"
              rw [hne]
              walk_at "go"
              rw [str_emp, decide_eq_false hl]
              walk_at "go"
              exact fin (by rw [hlast]; exact fun _ z => nomatch z)
            | say m =>
              have ht0 : H2 t0 = some (.tup [.str "say", .str (S m)]) := ht0
              have hm : m.length ≤ sz (ps.take j) := by
                have := sz_last hlast
                rw [sz_merge] at this
                exact this
              walk_at "go"
              rw [hne]
              walk_at "go"
              intro t1 ht1
              walk_at "go"
              have h3f : upd H2 t1 (.tup [.str "say", .str (S (m ++ l))]) f = some (.lst ys) := Eg.upd_old h2f ht1
              have h3t : upd H2 t1 (.tup [.str "say", .str (S (m ++ l))]) t1 = some (.tup [.str "say", .str (S (m ++ l))]) := upd_same
              have py3 := py2.same fun b zs e => (Eg.upd_old e ht1 : upd H2 t1 (.tup [.str "say", .str (S (m ++ l))]) b = _)
              have s03 : Same H (upd H2 t1 (.tup [.str "say", .str (S (m ++ l))])) := fun c o e => Eg.upd_old (s02 c o e) ht1
              generalize upd H2 t1 (.tup [.str "say", .str (S (m ++ l))]) = H3 at h3f h3t py3 s03 ⊢
              have t1f : t1 ≠ f := ne_of h3t h3f (fun z => nomatch z)
              refine Eg.w_setL h3f (ixN_last pos) ?_
              walk_at "go"
              refine ⟨_, _, rfl, upd_same, ?_, fun c o e => Eg.upd_mut (fresh c o e) (s03 c o e)⟩
              rw [tk, merge_snoc, put_say_say hl hlast, set_last yne]
              exact PcsAt.app (py3.dropLast.same fun b ys e => Eg.upd_mut (ne_of e h3f (fun z => nomatch z)) e) (PcsAt.one (p := .say (m ++ l)) (Eg.upd_mut t1f h3t))
    · rintro _ H1 ⟨v2, ys, rfl, h1f, py, s1⟩
      rw [len, List.take_length] at py
      walk_at "go"
      exact q f ys H1 hf h1f py s1
/-- a token that may be read -/
def RdOk (kind : Str) : Tk → Prop
  | .ch c => litB c = true
  | .ho k => kind ≠ "literal" ∧ 125 ∉ k ∧ keyB kind k = true
def sp_read_parts : Sp := fun vs H Q _ => ∃ (ts : List Tk) (kind : Str), vs = [.str (S (flat ts)), .str kind] ∧ (flat ts).length < 40000 ∧ (∀ t ∈ ts, RdOk kind t) ∧
  ∀ (p : Addr) (ys : List V) (H' : Hp), H p = none → H' p = some (.lst ys) → PcsAt H' ys (merge (raw [] ts)) → Same H H' → Q (.ref p) H'
theorem lit_ne {c : Nat} (h : litB c = true) : decide (V.str (S [c]) = V.str "{") = false := by
  rw [show ("{" : Str) = S [123] by decide +kernel, str_eqS]
  refine decide_eq_false fun z => ?_
  have : c = 123 := by simpa using z
  subst this
  revert h
  decide
set_option maxHeartbeats 1000000 in
theorem ok_read_parts (T : Txt K mg Z) : FnOk P w K mg base CX0 4 Z.a_read_parts Z.d_read_parts ["text", "kind"] sp_read_parts := by
  refine T.F_read_parts.ok sc_read_parts (fun vs H Q E h => ?_) (fun cdv A outer s H vs Q E hr h => ?_)
  · obtain ⟨ts, kind, rfl, _⟩ := h
    rfl
  · obtain ⟨ts, kind, rfl, hl, hok, q⟩ := h
    have nd := sc_read_parts.nd
    refine ⟨_, (pss_cons (ps_if (pt_not (pt_val (pe_callB call_isi (by rfl) T.u_isinstance (by decide +kernel) (pa_cons (pv 0) (pa_cons (pe_bltn (v := .ty "str") (u := .type "str") (by rfl) T.u_str (by decide +kernel) rfl) pa_nil)))))
  (pss_one Tw.ps_dead)
  pss_nil)
  (pss_cons (ps_set (i := 2) nd rfl (Or.inl rfl) (pe_lst pa_nil))
  (pss_cons (ps_set (i := 3) nd rfl (Or.inl rfl) pe_int)
  (pss_cons (ps_set (i := 4) nd rfl (Or.inl rfl) pe_int)
  (pss_cons (ps_while PassesOwn.never (pt_cmpR op_lt (pv 3) (pe_callB Tw.cr_lenS (by rfl) T.u_len (by decide +kernel) (pa_cons (pv 0) pa_nil)) (nomark _))
  (pss_one (ps_if (PW.pt (pw_and (pt_cmpR op_eq (pe_ix ix_str (pv 0) (pv 3) (fun _ _ => rfl)) pe_str (nomark _)) (pw_and1 (pt_cmpR op_ne (pv 1) pe_str (nomark _)))))
  (pss_cons (ps_set (i := 5) nd rfl (Or.inl rfl) (pe_bm PySem.F.plainAttrs_str PySem.F.slot_str_find PySem.F.type_str_find Tw.mt_f3 (pv 0) (pa_cons pe_str (pa_cons (pv 3) pa_nil))))
  (C8.pss_cut (ps_set (i := 6) nd rfl (Or.inl rfl) (pe_ifExp (pt_cmpR op_gt (pv 5) (pv 3) (nomark _)) (pe_slice sl_str (pv 0) (po_some (pe_op op_add (pv 3) pe_int)) (po_some (pv 5))) pe_str))
  (pss_cons (ps_if (pt_not (pt_val (pe_call (ok_is_key T) (hr.mono (by decide)) (by rfl) T.g_is_key T.F_is_key.kp T.b_is_key .nil pass0 (pa_cons (pv 6) (pa_cons (pv 1) pa_nil)))))
  (pss_one Tw.ps_dead)
  pss_nil)
  (pss_cons (ps_expr (pe_bm PySem.F.plainAttrs_list PySem.F.slot_list_append PySem.F.type_list_append mt_append (pv 2) (pa_cons (pe_tup (pa_cons pe_str (pa_cons (pe_slice sl_str (pv 0) (po_some (pv 4)) (po_some (pv 3))) pa_nil))) pa_nil)))
  (pss_cons (ps_expr (pe_bm PySem.F.plainAttrs_list PySem.F.slot_list_append PySem.F.type_list_append mt_append (pv 2) (pa_cons (pe_tup (pa_cons pe_str (pa_cons (pv 6) pa_nil))) pa_nil)))
  (pss_cons (ps_set (i := 3) nd rfl (Or.inl rfl) (pe_op op_add (pv 5) pe_int))
  (pss_one (ps_set (i := 4) nd rfl (Or.inl rfl) (pv 3)))))))))
  (pss_one (ps_if (pt_val (pe_call (ok_is_literal T) (hr.mono (by decide)) (by rfl) T.g_is_literal T.F_is_literal.kp T.b_is_literal .nil pass0 (pa_cons (pe_ix ix_str (pv 0) (pv 3) (fun _ _ => rfl)) pa_nil)))
  (pss_one (ps_set (i := 3) nd rfl (Or.inl rfl) (pe_op op_add (pv 3) pe_int)))
  (pss_one Tw.ps_dead))))))
  (pss_cons (ps_expr (pe_bm PySem.F.plainAttrs_list PySem.F.slot_list_append PySem.F.type_list_append mt_append (pv 2) (pa_cons (pe_tup (pa_cons pe_str (pa_cons (pe_slice sl_str (pv 0) (po_some (pv 4)) po_none) pa_nil))) pa_nil)))
  (pss_one (ps_ret (pe_call (ok_merged T) (hr.mono (by decide)) (by rfl) T.g_merged T.F_merged.kp T.b_merged .nil pass0 (pa_cons (pv 2) pa_nil)))))))))), ?_⟩
    refine Eg.w_sig (σ := [some (.str (S (flat ts))), some (.str kind), none, none, none, none, none]) rfl ?_
    have hl1 : (flat ts).length < 100000 := by omega
    walk_at "go"
    intro f hf
    walk_at "go"
    have fresh : ∀ c o, H c = some o → c ≠ f := fun c o e => ne_of_none e hf
    refine ⟨fun m σ' H' => ∃ (v5 v6 : Option V) (pre cur : List Nat) (rest : List Tk) (ys : List V) (ps : List Pc), m = rest.length ∧ σ' = [some (.str (S (flat ts))), some (.str kind), some (.ref f), some (.int ((pre.length + cur.length : Nat) : Int)), some (.int (pre.length : Nat)), v5, v6] ∧ flat ts = pre ++ (cur ++ flat rest) ∧ (∀ t ∈ rest, RdOk kind t) ∧ H' f = some (.lst ys) ∧ PcsAt H' ys ps ∧ raw [] ts = ps ++ raw cur rest ∧ Same H H',
      ⟨_, none, none, [], [], ts, [], [], rfl, rfl, rfl, hok, upd_same, .nil, rfl, fun c o e => Eg.upd_old e hf⟩, ?_⟩
    rintro m _ H1 ⟨v5, v6, pre, cur, rest, ys, ps, rfl, rfl, hfl, hro, h1f, py, hraw, s1⟩
    have len := congrArg List.length hfl
    rw [List.length_append, List.length_append] at len
    have rl := raw_len ts []
    have fl := flat_len ts
    have yl := py.len
    have pl := congrArg List.length hraw
    rw [List.length_append] at pl
    cases rest with
    | nil =>
      have e0 : (flat []).length = 0 := rfl
      have len2 : (flat ts).length = pre.length + cur.length := by omega
      have sl : Txt.slice (S (flat ts)) (some ((pre.length : Nat) : Int)) none = S cur := by
        rw [hfl]
        show Txt.slice (S (pre ++ (cur ++ []))) _ _ = _
        rw [List.append_nil]
        exact from_app pre cur rfl
      have rz := raw_sz ts []
      have e1 : ([] : List Nat).length = 0 := rfl
      walk_at "go"
      refine Eg.brDF (by omega) ?_
      walk_at "go"
      refine Tw.c_slS hl1 sl ?_
      walk_at "go"
      intro t1 ht1
      walk_at "go"
      have h2f : upd H1 t1 (.tup [.str "say", .str (S cur)]) f = some (.lst ys) := Eg.upd_old h1f ht1
      have h2t : upd H1 t1 (.tup [.str "say", .str (S cur)]) t1 = some (.tup (Pc.say cur).vs) := upd_same
      have py2 := py.same fun b zs e => (Eg.upd_old e ht1 : upd H1 t1 (.tup [.str "say", .str (S cur)]) b = _)
      have s02 : Same H (upd H1 t1 (.tup [.str "say", .str (S cur)])) := fun c o e => Eg.upd_old (s1 c o e) ht1
      generalize upd H1 t1 (.tup [.str "say", .str (S cur)]) = H2 at h2f h2t py2 s02 ⊢
      have t1f : t1 ≠ f := ne_of h2t h2f (fun z => nomatch z)
      walk_at "go"
      refine ⟨f, _, ps ++ [.say cur], rfl, upd_same, PcsAt.app (py2.same fun b zs e => Eg.upd_mut (ne_of e h2f (fun z => nomatch z)) e) (PcsAt.one (Eg.upd_mut t1f h2t)), ?_, ?_, ?_, fun p zs H3 hp h3p pz s3 => ?_⟩
      · rw [← show raw cur [] = [Pc.say cur] from rfl, ← hraw]
        exact raw_ok ts []
      · rw [← show raw cur [] = [Pc.say cur] from rfl, ← hraw]
        omega
      · rw [← show raw cur [] = [Pc.say cur] from rfl, ← hraw]
        omega
      · walk_at "go"
        rw [← show raw cur [] = [Pc.say cur] from rfl, ← hraw] at pz
        refine q p zs H3 ?_ h3p pz fun c o e => s3 _ _ (Eg.upd_mut (fresh c o e) (s02 c o e))
        cases z : H p with
        | none => rfl
        | some o =>
          rw [Eg.upd_mut (fresh p o z) (s02 p o z)] at hp
          cases hp
    | cons t rest =>
      have rt := hro t List.mem_cons_self
      have rr : ∀ t ∈ rest, RdOk kind t := fun z hz => hro z (List.mem_cons_of_mem _ hz)
      cases t with
      | ch c =>
        have rt : litB c = true := rt
        have hat : (flat ts)[pre.length + cur.length]? = some c := by
          rw [hfl, ← List.append_assoc, List.getElem?_append_right (by rw [List.length_append]; exact Nat.le_refl _), List.length_append, Nat.sub_self]
          rfl
        have ef : flat (.ch c :: rest) = c :: flat rest := rfl
        rw [ef, List.length_cons] at len
        walk_at "go"
        refine Eg.brDT (by omega) ?_
        refine ⟨fun σ' H' => ∃ m', m' < (Tk.ch c :: rest).length ∧ _, fun σ' H' h => h, ?_⟩
        walk_at "go"
        refine Tw.c_ixS hl1 rfl hat ?_
        walk_at "go"
        rw [lit_ne rt]
        walk_at "go"
        refine Tw.c_ixS hl1 rfl hat ?_
        walk_at "go"
        refine ⟨c, rfl, ?_⟩
        rw [rt]
        walk_at "go"
        refine ⟨rest.length, Nat.lt_succ_self _, v5, v6, pre, cur ++ [c], rest, ys, ps, rfl, ?_, ?_, rr, h1f, py, hraw, s1⟩
        · rw [List.length_append]
          rfl
        · rw [hfl, ef]
          simp
      | ho k =>
        obtain ⟨hk1, hk2, hk3⟩ := rt
        have ef : flat (.ho k :: rest) = 123 :: (k ++ 125 :: flat rest) := rfl
        rw [ef, List.length_cons, List.length_append, List.length_cons] at len
        have hat : (flat ts)[pre.length + cur.length]? = some 123 := by
          rw [hfl, ← List.append_assoc, List.getElem?_append_right (by rw [List.length_append]; exact Nat.le_refl _), List.length_append, Nat.sub_self]
          rfl
        have kn : decide (V.str kind = V.str "literal") = false := decide_eq_false fun z => hk1 (V.str.inj z)
        have br : decide (V.str (S [123]) = V.str "{") = true := by
          rw [show ("{" : Str) = S [123] by decide +kernel, decide_eq_true rfl]
        have fd : Txt.find3 (S (flat ts)) (S [125]) ((pre.length + cur.length : Nat) : Int) = ((pre.length + cur.length + (k.length + 1) : Nat) : Int) := by
          have := find_mid (pre ++ cur) (123 :: k) (flat rest) 125 (i := ((pre.length + cur.length : Nat) : Int)) (by rw [List.length_append]) (fun z => by
            rcases List.mem_cons.mp z with z | z
            · exact absurd z (by decide)
            · exact hk2 z)
          rw [List.length_append, List.length_cons] at this
          rw [← this, hfl, ef]
          simp
        have s1k : Txt.slice (S (flat ts)) (some (((pre.length + cur.length : Nat) : Int) + 1)) (some ((pre.length + cur.length + (k.length + 1) : Nat) : Int)) = S k := by
          have := slice_mid (pre ++ cur ++ [123]) k (125 :: flat rest) (i := ((pre.length + cur.length : Nat) : Int) + 1) (j := ((pre.length + cur.length + (k.length + 1) : Nat) : Int)) (by rw [List.length_append, List.length_append]; rfl) (by rw [List.length_append, List.length_append]; simp; omega)
          rw [← this, hfl, ef]
          simp
        have s2k : Txt.slice (S (flat ts)) (some ((pre.length : Nat) : Int)) (some ((pre.length + cur.length : Nat) : Int)) = S cur := by
          rw [hfl]
          exact slice_mid pre cur _ rfl rfl
        walk_at "go"
        refine Eg.brDT (by omega) ?_
        refine ⟨fun σ' H' => ∃ m', m' < (Tk.ho k :: rest).length ∧ _, fun σ' H' h => h, ?_⟩
        walk_at "go"
        refine Tw.c_ixS hl1 rfl hat ?_
        walk_at "go"
        rw [br]
        walk_at "go"
        rw [kn]
        walk_at "go"
        refine ⟨_, _, _, rfl, rfl, ?_⟩
        rw [show ("}" : Str) = S [125] by decide +kernel, fd]
        walk_at "go"
        refine ⟨fun σ' H' => σ' = [some (.str (S (flat ts))), some (.str kind), some (.ref f), some (.int ((pre.length + cur.length : Nat) : Int)), some (.int (pre.length : Nat)), some (.int ((pre.length + cur.length + (k.length + 1) : Nat) : Int)), some (.str (S k))] ∧ H1 = H', ?_, ?_⟩
        · walk_at "go"
          refine Eg.brDT (by omega) ?_
          walk_at "go"
          refine Tw.c_slS hl1 s1k ?_
          walk_at "go"
          exact ⟨rfl, rfl⟩
        rintro _ _ ⟨rfl, rfl⟩
        walk_at "go"
        refine ⟨k, kind, rfl, by omega, fun H2 s2 => ?_⟩
        rw [hk3]
        have s02 := s1.trans s2
        have h2f := s2 _ _ h1f
        have py2 := py.same fun b zs e => s2 _ _ e
        clear s1 s2 h1f py H1
        walk_at "go"
        refine Tw.c_slS hl1 s2k ?_
        walk_at "go"
        intro t1 ht1
        walk_at "go"
        have h3f : upd H2 t1 (.tup [.str "say", .str (S cur)]) f = some (.lst ys) := Eg.upd_old h2f ht1
        have h3t : upd H2 t1 (.tup [.str "say", .str (S cur)]) t1 = some (.tup (Pc.say cur).vs) := upd_same
        have py3 := py2.same fun b zs e => (Eg.upd_old e ht1 : upd H2 t1 (.tup [.str "say", .str (S cur)]) b = _)
        have s03 : Same H (upd H2 t1 (.tup [.str "say", .str (S cur)])) := fun c o e => Eg.upd_old (s02 c o e) ht1
        generalize upd H2 t1 (.tup [.str "say", .str (S cur)]) = H3 at h3f h3t py3 s03 ⊢
        have t1f : t1 ≠ f := ne_of h3t h3f (fun z => nomatch z)
        clear h2f py2 s02 ht1 H2
        walk_at "go"
        intro t2 ht2
        have py4 := PcsAt.app (py3.same fun b zs e => (Eg.upd_mut (ne_of e h3f (fun z => nomatch z)) e : upd H3 f (.lst (ys ++ [.ref t1])) b = _)) (PcsAt.one (p := .say cur) (Eg.upd_mut t1f h3t))
        have s04 : Same H (upd H3 f (.lst (ys ++ [.ref t1]))) := fun c o e => Eg.upd_mut (fresh c o e) (s03 c o e)
        have h4f : upd H3 f (.lst (ys ++ [.ref t1])) f = some (.lst (ys ++ [.ref t1])) := upd_same
        generalize upd H3 f (.lst (ys ++ [.ref t1])) = H4 at ht2 py4 s04 h4f ⊢
        have py5 := py4.same fun b zs e => (Eg.upd_old e ht2 : upd H4 t2 (.tup [.str "hole", .str (S k)]) b = _)
        have s05 : Same H (upd H4 t2 (.tup [.str "hole", .str (S k)])) := fun c o e => Eg.upd_old (s04 c o e) ht2
        have h5f : upd H4 t2 (.tup [.str "hole", .str (S k)]) f = some (.lst (ys ++ [.ref t1])) := Eg.upd_old h4f ht2
        have h5t : upd H4 t2 (.tup [.str "hole", .str (S k)]) t2 = some (.tup (hole k).vs) := upd_same
        generalize upd H4 t2 (.tup [.str "hole", .str (S k)]) = H5 at py5 s05 h5f h5t ⊢
        have t2f : t2 ≠ f := ne_of h5t h5f (fun z => nomatch z)
        clear py4 s04 h4f ht2 py3 h3f h3t s03
        walk_at "go"
        refine ⟨rest.length, Nat.lt_succ_self _, some (.int ((pre.length + cur.length + (k.length + 1) : Nat) : Int)), some (.str (S k)), pre ++ cur ++ (123 :: (k ++ [125])), [], rest, _, ps ++ [.say cur] ++ [hole k], rfl, ?_, ?_, rr, upd_same, PcsAt.app (py5.same fun b zs e => Eg.upd_mut (ne_of e h5f (fun z => nomatch z)) e) (PcsAt.one (Eg.upd_mut t2f h5t)), ?_, fun c o e => Eg.upd_mut (fresh c o e) (s05 c o e)⟩
        · have e1 : ((pre.length + cur.length + (k.length + 1) : Nat) : Int) + 1 = (((pre ++ cur ++ (123 :: (k ++ [125]))).length : Nat) : Int) := by
            simp only [List.length_append, List.length_cons, List.length_nil]
            omega
          rw [e1]
          rfl
        · rw [hfl, ef]
          simp
        · rw [hraw]
          show ps ++ (.say cur :: hole k :: raw [] rest) = _
          simp
end
end LW

namespace LW
open PySem L2 SX Tx Tc Tl
/-! queries -/
def Mn (m : Str) : Prop := m = "order" ∨ m = "number" ∨ m = "name"
def sp_check_manner : Sp := fun vs H Q _ => ∃ m : Str, vs = [.str m] ∧ Mn m ∧ ∀ H', Same H H' → Q .non H'
/-- keys as they are read -/
def KeyTxt (m : Str) (cs : List Cl) : Prop := ∀ k ∈ keys cs, ∃ s : Str, k = .inr s ∧ (m = "number" → ∃ n, intText? s = some n ∧ s.length ≤ 640)
def sp_keyed : Sp := fun vs H Q _ => ∃ (a : Addr) (xs : List V) (cs : List Cl) (m : Str), vs = [.str m, .ref a] ∧ Mn m ∧ H a = some (.lst xs) ∧ PcsAt H xs (cs.map pc) ∧ cs.length < 90000 ∧ KeyTxt m cs ∧
  ∀ (p : Addr) (ys : List V) (H' : Hp), H p = none → H' p = some (.lst ys) → PcsAt H' ys ((keyC m 0 cs).map pc) → Same H H' → Q (.ref p) H'
def sp_keys_of : Sp := fun vs H Q _ => ∃ (a : Addr) (xs : List V) (cs : List Cl), vs = [.ref a] ∧ H a = some (.lst xs) ∧ PcsAt H xs (cs.map pc) ∧ cs.length < 90000 ∧
  ∀ (p : Addr) (H' : Hp), H p = none → H' p = some (.lst ((uniq (keys cs)).map kV)) → Same H H' → Q (.ref p) H'
theorem mn3 {m : Str} (h : Mn m) : (Sum.inr m : Key) ∈ [(.inr "order" : Key), .inr "number", .inr "name"] := by
  rcases h with rfl | rfl | rfl <;> decide +kernel
theorem d_on : decide (V.str "order" = V.str "name") = false := by decide +kernel
theorem d_nn : decide (V.str "number" = V.str "name") = false := by decide +kernel
theorem d_oN : decide (V.str "order" = V.str "number") = false := by decide +kernel
theorem d_hs : decide (V.str "hole" = V.str "say") = false := by decide +kernel
theorem d_sh : decide (V.str "say" = V.str "hole") = false := by decide +kernel
theorem o_name : ("order" : Str) ≠ "name" := by decide +kernel
theorem o_number : ("order" : Str) ≠ "number" := by decide +kernel
theorem n_name : ("number" : Str) ≠ "name" := by decide +kernel
section
variable {P : Program} {w : World} {K : PySem.W.Frag} {mg : Str → Option Value} {base : Heap} {Z : Ad}
theorem ok_check_manner (T : Txt K mg Z) : FnOk P w K mg base CX0 1 Z.a_check_manner Z.d_check_manner ["manner"] sp_check_manner := by
  refine T.F_check_manner.ok sc_check_manner (fun vs H Q E h => ?_) (fun cdv A outer s H vs Q E hr h => ?_)
  · obtain ⟨m, rfl, _⟩ := h
    rfl
  · obtain ⟨m, rfl, hm, q⟩ := h
    refine ⟨_, (pss_one (ps_if (PW.pt (pw_or (pt_not (pt_val (pe_callB call_isi (by rfl) T.u_isinstance (by decide +kernel) (pa_cons (pv 0) (pa_cons (pe_bltn (v := .ty "str") (u := .type "str") (by rfl) T.u_str (by decide +kernel) rfl) pa_nil))))) (pw_or1 (pt_cmpR op_notIn_seq (pv 0) (pe_tup (pa_cons pe_str (pa_cons pe_str (pa_cons pe_str pa_nil)))) (by rfl)))))
  (pss_one Tw.ps_dead)
  pss_nil)), ?_⟩
    refine Eg.w_sig (σ := [some (.str m)]) rfl ?_
    walk_at "go"
    intro t ht
    refine Tw.c_notInT (k := .inr m) (ks := [.inr "order", .inr "number", .inr "name"]) upd_same ?_
    rw [decide_eq_true (mn3 hm)]
    walk_at "go"
    exact q _ (fun c o e => Eg.upd_old e ht)
set_option maxHeartbeats 1000000 in
theorem ok_keyed (T : Txt K mg Z) : FnOk P w K mg base CX0 1 Z.a_keyed Z.d_keyed ["manner", "parts"] sp_keyed := by
  refine T.F_keyed.ok sc_keyed (fun vs H Q E h => ?_) (fun cdv A outer s H vs Q E hr h => ?_)
  · obtain ⟨a, xs, cs, m, rfl, _⟩ := h
    rfl
  · obtain ⟨a, xs, cs, m, rfl, hm, ha, px, cl, hk, q⟩ := h
    have nd := sc_keyed.nd
    refine ⟨_, (pss_cons (ps_set (i := 2) nd rfl (Or.inl rfl) (pe_lst pa_nil))
  (pss_cons (ps_set (i := 3) nd rfl (Or.inl rfl) pe_int)
  (pss_cons (ps_for PassesOwn.never rfl (pi_list (pv 1)) (pg_name (i := 4) nd rfl (Or.inl rfl))
  (pss_one (ps_if (PW.pt (pw_or (pt_cmpR op_eq (pe_ix ix_tup (pv 4) pe_int (fun _ _ => rfl)) pe_str (nomark _)) (pw_or1 (pt_cmpR op_eq (pv 0) pe_str (nomark _)))))
  (pss_one (ps_expr (pe_bm PySem.F.plainAttrs_list PySem.F.slot_list_append PySem.F.type_list_append mt_append (pv 2) (pa_cons (pv 4) pa_nil))))
  (pss_one (ps_if (pt_cmpR op_eq (pv 0) pe_str (nomark _))
  (pss_one (ps_expr (pe_bm PySem.F.plainAttrs_list PySem.F.slot_list_append PySem.F.type_list_append mt_append (pv 2) (pa_cons (pe_tup (pa_cons pe_str (pa_cons (pe_callTy Tw.cr_intS (by rfl) T.u_int (by decide +kernel) (pa_cons (pe_ix ix_tup (pv 4) pe_int (fun _ _ => rfl)) pa_nil)) pa_nil))) pa_nil))))
  (pss_cons (ps_expr (pe_bm PySem.F.plainAttrs_list PySem.F.slot_list_append PySem.F.type_list_append mt_append (pv 2) (pa_cons (pe_tup (pa_cons pe_str (pa_cons (pv 3) pa_nil))) pa_nil)))
  (pss_one (ps_set (i := 3) nd rfl (Or.inl rfl) (pe_op op_add (pv 3) pe_int)))))))))
  (pss_one (ps_ret (pv 2)))))), ?_⟩
    refine Eg.w_sig (σ := [some (.str m), some (.ref a), none, none, none]) rfl ?_
    walk_at "go"
    intro f hf
    walk_at "go"
    have len := px.len
    rw [List.length_map] at len
    have fresh : ∀ c o, H c = some o → c ≠ f := fun c o e => ne_of_none e hf
    have hfa : f ≠ a := (fresh _ _ ha).symm
    refine for_list (xs := xs) (fun j σ' H' => ∃ (v4 : Option V) (i : Int) (ys : List V), σ' = [some (.str m), some (.ref a), some (.ref f), some (.int i), v4] ∧ (m = "order" → i = ((keys (cs.take j)).length : Nat)) ∧ H' f = some (.lst ys) ∧ PcsAt H' ys ((keyC m 0 (cs.take j)).map pc) ∧ Same H H') ⟨none, 0, [], rfl, fun _ => rfl, upd_same, .nil, fun c o e => Eg.upd_old e hf⟩ ?_ ?_ ?_
    · rintro j _ H1 _ ⟨v4, i, ys, rfl, _, _, _, s1⟩
      exact SqL.of (s1 _ _ ha)
    · rintro j x _ H1 hx ⟨v4, i, ys, rfl, hi, h1f, py, s1⟩
      obtain ⟨p, t, hp, rfl, ht0⟩ := px.get hx
      rw [List.getElem?_map] at hp
      obtain ⟨c, hc, rfl⟩ := Option.map_eq_some_iff.mp hp
      have ht := s1 _ _ ht0
      obtain ⟨hlt, he⟩ := List.getElem?_eq_some_iff.mp hc
      have tk : cs.take (j + 1) = cs.take j ++ [c] := by rw [List.take_succ_eq_append_getElem hlt, he]
      have yl := py.len
      rw [List.length_map, keyC_len, List.length_take] at yl
      have tf : t ≠ f := ne_of ht h1f (fun z => nomatch z)
      have same : key1 m (0 + (keys (cs.take j)).length) c = c → (∃ (v4 : Option V) (i' : Int) (ys' : List V), [some (V.str m), some (V.ref a), some (V.ref f), some (V.int i), some (V.ref t)] = [some (V.str m), some (V.ref a), some (V.ref f), some (V.int i'), v4] ∧ (m = "order" → i' = ((keys (cs.take (j + 1))).length : Nat)) ∧ upd H1 f (.lst (ys ++ [V.ref t])) f = some (.lst ys') ∧ PcsAt (upd H1 f (.lst (ys ++ [V.ref t]))) ys' ((keyC m 0 (cs.take (j + 1))).map pc) ∧ Same H (upd H1 f (.lst (ys ++ [V.ref t])))) ∨ ¬ (m = "order" → keys [c] = []) := fun hs => by
        by_cases hz : m = "order" → keys [c] = []
        · refine .inl ⟨_, _, _, rfl, fun z => ?_, upd_same, ?_, fun c o e => Eg.upd_mut (fresh c o e) (s1 c o e)⟩
          · rw [tk, keys_app, hz z, List.append_nil]
            exact hi z
          · rw [tk, keyC_snoc, hs, List.map_append]
            exact PcsAt.app (py.same fun b ys e => Eg.upd_mut (ne_of e h1f (fun z => nomatch z)) e) (PcsAt.one (p := pc c) (Eg.upd_mut tf ht))
        · exact .inr hz
      cases c with
      | inl l =>
        have ht : H1 t = some (.tup [.str "say", .str (S l)]) := ht
        walk_at "go"
        rw [decide_eq_true (rfl : V.str "say" = V.str "say")]
        walk_at "go"
        exact (same rfl).resolve_right fun z => z fun _ => rfl
      | inr k =>
        have ht : H1 t = some (.tup [.str "hole", kV k]) := ht
        walk_at "go"
        rw [d_hs]
        walk_at "go"
        have newt : ∀ (x : V), key1 m (0 + (keys (cs.take j)).length) (.inr k) = .inr (if m = "name" then k else if m = "number" then .inl (toI k) else .inl (((0 + (keys (cs.take j)).length : Nat) : Nat) : Int)) := fun _ => rfl
        have app : ∀ (t2 : Addr) (i2 : Int), H1 t2 = none → pc (key1 m (0 + (keys (cs.take j)).length) (.inr k)) = .oth "hole" [.int i2] → ∀ i' : Int, (m = "order" → i' = ((keys (cs.take (j + 1))).length : Nat)) →
            ∃ (v4 : Option V) (i0 : Int) (ys' : List V), [some (V.str m), some (V.ref a), some (V.ref f), some (V.int i'), some (V.ref t)] = [some (V.str m), some (V.ref a), some (V.ref f), some (V.int i0), v4] ∧ (m = "order" → i0 = ((keys (cs.take (j + 1))).length : Nat)) ∧ upd (upd H1 t2 (.tup [.str "hole", .int i2])) f (.lst (ys ++ [V.ref t2])) f = some (.lst ys') ∧ PcsAt (upd (upd H1 t2 (.tup [.str "hole", .int i2])) f (.lst (ys ++ [V.ref t2]))) ys' ((keyC m 0 (cs.take (j + 1))).map pc) ∧ Same H (upd (upd H1 t2 (.tup [.str "hole", .int i2])) f (.lst (ys ++ [V.ref t2]))) := fun t2 i2 h2 e i' hi' => by
          have t2f : t2 ≠ f := (ne_of_none h1f h2).symm
          refine ⟨_, _, _, rfl, hi', upd_same, ?_, fun c o e => Eg.upd_mut (fresh c o e) (Eg.upd_old (s1 c o e) h2)⟩
          rw [tk, keyC_snoc, List.map_append, List.map_cons, List.map_nil, e]
          refine PcsAt.app ((py.same fun b zs e => (Eg.upd_old e h2 : upd H1 t2 (.tup [.str "hole", .int i2]) b = _)).same fun b zs e => Eg.upd_mut (ne_of e (Eg.upd_old h1f h2) (fun z => nomatch z)) e) (PcsAt.one (p := .oth "hole" [.int i2]) (Eg.upd_mut t2f upd_same))
        rcases hm with rfl | rfl | rfl
        · rw [d_on]
          walk_at "go"
          rw [d_oN]
          walk_at "go"
          intro t2 ht2
          have h2f : upd H1 t2 (.tup [.str "hole", .int i]) f = some (.lst ys) := Eg.upd_old h1f ht2
          walk_at "go"
          refine app t2 i ht2 ?_ (i + 1) fun _ => ?_
          · show Pc.oth "hole" [kV (if ("order" : Str) = "name" then k else if ("order" : Str) = "number" then .inl (toI k) else .inl (((0 + (keys (cs.take j)).length : Nat) : Nat) : Int))] = _
            rw [if_neg o_name, if_neg o_number, hi rfl, Nat.zero_add]
            rfl
          · rw [tk, keys_app, List.length_append, hi rfl]
            rfl
        · rw [d_nn]
          walk_at "go"
          rw [decide_eq_true (rfl : V.str "number" = V.str "number")]
          walk_at "go"
          obtain ⟨s, rfl, hs⟩ := hk k (keys_sub (List.mem_of_getElem? hc))
          obtain ⟨n, hn, hl⟩ := hs rfl
          refine ⟨s, n, rfl, hn, hl, ?_⟩
          walk_at "go"
          intro t2 ht2
          have h2f : upd H1 t2 (.tup [.str "hole", .int n]) f = some (.lst ys) := Eg.upd_old h1f ht2
          walk_at "go"
          refine app t2 n ht2 ?_ i fun z => absurd z.symm o_number
          show Pc.oth "hole" [kV (if ("number" : Str) = "name" then (.inr s : Key) else if ("number" : Str) = "number" then .inl (toI (.inr s)) else .inl (((0 + (keys (cs.take j)).length : Nat) : Nat) : Int))] = _
          rw [if_neg n_name, if_pos rfl]
          show Pc.oth "hole" [.int ((intText? s).getD 0)] = _
          rw [hn]
          rfl
        · rw [decide_eq_true (rfl : V.str "name" = V.str "name")]
          walk_at "go"
          refine (same ?_).resolve_right fun z => z fun e => absurd e.symm o_name
          show (Sum.inr (if ("name" : Str) = "name" then k else _) : Cl) = _
          rw [if_pos rfl]
    · rintro _ H1 ⟨v4, i, ys, rfl, _, h1f, py, s1⟩
      rw [len, List.take_length] at py
      walk_at "go"
      exact q f ys H1 hf h1f py s1
end
end LW

namespace LW
open PySem L2 SX Tx Tc Tl
/-- a row of values, as a table -/
def RowAt (H : Hp) (m : Str) (r : Addr) (kvs : List (Key × V)) : Prop :=
  (m = "name" ∧ H r = some (.dK kvs) ∧ (kvs.map (·.1)).Nodup ∧ ∀ y ∈ kvs, (∃ l, y.1 = .inr (S l) ∧ labelB l = true ∧ l.length < 100000) ∧ IsVal y.2) ∨
  (m ≠ "name" ∧ ∃ xs : List V, H r = some (.lst xs) ∧ (∀ x ∈ xs, IsVal x) ∧ kvs = numd (if m = "number" then 1 else 0) xs)
/-- a row as a table, or as a list or a tuple -/
def RowX (H : Hp) (m : Str) (r : Addr) (kvs : List (Key × V)) : Prop :=
  (m = "name" ∧ H r = some (.dK kvs) ∧ (kvs.map (·.1)).Nodup ∧ ∀ y ∈ kvs, (∃ l, y.1 = .inr (S l) ∧ labelB l = true ∧ l.length < 100000) ∧ IsVal y.2) ∨
  (m ≠ "name" ∧ ∃ xs : List V, Po.SeqAt H r xs ∧ (∀ x ∈ xs, IsVal x) ∧ kvs = numd (if m = "number" then 1 else 0) xs)
theorem RowAt.x {H : Hp} {m : Str} {r : Addr} {kvs : List (Key × V)} (h : RowAt H m r kvs) : RowX H m r kvs := h.imp id fun ⟨h1, xs, h2, h3⟩ => ⟨h1, xs, .inl h2, h3⟩
def sp_table_of : Sp := fun vs H Q _ => ∃ (m : Str) (r : Addr) (kvs : List (Key × V)), vs = [.str m, .ref r] ∧ Mn m ∧ RowX H m r kvs ∧ kvs.length < 1000 ∧
  ∀ (d : Addr) (H' : Hp), H d = none → H' d = some (.dK kvs) → Same H H' → Q (.ref d) H'
section
variable {P : Program} {w : World} {K : PySem.W.Frag} {mg : Str → Option Value} {base : Heap} {Z : Ad}
set_option maxHeartbeats 1000000 in
theorem ok_table_of (T : Txt K mg Z) : FnOk P w K mg base CX0 3 Z.a_table_of Z.d_table_of ["manner", "row"] sp_table_of := by
  refine T.F_table_of.ok sc_table_of (fun vs H Q E h => ?_) (fun cdv A outer s H vs Q E hr h => ?_)
  · obtain ⟨m, r, kvs, rfl, _⟩ := h
    rfl
  · obtain ⟨m, r, kvs, rfl, hm, hrow, hl, q⟩ := h
    have nd := sc_table_of.nd
    have hu := hu_of hr
    refine ⟨_, (pss_cons (ps_if (pt_cmpR op_eq (pv 0) pe_str (nomark _))
  (pss_cons (ps_if (pt_not (pt_val (pe_callB call_isi (by rfl) T.u_isinstance (by decide +kernel) (pa_cons (pv 1) (pa_cons (pe_bltn (v := .ty "dict") (u := .type "dict") (by rfl) T.u_dict (by decide +kernel) rfl) pa_nil)))))
  (pss_one Tw.ps_dead)
  pss_nil)
  (pss_cons (ps_if (pt_not (pt_val (pe_callB (cr_all rfl) (by rfl) T.u_all (by decide +kernel) (pa_cons (pe_lock (pe_lc (own := [("label", 5)]) rfl nd (pi_keys (pv 1)) (blkOk_by (N := N_table_of) (sc := defScope s_table_of) (by decide +kernel)) (fun _ _ _ _ _ => (pg_name (i := 5) nd rfl (Or.inl rfl))) (fun _ _ _ _ _ => pts_nil) (fun _ _ _ _ _ => (Eg.peE (pe_and (pe_call (ok_is_label T) (hr.mono (by decide)) (by rfl) T.g_is_label T.F_is_label.kp T.b_is_label .nil pass0 (pa_cons (pv 5) pa_nil)) (pe_one (pe_call (ok_is_value T) (hr.mono (by decide)) (by rfl) T.g_is_value T.F_is_value.kp T.b_is_value .nil pass0 (pa_cons (pe_dget hu (pv 1) (pv 5) (fun _ _ => rfl)) pa_nil)))) (by walk_at "blk"))))) pa_nil))))
  (pss_one Tw.ps_dead)
  pss_nil)
  (pss_one (ps_ret (pe_lock (pe_dc (own := [("label", 5)]) rfl nd (pi_keys (pv 1)) (blkOk_by (N := N_table_of) (sc := defScope s_table_of) (by decide +kernel)) (fun _ _ _ _ _ => (pg_name (i := 5) nd rfl (Or.inl rfl))) (fun _ _ _ _ _ => pts_nil) (fun _ _ _ _ _ => (Eg.peE (pv 5) (by walk_at "blk"))) (fun _ _ _ _ _ => (Eg.peE (pe_dget hu (pv 1) (pv 5) (fun _ _ => rfl)) (by walk_at "blk")))))))))
  pss_nil)
  (pss_cons (ps_if (pt_not (pt_val (pe_callB call_isiT (by rfl) T.u_isinstance (by decide +kernel) (pa_cons (pv 1) (pa_cons (pe_tup (pa_cons (pe_bltn (v := .ty "list") (u := .type "list") (by rfl) T.u_list (by decide +kernel) rfl) (pa_cons (pe_bltn (v := .ty "tuple") (u := .type "tuple") (by rfl) T.u_tuple (by decide +kernel) rfl) pa_nil))) pa_nil)))))
  (pss_one Tw.ps_dead)
  pss_nil)
  (pss_cons (ps_for PassesOwn.never rfl (Et.pi_enumA (by rfl) T.u_enumerate (pa_cons (pv 1) pa_nil)) (pg_tup (by rfl) (pgs_cons (pg_name (i := 2) nd rfl (Or.inl rfl)) (pgs_cons (pg_name (i := 3) nd rfl (Or.inl rfl)) pgs_nil)))
  (pss_one (ps_if (pt_not (pt_val (pe_call (ok_is_value T) (hr.mono (by decide)) (by rfl) T.g_is_value T.F_is_value.kp T.b_is_value .nil pass0 (pa_cons (pv 3) pa_nil))))
  (pss_one Tw.ps_dead)
  pss_nil)))
  (C8.pss_cut (ps_set (i := 4) nd rfl (Or.inr rfl) (pe_ifExp (pt_cmpR op_eq (pv 0) pe_str (nomark _)) pe_int pe_int))
  (pss_one (ps_ret (pe_dc (own := [("at", 2), ("value", 3)]) rfl nd (Et.pi_enumA (by rfl) T.u_enumerate (pa_cons (pv 1) pa_nil)) (blkOk_by (N := N_table_of) (sc := defScope s_table_of) (by decide +kernel)) (fun _ _ _ _ _ => (Eg.pgE (t' := gTup K 2 (gCons (gName 2) (gCons (gName 3) gNil))) (pg_tup (by rfl) (pgs_cons (pg_name (i := 2) nd rfl (Or.inl rfl)) (pgs_cons (pg_name (i := 3) nd rfl (Or.inl rfl)) pgs_nil))) rfl)) (fun _ _ _ _ _ => pts_nil) (fun _ _ _ _ _ => (Eg.peE (pe_op op_add (pv 4) (pv 2)) (by walk_at "blk"))) (fun _ _ _ _ _ => (Eg.peE (pv 3) (by walk_at "blk")))))))))), ?_⟩
    refine Eg.w_sig (σ := [some (.str m), some (.ref r), none, none, none, none]) rfl ?_
    walk_at "go"
    rcases hrow with ⟨rfl, h0r, hnd, hok⟩ | ⟨hne, xs, h0r, hok, rfl⟩
    · rw [decide_eq_true (rfl : V.str "name" = V.str "name")]
      walk_at "go"
      refine Eg.c_isi (.ty _) (.base (.dK h0r)) (kit_ty (b := "dict") (r := true) (by decide +kernel)) ?_
      walk_at "gw"
      refine map_keysK (F := fun _ _ => .bl true) h0r (by omega) (fun H' R _ h => Eg.w_var rfl h) (fun od H' k v R hL hm h => ?_) (fun D H1 hD s1 h1 => ?_)
      · obtain ⟨⟨l, e, hl1, hl2⟩, hv⟩ := hok _ hm
        have e : k = .inr (S l) := e
        subst e
        walk_at "go"
        refine ⟨l, rfl, hl2, fun H2 s2 => ?_⟩
        rw [hl1]
        walk_at "go"
        have dg := Tw.dgetK (k := .inr (S l)) (.inr ⟨od, (hL.to s2).1⟩)
        rw [val_mem hnd hm] at dg
        refine ⟨r, v, rfl, dg, ?_⟩
        walk_at "go"
        exact ⟨v, rfl, hv, h H2 s2⟩
      · walk_at "go"
        refine Tw.c_all (bs := kvs.map fun _ => true) (by rw [h1, List.map_map]; rfl) ?_
        rw [show (kvs.map fun _ => true).all id = true by rw [List.all_map, List.all_eq_true]; exact fun _ _ => rfl]
        walk_at "go"
        have h1r := s1 _ _ h0r
        refine copyK (show 5 < 6 by decide) h1r (by omega) hnd (fun H' R _ h => Eg.w_var rfl h) (fun od H' k v R hL hm h => ?_) (fun D H2 hD2 s2 h2 => ?_)
        · walk_at "go"
          have dg := Tw.dgetK (k := k) (.inr ⟨od, hL.1⟩)
          rw [val_mem hnd hm] at dg
          exact ⟨r, v, rfl, dg, h⟩
        · walk_at "go"
          exact q D H2 (s1.free hD2) h2 (s1.trans s2)
    · have d : decide (V.str m = V.str "name") = false := decide_eq_false fun z => hne (V.str.inj z)
      rw [d]
      walk_at "go"
      intro tp htp
      have h1r : Po.SeqAt (upd H tp (.tup [.ty "list", .ty "tuple"])) r xs := h0r.keep fun o e => Eg.upd_old e htp
      have h1t : upd H tp (.tup [.ty "list", .ty "tuple"]) tp = some (.tup [.ty "list", .ty "tuple"]) := upd_same
      have s01 : Same H (upd H tp (.tup [.ty "list", .ty "tuple"])) := fun c o e => Eg.upd_old e htp
      generalize upd H tp (.tup [.ty "list", .ty "tuple"]) = H1 at h1r h1t s01 ⊢
      obtain ⟨ty, isT, isE⟩ : ∃ t, TyX K H1 (.ref r) t ∧ PySem.W.kitAny K t [.type "list", .type "tuple"] = some true := h1r.elim (fun h => ⟨_, .base (.lst h), rfl⟩) (fun h => ⟨_, .base (.tup h), rfl⟩)
      refine ⟨.ref r, tp, _, ty, _, true, rfl, h1t, .cons (.ty _) (.cons (.ty _) .nil), isT, isE, ?_⟩
      walk_at "go"
      refine Et.w_iEA ?_
      walk_at "go"
      obtain ⟨J, wJ, eJ⟩ := Et.enum_seq (K := K) h1r
      refine eJ rfl ?_
      have xl : xs.length < 1000 := by rw [numd_len] at hl; exact hl
      have hob : ∃ o, H1 r = some o := h1r.elim (fun h => ⟨_, h⟩) fun h => ⟨_, h⟩
      have seq' : ∀ {H' : Hp}, Same H1 H' → Po.SeqAt H' r xs ∧ H' r = H1 r := fun {H'} s => ⟨h1r.keep fun o e => s _ _ e, by obtain ⟨o, e⟩ := hob; rw [e]; exact s _ _ e⟩
      refine for_it wJ (fun i σ' H' => ∃ v2 v3, σ' = [some (.str m), some (.ref r), v2, v3, none, none] ∧ Same H1 H') ⟨none, none, rfl, Same.refl _⟩ ?_ ?_ ?_
      · rintro i _ H2 _ ⟨v2, v3, rfl, s2⟩
        exact seq' s2
      · rintro i x _ H2 _ _ ⟨v2, v3, rfl, s2⟩ ⟨tt, y, z, rfl, htt, rfl, hy, hz⟩
        have hok' := hok z (List.mem_of_getElem? hz)
        have h3t : upd H2 tt (.tup [y, z]) tt = some (.tup [y, z]) := upd_same
        walk_at "go"
        refine ⟨z, rfl, hok', ?_⟩
        walk_at "go"
        exact ⟨_, _, rfl, fun c o e => Eg.upd_old (s2 c o e) htt⟩
      rintro _ H2 ⟨v2, v3, rfl, s2⟩
      walk_at "go"
      refine ⟨fun σ' H' => σ' = [some (.str m), some (.ref r), v2, v3, some (.int (if m = "number" then 1 else 0)), none] ∧ H2 = H', ?_, ?_⟩
      · walk_at "go"
        by_cases e : m = "number"
        · rw [decide_eq_true (show V.str m = V.str "number" by rw [e]), if_pos e]
          walk_at "go"
          exact ⟨rfl, rfl⟩
        · rw [decide_eq_false (show ¬ V.str m = V.str "number" from fun z => e (V.str.inj z)), if_neg e]
          walk_at "go"
          exact ⟨rfl, rfl⟩
      rintro _ _ ⟨rfl, rfl⟩
      generalize (if m = "number" then (1 : Int) else 0) = f at q ⊢
      walk_at "go"
      refine w_dc (Et.w_iEA ?_)
      walk_at "go"
      refine eJ (seq' s2).2 ?_
      intro D hD
      refine dc_it wJ (fun i H' => Same H2 H' ∧ H' D = some (.dK (numd f (xs.take i)))) ⟨Eg.same_new (Same.refl _) hD, upd_same⟩ (fun i H' _ h => seq' (s2.trans h.1)) ?_ ?_
      · rintro i x H3 _ hi ⟨s3, h3⟩ ⟨tt, y, z, rfl, htt, rfl, hy, hz⟩
        cases hy
        have h4t : upd H3 tt (.tup [.int (i : Nat), z]) tt = some (.tup [.int (i : Nat), z]) := upd_same
        have h4D : upd H3 tt (.tup [.int (i : Nat), z]) D = some (.dK (numd f (xs.take i))) := Eg.upd_old h3 htt
        have s4 : Same H2 (upd H3 tt (.tup [.int (i : Nat), z])) := fun c o e => Eg.upd_old (s3 c o e) htt
        generalize upd H3 tt (.tup [.int (i : Nat), z]) = H4 at h4t h4D s4 ⊢
        walk_at "go"
        refine ⟨_, .inl (f + (i : Nat)), rfl, h4D, ?_, Eg.same_mut s4 hD, ?_⟩
        · rw [numd_len, List.length_take, sizeLine_eq]
          omega
        · obtain ⟨hlt, he⟩ := List.getElem?_eq_some_iff.mp hz
          rw [upd_same, putK_new, List.take_succ_eq_append_getElem hlt, he, numd_snoc, List.length_take, Nat.min_eq_left (Nat.le_of_lt hlt)]
          rw [numd_keys, List.length_take, Nat.min_eq_left (Nat.le_of_lt hlt)]
          intro hmem
          obtain ⟨j, hj, e⟩ := List.mem_map.mp hmem
          have := List.mem_range.mp hj
          have := Sum.inl.inj e
          omega
      · rintro H3 ⟨s3, h3⟩
        rw [List.take_length] at h3
        walk_at "go"
        exact q D H3 ((s01.trans s2).free hD) h3 ((s01.trans s2).trans s3)
end
end LW

namespace LW
open PySem L2 SX Tx Tc Tl
def fldsQ (ca da : Addr) (m t : Str) : List (Str × V) := [("cells", .ref ca), ("assigned", .ref da), ("manner", .str m), ("text", .str t)]
theorem flds_q (ca da : Addr) (m t : Str) : putF "text" (.str t) (putF "manner" (.str m) (putF "assigned" (.ref da) (putF "cells" (.ref ca) []))) = fldsQ ca da m t := by
  unfold fldsQ putF
  first | rfl | decide +kernel
theorem lk_cells (ca da : Addr) (m t : Str) : (fldsQ ca da m t).lookup ("cells" : Str) = some (V.ref ca) := by rfl
theorem lk_assigned (ca da : Addr) (m t : Str) : (fldsQ ca da m t).lookup ("assigned" : Str) = some (V.ref da) := by rfl
theorem RowAt.to {H H' : Hp} {m : Str} {r : Addr} {kvs : List (Key × V)} (h : RowAt H m r kvs) (e : H' r = H r) : RowAt H' m r kvs := by
  rcases h with ⟨h1, h2, h3⟩ | ⟨h1, xs, h2, h3⟩
  · exact .inl ⟨h1, e.trans h2, h3⟩
  · exact .inr ⟨h1, xs, e.trans h2, h3⟩
theorem RowX.to {H H' : Hp} {m : Str} {r : Addr} {kvs : List (Key × V)} (h : RowX H m r kvs) (e : H' r = H r) : RowX H' m r kvs := by
  rcases h with ⟨h1, h2, h3⟩ | ⟨h1, xs, h2, h3⟩
  · exact .inl ⟨h1, e.trans h2, h3⟩
  · exact .inr ⟨h1, xs, h2.imp (fun z => e.trans z) (fun z => e.trans z), h3⟩
theorem RowX.ob {H : Hp} {m : Str} {r : Addr} {kvs : List (Key × V)} (h : RowX H m r kvs) : ∃ o, H r = some o ∧ ∀ C dx fs, o ≠ .ins C dx fs := by
  rcases h with ⟨_, h2, _⟩ | ⟨_, xs, h2 | h2, _⟩
  · exact ⟨_, h2, fun _ _ _ z => nomatch z⟩
  · exact ⟨_, h2, fun _ _ _ z => nomatch z⟩
  · exact ⟨_, h2, fun _ _ _ z => nomatch z⟩
theorem RowAt.ob {H : Hp} {m : Str} {r : Addr} {kvs : List (Key × V)} (h : RowAt H m r kvs) : ∃ o, H r = some o ∧ ∀ C dx fs, o ≠ .ins C dx fs := by
  rcases h with ⟨_, h2, _⟩ | ⟨_, xs, h2, _⟩
  · exact ⟨_, h2, fun _ _ _ z => nomatch z⟩
  · exact ⟨_, h2, fun _ _ _ z => nomatch z⟩
/-- a query -/
def QAt (C : Addr) (H : Hp) (q : Addr) (m : Str) (cs : List Cl) (kvs : List (Key × V)) (t : Str) : Prop := ∃ (dx ca da : Addr) (ys : List V), H q = some (.ins C dx (fldsQ ca da m t)) ∧ H ca = some (.lst ys) ∧ PcsAt H ys (cs.map pc) ∧ H da = some (.dK kvs)
theorem QAt.keep {C : Addr} {H H' : Hp} {q : Addr} {m t : Str} {cs : List Cl} {kvs : List (Key × V)} (h : QAt C H q m cs kvs t) (s : Same H H') : QAt C H' q m cs kvs t := by
  obtain ⟨dx, ca, da, ys, h1, h2, h3, h4⟩ := h
  exact ⟨dx, ca, da, ys, s _ _ h1, s _ _ h2, h3.same fun b ys e => s _ _ e, s _ _ h4⟩
/-- a query whose cells and table are new -/
def QAtN (C : Addr) (H0 H : Hp) (q : Addr) (m : Str) (cs : List Cl) (kvs : List (Key × V)) (t : Str) : Prop := ∃ (dx ca da : Addr) (ys : List V), H q = some (.ins C dx (fldsQ ca da m t)) ∧ H ca = some (.lst ys) ∧ PcsAt H ys (cs.map pc) ∧ H da = some (.dK kvs) ∧ H0 ca = none ∧ H0 da = none
theorem QAtN.at {C : Addr} {H0 H : Hp} {q : Addr} {m : Str} {cs : List Cl} {kvs : List (Key × V)} {t : Str} (h : QAtN C H0 H q m cs kvs t) : QAt C H q m cs kvs t := by
  obtain ⟨dx, ca, da, ys, h1, h2, h3, h4, _⟩ := h
  exact ⟨dx, ca, da, ys, h1, h2, h3, h4⟩
/-- the cells of a text by a manner -/
def cellsOf (m : Str) (ts : List Tk) : List Cl := keyC m 0 (read ts)
def sp_Query_init (C : Addr) : Sp := fun vs H Q _ => ∃ (q dx r : Addr) (m : Str) (ts : List Tk) (kvs : List (Key × V)), vs = [.ref q, .str m, .str (S (flat ts)), .ref r] ∧ H q = some (.ins C dx []) ∧ Mn m ∧ (flat ts).length < 40000 ∧ (∀ t ∈ ts, RdOk m t) ∧
  RowX H m r kvs ∧ kvs.length < 1000 ∧ (∀ k ∈ keys (cellsOf m ts), k ∈ kvs.map (·.1)) ∧ (m = "order" → kvs.length ≤ (keys (cellsOf m ts)).length) ∧
  ∀ H', QAtN C H H' q m (cellsOf m ts) kvs (S (flat ts)) → (∀ b o, H b = some o → b ≠ q → H' b = some o) → Q .non H'
def sp_Query_used (C : Addr) : Sp := fun vs H Q _ => ∃ (q : Addr) (m : Str) (cs : List Cl) (kvs : List (Key × V)) (t : Str), vs = [.ref q] ∧ QAt C H q m cs kvs t ∧ cs.length < 90000 ∧
  ∀ (p : Addr) (H' : Hp), H p = none → H' p = some (.lst ((uniq (keys cs)).map kV)) → Same H H' → Q (.ref p) H'
/-- in order: ints or texts -/
def SortedK (us : List Key) : Prop := (∃ ns : List Int, us = ns.map Sum.inl ∧ ns.Pairwise (· ≤ ·)) ∨ ∃ zs : List Str, us = zs.map Sum.inr ∧ PyProof.Rows.sortedS zs = true
def sp_Query_unused (C : Addr) : Sp := fun vs H Q _ => ∃ (q : Addr) (m : Str) (cs : List Cl) (kvs : List (Key × V)) (t : Str), vs = [.ref q] ∧ QAt C H q m cs kvs t ∧ cs.length < 90000 ∧ kvs.length < 64 ∧
  ((∃ ns : List Int, kvs.map (·.1) = ns.map Sum.inl) ∨ ∃ zs : List Str, kvs.map (·.1) = zs.map Sum.inr) ∧
  ∀ (p : Addr) (us : List Key) (H' : Hp), H p = none → us.Perm ((kvs.map (·.1)).filter fun k => !decide (k ∈ keys cs)) → SortedK us → H' p = some (.lst (us.map kV)) → Same H H' → Q (.ref p) H'
/-- what is read by a manner has keys that its reader takes -/
theorem keyTxt_of {m : Str} (hm : Mn m) {ts : List Tk} (h : ∀ t ∈ ts, RdOk m t) : KeyTxt m (read ts) := fun k hk => by
  rw [keys_read] at hk
  obtain ⟨l, hl, rfl⟩ := List.mem_map.mp hk
  refine ⟨S l, rfl, fun e => ?_⟩
  subst e
  obtain ⟨t, ht, e⟩ := List.mem_filterMap.mp hl
  cases t with
  | ch c => cases e
  | ho k =>
    cases e
    have hk := (h _ ht).2.2
    unfold keyB at hk
    rw [if_neg (show ¬ decide (("number" : Str) = "order") = true by decide +kernel), if_pos (show decide (("number" : Str) = "number") = true by decide +kernel), Bool.and_eq_true] at hk
    have hc := hk.2
    unfold countB at hc
    simp only [Bool.and_eq_true, decide_eq_true_eq] at hc
    have hd : l.all (fun c => decide (48 ≤ c) && decide (c ≤ 57)) = true := hc.2
    exact ⟨_, int_S hd (fun z => by have := hc.1.1.1; rw [z] at this; exact absurd this (by decide)) (by have := hc.1.1.2; omega), by rw [S_len]; have := hc.1.1.2; omega⟩
section
variable {P : Program} {w : World} {K : PySem.W.Frag} {mg : Str → Option Value} {base : Heap} {Z : Ad}
set_option maxHeartbeats 1000000 in
theorem ok_Query_init (T : Txt K mg Z) : FnOk P w K mg base CX0 5 Z.a_Query_init Z.d_Query_init ["self", "manner", "text", "row"] (sp_Query_init Z.c_Query) := by
  refine T.F_Query_init.ok sc_Query_init (fun vs H Q E h => ?_) (fun cdv A outer s H vs Q E hr h => ?_)
  · obtain ⟨q, dx, r, m, ts, kvs, rfl, _⟩ := h
    rfl
  · obtain ⟨qa, dx, r, m, ts, kvs, rfl, hq, hm, hl, hok, hrow, hkl, hin, hord, q⟩ := h
    have nd := sc_Query_init.nd
    have hu := hu_of hr
    have cQ := T.cl_Query
    have n1 := T.n_Query_cells
    have n2 := T.n_Query_assigned
    have n3 := T.n_Query_manner
    have n4 := T.n_Query_text
    refine ⟨_, (pss_cons (ps_expr (pe_call (ok_check_manner T) (hr.mono (by decide)) (by rfl) T.g_check_manner T.F_check_manner.kp T.b_check_manner .nil pass0 (pa_cons (pv 1) pa_nil)))
  (pss_cons (ps_fld (pv 0) (pe_call (ok_keyed T) (hr.mono (by decide)) (by rfl) T.g_keyed T.F_keyed.kp T.b_keyed .nil pass0 (pa_cons (pv 1) (pa_cons (pe_call (ok_read_parts T) (hr.mono (by decide)) (by rfl) T.g_read_parts T.F_read_parts.kp T.b_read_parts .nil pass0 (pa_cons (pv 2) (pa_cons (pv 1) pa_nil))) pa_nil))) rfl)
  (pss_cons (ps_fld (pv 0) (pe_call (ok_table_of T) (hr.mono (by decide)) (by rfl) T.g_table_of T.F_table_of.kp T.b_table_of .nil pass0 (pa_cons (pv 1) (pa_cons (pv 3) pa_nil))) rfl)
  (pss_cons (ps_fld (pv 0) (pv 1) rfl)
  (pss_cons (ps_fld (pv 0) (pv 2) rfl)
  (pss_cons (ps_setLc (i := 4) (own := [("part", 7)]) rfl nd rfl rfl (sw_true rfl rfl rfl (by decide +kernel)) (pi_list (pe_fld (pv 0) rfl)) (blkOk_by (N := N_Query_init) (sc := defScope s_Query_init) (by decide +kernel)) (fun _ _ _ _ _ => (pg_name (i := 7) nd rfl (Or.inl rfl))) (fun _ _ _ _ _ => (Eg.ptsE (pts_one (pt_cmpR op_eq (pe_ix ix_tup (pv 7) pe_int (fun _ _ => rfl)) pe_str (nomark _))) (by walk_at "blk"))) (fun _ _ _ _ _ => (Eg.peE (pe_ix ix_tup (pv 7) pe_int (fun _ _ => rfl)) (by walk_at "blk"))))
  (pss_cons (ps_for PassesOwn.never rfl (pi_enum (by rfl) T.u_enumerate (pa_cons (pv 4) pa_nil)) (pg_tup (by rfl) (pgs_cons (pg_name (i := 5) nd rfl (Or.inl rfl)) (pgs_cons (pg_name (i := 6) nd rfl (Or.inl rfl)) pgs_nil)))
  (pss_one (ps_if (pt_cmp (pc_dnotin hu (pv 6) (pe_fld (pv 0) rfl)))
  (pss_one Tw.ps_dead)
  pss_nil)))
  (pss_one (ps_if (PW.pt (pw_and (pt_cmpR op_eq (pv 1) pe_str (nomark _)) (pw_and1 (pt_cmpR op_gt (pe_callB call_lenD (by rfl) T.u_len (by decide +kernel) (pa_cons (pe_fld (pv 0) rfl) pa_nil)) (pe_callB Eg.cr_len (by rfl) T.u_len (by decide +kernel) (pa_cons (pv 4) pa_nil)) (nomark _)))))
  (pss_one Tw.ps_dead)
  pss_nil))))))))), ?_⟩
    refine Eg.w_sig (σ := [some (.ref qa), some (.str m), some (.str (S (flat ts))), some (.ref r), none, none, none, none]) rfl ?_
    walk_at "go"
    refine ⟨m, rfl, hm, fun H1 s1 => ?_⟩
    walk_at "go"
    refine ⟨ts, m, rfl, hl, hok, fun p xs H2 hp2 h2p px2 s2 => ?_⟩
    walk_at "go"
    rw [read_map] at px2
    have rlen := read_len ts
    have flen := flat_len ts
    refine ⟨p, xs, read ts, m, rfl, hm, h2p, px2, by omega, keyTxt_of hm hok, fun ca ys H3 hca h3c py3 s3 => ?_⟩
    have s03 : Same H H3 := (s1.trans s2).trans s3
    have h0ca : H ca = none := (s1.trans s2).free hca
    clear s1 s2 s3 px2 h2p hp2 hca
    have h3q := s03 _ _ hq
    have caq : ca ≠ qa := (ne_of_none hq h0ca).symm
    walk_at "go"
    obtain ⟨ro, hro, hrn⟩ := hrow.ob
    have rq : r ≠ qa := fun z => by rw [z, hq] at hro; exact hrn _ _ _ (Option.some.inj hro).symm
    have s34 : ∀ (o1 : HO) (b : Addr) (o : HO), H b = some o → b ≠ qa → upd H3 qa o1 b = some o := fun o1 b o e n => Eg.upd_mut n (s03 _ _ e)
    refine ⟨m, r, kvs, rfl, hm, hrow.to ((s34 _ r ro hro rq).trans hro.symm), hkl, fun da H5 hda h5d s5 => ?_⟩
    have h5q := s5 _ _ (upd_same (H := H3) (a := qa) (o := .ins Z.c_Query dx (putF "cells" (V.ref ca) [])))
    have h5c := s5 _ _ (Eg.upd_mut (o1 := .ins Z.c_Query dx (putF "cells" (V.ref ca) [])) caq h3c)
    have py5 := py3.same fun b zs e => s5 _ _ (Eg.upd_mut (o1 := .ins Z.c_Query dx (putF "cells" (V.ref ca) [])) (ne_of e h3q (fun z => nomatch z)) e)
    have daq : da ≠ qa := fun z => by rw [z, upd_same] at hda; cases hda
    have h0da : H da = none := by
      cases e : H da with
      | none => rfl
      | some o => rw [s34 _ da o e daq] at hda; cases hda
    have k05 : ∀ b o, H b = some o → b ≠ qa → H5 b = some o := fun b o e n => s5 _ _ (s34 _ b o e n)
    clear s5 hda s34 h3c py3
    walk_at "gw"
    rw [flds_q]
    have h6q : upd (upd (upd H5 qa (.ins Z.c_Query dx (putF "assigned" (V.ref da) (putF "cells" (V.ref ca) [])))) qa (.ins Z.c_Query dx (putF "manner" (V.str m) (putF "assigned" (V.ref da) (putF "cells" (V.ref ca) []))))) qa (.ins Z.c_Query dx (fldsQ ca da m (S (flat ts)))) qa = some (.ins Z.c_Query dx (fldsQ ca da m (S (flat ts)))) := upd_same
    have k56 : ∀ b o, H5 b = some o → b ≠ qa → upd (upd (upd H5 qa (.ins Z.c_Query dx (putF "assigned" (V.ref da) (putF "cells" (V.ref ca) [])))) qa (.ins Z.c_Query dx (putF "manner" (V.str m) (putF "assigned" (V.ref da) (putF "cells" (V.ref ca) []))))) qa (.ins Z.c_Query dx (fldsQ ca da m (S (flat ts)))) b = some o := fun b o e n => Eg.upd_mut n (Eg.upd_mut n (Eg.upd_mut n e))
    generalize upd (upd (upd H5 qa (.ins Z.c_Query dx (putF "assigned" (V.ref da) (putF "cells" (V.ref ca) [])))) qa (.ins Z.c_Query dx (putF "manner" (V.str m) (putF "assigned" (V.ref da) (putF "cells" (V.ref ca) []))))) qa (.ins Z.c_Query dx (fldsQ ca da m (S (flat ts)))) = H6 at h6q k56 ⊢
    have h6c := k56 _ _ h5c caq
    have h6d := k56 _ _ h5d daq
    have py6 := py5.same fun b zs e => k56 _ _ e (ne_of e h5q (fun z => nomatch z))
    have k06 : ∀ b o, H b = some o → b ≠ qa → H6 b = some o := fun b o e n => k56 _ _ (k05 b o e n) n
    clear h5q h5c py5 k05 h5d k56 h3q s03 H5 H3
    have fin : ∀ H', Same H6 H' → Q .non H' := fun H' s' => q H' ⟨dx, ca, da, ys, s' _ _ h6q, s' _ _ h6c, py6.same fun b zs e => s' _ _ e, s' _ _ h6d, h0ca, h0da⟩ fun b o e n => s' _ _ (k06 b o e n)
    have yl := py6.len
    rw [List.length_map, keyC_len] at yl
    obtain ⟨L, hL1, hL2, hL3⟩ := pcs_pairs py6
    have lk1 := lk_cells ca da m (S (flat ts))
    have lk2 := lk_assigned ca da m (S (flat ts))
    refine fm_list (xs := L) (G := fun q => .ref q.1) (F := fun q => keyV q.2) (P := fun q => isHole q.2) (by rw [h6c, hL1]) (by have := congrArg List.length hL2; rw [List.length_map] at this; rw [this]; show (keyC m 0 (read ts)).length < _; rw [keyC_len]; omega) (fun R h => ?_) (fun H' z R s' hz h => ?_) (fun H' z R s' hz hp h => ?_) (fun D H7 hD s7 h7 => ?_)
    · walk_at "go"
      exact h
    · obtain ⟨t, c⟩ := z
      have ht := s' _ _ (hL3 _ hz)
      cases c with
      | inl l =>
        have ht : H' t = some (.tup [.str "say", .str (S l)]) := ht
        walk_at "go"
        rw [d_sh]
        exact h _ (Same.refl _)
      | inr k =>
        have ht : H' t = some (.tup [.str "hole", kV k]) := ht
        walk_at "go"
        rw [decide_eq_true (rfl : V.str "hole" = V.str "hole")]
        exact h _ (Same.refl _)
    · obtain ⟨t, c⟩ := z
      have ht := s' _ _ (hL3 _ hz)
      cases c with
      | inl l => cases hp
      | inr k =>
        have ht : H' t = some (.tup [.str "hole", kV k]) := ht
        walk_at "go"
        exact h _ (Same.refl _)
    rw [filt_keys, hL2] at h7
    have h7 : H7 D = some (.lst ((keys (cellsOf m ts)).map kV)) := h7
    have kl : (keys (cellsOf m ts)).length ≤ (cellsOf m ts).length := List.length_filterMap_le _ _
    have cl : (cellsOf m ts).length = (read ts).length := keyC_len _ _ _
    walk_at "go"
    refine w_iE ?_
    walk_at "go"
    refine c_iE (SqL.of h7) ?_
    refine for_it (walk_enum (xs := (keys (cellsOf m ts)).map kV)) (fun i σ' H' => ∃ v5 v6, σ' = [some (.ref qa), some (.str m), some (.str (S (flat ts))), some (.ref r), some (.ref D), v5, v6, none] ∧ Same H7 H') ⟨none, none, rfl, Same.refl _⟩ ?_ ?_ ?_
    · rintro i _ H8 _ ⟨v5, v6, rfl, s8⟩
      exact SqL.of (s8 _ _ h7)
    · rintro i x _ H8 _ _ ⟨v5, v6, rfl, s8⟩ ⟨tt, y, z, rfl, htt, rfl, hy, hz⟩
      have hz : ((keys (cellsOf m ts)).map kV)[i]? = some z := hz
      rw [List.getElem?_map] at hz
      obtain ⟨k, hk, rfl⟩ := Option.map_eq_some_iff.mp hz
      obtain ⟨v, hv⟩ := val_some (hin k (List.mem_of_getElem? hk))
      have h9t : upd H8 tt (.tup [y, kV k]) tt = some (.tup [y, kV k]) := upd_same
      have s9 : Same H7 (upd H8 tt (.tup [y, kV k])) := fun c o e => Eg.upd_old (s8 c o e) htt
      have h9q := s9 _ _ (s7 _ _ h6q)
      have dg := Tw.dgetK (k := k) (.inl (s9 _ _ (s7 _ _ h6d)))
      rw [hv] at dg
      generalize upd H8 tt (.tup [y, kV k]) = H9 at h9t s9 h9q dg ⊢
      walk_at "go"
      refine Eg.c_dnin dg ?_
      walk_at "go"
      refine Eg.brF rfl ?_
      walk_at "go"
      exact ⟨_, _, rfl, s9⟩
    rintro _ H8 ⟨v5, v6, rfl, s8⟩
    have h8q := s8 _ _ (s7 _ _ h6q)
    have h8d := s8 _ _ (s7 _ _ h6d)
    have h8D := s8 _ _ h7
    walk_at "go"
    by_cases e : m = "order"
    · rw [decide_eq_true (show V.str m = V.str "order" by rw [e])]
      walk_at "go"
      refine ⟨da, kvs, rfl, h8d, ?_⟩
      walk_at "go"
      have ho := hord e
      refine Eg.brDF (by rw [List.length_map]; omega) ?_
      walk_at "go"
      exact fin H8 (s7.trans s8)
    · rw [decide_eq_false (show ¬ V.str m = V.str "order" from fun z => e (V.str.inj z))]
      walk_at "go"
      exact fin H8 (s7.trans s8)
end
end LW

namespace LW
open PySem L2 SX Tx
/-! what a law of texts draws from -/
def BagB (H : Hp) (a : Addr) : Prop := ∃ d m : Int, H a = some (.lst [.int d, .int m]) ∧ 0 ≤ d ∧ 0 ≤ m ∧ m < 2147483648
theorem BagB.ob {H : Hp} {a : Addr} (h : BagB H a) : ∃ xs, H a = some (.lst xs) := let ⟨_, _, e, _⟩ := h; ⟨_, e⟩
theorem BagB.to {H H' : Hp} {a : Addr} (h : BagB H a) (e : H' a = H a) : BagB H' a := let ⟨d, m, h1, h2⟩ := h; ⟨d, m, e.trans h1, h2⟩
theorem BagB.keep {H H' : Hp} {a : Addr} (h : BagB H a) (s : Same H H') : BagB H' a := let ⟨d, m, h1, h2⟩ := h; ⟨d, m, s _ _ h1, h2⟩
/-- all but the bag stands -/
def KeptB (b : Addr) (H H' : Hp) : Prop := ∀ c o, H c = some o → c ≠ b → H' c = some o
theorem KeptB.trans {b : Addr} {H H' H'' : Hp} (h : KeptB b H H') (h' : KeptB b H' H'') : KeptB b H H'' := fun c o e n => h' c o (h c o e n) n
theorem KeptB.of {b : Addr} {H H' : Hp} (h : Same H H') : KeptB b H H' := fun c o e _ => h c o e
theorem KeptB.fr {b : Addr} {H H' : Hp} (h : ∀ c, c ≠ b → H' c = H c) : KeptB b H H' := fun c o e n => (h c n).trans e
def sp_l_bag (K : PySem.W.Frag) : Sp := fun vs H Q _ => ∃ (a : Addr) (ns : List Int) (i : Int), vs = [.ref a, .int i] ∧ SqL K H a (ns.map V.int) ∧ ns.length ≤ 63 ∧ 0 ≤ i ∧ i < 100 ∧
  ∀ (b : Addr) (H' : Hp), H b = none → BagB H' b → Same H H' → Q (.ref b) H'
def sp_l_take : Sp := fun vs H Q _ => ∃ (a : Addr) (n : Int), vs = [.ref a, .int n] ∧ BagB H a ∧ 0 < n ∧ n < 1073741824 ∧
  ∀ (r : Int) (H' : Hp), 0 ≤ r → r < n → BagB H' a → (∀ b, b ≠ a → H' b = H b) → Q (.int r) H'
def sp_l_of : Sp := fun vs H Q _ => ∃ (a b : Addr) (xs : List V), vs = [.ref a, .ref b] ∧ BagB H a ∧ H b = some (.lst xs) ∧ 0 < xs.length ∧ xs.length < 1000 ∧ b ≠ a ∧
  ∀ (v : V) (H' : Hp), v ∈ xs → BagB H' a → (∀ c, c ≠ a → H' c = H c) → Q v H'
def sp_l_wide : Sp := fun vs H Q _ => ∃ (a : Addr) (n : Int), vs = [.ref a, .int n] ∧ BagB H a ∧ 0 < n ∧
  ∀ (r : Int) (H' : Hp), 0 ≤ r → r < n → BagB H' a → KeptB a H H' → Q (.int r) H'
/-- a drawn value -/
inductive DV : V → Prop
  | int (i : Int) : (if i < 0 then -i else i) < most → DV (.int i)
  | str (l : List Nat) : l.length ≤ 12 → (∀ c ∈ l, 32 ≤ c ∧ c ≤ 126) → DV (.str (S l))
theorem DV.val {v : V} (h : DV v) : IsVal v := by
  cases h with
  | int i hi => exact .int i hi
  | str l _ _ => exact .str l
def sp_l_value : Sp := fun vs H Q _ => ∃ a : Addr, vs = [.ref a] ∧ BagB H a ∧ ∀ (v : V) (H' : Hp), DV v → BagB H' a → KeptB a H H' → Q v H'
def sp_l_literal : Sp := fun vs H Q _ => ∃ (a : Addr) (n : Int), vs = [.ref a, .int n] ∧ BagB H a ∧ 0 ≤ n ∧ n < 100 ∧
  ∀ (l : List Nat) (H' : Hp), l.all litB = true → (l.length : Int) ≤ n → BagB H' a → KeptB a H H' → Q (.str (S l)) H'
def sp_l_labels : Sp := fun vs H Q _ => ∃ (a : Addr) (n : Nat), vs = [.ref a, .int (n : Int)] ∧ BagB H a ∧ n ≤ 26 ∧
  ∀ (p : Addr) (ls : List (List Nat)) (H' : Hp), H p = none → H' p = some (.lst (ls.map fun l => V.str (S l))) → ls.length = n → ls.Nodup → (∀ l ∈ ls, labelB l = true ∧ l.length ≤ 14) → BagB H' a → KeptB a H H' → Q (.ref p) H'
section
variable {P : Program} {w : World} {K : PySem.W.Frag} {mg : Str → Option Value} {base : Heap} {Z : Ad}
theorem atI_lt {ns : List Int} {i : Int} (h0 : 0 ≤ i) (h1 : i < (ns.length : Int)) : ∃ z, atI (ns.map V.int) i = some (V.int z) := by
  obtain ⟨j, rfl⟩ := Int.eq_ofNat_of_zero_le h0
  have hj : j < ns.length := by omega
  refine ⟨ns[j], atI_nat ?_⟩
  rw [List.getElem?_map, List.getElem?_eq_getElem hj]
  rfl
theorem cut_ints (ns : List Int) : ∃ ms : List Int, cutV (ns.map V.int) none (some 60) = ms.map V.int ∧ ms.length ≤ ns.length := by
  unfold cutV
  refine ⟨(ns.drop _).take _, by rw [← List.map_drop, ← List.map_take, List.length_map], ?_⟩
  rw [List.length_take, List.length_drop]
  omega
theorem ok_l_bag (T : Txt K mg Z) : FnOk P w K mg base CX0 1 Z.a_l_bag Z.d_l_bag ["_law_script", "_law_at"] (sp_l_bag K) := by
  refine T.F_l_bag.ok sc_l_bag (fun vs H Q E h => ?_) (fun cdv A outer s H vs Q E hr h => ?_)
  · obtain ⟨a, ns, i, rfl, _⟩ := h
    rfl
  · obtain ⟨a, ns, i, rfl, hS, hnl, h0, h1, q⟩ := h
    have nd := sc_l_bag.nd
    refine ⟨_, (C8.pss_cut (ps_set (i := 2) nd rfl (Or.inl rfl) (pe_ifExp (pt_cmpR op_lt (pv 1) (pe_callB Eg.cr_len (by rfl) T.u_len (by decide +kernel) (pa_cons (pv 0) pa_nil)) (nomark _)) (pe_ix ix_list (pv 0) (pv 1) (fun _ _ => rfl)) pe_int))
  (pss_cons (ps_set (i := 3) nd rfl (Or.inl rfl) (pe_op op_add (pe_op op_mul pe_int (pv 1)) pe_int))
  (pss_cons (ps_for PassesOwn.never rfl (pi_enum (by rfl) T.u_enumerate (pa_cons (pe_slice sl_list (pv 0) po_none (po_some pe_int)) pa_nil)) (pg_tup (by rfl) (pgs_cons (pg_name (i := 4) nd rfl (Or.inl rfl)) (pgs_cons (pg_name (i := 5) nd rfl (Or.inl rfl)) pgs_nil)))
  (pss_one (ps_set (i := 3) nd rfl (Or.inl rfl) (pe_op op_mod (pe_callTy Eg.cr_int (by rfl) T.u_int (by decide +kernel) (pa_cons (pe_op op_add (pe_op op_add (pe_op op_mul (pv 3) pe_int) (pe_op op_mod (pe_callTy Eg.cr_int (by rfl) T.u_int (by decide +kernel) (pa_cons (pv 5) pa_nil)) pe_int)) (pe_op op_mul pe_int (pv 4))) pa_nil)) pe_int))))
  (pss_one (ps_ret (pe_lst (pa_cons (pe_ifExp (pt_cmpR op_ge (pe_callB Eg.cr_abs (by rfl) T.u_abs (by decide +kernel) (pa_cons (pv 2) pa_nil)) (pe_op op_pow pe_int pe_int) (nomark _)) (pe_callB Eg.cr_abs (by rfl) T.u_abs (by decide +kernel) (pa_cons (pv 2) pa_nil)) pe_int) (pa_cons (pv 3) pa_nil)))))))), ?_⟩
    refine Eg.w_sig (σ := [some (.ref a), some (.int i), none, none, none, none]) rfl ?_
    refine ⟨fun σ' H' => ∃ z : Int, σ' = [some (.ref a), some (.int i), some (.int z), none, none, none] ∧ H = H', ?_, ?_⟩
    · walk_at "go"
      refine Eg.brD (fun h => ?_) (fun h => ?_)
      · obtain ⟨z, hz⟩ := atI_lt h0 (by simpa using h)
        walk_at "go"
        exact ⟨z, rfl, rfl⟩
      · walk_at "go"
        exact ⟨0, rfl, rfl⟩
    rintro _ _ ⟨z, rfl, rfl⟩
    walk_at "go"
    refine Tl.w_iE ?_
    walk_at "go"
    refine ⟨a, ns.map V.int, rfl, hS, fun p hp => ?_⟩
    obtain ⟨ms, em, ml⟩ := cut_ints ns
    rw [em]
    have h1p : upd H p (.lst (ms.map V.int)) p = some (.lst (ms.map V.int)) := upd_same
    have s1 : Same H (upd H p (.lst (ms.map V.int))) := fun c o e => Eg.upd_old e hp
    generalize upd H p (.lst (ms.map V.int)) = H1 at h1p s1 ⊢
    walk_at "go"
    refine Tl.c_iE (SqL.of h1p) ?_
    refine for_it (walk_enum (xs := ms.map V.int)) (fun j σ' H' => ∃ (m : Int) (v4 v5 : Option V), σ' = [some (.ref a), some (.int i), some (.int z), some (.int m), v4, v5] ∧ 0 ≤ m ∧ m < 2147483648 ∧ Same H1 H') ⟨7919 * i + 4241, none, none, rfl, by omega, by omega, Same.refl _⟩ ?_ ?_ ?_
    · rintro j _ H2 _ ⟨m, v4, v5, rfl, _, _, s2⟩
      exact SqL.of (s2 _ _ h1p)
    · rintro j x _ H2 _ hj ⟨m, v4, v5, rfl, m0, m1, s2⟩ ⟨tt, y, e, rfl, htt, rfl, hy, he⟩
      cases hy
      have he : (ms.map V.int)[j]? = some e := he
      rw [List.getElem?_map] at he
      obtain ⟨n, hn, rfl⟩ := Option.map_eq_some_iff.mp he
      have h3t : upd H2 tt (.tup [.int (j : Nat), .int n]) tt = some (.tup [.int (j : Nat), .int n]) := upd_same
      have s3 : Same H1 (upd H2 tt (.tup [.int (j : Nat), .int n])) := fun c o e => Eg.upd_old (s2 c o e) htt
      generalize upd H2 tt (.tup [.int (j : Nat), .int n]) = H3 at h3t s3 ⊢
      walk_at "go"
      exact ⟨_, _, _, rfl, by omega, by omega, s3⟩
    rintro _ H2 ⟨m, v4, v5, rfl, m0, m1, s2⟩
    walk_at "go"
    refine Eg.brD (fun h => ?_) (fun h => ?_)
    · walk_at "go"
      intro b hb
      walk_at "go"
      exact q b _ ((s1.trans s2).free hb) ⟨_, m, upd_same, by split <;> omega, m0, m1⟩ fun c o e => Eg.upd_old ((s1.trans s2) c o e) hb
    · walk_at "go"
      intro b hb
      walk_at "go"
      exact q b _ ((s1.trans s2).free hb) ⟨0, m, upd_same, by decide, m0, m1⟩ fun c o e => Eg.upd_old ((s1.trans s2) c o e) hb
theorem ok_l_take (T : Txt K mg Z) : FnOk P w K mg base CX0 1 Z.a_l_take Z.d_l_take ["_law_bag_here", "_law_many"] sp_l_take := by
  refine T.F_l_take.ok sc_l_take (fun vs H Q E h => ?_) (fun cdv A outer s H vs Q E hr h => ?_)
  · obtain ⟨a, n, rfl, _⟩ := h
    rfl
  · obtain ⟨a, n, rfl, ⟨d, m, ha, hd, hm, hm2⟩, hn, hn2, q⟩ := h
    have nd := sc_l_take.nd
    refine ⟨_, (pss_cons (ps_if (pt_cmpR op_gt (pe_ix ix_list (pv 0) pe_int (fun _ _ => rfl)) pe_int (nomark _))
  (pss_cons (ps_set (i := 2) nd rfl (Or.inl rfl) (pe_op op_mod (pe_callTy Eg.cr_int (by rfl) T.u_int (by decide +kernel) (pa_cons (pe_ix ix_list (pv 0) pe_int (fun _ _ => rfl)) pa_nil)) (pv 1)))
  (pss_cons (ps_asg (pe_op op_fdiv (pe_ix ix_list (pv 0) pe_int (fun _ _ => rfl)) (pv 1)) (pg_sub (pv 0) pe_int set_list))
  (pss_one (ps_ret (pv 2)))))
  pss_nil)
  (pss_cons (ps_asg (pe_op op_mod (pe_callTy Eg.cr_int (by rfl) T.u_int (by decide +kernel) (pa_cons (pe_op op_add (pe_op op_mul (pe_ix ix_list (pv 0) pe_int (fun _ _ => rfl)) pe_int) pe_int) pa_nil)) pe_int) (pg_sub (pv 0) pe_int set_list))
  (pss_one (ps_ret (pe_op op_mod (pe_op op_fdiv (pe_op op_mod (pe_callTy Eg.cr_int (by rfl) T.u_int (by decide +kernel) (pa_cons (pe_op op_mul (pe_op op_fdiv (pe_ix ix_list (pv 0) pe_int (fun _ _ => rfl)) pe_int) pe_int) pa_nil)) pe_int) pe_int) (pv 1)))))), ?_⟩
    refine Eg.w_sig (σ := [some (.ref a), some (.int n), none]) rfl ?_
    walk_at "go"
    refine Eg.brD (fun h => ?_) (fun h => ?_)
    · walk_at "go"
      refine q _ _ (Int.emod_nonneg _ (by omega)) (Int.emod_lt_of_pos _ hn) ⟨_, m, upd_same, Int.ediv_nonneg hd (by omega), hm, hm2⟩ fun b hb => ?_
      rw [upd_ne hb]
    · walk_at "go"
      refine q _ _ (Int.emod_nonneg _ (by omega)) (Int.emod_lt_of_pos _ hn) ⟨d, _, upd_same, hd, by omega, by omega⟩ fun b hb => ?_
      rw [upd_ne hb]
theorem ok_l_of (T : Txt K mg Z) : FnOk P w K mg base CX0 2 Z.a_l_of Z.d_l_of ["_law_bag_here", "_law_some"] sp_l_of := by
  refine T.F_l_of.ok sc_l_of (fun vs H Q E h => ?_) (fun cdv A outer s H vs Q E hr h => ?_)
  · obtain ⟨a, b, xs, rfl, _⟩ := h
    rfl
  · obtain ⟨a, b, xs, rfl, hb, hs, h0, h1, hne, q⟩ := h
    refine ⟨_, (pss_one (ps_ret (pe_ix ix_list (pv 1) (pe_call (ok_l_take T) (hr.mono (by decide)) (by rfl) T.g_l_take T.F_l_take.kp T.b_l_take .nil pass0 (pa_cons (pv 0) (pa_cons (pe_callB Eg.cr_len (by rfl) T.u_len (by decide +kernel) (pa_cons (pv 1) pa_nil)) pa_nil))) (fun _ _ => rfl)))), ?_⟩
    refine Eg.w_sig (σ := [some (.ref a), some (.ref b)]) rfl ?_
    walk_at "go"
    refine ⟨a, _, rfl, hb, by omega, by omega, fun r H' r0 r1 hb' fr => ?_⟩
    obtain ⟨j, rfl⟩ := Int.eq_ofNat_of_zero_le r0
    have hj : j < xs.length := by omega
    have hv : atI xs (j : Int) = some xs[j] := atI_nat (List.getElem?_eq_getElem hj)
    have hs' : H' b = some (.lst xs) := (fr b hne).trans hs
    walk_at "go"
    exact q _ H' (List.getElem_mem hj) hb' fr
theorem ok_l_wide (T : Txt K mg Z) : FnOk P w K mg base CX0 2 Z.a_l_wide Z.d_l_wide ["_law_bag_here", "_law_many"] sp_l_wide := by
  refine T.F_l_wide.ok sc_l_wide (fun vs H Q E h => ?_) (fun cdv A outer s H vs Q E hr h => ?_)
  · obtain ⟨a, n, rfl, _⟩ := h
    rfl
  · obtain ⟨a, n, rfl, hb, hn, q⟩ := h
    have nd := sc_l_wide.nd
    refine ⟨_, (pss_cons (ps_set (i := 2) nd rfl (Or.inl rfl) pe_int)
  (pss_cons (ps_for PassesOwn.never rfl (pi_range1 (by rfl) T.u_range (pa_cons pe_int pa_nil)) (pg_name (i := 3) nd rfl (Or.inl rfl))
  (pss_one (ps_set (i := 2) nd rfl (Or.inl rfl) (pe_op op_add (pe_op op_mul (pv 2) pe_int) (pe_call (ok_l_take T) (hr.mono (by decide)) (by rfl) T.g_l_take T.F_l_take.kp T.b_l_take .nil pass0 (pa_cons (pv 0) (pa_cons pe_int pa_nil)))))))
  (pss_one (ps_ret (pe_op op_mod (pe_callTy Eg.cr_int (by rfl) T.u_int (by decide +kernel) (pa_cons (pv 2) pa_nil)) (pv 1)))))), ?_⟩
    refine Eg.w_sig (σ := [some (.ref a), some (.int n), none, none]) rfl ?_
    walk_at "go"
    refine for_range (lo := 0) (fun i σ' H' => ∃ (f : Int) (v3 : Option V), σ' = [some (.ref a), some (.int n), some (.int f), v3] ∧ BagB H' a ∧ KeptB a H H') ⟨0, none, rfl, hb, fun c o e _ => e⟩ ?_ ?_
    · rintro i _ H1 hi ⟨f, v3, rfl, hb1, k1⟩
      walk_at "go"
      refine ⟨a, _, rfl, hb1, by decide, by decide, fun r H2 r0 r1 hb2 f2 => ?_⟩
      walk_at "go"
      exact ⟨_, _, rfl, hb2, k1.trans (.fr f2)⟩
    · rintro _ H1 ⟨f, v3, rfl, hb1, k1⟩
      walk_at "go"
      exact q _ H1 (Int.emod_nonneg _ (by omega)) (Int.emod_lt_of_pos _ hn) hb1 k1
def valL : List (List Nat) := [[97], [49], [48], [123, 125], [123, 97, 125], [32], [120], [63]]
theorem valL_eq : ([.str "a", .str "1", .str "0", .str "{}", .str "{a}", .str " ", .str "x", .str "?"] : List V) = valL.map fun l => V.str (S l) := by decide +kernel
theorem valL_ok : ∀ l ∈ valL, l.length ≤ 3 ∧ ∀ c ∈ l, 32 ≤ c ∧ c ≤ 126 := by decide
theorem ok_l_value (T : Txt K mg Z) : FnOk P w K mg base CX0 3 Z.a_l_value Z.d_l_value ["_law_bag_here"] sp_l_value := by
  refine T.F_l_value.ok sc_l_value (fun vs H Q E h => ?_) (fun cdv A outer s H vs Q E hr h => ?_)
  · obtain ⟨a, rfl, _⟩ := h
    rfl
  · obtain ⟨a, rfl, hb, q⟩ := h
    have nd := sc_l_value.nd
    refine ⟨_, (pss_cons (ps_set (i := 1) nd rfl (Or.inl rfl) (pe_call (ok_l_take T) (hr.mono (by decide)) (by rfl) T.g_l_take T.F_l_take.kp T.b_l_take .nil pass0 (pa_cons (pv 0) (pa_cons pe_int pa_nil))))
  (pss_cons (ps_if (pt_cmpR op_eq (pv 1) pe_int (nomark _))
  (pss_one (ps_ret (pe_op op_sub (pe_call (ok_l_take T) (hr.mono (by decide)) (by rfl) T.g_l_take T.F_l_take.kp T.b_l_take .nil pass0 (pa_cons (pv 0) (pa_cons pe_int pa_nil))) pe_int)))
  pss_nil)
  (pss_cons (ps_if (pt_cmpR op_eq (pv 1) pe_int (nomark _))
  (pss_one (ps_ret (pe_op op_mul (pe_call (ok_l_wide T) (hr.mono (by decide)) (by rfl) T.g_l_wide T.F_l_wide.kp T.b_l_wide .nil pass0 (pa_cons (pv 0) (pa_cons (pe_op op_pow pe_int pe_int) pa_nil))) (pe_call (ok_l_of T) (hr.mono (by decide)) (by rfl) T.g_l_of T.F_l_of.kp T.b_l_of .nil pass0 (pa_cons (pv 0) (pa_cons (pe_lst (pa_cons pe_int (pa_cons (pe_un un_neg pe_int) pa_nil))) pa_nil))))))
  pss_nil)
  (pss_cons (ps_set (i := 2) nd rfl (Or.inl rfl) pe_str)
  (pss_cons (ps_for PassesOwn.never rfl (pi_range1 (by rfl) T.u_range (pa_cons (pe_call (ok_l_take T) (hr.mono (by decide)) (by rfl) T.g_l_take T.F_l_take.kp T.b_l_take .nil pass0 (pa_cons (pv 0) (pa_cons pe_int pa_nil))) pa_nil)) (pg_name (i := 3) nd rfl (Or.inl rfl))
  (pss_one (ps_set (i := 2) nd rfl (Or.inl rfl) (pe_op Es.op_addS (pv 2) (pe_call (ok_l_of T) (hr.mono (by decide)) (by rfl) T.g_l_of T.F_l_of.kp T.b_l_of .nil pass0 (pa_cons (pv 0) (pa_cons (pe_lst (pa_cons pe_str (pa_cons pe_str (pa_cons pe_str (pa_cons pe_str (pa_cons pe_str (pa_cons pe_str (pa_cons pe_str (pa_cons pe_str pa_nil))))))))) pa_nil)))))))
  (pss_one (ps_ret (pv 2)))))))), ?_⟩
    refine Eg.w_sig (σ := [some (.ref a), none, none, none]) rfl ?_
    walk_at "go"
    refine ⟨a, _, rfl, hb, by decide, by decide, fun r H1 r0 r1 hb1 f1 => ?_⟩
    have k1 : KeptB a H H1 := .fr f1
    walk_at "go"
    rw [Eg.int_eq]
    refine Eg.brD (fun e => ?_) (fun e => ?_)
    · walk_at "go"
      refine ⟨a, _, rfl, hb1, by decide, by decide, fun r2 H2 r20 r21 hb2 f2 => ?_⟩
      walk_at "go"
      exact q _ H2 (.int _ (by unfold most; split <;> omega)) hb2 (k1.trans (.fr f2))
    walk_at "go"
    rw [Eg.int_eq]
    refine Eg.brD (fun e => ?_) (fun e => ?_)
    · walk_at "go"
      have e40 : (10 : Int) ^ Int.toNat 40 = most := by decide +kernel
      refine ⟨a, _, rfl, hb1, by rw [e40]; decide +kernel, fun r2 H2 r20 r21 hb2 k2' => ?_⟩
      rw [e40] at r21
      have k2 := k1.trans k2'
      walk_at "go"
      intro o ho
      obtain ⟨bs, eb⟩ := hb2.ob
      have hoa : o ≠ a := (ne_of_none eb ho).symm
      have s3 : Same H2 (upd H2 o (.lst [V.int 1, V.int (-1)])) := fun c o' e => Eg.upd_old e ho
      have h3 : upd H2 o (.lst [V.int 1, V.int (-1)]) o = some (.lst [V.int 1, V.int (-1)]) := upd_same
      generalize upd H2 o (.lst [V.int 1, V.int (-1)]) = H3 at s3 h3 ⊢
      walk_at "go"
      refine ⟨a, o, _, rfl, hb2.keep s3, h3, (show 0 < 2 by decide), (show 2 < 1000 by decide), hoa, fun v H4 hv hb4 f4 => ?_⟩
      have k4 := (k2.trans (.of s3)).trans (.fr f4)
      obtain ⟨z, rfl, hz⟩ : ∃ z : Int, v = .int z ∧ (z = 1 ∨ z = -1) := by
        rcases List.mem_cons.mp hv with rfl | hv
        · exact ⟨1, rfl, .inl rfl⟩
        · rcases List.mem_cons.mp hv with rfl | hv
          · exact ⟨-1, rfl, .inr rfl⟩
          · cases hv
      have cm : CMul r2 z := .inr (by rcases hz with rfl | rfl <;> decide)
      walk_at "go"
      refine q _ H4 (.int _ ?_) hb4 k4
      rcases hz with rfl | rfl
      · rw [Int.mul_one]
        split <;> omega
      · rw [show r2 * -1 = -r2 by omega]
        split <;> omega
    walk_at "go"
    refine ⟨a, _, rfl, hb1, by decide, by decide, fun r2 H2 r20 r21 hb2 f2 => ?_⟩
    have k2 := k1.trans (.fr f2)
    walk_at "go"
    have emp : ("" : Str) = S [] := by decide +kernel
    rw [emp]
    refine for_range (lo := 0) (fun i σ' H' => ∃ (l : List Nat) (v3 : Option V), σ' = [some (.ref a), some (.int r), some (.str (S l)), v3] ∧ l.length ≤ 3 * i ∧ (∀ c ∈ l, 32 ≤ c ∧ c ≤ 126) ∧ BagB H' a ∧ KeptB a H H') ⟨[], none, rfl, Nat.zero_le _, (fun _ z => nomatch z), hb2, k2⟩ ?_ ?_
    · rintro i _ H3 hi ⟨l, v3, rfl, ll, lc, hb3, k3⟩
      have i4 : i < 4 := by omega
      walk_at "go"
      intro o ho
      obtain ⟨bs, eb⟩ := hb3.ob
      have hoa : o ≠ a := (ne_of_none eb ho).symm
      rw [valL_eq]
      have s4 : Same H3 (upd H3 o (.lst (valL.map fun l => V.str (S l)))) := fun c o' e => Eg.upd_old e ho
      have h4 : upd H3 o (.lst (valL.map fun l => V.str (S l))) o = some (.lst (valL.map fun l => V.str (S l))) := upd_same
      generalize upd H3 o (.lst (valL.map fun l => V.str (S l))) = H4 at s4 h4 ⊢
      walk_at "go"
      refine ⟨a, o, _, rfl, hb3.keep s4, h4, (show 0 < 8 by decide), (show 8 < 1000 by decide), hoa, fun v H5 hv hb5 f5 => ?_⟩
      obtain ⟨m, hm, rfl⟩ := List.mem_map.mp hv
      obtain ⟨ml, mc⟩ := valL_ok m hm
      walk_at "go"
      refine ⟨_, _, rfl, by rw [List.length_append]; omega, fun c hc => ?_, hb5, (k3.trans (.of s4)).trans (.fr f5)⟩
      rcases List.mem_append.mp hc with hc | hc
      · exact lc c hc
      · exact mc c hc
    · rintro _ H3 ⟨l, v3, rfl, ll, lc, hb3, k3⟩
      walk_at "go"
      exact q _ H3 (.str l (by omega) lc) hb3 k3
def signL : List Nat := [32, 33, 35, 36, 38, 39, 40, 41, 42, 43, 44, 45, 46, 47, 48, 49, 50, 51, 52, 53, 54, 55, 56, 57, 58, 59, 60, 61, 62, 63, 64, 91, 93, 94, 95, 124, 126, 65, 66, 67, 68, 69, 70, 71, 72, 73, 74, 75, 76, 77, 78, 79, 80, 81, 82, 83, 84, 85, 86, 87, 88, 89, 90, 97, 98, 99, 100, 101, 102, 103, 104, 105, 106, 107, 108, 109, 110, 111, 112, 113, 114, 115, 116, 117, 118, 119, 120, 121, 122]
theorem signL_eq : (" !#$&'()*+,-./0123456789:;<=>?\x40[]^_|~ABCDEFGHIJKLMNOPQRSTUVWXYZabcdefghijklmnopqrstuvwxyz" : Str) = S signL := by decide +kernel
def signA : List Nat := signL ++ [92, 34, 96]
theorem signA_ok : ∀ c ∈ signA, litB c = true := by decide
theorem sign3 : ([.str "\\", .str "\"", .str "`"] : List V) = ([92, 34, 96] : List Nat).map fun c => V.str (S [c]) := by decide +kernel
theorem ok_l_literal (T : Txt K mg Z) : FnOk P w K mg base CX0 3 Z.a_l_literal Z.d_l_literal ["_law_bag_here", "_law_limit"] sp_l_literal := by
  refine T.F_l_literal.ok sc_l_literal (fun vs H Q E h => ?_) (fun cdv A outer s H vs Q E hr h => ?_)
  · obtain ⟨a, n, rfl, _⟩ := h
    rfl
  · obtain ⟨a, n, rfl, hb, hn, hn2, q⟩ := h
    have nd := sc_l_literal.nd
    refine ⟨_, (pss_cons (ps_set (i := 2) nd rfl (Or.inl rfl) (pe_callTy (Tw.cr_listS rfl) (by rfl) T.u_list (by decide +kernel) (pa_cons pe_str pa_nil)))
  (pss_cons (ps_set (i := 2) nd rfl (Or.inl rfl) (pe_op op_cat (pv 2) (pe_lst (pa_cons pe_str (pa_cons pe_str (pa_cons pe_str pa_nil))))))
  (pss_cons (ps_set (i := 3) nd rfl (Or.inl rfl) pe_str)
  (pss_cons (ps_for PassesOwn.never rfl (pi_range1 (by rfl) T.u_range (pa_cons (pe_call (ok_l_take T) (hr.mono (by decide)) (by rfl) T.g_l_take T.F_l_take.kp T.b_l_take .nil pass0 (pa_cons (pv 0) (pa_cons (pe_op op_add (pv 1) pe_int) pa_nil))) pa_nil)) (pg_name (i := 4) nd rfl (Or.inl rfl))
  (pss_one (ps_set (i := 3) nd rfl (Or.inl rfl) (pe_op Es.op_addS (pv 3) (pe_call (ok_l_of T) (hr.mono (by decide)) (by rfl) T.g_l_of T.F_l_of.kp T.b_l_of .nil pass0 (pa_cons (pv 0) (pa_cons (pv 2) pa_nil)))))))
  (pss_one (ps_ret (pv 3))))))), ?_⟩
    refine Eg.w_sig (σ := [some (.ref a), some (.int n), none, none, none]) rfl ?_
    obtain ⟨bs, eb⟩ := hb.ob
    walk_at "go"
    refine ⟨signL, by rw [signL_eq], by decide, fun p hp => ?_⟩
    have s1 : Same H (upd H p (.lst (signL.map fun c => V.str (S [c])))) := fun c o' e => Eg.upd_old e hp
    have h1 : upd H p (.lst (signL.map fun c => V.str (S [c]))) p = some (.lst (signL.map fun c => V.str (S [c]))) := upd_same
    generalize upd H p (.lst (signL.map fun c => V.str (S [c]))) = H1 at s1 h1 ⊢
    walk_at "go"
    intro o ho
    rw [sign3]
    have s2 : Same H1 (upd H1 o (.lst (([92, 34, 96] : List Nat).map fun c => V.str (S [c])))) := fun c o' e => Eg.upd_old e ho
    have h2 : upd H1 o (.lst (([92, 34, 96] : List Nat).map fun c => V.str (S [c]))) o = some (.lst (([92, 34, 96] : List Nat).map fun c => V.str (S [c]))) := upd_same
    generalize upd H1 o (.lst (([92, 34, 96] : List Nat).map fun c => V.str (S [c]))) = H2 at s2 h2 ⊢
    walk_at "go"
    refine Eg.c_cat (s2 _ _ h1) h2 (by rw [List.length_map, List.length_map]; decide) fun L hL => ?_
    rw [← List.map_append]
    have h3 : upd H2 L (.lst (signA.map fun c => V.str (S [c]))) L = some (.lst (signA.map fun c => V.str (S [c]))) := upd_same
    have s3 : Same H (upd H2 L (.lst (signA.map fun c => V.str (S [c])))) := fun c o' e => Eg.upd_old (s2 _ _ (s1 _ _ e)) hL
    have hLa : L ≠ a := (ne_of_none (s2 _ _ (s1 _ _ eb)) hL).symm
    rw [show signL ++ [92, 34, 96] = signA from rfl]
    generalize upd H2 L (.lst (signA.map fun c => V.str (S [c]))) = H3 at h3 s3 ⊢
    walk_at "go"
    refine ⟨a, _, rfl, hb.keep s3, by omega, by omega, fun r H4 r0 r1 hb4 f4 => ?_⟩
    have k4 : KeptB a H H4 := (KeptB.of s3).trans (.fr f4)
    have h4 := (f4 L hLa).trans h3
    walk_at "go"
    rw [show ("" : Str) = S [] by decide +kernel]
    refine for_range (lo := 0) (fun i σ' H' => ∃ (l : List Nat) (v4 : Option V), σ' = [some (.ref a), some (.int n), some (.ref L), some (.str (S l)), v4] ∧ l.length = i ∧ l.all litB = true ∧ H' L = some (.lst (signA.map fun c => V.str (S [c]))) ∧ BagB H' a ∧ KeptB a H H') ⟨[], none, rfl, rfl, rfl, h4, hb4, k4⟩ ?_ ?_
    · rintro i _ H5 hi ⟨l, v4, rfl, ll, lc, h5, hb5, k5⟩
      have il : i < 100 := by omega
      walk_at "go"
      refine ⟨a, L, _, rfl, hb5, h5, by rw [List.length_map]; decide, by rw [List.length_map]; decide, hLa, fun v H6 hv hb6 f6 => ?_⟩
      obtain ⟨c, hc, rfl⟩ := List.mem_map.mp hv
      walk_at "go"
      refine ⟨_, _, rfl, by rw [List.length_append, ll]; rfl, ?_, (f6 L hLa).trans h5, hb6, k5.trans (.fr f6)⟩
      rw [List.all_append, lc, List.all_cons, signA_ok c hc]
      rfl
    · rintro _ H5 ⟨l, v4, rfl, ll, lc, h5, hb5, k5⟩
      walk_at "go"
      exact q l H5 lc (by omega) hb5 k5
/-! labels -/
theorem map_erase {α β : Type} (f : α → β) : ∀ (l : List α) (j : Nat), (l.map f).eraseIdx j = (l.eraseIdx j).map f
  | [], _ => rfl
  | _ :: _, 0 => rfl
  | x :: r, j + 1 => by
    show f x :: (r.map f).eraseIdx j = f x :: (r.eraseIdx j).map f
    rw [map_erase f r j]
def letL : List Nat := [97, 98, 99, 100, 101, 102, 103, 104, 105, 106, 107, 108, 109, 110, 111, 112, 113, 114, 115, 116, 117, 118, 119, 120, 121, 122]
theorem letL_eq : ("abcdefghijklmnopqrstuvwxyz" : Str) = S letL := by decide +kernel
theorem letL_low : ∀ c ∈ letL, low c = true := by decide
theorem letL_nd : letL.Nodup := by decide
theorem st4_eq : ([.str "a", .str "z", .str "p", .str "m"] : List V) = ([97, 122, 112, 109] : List Nat).map fun c => V.str (S [c]) := by decide +kernel
theorem st4_low : ∀ c ∈ ([97, 122, 112, 109] : List Nat), low c = true := by decide
def wordOf (ahead : Bool) (st : List Nat) (c : Nat) : List Nat := if ahead = true then [c] ++ st else st ++ [c]
theorem wordOf_len {b : Bool} {st : List Nat} {c : Nat} : (wordOf b st c).length = st.length + 1 := by
  unfold wordOf
  split
  · rw [List.length_append, Nat.add_comm]
    rfl
  · rw [List.length_append]
    rfl
theorem wordOf_low {b : Bool} {st : List Nat} {c : Nat} (h : st.all low = true) (hc : low c = true) : (wordOf b st c).all low = true := by
  unfold wordOf
  split <;> rw [List.all_append, h, List.all_cons, hc] <;> rfl
theorem wordOf_inj {b : Bool} {st : List Nat} {c d : Nat} (h : wordOf b st c = wordOf b st d) : c = d := by
  unfold wordOf at h
  split at h
  · exact (List.cons.inj h).1
  · have := List.append_cancel_left h
    exact (List.cons.inj this).1
theorem wordOf_word {b : Bool} {st : List Nat} {c : Nat} (h : st.all low = true) (hc : low c = true) (hl : st.length ≤ 7) : wordB (wordOf b st c) = true := by
  unfold wordB
  rw [wordOf_low h hc, wordOf_len, decide_eq_true (by omega), decide_eq_true (by omega)]
  rfl
theorem stem_word {w d : List Nat} (hw : w.all low = true) (hd : d.all dig = true) : stem (w ++ d) = w :=
  stem_of (fun c hc => low_nodig (List.all_eq_true.mp hw c (List.mem_of_getLast? hc))) hd
theorem nodup_of_map {α β : Type} {f : α → β} {l : List α} (h : (l.map f).Nodup) : l.Nodup := (List.pairwise_map.mp h).imp fun hab e => hab (by rw [e])
set_option maxHeartbeats 1000000 in
theorem ok_l_labels (T : Txt K mg Z) : FnOk P w K mg base CX0 3 Z.a_l_labels Z.d_l_labels ["_law_bag_here", "_law_many"] sp_l_labels := by
  refine T.F_l_labels.ok sc_l_labels (fun vs H Q E h => ?_) (fun cdv A outer s H vs Q E hr h => ?_)
  · obtain ⟨a, n, rfl, _⟩ := h
    rfl
  · obtain ⟨a, n, rfl, hb, hn, q⟩ := h
    have nd := sc_l_labels.nd
    refine ⟨_, (pss_cons (ps_par (i := 2) (j := 3) (by rfl) nd rfl rfl (by decide) rfl rfl (pa_cons (pe_callTy (Tw.cr_listS rfl) (by rfl) T.u_list (by decide +kernel) (pa_cons pe_str pa_nil)) (pa_cons (pe_lst pa_nil) pa_nil)) (by rfl))
  (pss_cons (ps_par (i := 4) (j := 5) (by rfl) nd rfl rfl (by decide) rfl rfl (pa_cons pe_str (pa_cons (pe_cmpR op_eq (pe_call (ok_l_take T) (hr.mono (by decide)) (by rfl) T.g_l_take T.F_l_take.kp T.b_l_take .nil pass0 (pa_cons (pv 0) (pa_cons pe_int pa_nil))) pe_int (nomark _)) pa_nil)) (by rfl))
  (pss_cons (ps_for PassesOwn.never rfl (pi_range1 (by rfl) T.u_range (pa_cons (pe_call (ok_l_take T) (hr.mono (by decide)) (by rfl) T.g_l_take T.F_l_take.kp T.b_l_take .nil pass0 (pa_cons (pv 0) (pa_cons pe_int pa_nil))) pa_nil)) (pg_name (i := 6) nd rfl (Or.inl rfl))
  (pss_one (ps_set (i := 4) nd rfl (Or.inl rfl) (pe_op Es.op_addS (pv 4) (pe_call (ok_l_of T) (hr.mono (by decide)) (by rfl) T.g_l_of T.F_l_of.kp T.b_l_of .nil pass0 (pa_cons (pv 0) (pa_cons (pe_lst (pa_cons pe_str (pa_cons pe_str (pa_cons pe_str (pa_cons pe_str pa_nil))))) pa_nil)))))))
  (pss_cons (ps_for PassesOwn.never rfl (pi_range1 (by rfl) T.u_range (pa_cons (pv 1) pa_nil)) (pg_name (i := 6) nd rfl (Or.inl rfl))
  (pss_cons (ps_set (i := 7) nd rfl (Or.inl rfl) (pe_bm PySem.F.plainAttrs_list PySem.F.slot_list_pop PySem.F.type_list_pop mt_popAt (pv 2) (pa_cons (pe_call (ok_l_take T) (hr.mono (by decide)) (by rfl) T.g_l_take T.F_l_take.kp T.b_l_take .nil pass0 (pa_cons (pv 0) (pa_cons (pe_callB Eg.cr_len (by rfl) T.u_len (by decide +kernel) (pa_cons (pv 2) pa_nil)) pa_nil))) pa_nil)))
  (C8.pss_cut (ps_set (i := 8) nd rfl (Or.inl rfl) (pe_ifExp (pt_val (pv 5)) (pe_op Es.op_addS (pv 7) (pv 4)) (pe_op Es.op_addS (pv 4) (pv 7))))
  (pss_cons (ps_set (i := 9) nd rfl (Or.inl rfl) (pe_ix ix_list (pe_lst (pa_cons pe_int (pa_cons pe_int (pa_cons pe_int (pa_cons pe_int (pa_cons pe_int (pa_cons (pe_call (ok_l_take T) (hr.mono (by decide)) (by rfl) T.g_l_take T.F_l_take.kp T.b_l_take .nil pass0 (pa_cons (pv 0) (pa_cons pe_int pa_nil))) pa_nil))))))) (pe_call (ok_l_take T) (hr.mono (by decide)) (by rfl) T.g_l_take T.F_l_take.kp T.b_l_take .nil pass0 (pa_cons (pv 0) (pa_cons pe_int pa_nil))) (fun _ _ => rfl)))
  (pss_one (ps_expr (pe_bm PySem.F.plainAttrs_list PySem.F.slot_list_append PySem.F.type_list_append mt_append (pv 3) (pa_cons (pe_ifExp (pt_cmpR op_eq (pe_call (ok_l_take T) (hr.mono (by decide)) (by rfl) T.g_l_take T.F_l_take.kp T.b_l_take .nil pass0 (pa_cons (pv 0) (pa_cons pe_int pa_nil))) pe_int (nomark _)) (pe_op Es.op_addS (pv 8) (pe_callTy Es.cr_strI (by rfl) T.u_str (by decide +kernel) (pa_cons (pv 9) pa_nil))) (pv 8)) pa_nil))))))))
  (pss_one (ps_ret (pv 3))))))), ?_⟩
    refine Eg.w_sig (σ := [some (.ref a), some (.int (n : Int)), none, none, none, none, none, none, none, none]) rfl ?_
    obtain ⟨bs, eb⟩ := hb.ob
    walk_at "go"
    refine ⟨letL, by rw [letL_eq], by decide, fun L hL => ?_⟩
    have hLa : L ≠ a := (ne_of_none eb hL).symm
    have s1 : Same H (upd H L (.lst (letL.map fun c => V.str (S [c])))) := fun c o' e => Eg.upd_old e hL
    have h1 : upd H L (.lst (letL.map fun c => V.str (S [c]))) L = some (.lst (letL.map fun c => V.str (S [c]))) := upd_same
    generalize upd H L (.lst (letL.map fun c => V.str (S [c]))) = H1 at s1 h1 ⊢
    walk_at "go"
    intro F hF
    have hFa : F ≠ a := (ne_of_none (s1 _ _ eb) hF).symm
    have hFL : F ≠ L := (ne_of_none h1 hF).symm
    have h0F : H F = none := s1.free hF
    have s2 : Same H (upd H1 F (.lst [])) := fun c o' e => Eg.upd_old (s1 _ _ e) hF
    have h2F : upd H1 F (.lst []) F = some (.lst []) := upd_same
    have h2L : upd H1 F (.lst []) L = some (.lst (letL.map fun c => V.str (S [c]))) := Eg.upd_mut hFL.symm h1
    generalize upd H1 F (.lst []) = H2 at s2 h2F h2L ⊢
    walk_at "go"
    refine ⟨a, _, rfl, hb.keep s2, by decide, by decide, fun r H3 r0 r1 hb3 f3 => ?_⟩
    have k3 : KeptB a H H3 := (KeptB.of s2).trans (.fr f3)
    have h3F := (f3 F hFa).trans h2F
    have h3L := (f3 L hLa).trans h2L
    walk_at "go"
    rw [show ("" : Str) = S [] by decide +kernel]
    generalize decide (V.int r = V.int 0) = ah
    refine ⟨a, _, rfl, hb3, by decide, by decide, fun r2 H4 r20 r21 hb4 f4 => ?_⟩
    have k4 := k3.trans (.fr f4)
    have h4F := (f4 F hFa).trans h3F
    have h4L := (f4 L hLa).trans h3L
    walk_at "go"
    refine for_range (lo := 0) (fun i σ' H' => ∃ (st : List Nat) (v6 : Option V), σ' = [some (.ref a), some (.int (n : Int)), some (.ref L), some (.ref F), some (.str (S st)), some (.bl ah), v6, none, none, none] ∧ st.length = i ∧ st.all low = true ∧ H' F = some (.lst []) ∧ H' L = some (.lst (letL.map fun c => V.str (S [c]))) ∧ BagB H' a ∧ KeptB a H H') ⟨[], none, rfl, rfl, rfl, h4F, h4L, hb4, k4⟩ ?_ ?_
    · rintro i _ H5 hi ⟨st, v6, rfl, sl, slow, h5F, h5L, hb5, k5⟩
      have i7 : i < 7 := by omega
      walk_at "go"
      intro o ho
      rw [st4_eq]
      obtain ⟨bs5, eb5⟩ := hb5.ob
      have hoa : o ≠ a := (ne_of_none eb5 ho).symm
      have s6 : Same H5 (upd H5 o (.lst (([97, 122, 112, 109] : List Nat).map fun c => V.str (S [c])))) := fun c o' e => Eg.upd_old e ho
      have h6 : upd H5 o (.lst (([97, 122, 112, 109] : List Nat).map fun c => V.str (S [c]))) o = some (.lst (([97, 122, 112, 109] : List Nat).map fun c => V.str (S [c]))) := upd_same
      generalize upd H5 o (.lst (([97, 122, 112, 109] : List Nat).map fun c => V.str (S [c]))) = H6 at s6 h6 ⊢
      walk_at "go"
      refine ⟨a, o, _, rfl, hb5.keep s6, h6, (show 0 < 4 by decide), (show 4 < 1000 by decide), hoa, fun v H7 hv hb7 f7 => ?_⟩
      obtain ⟨c, hc, rfl⟩ := List.mem_map.mp hv
      walk_at "go"
      refine ⟨_, _, rfl, by rw [List.length_append, sl]; rfl, ?_, (f7 F hFa).trans (s6 _ _ h5F), (f7 L hLa).trans (s6 _ _ h5L), hb7, (k5.trans (.of s6)).trans (.fr f7)⟩
      rw [List.all_append, slow, List.all_cons, st4_low c hc]
      rfl
    rintro _ H5 ⟨st, v6, rfl, sl, slow, h5F, h5L, hb5, k5⟩
    have sl7 : st.length ≤ 7 := by omega
    clear h4F h4L hb4 k4 h3F h3L hb3 k3 f4 f3 h2F h2L s2 h1 s1
    walk_at "go"
    refine for_range (lo := 0) (fun i σ' H' => ∃ (ss us : List Nat) (ls : List (List Nat)) (v6 v7 v8 v9 : Option V), σ' = [some (.ref a), some (.int (n : Int)), some (.ref L), some (.ref F), some (.str (S st)), some (.bl ah), v6, v7, v8, v9] ∧ H' L = some (.lst (ss.map fun c => V.str (S [c]))) ∧ H' F = some (.lst (ls.map fun l => V.str (S l))) ∧ (us ++ ss).Perm letL ∧ us.length = i ∧ ls.map stem = us.map (wordOf ah st) ∧ (∀ l ∈ ls, labelB l = true ∧ l.length ≤ 14) ∧ BagB H' a ∧ KeptB a H H') ⟨letL, [], [], v6, none, none, none, rfl, h5L, h5F, List.Perm.refl _, rfl, rfl, (fun _ z => nomatch z), hb5, k5⟩ ?_ ?_
    · rintro i _ H6 hi ⟨ss, us, ls, v6, v7, v8, v9, rfl, h6L, h6F, pm, ul, lst, lok, hb6, k6⟩
      have pl := pm.length_eq
      rw [List.length_append] at pl
      have l26 : letL.length = 26 := rfl
      have i26 : i < 26 := by omega
      have lsl : ls.length = us.length := by have := congrArg List.length lst; rw [List.length_map, List.length_map] at this; exact this
      walk_at "go"
      refine ⟨a, _, rfl, hb6, by rw [List.length_map]; omega, by rw [List.length_map]; omega, fun r3 H7 r30 r31 hb7 f7 => ?_⟩
      rw [List.length_map] at r31
      obtain ⟨j, rfl⟩ := Int.eq_ofNat_of_zero_le r30
      have hj : j < ss.length := by omega
      have h7L := (f7 L hLa).trans h6L
      have h7F := (f7 F hFa).trans h6F
      have k7 := k6.trans (.fr f7)
      have hcj : (ss.map fun c => V.str (S [c]))[j]? = some (.str (S [ss[j]])) := by rw [List.getElem?_map, List.getElem?_eq_getElem hj]; rfl
      walk_at "go"
      refine Eg.c_popAt h7L (by rw [List.length_map]; omega) rfl hcj ?_
      have h8F : upd H7 L (.lst ((ss.map fun c => V.str (S [c])).eraseIdx j)) F = some (.lst (ls.map fun l => V.str (S l))) := Eg.upd_mut hFL h7F
      have h8L : upd H7 L (.lst ((ss.map fun c => V.str (S [c])).eraseIdx j)) L = some (.lst ((ss.eraseIdx j).map fun c => V.str (S [c]))) := by rw [upd_same, map_erase]
      have h0L : H L = none := hL
      have k8 : KeptB a H (upd H7 L (.lst ((ss.map fun c => V.str (S [c])).eraseIdx j))) := fun c o e n => Eg.upd_mut (ne_of_none e h0L) (k7 c o e n)
      have hb8 : BagB (upd H7 L (.lst ((ss.map fun c => V.str (S [c])).eraseIdx j))) a := hb7.to (upd_ne hLa.symm)
      generalize upd H7 L (.lst ((ss.map fun c => V.str (S [c])).eraseIdx j)) = H8 at h8F h8L k8 hb8 ⊢
      have cm : ss[j] ∈ letL := pm.mem_iff.mp (List.mem_append_right _ (List.getElem_mem hj))
      have clow := letL_low _ cm
      have pm2 : ((us ++ [ss[j]]) ++ ss.eraseIdx j).Perm letL := by
        refine List.Perm.trans ?_ pm
        rw [List.append_assoc]
        exact (Sm.perm_erase (List.getElem?_eq_getElem hj)).append_left us
      generalize ss[j] = c at hcj cm clow pm2 ⊢
      clear h7L h7F k7 hb7 f7 hcj h6L h6F hb6 k6
      walk_at "go"
      refine ⟨fun σ' H' => σ' = [some (.ref a), some (.int (n : Int)), some (.ref L), some (.ref F), some (.str (S st)), some (.bl ah), some (.int (0 + (i : Int))), some (.str (S [c])), some (.str (S (wordOf ah st c))), v9] ∧ H8 = H', ?_, ?_⟩
      · unfold wordOf
        cases ah with
        | true =>
          walk_at "go"
          exact ⟨rfl, rfl⟩
        | false =>
          walk_at "go"
          exact ⟨rfl, rfl⟩
      rintro _ _ ⟨rfl, rfl⟩
      have hw := wordOf_word (b := ah) slow clow sl7
      have hwl : (wordOf ah st c).length ≤ 8 := by rw [wordOf_len]; omega
      have hwlow := wordOf_low (b := ah) slow clow
      generalize hW : wordOf ah st c = W at hw hwl hwlow ⊢
      walk_at "go"
      refine ⟨a, _, rfl, hb8, by decide, by decide, fun r4 H9 r40 r41 hb9 f9 => ?_⟩
      have k9 := k8.trans (.fr f9)
      have h9F := (f9 F hFa).trans h8F
      have h9L := (f9 L hLa).trans h8L
      walk_at "go"
      intro o ho
      obtain ⟨bs9, eb9⟩ := hb9.ob
      have hoa : o ≠ a := (ne_of_none eb9 ho).symm
      have s10 : Same H9 (upd H9 o (.lst [.int 0, .int 1, .int 2, .int 10, .int 999999, .int r4])) := fun c o' e => Eg.upd_old e ho
      have h10 : upd H9 o (.lst [.int 0, .int 1, .int 2, .int 10, .int 999999, .int r4]) o = some (.lst [.int 0, .int 1, .int 2, .int 10, .int 999999, .int r4]) := upd_same
      generalize upd H9 o (.lst [.int 0, .int 1, .int 2, .int 10, .int 999999, .int r4]) = H10 at s10 h10 ⊢
      walk_at "go"
      refine ⟨a, _, rfl, hb9.keep s10, by decide, by decide, fun r5 H11 r50 r51 hb11 f11 => ?_⟩
      have k11 := (k9.trans (.of s10)).trans (.fr f11)
      have h11F := (f11 F hFa).trans (s10 _ _ h9F)
      have h11L := (f11 L hLa).trans (s10 _ _ h9L)
      have h11o := (f11 o hoa).trans h10
      obtain ⟨num, hnum, hn0, hn1⟩ : ∃ num : Int, atI ([.int 0, .int 1, .int 2, .int 10, .int 999999, .int r4] : List V) r5 = some (.int num) ∧ 0 ≤ num ∧ num < 1000000 := by
        obtain ⟨j, rfl⟩ := Int.eq_ofNat_of_zero_le r50
        have : j = 0 ∨ j = 1 ∨ j = 2 ∨ j = 3 ∨ j = 4 ∨ j = 5 := by omega
        rcases this with rfl | rfl | rfl | rfl | rfl | rfl
        · exact ⟨0, atI_nat rfl, by decide, by decide⟩
        · exact ⟨1, atI_nat rfl, by decide, by decide⟩
        · exact ⟨2, atI_nat rfl, by decide, by decide⟩
        · exact ⟨10, atI_nat rfl, by decide, by decide⟩
        · exact ⟨999999, atI_nat rfl, by decide, by decide⟩
        · exact ⟨r4, atI_nat rfl, r40, r41⟩
      clear h9F h9L k9 s10 h10 hb9 f9 hb8 k8 h8F h8L
      walk_at "go"
      refine ⟨a, _, rfl, hb11, by decide, by decide, fun r6 H12 r60 r61 hb12 f12 => ?_⟩
      have k12 := k11.trans (.fr f12)
      have h12F := (f12 F hFa).trans h11F
      have h12L := (f12 L hLa).trans h11L
      obtain ⟨k, rfl⟩ := Int.eq_ofNat_of_zero_le hn0
      have hkl := TL.numL_len (n := k) (k := 6) (by decide) (show k < 10 ^ 6 by omega)
      have hkd : (TL.numL k).all dig = true := by
        have := count_num (n := k) (by omega)
        unfold countB at this
        rw [Bool.and_eq_true] at this
        exact this.2
      have stw : ∀ d : List Nat, d.all dig = true → (ls ++ [W ++ d]).map stem = (us ++ [c]).map (wordOf ah st) := fun d hd => by
        rw [List.map_append, List.map_append, lst, List.map_cons, List.map_cons, List.map_nil, List.map_nil, stem_word hwlow hd, hW]
      have lokw : ∀ d : List Nat, (d = [] ∨ countB d = true) → d.length ≤ 6 → ∀ l ∈ ls ++ [W ++ d], labelB l = true ∧ l.length ≤ 14 := fun d hd hl l hm => by
        rcases List.mem_append.mp hm with hm | hm
        · exact lok l hm
        · rw [List.mem_singleton.mp hm, List.length_append]
          exact ⟨label_of hw hd, by omega⟩
      walk_at "go"
      rw [Eg.int_eq]
      refine Eg.brD (fun e => ?_) (fun e => ?_)
      · walk_at "go"
        rw [num_S k]
        walk_at "go"
        refine ⟨_, us ++ [c], ls ++ [W ++ TL.numL k], _, _, _, _, rfl, Eg.upd_mut hFL.symm h12L, ?_, pm2, by rw [List.length_append, ul]; rfl, stw _ hkd, lokw _ (.inr (count_num (by omega))) hkl, hb12.to (upd_ne hFa.symm), fun c o e n => Eg.upd_mut (ne_of_none e h0F) (k12 c o e n)⟩
        rw [upd_same, List.map_append]
        rfl
      · walk_at "go"
        refine ⟨_, us ++ [c], ls ++ [W ++ []], _, _, _, _, rfl, Eg.upd_mut hFL.symm h12L, ?_, pm2, by rw [List.length_append, ul]; rfl, stw _ rfl, lokw _ (.inl rfl) (Nat.zero_le _), hb12.to (upd_ne hFa.symm), fun c o e n => Eg.upd_mut (ne_of_none e h0F) (k12 c o e n)⟩
        rw [upd_same, List.map_append, List.append_nil]
        rfl
    · rintro _ H6 ⟨ss, us, ls, v6, v7, v8, v9, rfl, h6L, h6F, pm, ul, lst, lok, hb6, k6⟩
      have lsl : ls.length = us.length := by have := congrArg List.length lst; rw [List.length_map, List.length_map] at this; exact this
      have und : us.Nodup := (List.nodup_append.mp (pm.nodup_iff.mpr letL_nd)).1
      walk_at "go"
      refine q F ls H6 h0F h6F (by omega) (nodup_of_map (f := stem) ?_) lok hb6 k6
      rw [lst]
      exact List.pairwise_map.mpr (und.imp fun hab e => hab (wordOf_inj e))
end
end LW

local macro_rules | `(tactic| walk_at "tx") => `(tactic| first
  | with_reducible refine Mk.w_prop ?_
  | with_reducible refine Mk.w_methK ?_)
namespace LW
open PySem L2 SX Tx Tc Tl
/-! a query turned, filled, compared -/
def sp_check_word : Sp := fun vs H Q _ => ∃ l : List Nat, vs = [.str (S l)] ∧ l.length < 100000 ∧ wordB l = true ∧ ∀ H', Same H H' → Q .non H'
/-- a hole as it is written -/
def keyT (m : Str) (w : List Nat) (n : Nat) : List Nat := if m = "order" then [] else if m = "name" then w ++ TL.numL n else TL.numL n
def sp_written : Sp := fun vs H Q _ => ∃ (m : Str) (w : List Nat) (n : Nat), vs = [.str m, .str (S w), .int (n : Int)] ∧ Mn m ∧ w.length ≤ 100 ∧ n < 1000000 ∧ Q (.str (S (123 :: (keyT m w n ++ [125])))) H
/-- a row as it is told -/
def RowTold (m : Str) (kvs : List (Key × V)) : HO := if m = "name" then .dK kvs else .lst (kvs.map (·.2))
def sp_Query_row (C : Addr) : Sp := fun vs H Q _ => ∃ (q : Addr) (m : Str) (cs : List Cl) (kvs : List (Key × V)) (t : Str), vs = [.ref q] ∧ QAt C H q m cs kvs t ∧ kvs.length < 1000 ∧ (kvs.map (·.1)).Nodup ∧
  ∀ (p : Addr) (H' : Hp), H p = none → H' p = some (RowTold m kvs) → Same H H' → Q (.ref p) H'
theorem lk_manner (ca da : Addr) (m t : Str) : (fldsQ ca da m t).lookup ("manner" : Str) = some (V.str m) := by rfl
theorem lk_text (ca da : Addr) (m t : Str) : (fldsQ ca da m t).lookup ("text" : Str) = some (V.str t) := by rfl
/-- a cell with its value -/
def fillP (kvs : List (Key × V)) : Cl → Pc
  | .inl l => .say l
  | .inr k => .oth "value" [(valV kvs k).getD .non]
def fill (kvs : List (Key × V)) (cs : List Cl) : List Pc := merge (cs.map (fillP kvs))
def szC (cs : List Cl) : Nat := sz (cs.map pc)
def sp_Query_filled (C : Addr) : Sp := fun vs H Q _ => ∃ (q : Addr) (m : Str) (cs : List Cl) (kvs : List (Key × V)) (t : Str), vs = [.ref q] ∧ QAt C H q m cs kvs t ∧ cs.length < 90000 ∧ szC cs < 50000 ∧ (∀ k ∈ keys cs, k ∈ kvs.map (·.1)) ∧
  ∀ (p : Addr) (ys : List V) (H' : Hp), H p = none → H' p = some (.tup ys) → PcsAt H' ys (fill kvs cs) → Same H H' → Q (.ref p) H'
def sp_Query_len (C : Addr) : Sp := fun vs H Q _ => ∃ (q : Addr) (m : Str) (cs : List Cl) (kvs : List (Key × V)) (t : Str), vs = [.ref q] ∧ QAt C H q m cs kvs t ∧ cs.length < 90000 ∧ ∀ H', Same H H' → Q (.int ((keys cs).length : Nat)) H'
section
variable {σ : L2.St} {H : Hp} {K : PySem.W.Frag} {a : Addr} {j : Nat} {ti te : TE} {Q : VK}
/-- [F p for p in xs], the results new tuples -/
theorem objs_list {α : Type} {xs : List α} {G : α → V} {F : α → Pc} (ha : H a = some (.lst (xs.map G))) (hsz : xs.length < 100000)
    (hi : ∀ R : VK, R (.ref a) H → ti σ H R)
    (elt : ∀ (H' : Hp) (z : α) (R : VK), Same H H' → z ∈ xs → (∀ H'' t, Same H' H'' → H'' t = some (.tup (F z).vs) → R (.ref t) H'') → te ((wipe σ [j]).set j (some (G z))) H' R)
    (done : ∀ (D : Addr) (H' : Hp) (zs : List V), H D = none → Same H H' → H' D = some (.lst zs) → PcsAt H' zs (xs.map F) → Q (.ref D) H') : tLc (iList K ti) (gName j) tYes te [j] σ H Q := by
  refine Eg.w_lc (Eg.w_iL (hi _ (Eg.c_iL (SqL.of ha) ?_)))
  intro D hD
  refine lc_list (xs := xs.map G) (fun n H' => Same H H' ∧ ∃ zs, H' D = some (.lst zs) ∧ PcsAt H' zs ((xs.take n).map F)) ⟨Eg.same_new (Same.refl _) hD, [], upd_same, .nil⟩ (fun n H' _ h => SqL.of (h.1 _ _ ha)) ?_ ?_
  · rintro n x H1 hx ⟨s1, zs, h2, pz⟩
    rw [List.getElem?_map] at hx
    obtain ⟨z, hz, rfl⟩ := Option.map_eq_some_iff.mp hx
    obtain ⟨hlt, he⟩ := List.getElem?_eq_some_iff.mp hz
    have zl := pz.len
    rw [List.length_map, List.length_take] at zl
    refine Eg.w_gN (Eg.w_wipe ?_ (Eg.w_yes (iteT (elt H1 z _ s1 (List.mem_of_getElem? hz) fun H2 t s2 ht => ⟨_, s2 _ _ h2, ?_, Eg.same_mut (s1.trans s2) hD, _, upd_same, ?_⟩))))
    · show (((σ.set j none).set j (some (G z))).set j none) = σ.set j none
      rw [List.set_set, List.set_set]
    · rw [sizeLine_eq]
      omega
    · have h2D := s2 _ _ h2
      rw [List.take_succ_eq_append_getElem hlt, he, List.map_append]
      refine PcsAt.app (PcsAt.same (fun b ys e => ?_) pz) (PcsAt.one ?_)
      · exact Eg.upd_mut (ne_of (s2 _ _ e) h2D (fun z => nomatch z)) (s2 _ _ e)
      · exact Eg.upd_mut (ne_of ht h2D (fun z => nomatch z)) ht
  · rintro H1 ⟨s1, zs, h2, pz⟩
    rw [List.length_map, List.take_length] at pz
    exact done D H1 zs hD s1 h2 pz
end
theorem fillP_ok (kvs : List (Key × V)) (c : Cl) : (fillP kvs c).ok := by
  cases c with
  | inl l => exact pc_ok (.inl l)
  | inr k => exact ⟨by decide +kernel, Nat.le_refl _, Nat.le_of_ble_eq_true rfl⟩
theorem keys_filt_len {L : List (Addr × Cl)} {cs : List Cl} (e : L.map (·.2) = cs) : (L.filter fun q => isHole q.2).length = (keys cs).length := by
  have := congrArg List.length (filt_keys L)
  rw [e, List.length_map, List.length_map] at this
  exact this
theorem szC_fill (kvs : List (Key × V)) : ∀ cs : List Cl, sz (cs.map (fillP kvs)) = szC cs
  | [] => rfl
  | .inl l :: r => by
    have := szC_fill kvs r
    unfold szC sz at this ⊢
    simp only [List.map_cons, List.sum_cons] at this ⊢
    rw [this]
    rfl
  | .inr k :: r => by
    have := szC_fill kvs r
    unfold szC sz at this ⊢
    simp only [List.map_cons, List.sum_cons] at this ⊢
    rw [this]
    rfl
section
variable {P : Program} {w : World} {K : PySem.W.Frag} {mg : Str → Option Value} {base : Heap} {Z : Ad}
theorem ok_Query_row (T : Txt K mg Z) : FnOk P w K mg base CX0 1 Z.a_Query_row Z.d_Query_row ["self"] (sp_Query_row Z.c_Query) := by
  refine T.F_Query_row.ok sc_Query_row (fun vs H Q E h => ?_) (fun cdv A outer s H vs Q E hr h => ?_)
  · obtain ⟨q, m, cs, kvs, t, rfl, _⟩ := h
    rfl
  · obtain ⟨qa, m, cs, kvs, t, rfl, ⟨dx, ca, da, ys, hq, hc, py, hd⟩, kl, knd, q⟩ := h
    have nd := sc_Query_row.nd
    have hu := hu_of hr
    have cQ := T.cl_Query
    have n2 := T.n_Query_assigned
    have n3 := T.n_Query_manner
    have lk2 := lk_assigned ca da m t
    have lk3 := lk_manner ca da m t
    have dq : qa ≠ da := ne_of hq hd (fun z => nomatch z)
    refine ⟨_, (pss_cons (ps_if (pt_cmpR op_eq (pe_fld (pv 0) rfl) pe_str (nomark _))
  (pss_one (ps_ret (pe_lock (pe_dc (own := [("label", 2)]) rfl nd (pi_keys (pe_fld (pv 0) rfl)) (blkOk_by (N := N_Query_row) (sc := defScope s_Query_row) (by decide +kernel)) (fun _ _ _ _ _ => (pg_name (i := 2) nd rfl (Or.inl rfl))) (fun _ _ _ _ _ => pts_nil) (fun _ _ _ _ _ => (Eg.peE (pv 2) (by walk_at "blk"))) (fun _ _ _ _ _ => (Eg.peE (pe_dget hu (pe_fld (pv 0) rfl) (pv 2) (fun _ _ => rfl)) (by walk_at "blk")))))))
  pss_nil)
  (pss_one (ps_ret (pe_lock (pe_lc (own := [("key", 1)]) rfl nd (pi_keys (pe_fld (pv 0) rfl)) (blkOk_by (N := N_Query_row) (sc := defScope s_Query_row) (by decide +kernel)) (fun _ _ _ _ _ => (pg_name (i := 1) nd rfl (Or.inl rfl))) (fun _ _ _ _ _ => pts_nil) (fun _ _ _ _ _ => (Eg.peE (pe_dget hu (pe_fld (pv 0) rfl) (pv 1) (fun _ _ => rfl)) (by walk_at "blk")))))))), ?_⟩
    refine Eg.w_sig (σ := [some (.ref qa), none, none]) rfl ?_
    walk_at "gw"
    by_cases e : m = "name"
    · rw [decide_eq_true (show V.str m = V.str "name" by rw [e])]
      unfold RowTold at q
      rw [if_pos e] at q
      walk_at "gw"
      refine copyK (show 2 < 3 by decide) hd (by omega) knd (fun H' R fr h => ?_) (fun od H' k v R hL hm h => ?_) (fun D H2 hD2 s2 h2 => ?_)
      · have h'q := fr _ _ hq dq
        walk_at "go"
        exact h
      · have h'q := hL.2 _ _ hq dq
        walk_at "go"
        have dg := Tw.dgetK (k := k) (.inr ⟨od, hL.1⟩)
        rw [val_mem knd hm] at dg
        exact ⟨da, v, rfl, dg, h⟩
      · exact q D H2 hD2 h2 s2
    · rw [decide_eq_false (show ¬ V.str m = V.str "name" from fun z => e (V.str.inj z))]
      unfold RowTold at q
      rw [if_neg e] at q
      walk_at "gw"
      refine map_keysK (F := fun _ v => v) hd (by omega) (fun H' R fr h => ?_) (fun od H' k v R hL hm h => ?_) (fun D H2 hD2 s2 h2 => ?_)
      · have h'q := fr _ _ hq dq
        walk_at "go"
        exact h
      · have h'q := hL.2 _ _ hq dq
        walk_at "go"
        have dg := Tw.dgetK (k := k) (.inr ⟨od, hL.1⟩)
        rw [val_mem knd hm] at dg
        exact ⟨da, v, rfl, dg, h _ (Same.refl _)⟩
      · exact q D H2 hD2 h2 s2
theorem ok_Query_filled (T : Txt K mg Z) : FnOk P w K mg base CX0 2 Z.a_Query_filled Z.d_Query_filled ["self"] (sp_Query_filled Z.c_Query) := by
  refine T.F_Query_filled.ok sc_Query_filled (fun vs H Q E h => ?_) (fun cdv A outer s H vs Q E hr h => ?_)
  · obtain ⟨q, m, cs, kvs, t, rfl, _⟩ := h
    rfl
  · obtain ⟨qa, m, cs, kvs, t, rfl, ⟨dx, ca, da, ys, hq, hc, py, hd⟩, cl, szl, hin, q⟩ := h
    have nd := sc_Query_filled.nd
    have hu := hu_of hr
    have cQ := T.cl_Query
    have n1 := T.n_Query_cells
    have n2 := T.n_Query_assigned
    have lk1 := lk_cells ca da m t
    have lk2 := lk_assigned ca da m t
    obtain ⟨L, hL1, hL2, hL3⟩ := pcs_pairs py
    refine ⟨_, (pss_cons (ps_setLc (i := 1) (own := [("part", 2)]) rfl nd rfl rfl (sw_true rfl rfl rfl (by decide +kernel)) (pi_list (pe_fld (pv 0) rfl)) (blkOk_by (N := N_Query_filled) (sc := defScope s_Query_filled) (by decide +kernel)) (fun _ _ _ _ _ => (pg_name (i := 2) nd rfl (Or.inl rfl))) (fun _ _ _ _ _ => pts_nil) (fun _ _ _ _ _ => (Eg.peE (pe_ifExp (pt_cmpR op_eq (pe_ix ix_tup (pv 2) pe_int (fun _ _ => rfl)) pe_str (nomark _)) (pv 2) (pe_tup (pa_cons pe_str (pa_cons (pe_dget hu (pe_fld (pv 0) rfl) (pe_ix ix_tup (pv 2) pe_int (fun _ _ => rfl)) (fun _ _ => rfl)) pa_nil)))) (by walk_at "blk"))))
  (pss_one (ps_ret (pe_callTy Eg.cr_tup (by rfl) T.u_tuple (by decide +kernel) (pa_cons (pe_call (ok_merged T) (hr.mono (by decide)) (by rfl) T.g_merged T.F_merged.kp T.b_merged .nil pass0 (pa_cons (pv 1) pa_nil)) pa_nil))))), ?_⟩
    refine Eg.w_sig (σ := [some (.ref qa), none, none]) rfl ?_
    walk_at "gw"
    have Ll : L.length < 100000 := by
      have := congrArg List.length hL2
      rw [List.length_map] at this
      omega
    refine objs_list (xs := L) (G := fun q => .ref q.1) (F := fun q => fillP kvs q.2) (by rw [hc, hL1]) Ll (fun R h => ?_) (fun H' z R s' hz h => ?_) (fun D H1 zs hD s1 h1 pz => ?_)
    · walk_at "go"
      exact h
    · obtain ⟨t', c⟩ := z
      have ht := s' _ _ (hL3 _ hz)
      have h'q := s' _ _ hq
      have h'd := s' _ _ hd
      cases c with
      | inl l =>
        have ht : H' t' = some (.tup [.str "say", .str (S l)]) := ht
        walk_at "go"
        rw [decide_eq_true (rfl : V.str "say" = V.str "say")]
        walk_at "go"
        exact h _ _ (Same.refl _) ht
      | inr k =>
        have ht : H' t' = some (.tup [.str "hole", kV k]) := ht
        have kin : k ∈ keys cs := keys_sub (by rw [← hL2]; exact List.mem_map.mpr ⟨_, hz, rfl⟩)
        obtain ⟨v, hv⟩ := val_some (hin k kin)
        have dg := Tw.dgetK (k := k) (.inl h'd)
        rw [hv] at dg
        walk_at "go"
        rw [decide_eq_false (show ¬ V.str "hole" = V.str "say" from fun z => absurd (V.str.inj z) (by decide +kernel))]
        walk_at "go"
        refine ⟨da, v, rfl, dg, ?_⟩
        walk_at "go"
        intro p hp
        refine h _ _ (fun c o e => Eg.upd_old e hp) (upd_same.trans ?_)
        show _ = some (HO.tup [V.str "value", (valV kvs k).getD .non])
        rw [hv]
        rfl
    · rw [show L.map (fun q => fillP kvs q.2) = cs.map (fillP kvs) by rw [← hL2, List.map_map]; rfl] at pz
      walk_at "go"
      refine ⟨D, zs, cs.map (fillP kvs), rfl, h1, pz, ?_, by rw [List.length_map]; exact cl, by rw [szC_fill]; exact szl, fun p ws H2 hp h2 pw s2 => ?_⟩
      · intro p hp
        obtain ⟨c, _, rfl⟩ := List.mem_map.mp hp
        exact fillP_ok kvs c
      walk_at "go"
      refine Eg.c_tupL (SqL.of h2) fun u hu' => ?_
      have hp0 : H1 u = none := s2.free hu'
      refine q u ws _ (s1.free hp0) upd_same (pw.same fun b ys e => Eg.upd_old e hu') fun b o e => Eg.upd_old ((s1.trans s2) b o e) hu'
theorem ok_Query_len (T : Txt K mg Z) : FnOk P w K mg base CX0 1 Z.a_Query_len Z.d_Query_len ["self"] (sp_Query_len Z.c_Query) := by
  refine T.F_Query_len.ok sc_Query_len (fun vs H Q E h => ?_) (fun cdv A outer s H vs Q E hr h => ?_)
  · obtain ⟨q, m, cs, kvs, t, rfl, _⟩ := h
    rfl
  · obtain ⟨qa, m, cs, kvs, t, rfl, ⟨dx, ca, da, ys, hq, hc, py, hd⟩, cl, q⟩ := h
    have nd := sc_Query_len.nd
    have cQ := T.cl_Query
    have n1 := T.n_Query_cells
    have lk1 := lk_cells ca da m t
    obtain ⟨L, hL1, hL2, hL3⟩ := pcs_pairs py
    refine ⟨_, (pss_one (ps_ret (pe_callB Eg.cr_len (by rfl) T.u_len (by decide +kernel) (pa_cons (pe_lc (own := [("part", 1)]) rfl nd (pi_list (pe_fld (pv 0) rfl)) (blkOk_by (N := N_Query_len) (sc := defScope s_Query_len) (by decide +kernel)) (fun _ _ _ _ _ => (pg_name (i := 1) nd rfl (Or.inl rfl))) (fun _ _ _ _ _ => (Eg.ptsE (pts_one (pt_cmpR op_eq (pe_ix ix_tup (pv 1) pe_int (fun _ _ => rfl)) pe_str (nomark _))) (by walk_at "blk"))) (fun _ _ _ _ _ => (Eg.peE (pv 1) (by walk_at "blk")))) pa_nil)))), ?_⟩
    refine Eg.w_sig (σ := [some (.ref qa), none]) rfl ?_
    walk_at "gw"
    have Ll : L.length < 100000 := by
      have := congrArg List.length hL2
      rw [List.length_map] at this
      omega
    refine fm_list (xs := L) (G := fun q => .ref q.1) (F := fun q => .ref q.1) (P := fun q => isHole q.2) (by rw [hc, hL1]) Ll (fun R h => ?_) (fun H' z R s' hz h => ?_) (fun H' z R s' hz hp h => ?_) (fun D H1 hD s1 h1 => ?_)
    · walk_at "go"
      exact h
    · obtain ⟨t', c⟩ := z
      have ht := s' _ _ (hL3 _ hz)
      cases c with
      | inl l =>
        have ht : H' t' = some (.tup [.str "say", .str (S l)]) := ht
        walk_at "go"
        rw [d_sh]
        exact h _ (Same.refl _)
      | inr k =>
        have ht : H' t' = some (.tup [.str "hole", kV k]) := ht
        walk_at "go"
        rw [decide_eq_true (rfl : V.str "hole" = V.str "hole")]
        exact h _ (Same.refl _)
    · walk_at "go"
      exact h _ (Same.refl _)
    · walk_at "go"
      rw [List.length_map, keys_filt_len hL2]
      exact q H1 s1
end
/-! what a query holds, as data -/
inductive TV : V → Prop
  | int (i : Int) : (if i < 0 then -i else i) < most → TV (.int i)
  | str (l : List Nat) : (∀ c ∈ l, 32 ≤ c ∧ c ≤ 126) → TV (.str (S l))
theorem TV.of {v : V} (h : DV v) : TV v := by
  cases h with
  | int i hi => exact .int i hi
  | str l _ h => exact .str l h
def TP (p : Pc) : Prop := ∀ v ∈ p.vs, TV v
theorem say_S : ("say" : Str) = S [115, 97, 121] := by decide +kernel
theorem value_S : ("value" : Str) = S [118, 97, 108, 117, 101] := by decide +kernel
theorem TP.say {l : List Nat} (h : ∀ c ∈ l, 32 ≤ c ∧ c ≤ 126) : TP (.say l) := fun v hv => by
  have hv : v ∈ [V.str "say", V.str (S l)] := hv
  rcases List.mem_cons.mp hv with rfl | hv
  · rw [say_S]
    exact .str _ (by decide)
  · rw [List.mem_singleton.mp hv]
    exact .str l h
theorem TP.txt {l : List Nat} (h : TP (.say l)) : ∀ c ∈ l, 32 ≤ c ∧ c ≤ 126 := by
  have := h (V.str (S l)) (List.mem_cons_of_mem _ List.mem_cons_self)
  generalize e : V.str (S l) = v at this
  cases this with
  | int i _ => cases e
  | str l' h' =>
    have := S_inj (V.str.inj e)
    rw [this]
    exact h'
theorem TP.val {v : V} (h : TV v) : TP (.oth "value" [v]) := fun x hx => by
  have hx : x ∈ [V.str "value", v] := hx
  rcases List.mem_cons.mp hx with rfl | hx
  · rw [value_S]
    exact .str _ (by decide)
  · rw [List.mem_singleton.mp hx]
    exact h
theorem put_tp {acc : List Pc} {p : Pc} (ha : ∀ q ∈ acc, TP q) (hp : TP p) : ∀ q ∈ put acc p, TP q := by
  rcases put_cases acc p with ⟨_, e⟩ | ⟨m, l, _, rfl, hl, e⟩ | ⟨_, e⟩
  · rw [e]
    exact ha
  · rw [e]
    intro q hq
    rcases List.mem_append.mp hq with hq | hq
    · exact ha q ((List.dropLast_sublist acc).subset hq)
    · rw [List.mem_singleton.mp hq]
      refine TP.say fun c hc => ?_
      rcases List.mem_append.mp hc with hc | hc
      · exact (ha _ (List.mem_of_getLast? hl)).txt c hc
      · exact hp.txt c hc
  · rw [e]
    intro q hq
    rcases List.mem_append.mp hq with hq | hq
    · exact ha q hq
    · rw [List.mem_singleton.mp hq]
      exact hp
theorem merge_tp {ps : List Pc} (h : ∀ p ∈ ps, TP p) : ∀ p ∈ merge ps, TP p := by
  have key : ∀ (qs acc : List Pc), (∀ p ∈ acc, TP p) → (∀ p ∈ qs, TP p) → ∀ p ∈ qs.foldl put acc, TP p := by
    intro qs
    induction qs with
    | nil => exact fun acc ha _ => ha
    | cons q r ih => exact fun acc ha hq => ih _ (put_tp ha (hq q List.mem_cons_self)) fun p hp => hq p (List.mem_cons_of_mem _ hp)
  exact key ps [] (fun p hp => nomatch hp) h
theorem mem_of_val {kvs : List (Key × V)} {k : Key} {v : V} (h : valV kvs k = some v) : (k, v) ∈ kvs := by
  induction kvs with
  | nil => cases h
  | cons p r ih =>
    by_cases e : p.1 = k
    · rw [valV_pos e] at h
      rw [← e, ← Option.some.inj h]
      exact List.mem_cons_self
    · rw [valV_neg e] at h
      exact List.mem_cons_of_mem _ (ih h)
/-- what is known of a query's cells and table -/
structure Qy (cs : List Cl) (kvs : List (Key × V)) : Prop where
  few : cs.length < 200
  size : szC cs < 20000
  lit : ∀ l, Sum.inl l ∈ cs → ∀ c ∈ l, litB c = true
  once : (kvs.map (·.1)).Nodup
  vals : ∀ y ∈ kvs, DV y.2
  has : ∀ k ∈ keys cs, k ∈ kvs.map (·.1)
  fewK : kvs.length < 60
theorem lit_rng {c : Nat} (h : litB c = true) : 32 ≤ c ∧ c ≤ 126 := by
  unfold litB at h
  simp only [Bool.and_eq_true, decide_eq_true_eq] at h
  exact h.1.1.1
theorem Qy.tp {cs : List Cl} {kvs : List (Key × V)} (h : Qy cs kvs) : ∀ p ∈ fill kvs cs, TP p := by
  refine merge_tp fun p hp => ?_
  obtain ⟨c, hc, rfl⟩ := List.mem_map.mp hp
  cases c with
  | inl l => exact TP.say fun c hx => lit_rng (h.lit l hc c hx)
  | inr k =>
    obtain ⟨v, hv⟩ := val_some (h.has k (keys_sub hc))
    show TP (.oth "value" [(valV kvs k).getD .non])
    rw [hv]
    exact TP.val (TV.of (h.vals _ (mem_of_val hv)))
def dV : V → PyData
  | .int i => .int i
  | .str s => .str s
  | _ => .none
def dPc (p : Pc) : PyData := .tuple (p.vs.map dV)
def dPs (ps : List Pc) : PyData := .tuple (ps.map dPc)
section
variable {K : PySem.W.Frag} {H : Hp}
theorem dp_tv {v : V} (h : TV v) : Dp K H v (dV v) := by
  cases h with
  | int i _ => exact .int i
  | str l _ => exact .str _
theorem dp_tvs : ∀ {vs : List V}, (∀ v ∈ vs, TV v) → DpAll K H vs (vs.map dV)
  | [], _ => .nil
  | v :: r, h => .cons (dp_tv (h v List.mem_cons_self)) (dp_tvs fun x hx => h x (List.mem_cons_of_mem _ hx))
theorem dp_pcs : ∀ {ys : List V} {ps : List Pc}, PcsAt H ys ps → (∀ p ∈ ps, TP p) → DpAll K H ys (ps.map dPc)
  | _, _, .nil, _ => .nil
  | _, _, .cons ⟨t, e, ht⟩ r, h => by
    subst e
    exact .cons (.tup (SqT.of ht) (dp_tvs (h _ List.mem_cons_self))) (dp_pcs r fun x hx => h x (List.mem_cons_of_mem _ hx))
theorem dp_fill {p : Addr} {ys : List V} {ps : List Pc} (hp : H p = some (.tup ys)) (py : PcsAt H ys ps) (h : ∀ q ∈ ps, TP q) : Dp K H (.ref p) (dPs ps) := .tup (SqT.of hp) (dp_pcs py h)
end
theorem lay_tv {v : V} (h : TV v) : (dV v).canLay0 = true := by
  cases h with
  | int i _ => rfl
  | str l h =>
    show PySem.PyData.strOk (S l) = true
    refine Array.all_eq_true_iff_forall_mem.mpr fun c hc => ?_
    have := h c (Array.mem_toList_iff.mpr hc)
    exact decide_eq_true (by omega)
theorem lay_all : ∀ {ds : List PyData}, (∀ d ∈ ds, d.canLay0 = true) → PyData.canLayAll0 ds = true
  | [], _ => rfl
  | d :: r, h => by
    rw [PyData.canLayAll0, h d List.mem_cons_self, lay_all fun x hx => h x (List.mem_cons_of_mem _ hx)]
    rfl
theorem lay_fill {ps : List Pc} (h : ∀ p ∈ ps, TP p) : (dPs ps).canLay0 = true := by
  unfold dPs
  rw [PyData.canLay0]
  refine lay_all fun d hd => ?_
  obtain ⟨p, hp, rfl⟩ := List.mem_map.mp hd
  unfold dPc
  rw [PyData.canLay0]
  refine lay_all fun d hd => ?_
  obtain ⟨v, hv, rfl⟩ := List.mem_map.mp hd
  exact lay_tv (h p hp v hv)
theorem shape_fill {ps : List Pc} (h : ∀ p ∈ ps, TP p) : PySem.SeqAt.shaped (dPs ps) = true := by
  unfold PySem.SeqAt.shaped
  rw [Bool.and_eq_true, decide_eq_true_iff]
  refine ⟨lay_fill h, ?_⟩
  have dv : ∀ v, (dV v).depth = 0 := fun v => by cases v <;> rfl
  have d1 : ∀ {n : Nat} (ds : List PyData), (∀ d ∈ ds, d.depth ≤ n) → PyData.depthAll ds ≤ n := by
    intro n ds
    induction ds with
    | nil => exact fun _ => Nat.zero_le _
    | cons d r ih =>
      intro h
      rw [PyData.depthAll]
      exact Nat.max_le.mpr ⟨h d List.mem_cons_self, ih fun x hx => h x (List.mem_cons_of_mem _ hx)⟩
  have d2 := d1 (n := 1) (ps.map dPc) fun d hd => by
    obtain ⟨p, _, rfl⟩ := List.mem_map.mp hd
    have := d1 (n := 0) (p.vs.map dV) fun d hd => by
      obtain ⟨v, _, rfl⟩ := List.mem_map.mp hd
      exact Nat.le_of_eq (dv v)
    unfold dPc
    rw [PyData.depth]
    omega
  unfold dPs
  rw [PyData.depth]
  omega
theorem eqv_fill {ps : List Pc} (h : ∀ p ∈ ps, TP p) : PyData.eqv (dPs ps) (dPs ps) = true := PySem.SeqAt.eqv_refl _ (lay_fill h)
end LW

local macro_rules | `(tactic| walk_at "tx") => `(tactic| first
  | with_reducible refine Mk.w_prop ?_
  | with_reducible refine Mk.w_methK ?_)
namespace LW
open PySem L2 SX Tx Tc Tl Kq
/-! a query in another manner -/
def tok1 (m : Str) (w : List Nat) (us : List Key) : Cl → List Tk
  | .inl l => l.map .ch
  | .inr k => [.ho (keyT m w (us.idxOf k + 1))]
def toksC (m : Str) (w : List Nat) (cs : List Cl) : List Tk := cs.flatMap (tok1 m w (uniq (keys cs)))
def cntD (us : List Key) : List (Key × V) := us.zipIdx.map fun p => (p.1, V.int ((p.2 : Int) + 1))
def valOf (kvs : List (Key × V)) (k : Key) : V := (valV kvs k).getD .non
def namD (w : List Nat) (kvs : List (Key × V)) (us : List Key) : List (Key × V) := us.zipIdx.map fun p => (.inr (S (w ++ TL.numL (p.2 + 1))), valOf kvs p.1)
def rowC (m : Str) (w : List Nat) (kvs : List (Key × V)) (cs : List Cl) : List (Key × V) :=
  if m = "order" then numd 0 ((keys cs).map (valOf kvs)) else if m = "number" then numd 1 ((uniq (keys cs)).map (valOf kvs))
  else namD w kvs (uniq (keys cs))
theorem cntD_snoc (us : List Key) (k : Key) : cntD (us ++ [k]) = cntD us ++ [(k, V.int ((us.length : Int) + 1))] := by
  unfold cntD
  rw [List.zipIdx_append, List.map_append]
  simp
theorem cntD_keys (us : List Key) : (cntD us).map (·.1) = us := by
  unfold cntD
  rw [List.map_map]
  exact List.zipIdx_map_fst 0 us
theorem cntD_val {us : List Key} (nd : us.Nodup) {k : Key} (h : k ∈ us) : valV (cntD us) k = some (.int ((us.idxOf k : Int) + 1)) := by
  refine val_mem (by rw [cntD_keys]; exact nd) (List.mem_map.mpr ⟨(k, us.idxOf k), ?_, rfl⟩)
  rw [List.mk_mem_zipIdx_iff_getElem?]
  have hl := List.idxOf_lt_length_iff.mpr h
  exact (List.getElem?_eq_getElem hl).trans (congrArg some (List.getElem_idxOf hl))
theorem cntD_at {us : List Key} (nd : us.Nodup) {k : Key} {i : Nat} (h : us[i]? = some k) : valV (cntD us) k = some (.int ((i : Int) + 1)) :=
  val_mem (by rw [cntD_keys]; exact nd) (List.mem_map.mpr ⟨(k, i), by rw [List.mk_mem_zipIdx_iff_getElem?]; exact h, rfl⟩)
theorem sum_len (X : List (List Nat)) : ((X.map S).map (·.length)).sum = X.flatten.length := by
  rw [List.length_flatten, List.map_map]
  congr 1
theorem namD_snoc (w : List Nat) (kvs : List (Key × V)) (us : List Key) (k : Key) : namD w kvs (us ++ [k]) = namD w kvs us ++ [(.inr (S (w ++ TL.numL (us.length + 1))), valOf kvs k)] := by
  unfold namD
  rw [List.zipIdx_append, List.map_append]
  simp
theorem namD_keys (w : List Nat) (kvs : List (Key × V)) (us : List Key) : (namD w kvs us).map (·.1) = (List.range us.length).map fun i => (.inr (S (w ++ TL.numL (i + 1))) : Key) := by
  unfold namD
  rw [List.map_map, show List.range us.length = us.zipIdx.map (·.2) by rw [List.zipIdx_map_snd, List.range_eq_range'], List.map_map]
  rfl
theorem nam_inj {w : List Nat} {i j : Nat} (h : (.inr (S (w ++ TL.numL (i + 1))) : Key) = .inr (S (w ++ TL.numL (j + 1)))) : i = j := by
  have := TL.numL_inj (List.append_cancel_left (S_inj (Sum.inr.inj h)))
  omega
theorem namD_nodup (w : List Nat) (kvs : List (Key × V)) (us : List Key) : ((namD w kvs us).map (·.1)).Nodup := by
  rw [namD_keys]
  refine List.pairwise_map.mpr (List.nodup_range.imp ?_)
  intro a b h e
  exact h (nam_inj e)
theorem namD_len (w : List Nat) (kvs : List (Key × V)) (us : List Key) : (namD w kvs us).length = us.length := by
  unfold namD
  rw [List.length_map, List.length_zipIdx]
def keyOf : Cl → Key | .inl _ => .inl 0 | .inr k => k
theorem keys_pick (F : Key → V) : ∀ L : List (Addr × Cl), (L.filter fun q => isHole q.2).map (fun q => F (keyOf q.2)) = (keys (L.map (·.2))).map F
  | [] => rfl
  | (_, .inl _) :: r => keys_pick F r
  | (_, .inr k) :: r => by
    exact congrArg (F k :: ·) (keys_pick F r)
theorem joinL_emp : ∀ ys : List (List Nat), TL.joinL [] ys = ys.flatten
  | [] => rfl
  | [p] => by
    show p = p ++ []
    rw [List.append_nil]
  | p :: q :: r => by
    show p ++ ([] ++ TL.joinL [] (q :: r)) = p ++ (q :: r).flatten
    rw [List.nil_append, joinL_emp (q :: r)]
theorem join_emp (X : List (List Nat)) : Txt.join "" (X.map S) = S X.flatten := by
  rw [show ("" : Str) = S [] by decide +kernel, join_S, joinL_emp]
theorem flat_toks (m : Str) (w : List Nat) (us : List Key) : ∀ cs : List Cl, (cs.map fun c => flat (tok1 m w us c)).flatten = flat (cs.flatMap (tok1 m w us))
  | [] => rfl
  | c :: r => by
    rw [List.map_cons, List.flatten_cons, flat_toks m w us r, List.flatMap_cons, flat_app]
theorem holes_ch : ∀ l : List Nat, holes (l.map Tk.ch) = []
  | [] => rfl
  | _ :: r => holes_ch r
theorem holes_toks (m : Str) (w : List Nat) (us : List Key) : ∀ cs : List Cl, holes (cs.flatMap (tok1 m w us)) = (keys cs).map fun k => keyT m w (us.idxOf k + 1)
  | [] => rfl
  | .inl l :: r => by
    rw [List.flatMap_cons, holes_app, holes_toks m w us r]
    show holes (l.map Tk.ch) ++ _ = _
    rw [holes_ch]
    rfl
  | .inr k :: r => by
    rw [List.flatMap_cons, holes_app, holes_toks m w us r]
    rfl
theorem keyT_len {m : Str} {w : List Nat} {n : Nat} (hw : w.length ≤ 8) (hn : n < 1000000) : (keyT m w n).length ≤ 14 := by
  have := TL.numL_len (n := n) (k := 6) (by decide) (by omega)
  unfold keyT
  split
  · exact Nat.zero_le _
  · split
    · rw [List.length_append]
      omega
    · omega
theorem flat_toks_len {m : Str} {w : List Nat} {us : List Key} (hw : w.length ≤ 8) (hu : us.length < 1000) : ∀ cs : List Cl, (flat (cs.flatMap (tok1 m w us))).length ≤ szC cs + 16 * cs.length
  | [] => Nat.zero_le _
  | .inl l :: r => by
    have := flat_toks_len (m := m) hw hu r
    rw [List.flatMap_cons, flat_app, List.length_append]
    show (flat (l.map Tk.ch)).length + _ ≤ szC ([.inl l] ++ r) + _
    unfold szC at this ⊢
    rw [flat_ch, List.map_append, sz_app, List.map_cons, List.map_nil, sz_one, List.length_cons]
    show l.length + _ ≤ l.length + _ + _
    omega
  | .inr k :: r => by
    have := flat_toks_len (m := m) hw hu r
    have kl := keyT_len (m := m) (n := us.idxOf k + 1) hw (by have := List.idxOf_le_length (a := k) (l := us); omega)
    rw [List.flatMap_cons, flat_app, List.length_append]
    have e : (flat (tok1 m w us (.inr k))).length = (keyT m w (us.idxOf k + 1)).length + 2 := by
      show (123 :: (keyT m w (us.idxOf k + 1) ++ 125 :: [])).length = _
      rw [List.length_cons, List.length_append]
      rfl
    rw [e]
    show _ ≤ szC ([.inr k] ++ r) + _
    unfold szC at this ⊢
    rw [List.map_append, sz_app, List.map_cons, List.map_nil, sz_one, List.length_cons]
    show _ ≤ 0 + _ + _
    omega
theorem keyB_num {n : Nat} (h : n < 999999) : keyB "number" (TL.numL (n + 1)) = true := by
  unfold keyB
  rw [if_neg (show ¬ decide (("number" : Str) = "order") = true by decide +kernel), if_pos (show decide (("number" : Str) = "number") = true by decide +kernel), count_num (by omega), Bool.and_true, decide_eq_false]
  · rfl
  · intro e
    have e0 : TL.numL 0 = [48] := by rw [TL.numL_lt (by decide)]
    have := TL.numL_inj (e.trans e0.symm)
    omega
theorem keyB_name {l : List Nat} (h : labelB l = true) : keyB "name" l = true := by
  unfold keyB
  rw [if_neg (show ¬ decide (("name" : Str) = "order") = true by decide +kernel), if_neg (show ¬ decide (("name" : Str) = "number") = true by decide +kernel), h, Bool.true_or]
theorem low_of {w : List Nat} (h : wordB w = true) {c : Nat} (hc : c ∈ w) : c ≤ 122 := by
  unfold wordB at h
  rw [Bool.and_eq_true] at h
  have := List.all_eq_true.mp h.2 c hc
  unfold low at this
  simp only [Bool.and_eq_true, decide_eq_true_eq] at this
  exact this.2
theorem rd_toks {m : Str} {w : List Nat} {us : List Key} {cs : List Cl} (hm : Mn m) (hw : wordB w = true) (hu : us.length < 1000) (lit : ∀ l, Sum.inl l ∈ cs → ∀ c ∈ l, litB c = true) : ∀ t ∈ cs.flatMap (tok1 m w us), RdOk m t := by
  intro t ht
  obtain ⟨c, hc, ht⟩ := List.mem_flatMap.mp ht
  cases c with
  | inl l =>
    obtain ⟨x, hx, rfl⟩ := List.mem_map.mp ht
    exact lit l hc x hx
  | inr k =>
    have il := List.idxOf_le_length (a := k) (l := us)
    rw [List.mem_singleton.mp ht]
    have nd : ∀ n, 125 ∉ TL.numL n := fun n hm => by
      have := TL.numL_digits n 125 hm
      omega
    rcases hm with rfl | rfl | rfl
    · refine ⟨by decide +kernel, ?_, ?_⟩
      · unfold keyT
        rw [if_pos rfl]
        exact fun z => nomatch z
      · unfold keyT
        rw [if_pos rfl]
        decide +kernel
    · unfold RdOk keyT
      rw [if_neg fun z => o_number z.symm, if_neg n_name]
      exact ⟨by decide +kernel, nd _, keyB_num (by omega)⟩
    · unfold RdOk keyT
      rw [if_neg fun z => o_name z.symm, if_pos rfl]
      refine ⟨by decide +kernel, fun h => ?_, keyB_name (label_of hw (.inr (count_num (by omega))))⟩
      rcases List.mem_append.mp h with h | h
      · have := low_of hw h
        omega
      · exact nd _ h
theorem cells_keys_name (w : List Nat) (cs : List Cl) : keys (cellsOf "name" (toksC "name" w cs)) = (keys cs).map fun k => .inr (S (w ++ TL.numL ((uniq (keys cs)).idxOf k + 1))) := by
  unfold cellsOf toksC
  rw [keys_name, keys_read, holes_toks, List.map_map]
  refine List.map_congr_left fun k _ => ?_
  show (Sum.inr (S (keyT "name" w _)) : Key) = _
  unfold keyT
  rw [if_neg fun z => o_name z.symm, if_pos rfl]
theorem cells_keys_number {w : List Nat} {cs : List Cl} (hl : cs.length < 1000) : keys (cellsOf "number" (toksC "number" w cs)) = (keys cs).map fun k => .inl (((uniq (keys cs)).idxOf k : Int) + 1) := by
  have ul : (uniq (keys cs)).length ≤ cs.length := Nat.le_trans (uniq_len _) (List.length_filterMap_le _ _)
  unfold cellsOf toksC
  rw [keys_number n_name rfl, keys_read, holes_toks, List.map_map, List.map_map]
  refine List.map_congr_left fun k _ => ?_
  have il := List.idxOf_le_length (a := k) (l := uniq (keys cs))
  show (Sum.inl (toI (.inr (S (keyT "number" w _)))) : Key) = _
  unfold keyT
  rw [if_neg fun z => o_number z.symm, if_neg n_name]
  congr 1
  show (intText? (S (TL.numL ((uniq (keys cs)).idxOf k + 1)))).getD 0 = _
  rw [← num_S ((uniq (keys cs)).idxOf k + 1), TL.int_num (Nat.le_trans (TL.numL_len (n := (uniq (keys cs)).idxOf k + 1) (k := 6) (by decide) (by omega)) (by decide))]
  rfl
theorem cells_keys_order (w : List Nat) (cs : List Cl) : keys (cellsOf "order" (toksC "order" w cs)) = (List.range (keys cs).length).map fun i => (.inl ((i : Nat) : Int) : Key) := by
  unfold cellsOf toksC
  rw [keys_order o_name o_number, keys_read, holes_toks, List.length_map, List.length_map]
  refine List.map_congr_left fun i _ => ?_
  rw [Nat.zero_add]
theorem row_len {m : Str} {w : List Nat} {kvs : List (Key × V)} {cs : List Cl} : (rowC m w kvs cs).length ≤ cs.length := by
  have kl : (keys cs).length ≤ cs.length := List.length_filterMap_le _ _
  have ul := uniq_len (keys cs)
  unfold rowC
  split
  · rw [numd_len, List.length_map]
    exact kl
  · split
    · rw [numd_len, List.length_map]
      omega
    · rw [namD_len]
      omega
theorem row_has {m : Str} {w : List Nat} {kvs : List (Key × V)} {cs : List Cl} (hm : Mn m) (hl : cs.length < 1000) : ∀ k ∈ keys (cellsOf m (toksC m w cs)), k ∈ (rowC m w kvs cs).map (·.1) := by
  intro k hk
  unfold rowC
  rcases hm with rfl | rfl | rfl
  · rw [cells_keys_order] at hk
    rw [if_pos rfl, numd_keys, List.length_map]
    obtain ⟨i, hi, rfl⟩ := List.mem_map.mp hk
    exact List.mem_map.mpr ⟨i, hi, by rw [Int.zero_add]⟩
  · rw [cells_keys_number hl] at hk
    rw [if_neg fun z => o_number z.symm, if_pos rfl, numd_keys, List.length_map]
    obtain ⟨i, hi, rfl⟩ := List.mem_map.mp hk
    exact List.mem_map.mpr ⟨_, List.mem_range.mpr (List.idxOf_lt_length_iff.mpr (uniq_mem.mpr hi)), by rw [Int.add_comm]⟩
  · rw [cells_keys_name] at hk
    rw [if_neg fun z => o_name z.symm, if_neg fun z => n_name z.symm, namD_keys]
    obtain ⟨i, hi, rfl⟩ := List.mem_map.mp hk
    exact List.mem_map.mpr ⟨_, List.mem_range.mpr (List.idxOf_lt_length_iff.mpr (uniq_mem.mpr hi)), rfl⟩
theorem row_ord {w : List Nat} {kvs : List (Key × V)} {cs : List Cl} : (rowC "order" w kvs cs).length ≤ (keys (cellsOf "order" (toksC "order" w cs))).length := by
  unfold rowC
  rw [if_pos rfl, numd_len, cells_keys_order, List.length_map, List.length_map, List.length_range]
  exact Nat.le_refl _
/-- a query made -/
theorem mk_query {C : Addr} {H : Hp} {Q : VK} {m t : Str} {r : Addr} {ts : List Tk} {kvs : List (Key × V)} (e : t = S (flat ts)) (hm : Mn m) (hl : (flat ts).length < 40000) (hok : ∀ t ∈ ts, RdOk m t) (hrow : RowAt H m r kvs) (hkl : kvs.length < 1000) (hin : ∀ k ∈ keys (cellsOf m ts), k ∈ kvs.map (·.1)) (hord : m = "order" → kvs.length ≤ (keys (cellsOf m ts)).length)
    (k : ∀ (x : Addr) (H' : Hp), H x = none → QAt C H' x m (cellsOf m ts) kvs (S (flat ts)) → Same H H' → Q (.ref x) H') : Eg.makeLeaf C (sp_Query_init C) [] E0 Q [.str m, .str t, .ref r] H := by
  intro x dx hx hdx hne
  subst e
  have sx : Same H (upd (upd H dx (.own x)) x (.ins C dx [])) := fun c o e => Eg.upd_mut (ne_of_none e hx) (Eg.upd_old e hdx)
  have hr : upd (upd H dx (.own x)) x (.ins C dx []) r = H r := by
    obtain ⟨o, ho, _⟩ := hrow.ob
    exact (sx _ _ ho).trans ho.symm
  exact ⟨x, dx, r, m, ts, kvs, rfl, upd_same, hm, hl, hok, (hrow.to hr).x, hkl, hin, hord, fun H' hq kp => ⟨rfl, k x H' hx hq.at fun c o e => kp c o (sx c o e) (ne_of_none e hx)⟩⟩
theorem mk_queryN {C : Addr} {H : Hp} {Q : VK} {m t : Str} {r : Addr} {ts : List Tk} {kvs : List (Key × V)} (e : t = S (flat ts)) (hm : Mn m) (hl : (flat ts).length < 40000) (hok : ∀ t ∈ ts, RdOk m t) (hrow : RowX H m r kvs) (hkl : kvs.length < 1000) (hin : ∀ k ∈ keys (cellsOf m ts), k ∈ kvs.map (·.1)) (hord : m = "order" → kvs.length ≤ (keys (cellsOf m ts)).length)
    (k : ∀ (x : Addr) (H' : Hp), H x = none → QAtN C H H' x m (cellsOf m ts) kvs (S (flat ts)) → Same H H' → Q (.ref x) H') : Eg.makeLeaf C (sp_Query_init C) [] E0 Q [.str m, .str t, .ref r] H := by
  intro x dx hx hdx hne
  subst e
  have sx : Same H (upd (upd H dx (.own x)) x (.ins C dx [])) := fun c o e => Eg.upd_mut (ne_of_none e hx) (Eg.upd_old e hdx)
  have hr : upd (upd H dx (.own x)) x (.ins C dx []) r = H r := by
    obtain ⟨o, ho, _⟩ := hrow.ob
    exact (sx _ _ ho).trans ho.symm
  exact ⟨x, dx, r, m, ts, kvs, rfl, upd_same, hm, hl, hok, hrow.to hr, hkl, hin, hord, fun H' ⟨dx', ca, da, ys, h1, h2, h3, h4, h5, h6⟩ kp => ⟨rfl, k x H' hx ⟨dx', ca, da, ys, h1, h2, h3, h4, sx.free h5, sx.free h6⟩ fun c o e => kp c o (sx c o e) (ne_of_none e hx)⟩⟩
def sp_canonical (C : Addr) : Sp := fun vs H Q _ => ∃ (ca da : Addr) (ys : List V) (m : Str) (w : List Nat) (cs : List Cl) (kvs : List (Key × V)), vs = [.ref ca, .ref da, .str m, .str (S w)] ∧ H ca = some (.lst ys) ∧ PcsAt H ys (cs.map pc) ∧ H da = some (.dK kvs) ∧
  Mn m ∧ wordB w = true ∧ Qy cs kvs ∧
  ∀ (q : Addr) (H' : Hp), H q = none → QAt C H' q m (cellsOf m (toksC m w cs)) (rowC m w kvs cs) (S (flat (toksC m w cs))) → Same H H' → Q (.ref q) H'
def sp_Query_turned (C : Addr) : Sp := fun vs H Q _ => ∃ (qa : Addr) (m0 t m : Str) (w : List Nat) (cs : List Cl) (kvs : List (Key × V)), vs = [.ref qa, .str m, .str (S w)] ∧ QAt C H qa m0 cs kvs t ∧ Mn m ∧ wordB w = true ∧ Qy cs kvs ∧
  ∀ (q : Addr) (H' : Hp), H q = none → QAt C H' q m (cellsOf m (toksC m w cs)) (rowC m w kvs cs) (S (flat (toksC m w cs))) → Same H H' → Q (.ref q) H'
section
variable {P : Program} {w : World} {K : PySem.W.Frag} {mg : Str → Option Value} {base : Heap} {Z : Ad}
end
end LW

local macro_rules | `(tactic| walk_at "tx") => `(tactic| first
  | with_reducible refine Mk.w_prop ?_
  | with_reducible refine Mk.w_methK ?_)
namespace LW
open PySem L2 SX Tx Tc Tl Kq
/-! turning keeps what is filled in -/
/-- parts as a row of signs and things -/
def ex : List Pc → List (Sum Nat (Str × List V))
  | [] => []
  | .say l :: r => l.map .inl ++ ex r
  | .oth t xs :: r => .inr (t, xs) :: ex r
theorem ex_app : ∀ a b : List Pc, ex (a ++ b) = ex a ++ ex b
  | [], _ => rfl
  | .say l :: r, b => by
    show l.map Sum.inl ++ ex (r ++ b) = l.map Sum.inl ++ ex r ++ ex b
    rw [ex_app r, List.append_assoc]
  | .oth t xs :: r, b => congrArg (Sum.inr (t, xs) :: ·) (ex_app r b)
def put1 (acc : List Pc) : Sum Nat (Str × List V) → List Pc
  | .inl c => put acc (.say [c])
  | .inr p => put acc (.oth p.1 p.2)
theorem put_put (acc : List Pc) {l m : List Nat} (hl : l ≠ []) (hm : m ≠ []) : put (put acc (.say l)) (.say m) = put acc (.say (l ++ m)) := by
  have hlm : l ++ m ≠ [] := fun e => hl (List.append_eq_nil_iff.mp e).1
  rcases put_cases acc (.say l) with ⟨e, _⟩ | ⟨a, b, _, e, h, e2⟩ | ⟨_, e2⟩
  · cases e
    exact absurd rfl hl
  · cases e
    rw [e2, put_say_say hlm h, put_say_say (m := a ++ l) hm (by rw [List.getLast?_concat])]
    rw [List.dropLast_concat, List.append_assoc]
  · rw [e2, put_say_say (m := l) hm (by rw [List.getLast?_concat]), List.dropLast_concat]
    by_cases h : ∃ a, acc.getLast? = some (.say a)
    · obtain ⟨a, h⟩ := h
      have := put_say_say hl h
      rw [e2] at this
      have := congrArg List.length this
      rw [last_split h, List.dropLast_concat] at this
      simp at this
    · rw [put_say_new hlm fun a e => h ⟨a, e⟩]
theorem put_all : ∀ (l : List Nat) (acc : List Pc), put acc (.say l) = (l.map Sum.inl).foldl put1 acc
  | [], acc => put_say_emp acc
  | [c], acc => rfl
  | c :: d :: r, acc => by
    rw [List.map_cons, List.foldl_cons, ← put_all (d :: r)]
    exact (put_put acc (l := [c]) (m := d :: r) (fun z => nomatch z) (fun z => nomatch z)).symm
theorem merge_ex (ps : List Pc) : merge ps = (ex ps).foldl put1 [] := by
  have key : ∀ (qs acc : List Pc), qs.foldl put acc = (ex qs).foldl put1 acc := by
    intro qs
    induction qs with
    | nil => exact fun _ => rfl
    | cons q r ih =>
      intro acc
      rw [List.foldl_cons, ih]
      cases q with
      | say l =>
        show _ = (l.map Sum.inl ++ ex r).foldl put1 acc
        rw [List.foldl_append, put_all]
      | oth t xs => rfl
  exact key ps []
theorem merge_congr {ps qs : List Pc} (h : ex ps = ex qs) : merge ps = merge qs := by rw [merge_ex, merge_ex, h]
/-- cells as a row of signs and keys -/
def exC : List Cl → List (Sum Nat Key)
  | [] => []
  | .inl l :: r => l.map .inl ++ exC r
  | .inr k :: r => .inr k :: exC r
theorem exC_app : ∀ a b : List Cl, exC (a ++ b) = exC a ++ exC b
  | [], _ => rfl
  | .inl l :: r, b => by
    show l.map Sum.inl ++ exC (r ++ b) = l.map Sum.inl ++ exC r ++ exC b
    rw [exC_app r, List.append_assoc]
  | .inr k :: r, b => congrArg (Sum.inr k :: ·) (exC_app r b)
def itV (kvs : List (Key × V)) : Sum Nat Key → Sum Nat (Str × List V)
  | .inl c => .inl c
  | .inr k => .inr ("value", [valOf kvs k])
theorem ex_fill (kvs : List (Key × V)) : ∀ cs : List Cl, ex (cs.map (fillP kvs)) = (exC cs).map (itV kvs)
  | [] => rfl
  | .inl l :: r => by
    show l.map Sum.inl ++ ex (r.map (fillP kvs)) = (l.map Sum.inl ++ exC r).map (itV kvs)
    rw [List.map_append, List.map_map, ex_fill kvs r]
    rfl
  | .inr k :: r => congrArg (itV kvs (.inr k) :: ·) (ex_fill kvs r)
theorem fill_congr {kvs kvs' : List (Key × V)} {cs cs' : List Cl} (h : (exC cs).map (itV kvs) = (exC cs').map (itV kvs')) : fill kvs cs = fill kvs' cs' := by
  unfold fill
  exact merge_congr (by rw [ex_fill, ex_fill, h])
theorem exC_putC (acc : List Cl) (c : Cl) : exC (putC acc c) = exC acc ++ exC [c] := by
  cases c with
  | inr k => exact exC_app _ _
  | inl l =>
    show exC (if l = [] then acc else match acc.getLast? with
      | some (.inl m) => acc.dropLast ++ [.inl (m ++ l)]
      | _ => acc ++ [.inl l]) = _
    by_cases hl : l = []
    · rw [if_pos hl, hl]
      exact (List.append_nil _).symm
    · rw [if_neg hl]
      split
      · rename_i m h
        have := last_split h
        have e := congrArg exC this
        rw [exC_app] at e
        rw [e, exC_app, List.append_assoc]
        congr 1
        show (m ++ l).map Sum.inl ++ [] = (m.map Sum.inl ++ []) ++ (l.map Sum.inl ++ [])
        simp
      · exact exC_app _ _
theorem exC_merge (cs : List Cl) : exC (mergeC cs) = exC cs := by
  have key : ∀ (qs acc : List Cl), exC (qs.foldl putC acc) = exC acc ++ exC qs := by
    intro qs
    induction qs with
    | nil => exact fun acc => (List.append_nil _).symm
    | cons q r ih =>
      intro acc
      rw [List.foldl_cons, ih, exC_putC, List.append_assoc, ← exC_app]
      rfl
  exact key cs []
def tkI : Tk → Sum Nat Key
  | .ch c => .inl c
  | .ho k => .inr (.inr (S k))
theorem exC_raw : ∀ (ts : List Tk) (cur : List Nat), exC (rawC cur ts) = cur.map .inl ++ ts.map tkI
  | [], _ => rfl
  | .ch c :: r, cur => by
    show exC (rawC (cur ++ [c]) r) = _
    rw [exC_raw r, List.map_append, List.append_assoc]
    rfl
  | .ho k :: r, cur => by
    show cur.map Sum.inl ++ (Sum.inr (Sum.inr (S k)) :: exC (rawC [] r)) = _
    rw [exC_raw r]
    rfl
theorem exC_read (ts : List Tk) : exC (read ts) = ts.map tkI := by
  unfold Tc.read
  rw [exC_merge, exC_raw]
  rfl
/-- keys by a manner, along the row -/
def num1 (m : Str) : Nat → List (Sum Nat Key) → List (Sum Nat Key)
  | _, [] => []
  | n, .inl c :: r => .inl c :: num1 m n r
  | n, .inr k :: r => .inr (if m = "name" then k else if m = "number" then .inl (toI k) else .inl (n : Int)) :: num1 m (n + 1) r
theorem num1_ch (m : Str) (n : Nat) (r : List (Sum Nat Key)) : ∀ l : List Nat, num1 m n (l.map .inl ++ r) = l.map .inl ++ num1 m n r
  | [] => rfl
  | c :: l => congrArg (Sum.inl c :: ·) (num1_ch m n r l)
theorem exC_key (m : Str) : ∀ (cs : List Cl) (n : Nat), exC (keyC m n cs) = num1 m n (exC cs)
  | [], _ => rfl
  | .inl l :: r, n => by
    show l.map Sum.inl ++ exC (keyC m n r) = num1 m n (l.map .inl ++ exC r)
    rw [num1_ch, exC_key m r]
  | .inr k :: r, n => congrArg (_ :: ·) (exC_key m r (n + 1))
theorem num1_name : ∀ (xs : List (Sum Nat Key)) (n : Nat), num1 "name" n xs = xs
  | [], _ => rfl
  | .inl c :: r, n => congrArg (Sum.inl c :: ·) (num1_name r n)
  | .inr k :: r, n => by
    show Sum.inr (if ("name" : Str) = "name" then k else _) :: num1 "name" (n + 1) r = _
    rw [if_pos rfl, num1_name r]
def gK (h : Key → Key) : Sum Nat Key → Sum Nat Key
  | .inl c => .inl c
  | .inr k => .inr (h k)
theorem num1_number : ∀ (xs : List (Sum Nat Key)) (n : Nat), num1 "number" n xs = xs.map (gK fun k => .inl (toI k))
  | [], _ => rfl
  | .inl c :: r, n => congrArg (Sum.inl c :: ·) (num1_number r n)
  | .inr k :: r, n => by
    show Sum.inr (if ("number" : Str) = "name" then k else if ("number" : Str) = "number" then .inl (toI k) else _) :: num1 "number" (n + 1) r = _
    rw [if_neg n_name, if_pos rfl, num1_number r]
    rfl
theorem toks_items (m : Str) (w : List Nat) (us : List Key) : ∀ cs : List Cl, (cs.flatMap (tok1 m w us)).map tkI = (exC cs).map (gK fun k => .inr (S (keyT m w (us.idxOf k + 1))))
  | [] => rfl
  | .inl l :: r => by
    rw [List.flatMap_cons, List.map_append, toks_items m w us r]
    show (l.map Tk.ch).map tkI ++ _ = (l.map Sum.inl ++ exC r).map _
    rw [List.map_append, List.map_map, List.map_map]
    rfl
  | .inr k :: r => by
    rw [List.flatMap_cons, List.map_append, toks_items m w us r]
    rfl
/-- the row of a text's cells -/
theorem exC_cells (m : Str) (w : List Nat) (cs : List Cl) : exC (cellsOf m (toksC m w cs)) = num1 m 0 ((exC cs).map (gK fun k => .inr (S (keyT m w ((uniq (keys cs)).idxOf k + 1))))) := by
  unfold cellsOf toksC
  rw [exC_key, exC_read, toks_items]
theorem val_numd {f : Int} {xs : List V} {i : Nat} {v : V} (h : xs[i]? = some v) : valOf (numd f xs) (.inl (f + (i : Int))) = v := by
  unfold valOf
  rw [val_mem (numd_nodup xs f) (v := v) ?_]
  · rfl
  · induction xs generalizing f i with
    | nil => cases h
    | cons x r ih =>
      cases i with
      | zero =>
        cases h
        refine List.mem_cons.mpr (.inl ?_)
        show ((Sum.inl (f + 0) : Key), _) = (.inl f, _)
        rw [Int.add_zero]
      | succ j =>
        have := ih (f := f + 1) (i := j) h
        refine List.mem_cons_of_mem _ ?_
        rw [show f + ((j + 1 : Nat) : Int) = f + 1 + (j : Int) by omega]
        exact this
theorem mem_keys_ex : ∀ {cs : List Cl} {k : Key}, Sum.inr k ∈ exC cs → k ∈ keys cs
  | .inl l :: r, k, h => by
    rcases List.mem_append.mp (show Sum.inr k ∈ l.map Sum.inl ++ exC r from h) with h | h
    · obtain ⟨_, _, e⟩ := List.mem_map.mp h
      cases e
    · exact mem_keys_ex (cs := r) h
  | .inr k' :: r, k, h => by
    rcases List.mem_cons.mp (show Sum.inr k ∈ Sum.inr k' :: exC r from h) with h | h
    · cases h
      exact List.mem_cons_self
    · exact List.mem_cons_of_mem _ (mem_keys_ex (cs := r) h)
def kE : List (Sum Nat Key) → List Key
  | [] => []
  | .inl _ :: r => kE r
  | .inr k :: r => k :: kE r
theorem kE_ch (r : List (Sum Nat Key)) : ∀ l : List Nat, kE (l.map .inl ++ r) = kE r
  | [] => rfl
  | _ :: l => kE_ch r l
theorem kE_ex : ∀ cs : List Cl, kE (exC cs) = keys cs
  | [] => rfl
  | .inl l :: r => by
    show kE (l.map .inl ++ exC r) = keys r
    rw [kE_ch, kE_ex r]
  | .inr k :: r => congrArg (k :: ·) (kE_ex r)
theorem order_row (kvs : List (Key × V)) (h : Key → Key) : ∀ (xs : List (Sum Nat Key)) (pre : List V), (num1 "order" pre.length (xs.map (gK h))).map (itV (numd 0 (pre ++ (kE xs).map (valOf kvs)))) = xs.map (itV kvs)
  | [], _ => rfl
  | .inl c :: r, pre => congrArg (Sum.inl c :: ·) (order_row kvs h r pre)
  | .inr k :: r, pre => by
    have e := order_row kvs h r (pre ++ [valOf kvs k])
    rw [List.length_append, List.append_assoc] at e
    show itV _ (.inr (if ("order" : Str) = "name" then h k else if ("order" : Str) = "number" then .inl (toI (h k)) else .inl (pre.length : Int))) :: (num1 "order" (pre.length + 1) (r.map (gK h))).map (itV (numd 0 (pre ++ valOf kvs k :: (kE r).map (valOf kvs)))) = itV kvs (.inr k) :: r.map (itV kvs)
    rw [if_neg o_name, if_neg o_number]
    refine congr (congrArg List.cons ?_) e
    have := val_numd (f := 0) (xs := pre ++ valOf kvs k :: (kE r).map (valOf kvs)) (i := pre.length) (v := valOf kvs k) (by rw [List.getElem?_append_right (Nat.le_refl _), Nat.sub_self]; rfl)
    rw [Int.zero_add] at this
    show Sum.inr (("value" : Str), [valOf (numd 0 (pre ++ valOf kvs k :: (kE r).map (valOf kvs))) (.inl (pre.length : Int))]) = _
    rw [this]
    rfl
/-- turning keeps what is filled in -/
theorem fill_turned {m : Str} (w : List Nat) {cs : List Cl} (kvs : List (Key × V)) (hm : Mn m) (hl : cs.length < 1000) : fill (rowC m w kvs cs) (cellsOf m (toksC m w cs)) = fill kvs cs := by
  refine fill_congr ?_
  rw [exC_cells]
  unfold rowC
  have ul : (uniq (keys cs)).length ≤ cs.length := Nat.le_trans (uniq_len _) (List.length_filterMap_le _ _)
  rcases hm with rfl | rfl | rfl
  · rw [if_pos rfl, ← kE_ex]
    exact order_row kvs _ (exC cs) []
  · rw [if_neg fun z => o_number z.symm, if_pos rfl, num1_number, List.map_map, List.map_map]
    refine List.map_congr_left fun x hx => ?_
    cases x with
    | inl c => rfl
    | inr k =>
      have hk : k ∈ uniq (keys cs) := uniq_mem.mpr (mem_keys_ex hx)
      have il := List.idxOf_lt_length_iff.mpr hk
      show Sum.inr (("value" : Str), [valOf (numd 1 ((uniq (keys cs)).map (valOf kvs))) (.inl (toI (.inr (S (keyT "number" w ((uniq (keys cs)).idxOf k + 1))))))]) = Sum.inr (("value" : Str), [valOf kvs k])
      have e : toI (.inr (S (keyT "number" w ((uniq (keys cs)).idxOf k + 1)))) = 1 + ((uniq (keys cs)).idxOf k : Int) := by
        unfold keyT
        rw [if_neg fun z => o_number z.symm, if_neg n_name]
        show (intText? (S (TL.numL ((uniq (keys cs)).idxOf k + 1)))).getD 0 = _
        rw [← num_S ((uniq (keys cs)).idxOf k + 1), TL.int_num (Nat.le_trans (TL.numL_len (n := (uniq (keys cs)).idxOf k + 1) (k := 6) (by decide) (by omega)) (by decide))]
        show (((uniq (keys cs)).idxOf k + 1 : Nat) : Int) = _
        omega
      rw [e, val_numd (v := valOf kvs k)]
      rw [List.getElem?_map, List.getElem?_eq_getElem il, List.getElem_idxOf il]
      rfl
  · rw [if_neg fun z => o_name z.symm, if_neg fun z => n_name z.symm, num1_name, List.map_map]
    refine List.map_congr_left fun x hx => ?_
    cases x with
    | inl c => rfl
    | inr k =>
      have hk : k ∈ uniq (keys cs) := uniq_mem.mpr (mem_keys_ex hx)
      have il := List.idxOf_lt_length_iff.mpr hk
      show Sum.inr (("value" : Str), [valOf (namD w kvs (uniq (keys cs))) (.inr (S (keyT "name" w ((uniq (keys cs)).idxOf k + 1))))]) = Sum.inr (("value" : Str), [valOf kvs k])
      have e : valV (namD w kvs (uniq (keys cs))) (.inr (S (keyT "name" w ((uniq (keys cs)).idxOf k + 1)))) = some (valOf kvs k) := by
        unfold keyT
        rw [if_neg fun z => o_name z.symm, if_pos rfl]
        refine val_mem (namD_nodup _ _ _) (List.mem_map.mpr ⟨(k, (uniq (keys cs)).idxOf k), ?_, rfl⟩)
        rw [List.mk_mem_zipIdx_iff_getElem?, List.getElem?_eq_getElem il, List.getElem_idxOf il]
      rw [show valOf (namD w kvs (uniq (keys cs))) (.inr (S (keyT "name" w ((uniq (keys cs)).idxOf k + 1)))) = valOf kvs k from congrArg (fun o => o.getD V.non) e]
/-! the turned query is as the first -/
theorem cnt_ex : ∀ cs : List Cl, szC cs = (exC cs).countP (·.isLeft)
  | [] => rfl
  | .inl l :: r => by
    show szC ([.inl l] ++ r) = (l.map Sum.inl ++ exC r).countP _
    rw [List.countP_append, ← cnt_ex r]
    unfold szC
    rw [List.map_append, sz_app, List.map_cons, List.map_nil, sz_one, List.countP_map]
    congr 1
    exact (List.countP_eq_length.mpr fun _ _ => rfl).symm
  | .inr k :: r => by
    show szC ([.inr k] ++ r) = (Sum.inr k :: exC r).countP _
    rw [List.countP_cons_of_neg Bool.false_ne_true, ← cnt_ex r]
    unfold szC
    rw [List.map_append, sz_app, List.map_cons, List.map_nil, sz_one]
    exact Nat.zero_add _
theorem mem_lit {cs : List Cl} {l : List Nat} {c : Nat} (h : Sum.inl l ∈ cs) (hc : c ∈ l) : Sum.inl c ∈ exC cs := by
  induction cs with
  | nil => cases h
  | cons d r ih =>
    rcases List.mem_cons.mp h with h2 | h2
    · subst h2
      exact List.mem_append_left _ (List.mem_map.mpr ⟨c, hc, rfl⟩)
    · cases d with
      | inl m => exact List.mem_append_right _ (ih h2)
      | inr k => exact List.mem_cons_of_mem _ (ih h2)
theorem lit_mem {cs : List Cl} {c : Nat} (h : Sum.inl c ∈ exC cs) : ∃ l, Sum.inl l ∈ cs ∧ c ∈ l := by
  induction cs with
  | nil => cases h
  | cons d r ih =>
    cases d with
    | inl m =>
      rcases List.mem_append.mp (show Sum.inl c ∈ m.map Sum.inl ++ exC r from h) with h | h
      · obtain ⟨x, hx, e⟩ := List.mem_map.mp h
        cases e
        exact ⟨m, List.mem_cons_self, hx⟩
      · obtain ⟨l, hl, hc⟩ := ih h
        exact ⟨l, List.mem_cons_of_mem _ hl, hc⟩
    | inr k =>
      rcases List.mem_cons.mp (show Sum.inl c ∈ Sum.inr k :: exC r from h) with h | h
      · cases h
      · obtain ⟨l, hl, hc⟩ := ih h
        exact ⟨l, List.mem_cons_of_mem _ hl, hc⟩
theorem num1_cnt (m : Str) : ∀ (xs : List (Sum Nat Key)) (n : Nat), (num1 m n xs).countP (·.isLeft) = xs.countP (·.isLeft)
  | [], _ => rfl
  | .inl c :: r, n => by
    show (Sum.inl c :: num1 m n r).countP _ = _
    rw [List.countP_cons_of_pos rfl, List.countP_cons_of_pos rfl, num1_cnt m r]
  | .inr k :: r, n => by
    show (Sum.inr _ :: num1 m (n + 1) r).countP _ = _
    rw [List.countP_cons_of_neg Bool.false_ne_true, List.countP_cons_of_neg Bool.false_ne_true, num1_cnt m r]
theorem num1_lit (m : Str) {c : Nat} : ∀ {xs : List (Sum Nat Key)} {n : Nat}, Sum.inl c ∈ num1 m n xs → Sum.inl c ∈ xs
  | .inl d :: r, n, h => by
    rcases List.mem_cons.mp (show Sum.inl c ∈ Sum.inl d :: num1 m n r from h) with h | h
    · rw [h]
      exact List.mem_cons_self
    · exact List.mem_cons_of_mem _ (num1_lit m h)
  | .inr k :: r, n, h => by
    rcases List.mem_cons.mp (show Sum.inl c ∈ Sum.inr _ :: num1 m (n + 1) r from h) with h | h
    · cases h
    · exact List.mem_cons_of_mem _ (num1_lit m h)
theorem gK_cnt (h : Key → Key) (xs : List (Sum Nat Key)) : (xs.map (gK h)).countP (·.isLeft) = xs.countP (·.isLeft) := by
  rw [List.countP_map]
  congr 1
  funext x
  cases x <;> rfl
theorem gK_lit {h : Key → Key} {xs : List (Sum Nat Key)} {c : Nat} (hc : Sum.inl c ∈ xs.map (gK h)) : Sum.inl c ∈ xs := by
  obtain ⟨x, hx, e⟩ := List.mem_map.mp hc
  cases x with
  | inl d =>
    cases e
    exact hx
  | inr k => cases e
theorem turned_size (m : Str) (w : List Nat) (cs : List Cl) : szC (cellsOf m (toksC m w cs)) = szC cs := by
  rw [cnt_ex, cnt_ex, exC_cells, num1_cnt, gK_cnt]
theorem turned_lit {m : Str} {w : List Nat} {cs : List Cl} (lit : ∀ l, Sum.inl l ∈ cs → ∀ c ∈ l, litB c = true) : ∀ l, Sum.inl l ∈ cellsOf m (toksC m w cs) → ∀ c ∈ l, litB c = true := by
  intro l hl c hc
  have := mem_lit hl hc
  rw [exC_cells] at this
  obtain ⟨l', hl', hc'⟩ := lit_mem (gK_lit (num1_lit m this))
  exact lit l' hl' c hc'
theorem putC_len (acc : List Cl) (c : Cl) : (putC acc c).length ≤ acc.length + 1 := by
  have := put_len (acc.map pc) (pc c)
  rw [put_map, List.length_map, List.length_map] at this
  exact this
theorem mergeC_len (cs : List Cl) : (mergeC cs).length ≤ cs.length := by
  have := merge_len (cs.map pc)
  rw [merge_map, List.length_map, List.length_map] at this
  exact this
theorem rawC_len : ∀ (ts : List Tk) (cur : List Nat), (rawC cur ts).length = 2 * (holes ts).length + 1
  | [], _ => rfl
  | .ch c :: r, cur => rawC_len r _
  | .ho k :: r, cur => by
    show (rawC [] r).length + 1 + 1 = 2 * ((holes r).length + 1) + 1
    rw [rawC_len r]
    omega
theorem turned_len (m : Str) (w : List Nat) (cs : List Cl) : (cellsOf m (toksC m w cs)).length ≤ 2 * (keys cs).length + 1 := by
  unfold cellsOf toksC
  rw [keyC_len]
  refine Nat.le_trans (mergeC_len _) ?_
  rw [rawC_len, holes_toks, List.length_map]
  exact Nat.le_refl _
theorem turned_keys_len {m : Str} (hm : Mn m) (w : List Nat) {cs : List Cl} (hl : cs.length < 1000) : (keys (cellsOf m (toksC m w cs))).length = (keys cs).length := by
  rcases hm with rfl | rfl | rfl
  · rw [cells_keys_order, List.length_map, List.length_range]
  · rw [cells_keys_number hl, List.length_map]
  · rw [cells_keys_name, List.length_map]
theorem row_len_keys (m : Str) (w : List Nat) (kvs : List (Key × V)) (cs : List Cl) : (rowC m w kvs cs).length ≤ (keys cs).length := by
  have ul := uniq_len (keys cs)
  unfold rowC
  split
  · rw [numd_len, List.length_map]
    exact Nat.le_refl _
  · split
    · rw [numd_len, List.length_map]
      exact ul
    · rw [namD_len]
      exact ul
theorem row_once (m : Str) (w : List Nat) (kvs : List (Key × V)) (cs : List Cl) : ((rowC m w kvs cs).map (·.1)).Nodup := by
  unfold rowC
  split
  · exact numd_nodup _ _
  · split
    · exact numd_nodup _ _
    · exact namD_nodup _ _ _
theorem numd_vals : ∀ {xs : List V} {f : Int} {y : Key × V}, y ∈ numd f xs → y.2 ∈ xs
  | x :: r, f, y, h => by
    rcases List.mem_cons.mp (show y ∈ (Sum.inl f, x) :: numd (f + 1) r from h) with h2 | h2
    · rw [h2]
      exact List.mem_cons_self
    · exact List.mem_cons_of_mem _ (numd_vals h2)
theorem row_vals {m : Str} {w : List Nat} {kvs : List (Key × V)} {cs : List Cl} (has : ∀ k ∈ keys cs, k ∈ kvs.map (·.1)) (hv : ∀ y ∈ kvs, DV y.2) : ∀ y ∈ rowC m w kvs cs, DV y.2 := by
  have val : ∀ k ∈ keys cs, DV (valOf kvs k) := fun k hk => by
    obtain ⟨v, e⟩ := val_some (has k hk)
    unfold valOf
    rw [e]
    exact hv _ (mem_of_val e)
  intro y hy
  unfold rowC at hy
  split at hy
  · obtain ⟨k, hk, e⟩ := List.mem_map.mp (numd_vals hy)
    rw [← e]
    exact val k hk
  · split at hy
    · obtain ⟨k, hk, e⟩ := List.mem_map.mp (numd_vals hy)
      rw [← e]
      exact val k (uniq_mem.mp hk)
    · obtain ⟨⟨k, i⟩, hki, rfl⟩ := List.mem_map.mp hy
      exact val k (uniq_mem.mp (List.mem_of_getElem? (List.mk_mem_zipIdx_iff_getElem?.mp hki)))
/-- the turned query is as the first -/
theorem Qy.turn {m : Str} (hm : Mn m) (w : List Nat) {kvs : List (Key × V)} {cs : List Cl} (h : Qy cs kvs) (hk : (keys cs).length ≤ 20) : Qy (cellsOf m (toksC m w cs)) (rowC m w kvs cs) where
  few := Nat.lt_of_le_of_lt (turned_len m w cs) (by omega)
  size := by rw [turned_size]; exact h.size
  lit := turned_lit h.lit
  once := row_once m w kvs cs
  vals := row_vals h.has h.vals
  has := row_has hm (by have := h.few; omega)
  fewK := Nat.lt_of_le_of_lt (row_len_keys m w kvs cs) (by omega)
end LW

local macro_rules | `(tactic| walk_at "tx") => `(tactic| first
  | with_reducible refine Mk.w_prop ?_
  | with_reducible refine Mk.w_methK ?_)
namespace LW
open PySem L2 SX Tx Tc Tl Kq
/-! the law's own helpers -/
def empD : PyData := .tuple [.str "say", .str ""]
theorem emp_pc : dPc (.say []) = empD := by
  show PyData.tuple [.str "say", .str (S [])] = .tuple [.str "say", .str ""]
  rw [show ("" : Str) = S [] by decide +kernel]
theorem shape_pc {p : Pc} (h : TP p) : PySem.SeqAt.shaped (dPc p) = true := by
  unfold PySem.SeqAt.shaped
  rw [Bool.and_eq_true, decide_eq_true_iff]
  refine ⟨?_, ?_⟩
  · unfold dPc
    rw [PyData.canLay0]
    refine lay_all fun d hd => ?_
    obtain ⟨v, hv, rfl⟩ := List.mem_map.mp hd
    exact lay_tv (h v hv)
  · have dv : ∀ v, (dV v).depth = 0 := fun v => by cases v <;> rfl
    have : ∀ vs : List V, PyData.depthAll (vs.map dV) = 0 := by
      intro vs
      induction vs with
      | nil => rfl
      | cons v r ih =>
        rw [List.map_cons, PyData.depthAll, dv, ih]
        rfl
    unfold dPc
    rw [PyData.depth, this]
    decide
theorem eqv_oth {tg : Str} {zs : List V} (h : tg ≠ "say") : PyData.eqv (dPc (.oth tg zs)) empD = false := by
  show PyData.eqv (.tuple (.str tg :: zs.map dV)) (.tuple [.str "say", .str ""]) = false
  rw [PyData.eqv, PyData.eqvAll, PyData.eqv, beq_false_of_ne h, Bool.false_and]
theorem eqv_say (l : List Nat) : PyData.eqv (dPc (.say l)) empD = decide (l = []) := by
  show PyData.eqv (.tuple [.str "say", .str (S l)]) (.tuple [.str "say", .str ""]) = _
  rw [show ("" : Str) = S [] by decide +kernel]
  simp only [PyData.eqv, PyData.eqvAll, beq_self_eq_true, Bool.true_and, Bool.and_true]
  by_cases e : l = []
  · rw [e, decide_eq_true rfl, beq_self_eq_true]
  · rw [decide_eq_false e, beq_false_of_ne fun z => e (S_inj z)]
theorem c_neEmp {K : PySem.W.Frag} {H : Hp} {t p : Addr} {q : Pc} {Q : VK} (ht : H t = some (.tup q.vs)) (hp : H p = some (.tup [.str "say", .str ""])) (h : TP q) (k : Q (.bl (!PyData.eqv (dPc q) empD)) H) : rNeD K (.ref t) (.ref p) H Q :=
  ⟨dPc q, empD, .tup (SqT.of ht) (dp_tvs h), .tup (SqT.of hp) (.cons (.str _) (.cons (.str _) .nil)), shape_pc h, by rw [← emp_pc]; exact shape_pc (TP.say fun c hc => nomatch hc), k⟩
theorem pcs_listM {H : Hp} {α : Type} (f : α → Pc) : ∀ {cs : List α} {xs : List V}, PcsAt H xs (cs.map f) → ∃ L : List (Addr × α), xs = L.map (fun q => V.ref q.1) ∧ L.map (·.2) = cs ∧ ∀ q ∈ L, H q.1 = some (.tup (f q.2).vs)
  | [], _, .nil => ⟨[], rfl, rfl, fun q h => nomatch h⟩
  | c :: r, _, .cons ⟨t, e, ht⟩ h => by
    subst e
    obtain ⟨L, e1, e2, h3⟩ := pcs_listM f (cs := r) h
    refine ⟨(t, c) :: L, by rw [e1]; rfl, by rw [List.map_cons, e2], fun q hq => ?_⟩
    rcases List.mem_cons.mp hq with rfl | hq
    · exact ht
    · exact h3 q hq
/-- a cell of the law: a literal, or the place of a value -/
def lpc : Sum (List Nat) Nat → Pc
  | .inl l => .say l
  | .inr n => .oth "value" [.int n]
def lfl (zs : List V) : Sum (List Nat) Nat → Pc
  | .inl l => .say l
  | .inr n => .oth "value" [zs.getD n .non]
def szL (cs : List (Sum (List Nat) Nat)) : Nat := sz (cs.map lpc)
theorem sz_lfl (zs : List V) : ∀ cs : List (Sum (List Nat) Nat), sz (cs.map (lfl zs)) = szL cs
  | [] => rfl
  | c :: r => by
    have := sz_lfl zs r
    unfold szL sz at this ⊢
    simp only [List.map_cons, List.sum_cons] at this ⊢
    rw [this]
    cases c <;> rfl
def sp_l_filled : Sp := fun vs H Q _ => ∃ (a b : Addr) (xs zs : List V) (cs : List (Sum (List Nat) Nat)), vs = [.ref a, .ref b] ∧ H a = some (.lst xs) ∧ PcsAt H xs (cs.map lpc) ∧ H b = some (.lst zs) ∧ cs.length < 200 ∧ szL cs < 20000 ∧
  (∀ l, Sum.inl l ∈ cs → ∀ c ∈ l, litB c = true) ∧ (∀ n, Sum.inr n ∈ cs → n < zs.length) ∧ (∀ z ∈ zs, DV z) ∧ zs.length < 1000 ∧
  ∀ (p : Addr) (ys : List V) (H' : Hp), H p = none → H' p = some (.lst ys) → PcsAt H' ys (merge (cs.map (lfl zs))) → (∀ q ∈ merge (cs.map (lfl zs)), TP q) → Same H H' → Q (.ref p) H'
def sp_l_word : Sp := fun vs H Q _ => ∃ a : Addr, vs = [.ref a] ∧ BagB H a ∧ ∀ (l : List Nat) (H' : Hp), wordB l = true → BagB H' a → KeptB a H H' → Q (.str (S l)) H'
def sp_l_merged : Sp := fun vs H Q _ => ∃ (a : Addr) (xs : List V) (ps : List Pc), vs = [.ref a] ∧ H a = some (.lst xs) ∧ PcsAt H xs ps ∧ (∀ p ∈ ps, p.ok) ∧ (∀ p ∈ ps, TP p) ∧ ps.length < 90000 ∧ sz ps < 50000 ∧
  ∀ (p : Addr) (ys : List V) (H' : Hp), H p = none → H' p = some (.lst ys) → PcsAt H' ys (merge ps) → Same H H' → Q (.ref p) H'
section
variable {P : Program} {w : World} {K : PySem.W.Frag} {mg : Str → Option Value} {base : Heap} {Z : Ad}
set_option maxHeartbeats 1000000 in
theorem ok_l_merged (T : Txt K mg Z) : FnOk P w K mg base CX0 3 Z.a_l_merged Z.d_l_merged ["_law_parts"] sp_l_merged := by
  refine T.F_l_merged.ok sc_l_merged (fun vs H Q E h => ?_) (fun cdv A outer s H vs Q E hr h => ?_)
  · obtain ⟨a, xs, ps, rfl, _⟩ := h
    rfl
  · obtain ⟨a, xs, ps, rfl, ha, px, pok, ptp, pl, pz, q⟩ := h
    have nd := sc_l_merged.nd
    have hu := hu_of hr
    refine ⟨_, (pss_cons (ps_set (i := 1) nd rfl (Or.inl rfl) (pe_lst pa_nil))
  (pss_cons (ps_for PassesOwn.never rfl (pi_list (pv 0)) (pg_name (i := 2) nd rfl (Or.inl rfl))
  (pss_one (ps_if (PW.pt (pw_and (pt_cmpR op_eq (pe_ix ix_tup (pv 2) pe_int (fun _ _ => rfl)) pe_str (nomark _)) (pw_and (pt_cmpR (Tw.op_neE (Nat.lt_of_succ_lt hu)) (pv 1) (pe_lst pa_nil) (nomark _)) (pw_and1 (pt_cmpR op_eq (pe_ix ix_tup (pe_ix ix_list (pv 1) (pe_un un_neg pe_int) (fun _ _ => rfl)) pe_int (fun _ _ => rfl)) pe_str (nomark _))))))
  (pss_cons (ps_set (i := 3) nd rfl (Or.inl rfl) (pe_bm0 PySem.F.plainAttrs_list PySem.F.slot_list_pop PySem.F.type_list_pop mt_pop (pv 1)))
  (pss_one (ps_expr (pe_bm PySem.F.plainAttrs_list PySem.F.slot_list_append PySem.F.type_list_append mt_append (pv 1) (pa_cons (pe_tup (pa_cons pe_str (pa_cons (pe_op Es.op_addS (pe_ix ix_tup (pv 3) pe_int (fun _ _ => rfl)) (pe_ix ix_tup (pv 2) pe_int (fun _ _ => rfl))) pa_nil))) pa_nil)))))
  (pss_one (ps_if (pt_cmpR (op_neD hr.units) (pv 2) (pe_tup (pa_cons pe_str (pa_cons pe_str pa_nil))) (nomark _))
  (pss_one (ps_expr (pe_bm PySem.F.plainAttrs_list PySem.F.slot_list_append PySem.F.type_list_append mt_append (pv 1) (pa_cons (pv 2) pa_nil))))
  pss_nil)))))
  (pss_one (ps_ret (pv 1))))), ?_⟩
    refine Eg.w_sig (σ := [some (.ref a), none, none, none]) rfl ?_
    walk_at "go"
    intro f hf
    walk_at "go"
    have len := px.len
    have hfa : f ≠ a := (ne_of_none ha hf).symm
    refine for_list (xs := xs) (fun j σ' H' => ∃ (v2 v3 : Option V) (ys : List V), σ' = [some (.ref a), some (.ref f), v2, v3] ∧ H' f = some (.lst ys) ∧ PcsAt H' ys (merge (ps.take j)) ∧ Same H H') ⟨none, none, [], rfl, upd_same, .nil, fun c o e => Eg.upd_old e hf⟩ ?_ ?_ ?_
    · rintro j _ H1 _ ⟨v2, v3, ys, rfl, _, _, s1⟩
      exact SqL.of (s1 _ _ ha)
    · rintro j x _ H1 hx ⟨v2, v3, ys, rfl, h1f, py, s1⟩
      obtain ⟨p, t, hp, rfl, ht0⟩ := px.get hx
      have ht := s1 _ _ ht0
      have hpo := pok p (List.mem_of_getElem? hp)
      obtain ⟨hlt, he⟩ := List.getElem?_eq_some_iff.mp hp
      have tk : ps.take (j + 1) = ps.take j ++ [p] := by rw [List.take_succ_eq_append_getElem hlt, he]
      have szz := sz_get hp
      have yl := py.len
      have ml := merge_len (ps.take j)
      rw [List.length_take] at ml
      have fresh : ∀ c o, H c = some o → c ≠ f := fun c o e => ne_of_none e hf
      cases p with
      | oth tg zs =>
        have ht : H1 t = some (.tup (.str tg :: zs)) := ht
        have hne : decide (V.str tg = V.str "say") = false := decide_eq_false fun z => hpo.1 (V.str.inj z)
        walk_at "go"
        rw [hne]
        walk_at "go"
        intro e0 he0
        have h2e : upd H1 e0 (.tup [.str "say", .str ""]) e0 = some (.tup [.str "say", .str ""]) := upd_same
        have s2 : Same H1 (upd H1 e0 (.tup [.str "say", .str ""])) := fun b o e => Eg.upd_old e he0
        generalize upd H1 e0 (.tup [.str "say", .str ""]) = H2 at s2 h2e ⊢
        have h2f := s2 _ _ h1f
        have h2t := s2 _ _ ht
        have py2 := py.same fun b ys e => s2 _ _ e
        have s02 := s1.trans s2
        refine c_neEmp (q := .oth tg zs) h2t h2e (ptp _ (List.mem_of_getElem? hp)) ?_
        rw [eqv_oth hpo.1]
        walk_at "go"
        have tf : t ≠ f := ne_of h2t h2f (fun z => nomatch z)
        refine ⟨_, _, _, rfl, upd_same, ?_, fun c o e => Eg.upd_mut (fresh c o e) (s02 c o e)⟩
        rw [tk, merge_snoc]
        exact PcsAt.app (py2.same fun b ys e => Eg.upd_mut (ne_of e h2f (fun z => nomatch z)) e) (PcsAt.one (p := .oth tg zs) (Eg.upd_mut tf h2t))
      | say l =>
        have ht : H1 t = some (.tup [.str "say", .str (S l)]) := ht
        have hne : decide (V.str "say" = V.str "say") = true := decide_eq_true rfl
        have tf : t ≠ f := ne_of ht h1f (fun z => nomatch z)
        have szl : l.length ≤ sz ps := Nat.le_trans (Nat.le_add_left _ _) szz
        walk_at "go"
        rw [hne]
        walk_at "go"
        intro n0 hn0
        have h2n : upd H1 n0 (.lst []) n0 = some (.lst []) := upd_same
        have s2 : Same H1 (upd H1 n0 (.lst [])) := fun b o e => Eg.upd_old e hn0
        generalize upd H1 n0 (.lst []) = H2 at s2 h2n ⊢
        have h2f := s2 _ _ h1f
        have h2t := s2 _ _ ht
        have py2 := py.same fun b ys e => s2 _ _ e
        have s02 := s1.trans s2
        walk_at "go"
        cases hlast : (merge (ps.take j)).getLast? with
        | none =>
          have hno : ∀ m, (merge (ps.take j)).getLast? ≠ some (.say m) := by rw [hlast]; exact fun _ z => nomatch z
          have me : merge (ps.take j) = [] := List.getLast?_eq_none_iff.mp hlast
          have ye : ys = [] := List.eq_nil_of_length_eq_zero (by rw [yl, me]; rfl)
          rw [show ys.isEmpty = true by rw [ye]; rfl]
          walk_at "go"
          intro e0 he0
          have h3e : upd H2 e0 (.tup [.str "say", .str ""]) e0 = some (.tup [.str "say", .str ""]) := upd_same
          have s3 : Same H2 (upd H2 e0 (.tup [.str "say", .str ""])) := fun b o e => Eg.upd_old e he0
          generalize upd H2 e0 (.tup [.str "say", .str ""]) = H3 at s3 h3e ⊢
          have h3f := s3 _ _ h2f
          have h3t := s3 _ _ h2t
          have py3 := py2.same fun b ys e => s3 _ _ e
          have s03 := s02.trans s3
          refine c_neEmp (q := .say l) h3t h3e (ptp _ (List.mem_of_getElem? hp)) ?_
          rw [eqv_say]
          by_cases hl : l = []
          · rw [decide_eq_true hl]
            walk_at "go"
            refine ⟨_, _, _, rfl, h3f, ?_, s03⟩
            rw [tk, merge_snoc, hl]
            exact py3
          · rw [decide_eq_false hl]
            walk_at "go"
            refine ⟨_, _, _, rfl, upd_same, ?_, fun c o e => Eg.upd_mut (fresh c o e) (s03 c o e)⟩
            rw [tk, merge_snoc, put_say_new hl hno]
            exact PcsAt.app (py3.same fun b ys e => Eg.upd_mut (ne_of e h3f (fun z => nomatch z)) e) (PcsAt.one (p := .say l) (Eg.upd_mut tf h3t))
        | some q0 =>
          obtain ⟨t0, hl0, ht0⟩ := py2.last hlast
          have yne : ys ≠ [] := fun z => by rw [z] at hl0; cases hl0
          rw [show ys.isEmpty = false by cases ys with | nil => exact absurd rfl yne | cons _ _ => rfl]
          have pos : 0 < ys.length := List.length_pos_iff.mpr yne
          have mok := merge_ok (ps := ps.take j) (fun z hz => pok z (List.mem_of_mem_take hz)) q0 (List.mem_of_getLast? hlast)
          cases q0 with
          | oth tg zs =>
            have ht0 : H2 t0 = some (.tup (.str tg :: zs)) := ht0
            have hne : decide (V.str tg = V.str "say") = false := decide_eq_false fun z => mok.1 (V.str.inj z)
            have hno : ∀ m, (merge (ps.take j)).getLast? ≠ some (.say m) := by rw [hlast]; exact fun _ z => nomatch z
            walk_at "go"
            rw [hne]
            walk_at "go"
            intro e0 he0
            have h3e : upd H2 e0 (.tup [.str "say", .str ""]) e0 = some (.tup [.str "say", .str ""]) := upd_same
            have s3 : Same H2 (upd H2 e0 (.tup [.str "say", .str ""])) := fun b o e => Eg.upd_old e he0
            generalize upd H2 e0 (.tup [.str "say", .str ""]) = H3 at s3 h3e ⊢
            have h3f := s3 _ _ h2f
            have h3t := s3 _ _ h2t
            have py3 := py2.same fun b ys e => s3 _ _ e
            have s03 := s02.trans s3
            refine c_neEmp (q := .say l) h3t h3e (ptp _ (List.mem_of_getElem? hp)) ?_
            rw [eqv_say]
            by_cases hl : l = []
            · rw [decide_eq_true hl]
              walk_at "go"
              refine ⟨_, _, _, rfl, h3f, ?_, s03⟩
              rw [tk, merge_snoc, hl]
              exact py3
            · rw [decide_eq_false hl]
              walk_at "go"
              refine ⟨_, _, _, rfl, upd_same, ?_, fun c o e => Eg.upd_mut (fresh c o e) (s03 c o e)⟩
              rw [tk, merge_snoc, put_say_new hl hno]
              exact PcsAt.app (py3.same fun b ys e => Eg.upd_mut (ne_of e h3f (fun z => nomatch z)) e) (PcsAt.one (p := .say l) (Eg.upd_mut tf h3t))
          | say m =>
            have ht0 : H2 t0 = some (.tup [.str "say", .str (S m)]) := ht0
            have hm : m.length ≤ sz (ps.take j) := by
              have := sz_last hlast
              rw [sz_merge] at this
              exact this
            walk_at "go"
            rw [hne]
            walk_at "go"
            have t0f : t0 ≠ f := ne_of ht0 h2f (fun z => nomatch z)
            refine ⟨f, ys, .ref t0, rfl, rfl, h2f, by rw [← List.getLast?_eq_getElem?]; exact hl0, ?_⟩
            have h3f : upd H2 f (.lst ys.dropLast) f = some (.lst ys.dropLast) := upd_same
            have h3t : upd H2 f (.lst ys.dropLast) t = some (.tup [.str "say", .str (S l)]) := Eg.upd_mut tf h2t
            have h3t0 : upd H2 f (.lst ys.dropLast) t0 = some (.tup [.str "say", .str (S m)]) := Eg.upd_mut t0f ht0
            have py3 := py2.dropLast.same fun b zs e => (Eg.upd_mut (ne_of e h2f (fun z => nomatch z)) e : upd H2 f (.lst ys.dropLast) b = _)
            have s03 : Same H (upd H2 f (.lst ys.dropLast)) := fun c o e => Eg.upd_mut (fresh c o e) (s02 c o e)
            generalize upd H2 f (.lst ys.dropLast) = H3 at h3f h3t h3t0 py3 s03 ⊢
            have dl : ys.dropLast.length ≤ ys.length := by rw [List.length_dropLast]; omega
            walk_at "go"
            intro t1 ht1
            have h4f : upd H3 t1 (.tup [.str "say", .str (S (m ++ l))]) f = some (.lst ys.dropLast) := Eg.upd_old h3f ht1
            have h4t : upd H3 t1 (.tup [.str "say", .str (S (m ++ l))]) t1 = some (.tup [.str "say", .str (S (m ++ l))]) := upd_same
            have py4 := py3.same fun b zs e => (Eg.upd_old e ht1 : upd H3 t1 (.tup [.str "say", .str (S (m ++ l))]) b = _)
            have s04 : Same H (upd H3 t1 (.tup [.str "say", .str (S (m ++ l))])) := fun c o e => Eg.upd_old (s03 c o e) ht1
            generalize upd H3 t1 (.tup [.str "say", .str (S (m ++ l))]) = H4 at h4f h4t py4 s04 ⊢
            have t1f : t1 ≠ f := ne_of h4t h4f (fun z => nomatch z)
            walk_at "go"
            refine ⟨_, _, _, rfl, upd_same, ?_, fun c o e => Eg.upd_mut (fresh c o e) (s04 c o e)⟩
            have pe : put (merge (ps.take j)) (.say l) = (merge (ps.take j)).dropLast ++ [.say (m ++ l)] := by
              by_cases hl : l = []
              · rw [hl, put_say_emp, List.append_nil]
                exact last_split hlast
              · exact put_say_say hl hlast
            rw [tk, merge_snoc, pe]
            exact PcsAt.app (py4.same fun b ys e => Eg.upd_mut (ne_of e h4f (fun z => nomatch z)) e) (PcsAt.one (p := .say (m ++ l)) (Eg.upd_mut t1f h4t))
    · rintro _ H1 ⟨v2, v3, ys, rfl, h1f, py, s1⟩
      rw [List.take_of_length_le (by omega)] at py
      walk_at "go"
      exact q f ys H1 hf h1f py s1
end
end LW

namespace LW
open PySem L2 SX Tx Tc Tl Kq Rp
/-! turned once and twice: keys, text, row -/
theorem uniq_mapK {f : Key → Key} {ks : List Key} (h : ∀ a ∈ ks, ∀ b ∈ ks, f a = f b → a = b) : uniq (ks.map f) = (uniq ks).map f := by
  have : ∀ (ks acc : List Key), (∀ a ∈ acc ++ ks, ∀ b ∈ acc ++ ks, f a = f b → a = b) → (ks.map f).foldl add1 (acc.map f) = (ks.foldl add1 acc).map f := by
    intro ks
    induction ks with
    | nil => exact fun acc _ => rfl
    | cons k r ih =>
      intro acc h
      rw [List.map_cons, List.foldl_cons, List.foldl_cons]
      have e : add1 (acc.map f) (f k) = (add1 acc k).map f := by
        unfold add1
        by_cases hk : k ∈ acc
        · rw [if_pos hk, if_pos (List.mem_map.mpr ⟨k, hk, rfl⟩)]
        · rw [if_neg hk, if_neg, List.map_append]
          · rfl
          · intro hm
            obtain ⟨x, hx, e⟩ := List.mem_map.mp hm
            exact hk (h x (List.mem_append_left _ hx) k (List.mem_append_right _ List.mem_cons_self) e ▸ hx)
      rw [e]
      have am : ∀ {x : Key}, x ∈ add1 acc k ++ r → x ∈ acc ++ k :: r := fun {x} hx => by
        rcases List.mem_append.mp hx with hx | hx
        · unfold add1 at hx
          split at hx
          · exact List.mem_append_left _ hx
          · rcases List.mem_append.mp hx with hx | hx
            · exact List.mem_append_left _ hx
            · exact List.mem_append_right _ (by rw [List.mem_singleton.mp hx]; exact List.mem_cons_self)
        · exact List.mem_append_right _ (List.mem_cons_of_mem _ hx)
      exact ih _ fun a ha b hb => h a (am ha) b (am hb)
  exact this ks [] (by rw [List.nil_append]; exact h)
theorem idx_at {us : List Key} (nd : us.Nodup) {i : Nat} (h : i < us.length) : us.idxOf us[i] = i := by
  have hl : us.idxOf us[i] < us.length := List.idxOf_lt_length_iff.mpr (List.getElem_mem h)
  have e : us[us.idxOf us[i]] = us[i] := List.getElem_idxOf hl
  rcases Nat.lt_trichotomy (us.idxOf us[i]) i with z | z | z
  · exact absurd e (List.pairwise_iff_getElem.mp nd _ _ hl h z)
  · exact z
  · exact absurd e.symm (List.pairwise_iff_getElem.mp nd _ _ h hl z)
theorem map_idx {us : List Key} (nd : us.Nodup) {α : Type} (φ : Nat → α) : us.map (fun k => φ (us.idxOf k)) = (List.range us.length).map φ := by
  refine List.ext_getElem (by rw [List.length_map, List.length_map, List.length_range]) fun i h1 h2 => ?_
  rw [List.length_map] at h1
  rw [List.getElem_map, List.getElem_map, List.getElem_range, idx_at nd h1]
theorem idx_inj {us : List Key} {a b : Key} (ha : a ∈ us) (hb : b ∈ us) (e : us.idxOf a = us.idxOf b) : a = b := by
  have h1 := List.getElem_idxOf (List.idxOf_lt_length_iff.mpr ha)
  have h2 := List.getElem_idxOf (List.idxOf_lt_length_iff.mpr hb)
  rw [← h1, ← h2]
  congr 1
/-- the key with an index, by a manner -/
def keyK (m : Str) (w : List Nat) (i : Nat) : Key := if m = "order" then .inl (i : Int) else if m = "number" then .inl ((i : Int) + 1) else .inr (S (w ++ TL.numL (i + 1)))
theorem keyK_inj {m : Str} {w : List Nat} {i j : Nat} (h : keyK m w i = keyK m w j) : i = j := by
  unfold keyK at h
  split at h
  · have := Sum.inl.inj h
    omega
  · split at h
    · have := Sum.inl.inj h
      omega
    · exact nam_inj h
theorem range_nodup (m : Str) (w : List Nat) (n : Nat) : ((List.range n).map (keyK m w)).Nodup := List.pairwise_map.mpr (List.nodup_range.imp fun hab e => hab (keyK_inj e))
theorem row_keys {m : Str} (hm : Mn m) (w : List Nat) (kvs : List (Key × V)) (cs : List Cl) : (rowC m w kvs cs).map (·.1) = (List.range (rowC m w kvs cs).length).map (keyK m w) := by
  rcases hm with rfl | rfl | rfl
  · unfold rowC
    rw [if_pos rfl, numd_keys, numd_len]
    refine List.map_congr_left fun i _ => ?_
    unfold keyK
    rw [if_pos rfl, Int.zero_add]
  · unfold rowC
    rw [if_neg fun z => o_number z.symm, if_pos rfl, numd_keys, numd_len]
    refine List.map_congr_left fun i _ => ?_
    unfold keyK
    rw [if_neg fun z => o_number z.symm, if_pos rfl, Int.add_comm]
  · unfold rowC
    rw [if_neg fun z => o_name z.symm, if_neg fun z => n_name z.symm, namD_keys, namD_len]
    refine List.map_congr_left fun i _ => ?_
    unfold keyK
    rw [if_neg fun z => o_name z.symm, if_neg fun z => n_name z.symm]
theorem turned_used {m : Str} (hm : Mn m) (w : List Nat) (kvs : List (Key × V)) {cs : List Cl} (hl : cs.length < 1000) : uniq (keys (cellsOf m (toksC m w cs))) = (List.range (rowC m w kvs cs).length).map (keyK m w) := by
  have inj : ∀ n, m = n → n ≠ "order" → uniq ((keys cs).map fun k => keyK m w ((uniq (keys cs)).idxOf k)) = (List.range (uniq (keys cs)).length).map (keyK m w) := fun n _ _ => by
    rw [uniq_mapK fun a ha b hb e => idx_inj (uniq_mem.mpr ha) (uniq_mem.mpr hb) (keyK_inj e)]
    exact map_idx (uniq_nodup _) _
  rcases hm with rfl | rfl | rfl
  · have e : keys (cellsOf "order" (toksC "order" w cs)) = (List.range (rowC "order" w kvs cs).length).map (keyK "order" w) := by
      unfold rowC
      rw [if_pos rfl, numd_len, List.length_map, cells_keys_order]
      refine List.map_congr_left fun i _ => ?_
      unfold keyK
      rw [if_pos rfl]
    rw [e]
    exact uniq_nodup_id (range_nodup _ _ _)
  · rw [cells_keys_number hl]
    have := inj "number" rfl fun z => o_number z.symm
    unfold rowC
    rw [if_neg fun z => o_number z.symm, if_pos rfl, numd_len, List.length_map, ← this]
    rfl
  · rw [cells_keys_name]
    have := inj "name" rfl fun z => o_name z.symm
    unfold rowC
    rw [if_neg fun z => o_name z.symm, if_neg fun z => n_name z.symm, namD_len, ← this]
    rfl
theorem turned_used' {m : Str} (hm : Mn m) (w : List Nat) (kvs : List (Key × V)) {cs : List Cl} (hl : cs.length < 1000) : uniq (keys (cellsOf m (toksC m w cs))) = (rowC m w kvs cs).map (·.1) := by rw [turned_used hm w kvs hl, row_keys hm]
theorem turned_unused {m : Str} (hm : Mn m) (w : List Nat) (kvs : List (Key × V)) {cs : List Cl} (hl : cs.length < 1000) : ((rowC m w kvs cs).map (·.1)).filter (fun k => !decide (k ∈ keys (cellsOf m (toksC m w cs)))) = [] := by
  refine List.filter_eq_nil_iff.mpr fun k hk => ?_
  rw [← turned_used' hm w kvs hl, uniq_mem] at hk
  rw [decide_eq_true hk]
  exact fun z => nomatch z
theorem row_sorts {m : Str} (hm : Mn m) (w : List Nat) (kvs : List (Key × V)) (cs : List Cl) : (∃ ns : List Int, (rowC m w kvs cs).map (·.1) = ns.map Sum.inl) ∨ ∃ zs : List Str, (rowC m w kvs cs).map (·.1) = zs.map Sum.inr := by
  rw [row_keys hm]
  rcases hm with rfl | rfl | rfl
  · refine .inl ⟨(List.range (rowC "order" w kvs cs).length).map fun i : Nat => (i : Int), ?_⟩
    rw [List.map_map]
    refine List.map_congr_left fun i _ => ?_
    unfold keyK
    rw [if_pos rfl]
    rfl
  · refine .inl ⟨(List.range (rowC "number" w kvs cs).length).map fun i : Nat => (i : Int) + 1, ?_⟩
    rw [List.map_map]
    refine List.map_congr_left fun i _ => ?_
    unfold keyK
    rw [if_neg fun z => o_number z.symm, if_pos rfl]
    rfl
  · refine .inr ⟨(List.range (rowC "name" w kvs cs).length).map fun i => S (w ++ TL.numL (i + 1)), ?_⟩
    rw [List.map_map]
    refine List.map_congr_left fun i _ => ?_
    unfold keyK
    rw [if_neg fun z => o_name z.symm, if_neg fun z => n_name z.symm]
    rfl
/-- turned twice: the text -/
theorem tkI_inj {a b : Tk} (h : tkI a = tkI b) : a = b := by
  cases a with
  | ch c =>
    cases b with
    | ch d => rw [Sum.inl.inj h]
    | ho k => cases h
  | ho k =>
    cases b with
    | ch d => cases h
    | ho l => rw [S_inj (Sum.inr.inj (Sum.inr.inj h))]
theorem toks_ext {xs ys : List Tk} (h : xs.map tkI = ys.map tkI) : xs = ys := by
  induction xs generalizing ys with
  | nil =>
    cases ys with
    | nil => rfl
    | cons y r => cases h
  | cons x r ih =>
    cases ys with
    | nil => cases h
    | cons y r' =>
      rw [List.map_cons, List.map_cons] at h
      have := List.cons.inj h
      rw [tkI_inj this.1, ih this.2]
theorem num1_const (m : Str) (t : Key) : ∀ (xs : List (Sum Nat Key)) (n : Nat), (num1 m n xs).map (gK fun _ => t) = xs.map (gK fun _ => t)
  | [], _ => rfl
  | .inl c :: r, n => congrArg (Sum.inl c :: ·) (num1_const m t r n)
  | .inr _ :: r, n => congrArg (Sum.inr t :: ·) (num1_const m t r (n + 1))
theorem keyT_toI {w : List Nat} {n : Nat} (hn : n < 999999) : toI (.inr (S (keyT "number" w (n + 1)))) = (n : Int) + 1 := by
  unfold keyT
  rw [if_neg fun z => o_number z.symm, if_neg n_name]
  show (intText? (S (TL.numL (n + 1)))).getD 0 = _
  rw [← num_S (n + 1), TL.int_num (Nat.le_trans (TL.numL_len (n := n + 1) (k := 6) (by decide) (by omega)) (by decide))]
  rfl
theorem twice_toks {m : Str} (hm : Mn m) (w : List Nat) {cs : List Cl} (hl : cs.length < 1000) : toksC m w (cellsOf m (toksC m w cs)) = toksC m w cs := by
  refine toks_ext ?_
  have us2 := turned_used hm w [] hl
  have ul : (uniq (keys cs)).length ≤ cs.length := Nat.le_trans (uniq_len _) (List.length_filterMap_le _ _)
  show ((cellsOf m (toksC m w cs)).flatMap (tok1 m w (uniq (keys (cellsOf m (toksC m w cs)))))).map tkI = (cs.flatMap (tok1 m w (uniq (keys cs)))).map tkI
  rw [toks_items, toks_items, exC_cells]
  rcases hm with rfl | rfl | rfl
  · have e : ∀ us : List Key, (fun k : Key => (.inr (S (keyT "order" w (us.idxOf k + 1))) : Key)) = fun _ => .inr (S []) := fun us => by
      funext k
      unfold keyT
      rw [if_pos rfl]
    rw [e, e, num1_const, List.map_map]
    refine List.map_congr_left fun x _ => ?_
    cases x <;> rfl
  · rw [num1_number, List.map_map, List.map_map]
    refine List.map_congr_left fun x hx => ?_
    cases x with
    | inl c => rfl
    | inr k =>
      have hk : k ∈ uniq (keys cs) := uniq_mem.mpr (mem_keys_ex hx)
      have il := List.idxOf_lt_length_iff.mpr hk
      have hi : ((uniq (keys (cellsOf "number" (toksC "number" w cs)))).idxOf (.inl (((uniq (keys cs)).idxOf k : Int) + 1))) = (uniq (keys cs)).idxOf k := by
        have rl : (rowC "number" w [] cs).length = (uniq (keys cs)).length := by
          unfold rowC
          rw [if_neg fun z => o_number z.symm, if_pos rfl, numd_len, List.length_map]
        rw [us2, rl]
        have hlt : (uniq (keys cs)).idxOf k < ((List.range (uniq (keys cs)).length).map (keyK "number" w)).length := by rw [List.length_map, List.length_range]; exact il
        have := idx_at (range_nodup "number" w (uniq (keys cs)).length) hlt
        rw [List.getElem_map, List.getElem_range] at this
        exact this
      have e := keyT_toI (w := w) (n := (uniq (keys cs)).idxOf k) (by omega)
      show (Sum.inr (Sum.inr (S (keyT "number" w ((uniq (keys (cellsOf "number" (toksC "number" w cs)))).idxOf (.inl (toI (.inr (S (keyT "number" w ((uniq (keys cs)).idxOf k + 1)))))) + 1)))) : Sum Nat Key) = _
      rw [e, hi]
      rfl
  · rw [num1_name, List.map_map]
    refine List.map_congr_left fun x hx => ?_
    cases x with
    | inl c => rfl
    | inr k =>
      have hk : k ∈ uniq (keys cs) := uniq_mem.mpr (mem_keys_ex hx)
      have il := List.idxOf_lt_length_iff.mpr hk
      have hi : ((uniq (keys (cellsOf "name" (toksC "name" w cs)))).idxOf (.inr (S (keyT "name" w ((uniq (keys cs)).idxOf k + 1))))) = (uniq (keys cs)).idxOf k := by
        have rl : (rowC "name" w [] cs).length = (uniq (keys cs)).length := by
          unfold rowC
          rw [if_neg fun z => o_name z.symm, if_neg fun z => n_name z.symm, namD_len]
        rw [us2, rl]
        have hlt : (uniq (keys cs)).idxOf k < ((List.range (uniq (keys cs)).length).map (keyK "name" w)).length := by rw [List.length_map, List.length_range]; exact il
        have := idx_at (range_nodup "name" w (uniq (keys cs)).length) hlt
        rw [List.getElem_map, List.getElem_range] at this
        exact this
      show (Sum.inr (Sum.inr (S (keyT "name" w (_ + 1)))) : Sum Nat Key) = Sum.inr (Sum.inr (S (keyT "name" w (_ + 1))))
      rw [hi]
/-- turned twice: the row -/
theorem vals_row {kvs : List (Key × V)} (nd : (kvs.map (·.1)).Nodup) : (kvs.map (·.1)).map (valOf kvs) = kvs.map (·.2) := by
  rw [List.map_map]
  refine List.map_congr_left fun y hy => ?_
  show (valV kvs y.1).getD .non = y.2
  rw [val_mem nd (v := y.2) hy]
  rfl
theorem numd_snd : ∀ (xs : List V) (f : Int), (numd f xs).map (·.2) = xs
  | [], _ => rfl
  | x :: r, f => congrArg (x :: ·) (numd_snd r (f + 1))
theorem twice_row {m : Str} (hm : Mn m) (w : List Nat) (kvs : List (Key × V)) {cs : List Cl} (hl : cs.length < 1000) : rowC m w (rowC m w kvs cs) (cellsOf m (toksC m w cs)) = rowC m w kvs cs := by
  have us2 := turned_used' hm w kvs hl
  have once := row_once m w kvs cs
  have vr := vals_row once
  rcases hm with rfl | rfl | rfl
  · have ko : keys (cellsOf "order" (toksC "order" w cs)) = (rowC "order" w kvs cs).map (·.1) := by
      rw [← us2, cells_keys_order]
      refine (uniq_nodup_id ?_).symm
      exact List.pairwise_map.mpr (List.nodup_range.imp fun hab e => hab (by have := Sum.inl.inj e; omega))
    show (if ("order" : Str) = "order" then numd 0 ((keys (cellsOf "order" (toksC "order" w cs))).map (valOf (rowC "order" w kvs cs))) else _) = _
    rw [if_pos rfl, ko, vr]
    unfold rowC
    rw [if_pos rfl, numd_snd]
  · show (if ("number" : Str) = "order" then _ else if ("number" : Str) = "number" then numd 1 ((uniq (keys (cellsOf "number" (toksC "number" w cs)))).map (valOf (rowC "number" w kvs cs))) else _) = _
    rw [if_neg fun z => o_number z.symm, if_pos rfl, us2, vr]
    unfold rowC
    rw [if_neg fun z => o_number z.symm, if_pos rfl, numd_snd]
  · show (if ("name" : Str) = "order" then _ else if ("name" : Str) = "number" then _ else namD w (rowC "name" w kvs cs) (uniq (keys (cellsOf "name" (toksC "name" w cs))))) = _
    rw [if_neg fun z => o_name z.symm, if_neg fun z => n_name z.symm, us2]
    have rk := row_keys (.inr (.inr rfl)) w kvs cs
    refine List.ext_getElem (by rw [namD_len, List.length_map]) fun i h1 h2 => ?_
    have hx : ((rowC "name" w kvs cs).map (·.1))[i]'(by rw [List.length_map]; exact h2) = keyK "name" w i := by
      have : ((rowC "name" w kvs cs).map (·.1))[i]? = ((List.range (rowC "name" w kvs cs).length).map (keyK "name" w))[i]? := congrArg (·[i]?) rk
      rw [List.getElem?_eq_getElem (by rw [List.length_map]; exact h2), List.getElem?_map, List.getElem?_eq_getElem (by rw [List.length_range]; exact h2), List.getElem_range] at this
      exact Option.some.inj this
    have hv : valOf (rowC "name" w kvs cs) (((rowC "name" w kvs cs).map (·.1))[i]'(by rw [List.length_map]; exact h2)) = (rowC "name" w kvs cs)[i].2 := by
      have : ((rowC "name" w kvs cs).map (·.2))[i]? = some ((rowC "name" w kvs cs)[i].2) := by rw [List.getElem?_map, List.getElem?_eq_getElem h2]; rfl
      rw [← vr, List.getElem?_map, List.getElem?_eq_getElem (by rw [List.length_map]; exact h2)] at this
      exact Option.some.inj this
    have h1' : i < (((rowC "name" w kvs cs).map (·.1)).zipIdx.map fun p => ((.inr (S (w ++ TL.numL (p.2 + 1))) : Key), valOf (rowC "name" w kvs cs) p.1)).length := h1
    show (((rowC "name" w kvs cs).map (·.1)).zipIdx.map fun p => ((.inr (S (w ++ TL.numL (p.2 + 1))) : Key), valOf (rowC "name" w kvs cs) p.1))[i]'h1' = _
    rw [List.getElem_map, List.getElem_zipIdx]
    show ((.inr (S (w ++ TL.numL (0 + i + 1))) : Key), valOf _ (((rowC "name" w kvs cs).map (·.1))[i]'_)) = _
    rw [hv]
    rw [List.getElem_map] at hx
    refine Prod.ext ?_ rfl
    show (.inr (S (w ++ TL.numL (0 + i + 1))) : Key) = ((rowC "name" w kvs cs)[i]).1
    rw [hx, Nat.zero_add]
    unfold keyK
    rw [if_neg fun z => o_name z.symm, if_neg fun z => n_name z.symm]
/-! what the law draws -/
abbrev It := Sum (List Nat) Nat
def picks (its : List It) : List Nat := its.filterMap fun | .inl _ => none | .inr n => some n
def keyF (m : Str) (ls : List (List Nat)) (n : Nat) : List Nat := if m = "order" then [] else if m = "number" then TL.numL (n + 1) else ls.getD n []
def tokI (m : Str) (ls : List (List Nat)) : It → List Tk
  | .inl l => l.map .ch
  | .inr n => [.ho (keyF m ls n)]
def toksI (m : Str) (ls : List (List Nat)) (its : List It) : List Tk := its.flatMap (tokI m ls)
def numI : Nat → List It → List It
  | _, [] => []
  | n, .inl l :: r => .inl l :: numI n r
  | n, .inr _ :: r => .inr n :: numI (n + 1) r
def cellI (m : Str) (its : List It) : List It := if m = "order" then numI 0 its else its
def valsI (m : Str) (its : List It) (zs : List V) : List V := if m = "order" then (picks its).map fun n => zs.getD n .non else zs
def rowI (m : Str) (ls : List (List Nat)) (its : List It) (zs : List V) : List (Key × V) :=
  if m = "order" then numd 0 (valsI m its zs) else if m = "number" then numd 1 (valsI m its zs) else (ls.map fun l => (.inr (S l) : Key)).zip zs
structure Drawn (ls : List (List Nat)) (its : List It) (zs : List V) : Prop where
  zl : zs.length ≤ 6
  lsl : ls.length = zs.length
  nod : ls.Nodup
  lab : ∀ l ∈ ls, labelB l = true ∧ l.length ≤ 14
  il : its.length ≤ 10
  lit : ∀ l, Sum.inl l ∈ its → l.all litB = true ∧ l.length ≤ 3
  pk : ∀ n, Sum.inr n ∈ its → n < zs.length
  dv : ∀ z ∈ zs, DV z
theorem picks_app (a b : List It) : picks (a ++ b) = picks a ++ picks b := List.filterMap_append
theorem picks_mem {its : List It} {n : Nat} : n ∈ picks its ↔ Sum.inr n ∈ its := by
  unfold picks
  rw [List.mem_filterMap]
  constructor
  · rintro ⟨x, hx, e⟩
    cases x with
    | inl l => cases e
    | inr k =>
      cases e
      exact hx
  · exact fun h => ⟨_, h, rfl⟩
theorem picks_len (its : List It) : (picks its).length ≤ its.length := List.length_filterMap_le _ _
theorem numI_app : ∀ (a b : List It) (n : Nat), numI n (a ++ b) = numI n a ++ numI (n + (picks a).length) b
  | [], _, _ => rfl
  | .inl l :: r, b, n => congrArg (Sum.inl l :: ·) (numI_app r b n)
  | .inr k :: r, b, n => by
    show Sum.inr n :: numI (n + 1) (r ++ b) = Sum.inr n :: (numI (n + 1) r ++ numI (n + ((picks r).length + 1)) b)
    rw [numI_app r b (n + 1), show n + 1 + (picks r).length = n + ((picks r).length + 1) by omega]
theorem numI_len : ∀ (a : List It) (n : Nat), (numI n a).length = a.length
  | [], _ => rfl
  | .inl _ :: r, n => congrArg (· + 1) (numI_len r n)
  | .inr _ :: r, n => congrArg (· + 1) (numI_len r (n + 1))
theorem cellI_app (m : Str) (a : List It) (x : It) : cellI m (a ++ [x]) = cellI m a ++ [match x with | .inl l => .inl l | .inr n => .inr (if m = "order" then (picks a).length else n)] := by
  unfold cellI
  by_cases h : m = "order"
  · rw [if_pos h, if_pos h, numI_app, Nat.zero_add]
    cases x with
    | inl l => rfl
    | inr n =>
      show _ ++ [Sum.inr _] = _ ++ [Sum.inr (if m = "order" then _ else _)]
      rw [if_pos h]
  · rw [if_neg h, if_neg h]
    cases x with
    | inl l => rfl
    | inr n =>
      show _ ++ [Sum.inr _] = _ ++ [Sum.inr (if m = "order" then _ else _)]
      rw [if_neg h]
theorem cellI_len (m : Str) (its : List It) : (cellI m its).length = its.length := by
  unfold cellI
  split
  · exact numI_len _ _
  · rfl
theorem toksI_app (m : Str) (ls : List (List Nat)) (a : List It) (x : It) : toksI m ls (a ++ [x]) = toksI m ls a ++ tokI m ls x := by
  unfold toksI
  rw [List.flatMap_append, List.flatMap_cons, List.flatMap_nil, List.append_nil]
theorem holes_toksI (m : Str) (ls : List (List Nat)) : ∀ its : List It, holes (toksI m ls its) = (picks its).map (keyF m ls)
  | [] => rfl
  | .inl l :: r => by
    show holes (tokI m ls (.inl l) ++ toksI m ls r) = _
    rw [holes_app, holes_toksI m ls r]
    show holes (l.map Tk.ch) ++ _ = _
    rw [LW.holes_ch]
    rfl
  | .inr k :: r => by
    show holes (tokI m ls (.inr k) ++ toksI m ls r) = _
    rw [holes_app, holes_toksI m ls r]
    rfl
theorem keyF_len {m : Str} {ls : List (List Nat)} {n : Nat} (hl : ∀ l ∈ ls, l.length ≤ 14) (hn : n < 1000) : (keyF m ls n).length ≤ 14 := by
  unfold keyF
  split
  · exact Nat.zero_le _
  · split
    · exact Nat.le_trans (TL.numL_len (n := n + 1) (k := 6) (by decide) (by omega)) (by decide)
    · rw [List.getD_eq_getElem?_getD]
      by_cases h : n < ls.length
      · rw [List.getElem?_eq_getElem h]
        exact hl _ (List.getElem_mem h)
      · rw [List.getElem?_eq_none (by omega)]
        exact Nat.zero_le _
theorem flat_toksI_len {m : Str} {ls : List (List Nat)} (hl : ∀ l ∈ ls, l.length ≤ 14) : ∀ {its : List It}, (∀ l, Sum.inl l ∈ its → l.length ≤ 3) → (∀ n, Sum.inr n ∈ its → n < 1000) → (flat (toksI m ls its)).length ≤ 16 * its.length ∧ (toksI m ls its).length ≤ 3 * its.length
  | [], _, _ => ⟨Nat.zero_le _, Nat.zero_le _⟩
  | .inl l :: r, h1, h2 => by
    obtain ⟨a, b⟩ := flat_toksI_len (m := m) hl (its := r) (fun l h => h1 l (List.mem_cons_of_mem _ h)) fun n h => h2 n (List.mem_cons_of_mem _ h)
    have := h1 l List.mem_cons_self
    show (flat (l.map Tk.ch ++ toksI m ls r)).length ≤ _ ∧ (l.map Tk.ch ++ toksI m ls r).length ≤ _
    rw [flat_app, Kq.flat_ch, List.length_append, List.length_append, List.length_map, List.length_cons]
    omega
  | .inr k :: r, h1, h2 => by
    obtain ⟨a, b⟩ := flat_toksI_len (m := m) hl (its := r) (fun l h => h1 l (List.mem_cons_of_mem _ h)) fun n h => h2 n (List.mem_cons_of_mem _ h)
    have kl := keyF_len (m := m) hl (h2 k List.mem_cons_self)
    show (flat ([Tk.ho (keyF m ls k)] ++ toksI m ls r)).length ≤ _ ∧ ([Tk.ho (keyF m ls k)] ++ toksI m ls r).length ≤ _
    have e : (flat [Tk.ho (keyF m ls k)]).length = (keyF m ls k).length + 2 := by
      show (123 :: (keyF m ls k ++ 125 :: [])).length = _
      rw [List.length_cons, List.length_append]
      rfl
    rw [flat_app, List.length_append, List.length_append, e, List.length_cons]
    show _ ∧ 1 + _ ≤ _
    omega
theorem label_no {l : List Nat} (h : labelB l = true) : ∀ c ∈ l, c ≠ 125 ∧ c < 16 ^ 8 := by
  obtain ⟨d, hd, hdd⟩ := stem_app l
  unfold labelB at h
  rw [Bool.and_eq_true] at h
  have hw := h.1
  unfold wordB at hw
  rw [Bool.and_eq_true] at hw
  intro c hc
  rw [hd] at hc
  rcases List.mem_append.mp hc with hc | hc
  · have := List.all_eq_true.mp hw.2 c hc
    unfold low at this
    simp only [Bool.and_eq_true, decide_eq_true_eq] at this
    exact ⟨by omega, Nat.lt_of_le_of_lt this.2 (by decide)⟩
  · have := List.all_eq_true.mp hdd c hc
    unfold dig at this
    simp only [Bool.and_eq_true, decide_eq_true_eq] at this
    exact ⟨by omega, Nat.lt_of_le_of_lt this.2 (by decide)⟩
theorem Drawn.at {ls : List (List Nat)} {its : List It} {zs : List V} (d : Drawn ls its zs) {n : Nat} (h : n < zs.length) : ls[n]? = some (ls.getD n []) := by
  rw [List.getD_eq_getElem?_getD, List.getElem?_eq_getElem (by rw [d.lsl]; exact h)]
  rfl
theorem Drawn.zat {ls : List (List Nat)} {its : List It} {zs : List V} (_ : Drawn ls its zs) {n : Nat} (h : n < zs.length) : zs[n]? = some (zs.getD n .non) := by
  rw [List.getD_eq_getElem?_getD, List.getElem?_eq_getElem h]
  rfl
theorem Drawn.rd {m : Str} {ls : List (List Nat)} {its : List It} {zs : List V} (hm : Mn m) (d : Drawn ls its zs) : ∀ t ∈ toksI m ls its, RdOk m t := by
  intro t ht
  obtain ⟨x, hx, ht⟩ := List.mem_flatMap.mp ht
  cases x with
  | inl l =>
    obtain ⟨c, hc, rfl⟩ := List.mem_map.mp ht
    exact List.all_eq_true.mp (d.lit l hx).1 c hc
  | inr n =>
    have hn := d.pk n hx
    have := d.zl
    rw [List.mem_singleton.mp ht]
    rcases hm with rfl | rfl | rfl
    · unfold keyF
      rw [if_pos rfl]
      exact ⟨by decide +kernel, List.not_mem_nil, by show keyB "order" [] = true; decide +kernel⟩
    · unfold keyF
      rw [if_neg fun z => o_number z.symm, if_pos rfl]
      refine ⟨by decide +kernel, fun hm => ?_, LW.keyB_num (by omega)⟩
      have := TL.numL_digits (n + 1) 125 hm
      omega
    · unfold keyF
      rw [if_neg fun z => o_name z.symm, if_neg fun z => n_name z.symm]
      have lb := d.lab _ (List.mem_of_getElem? (d.at hn))
      exact ⟨by decide +kernel, fun hm => (label_no lb.1 _ hm).1 rfl, LW.keyB_name lb.1⟩
theorem ki_order (ls : List (List Nat)) (its : List It) : keys (cellsOf "order" (toksI "order" ls its)) = (List.range (picks its).length).map fun i : Nat => (.inl (i : Int) : Key) := by
  unfold cellsOf
  rw [keys_order o_name o_number, keys_read, List.length_map, holes_toksI, List.length_map]
  refine List.map_congr_left fun i _ => ?_
  rw [Nat.zero_add]
theorem ki_number {ls : List (List Nat)} {its : List It} {zs : List V} (d : Drawn ls its zs) : keys (cellsOf "number" (toksI "number" ls its)) = (picks its).map fun n : Nat => (.inl ((n : Int) + 1) : Key) := by
  unfold cellsOf
  rw [keys_number n_name rfl, keys_read, holes_toksI, List.map_map, List.map_map]
  refine List.map_congr_left fun n hn => ?_
  have := d.pk n (picks_mem.mp hn)
  have := d.zl
  show (Sum.inl (toI (.inr (S (keyF "number" ls n)))) : Key) = _
  congr 1
  unfold keyF
  rw [if_neg fun z => o_number z.symm, if_pos rfl]
  show (intText? (S (TL.numL (n + 1)))).getD 0 = _
  rw [← num_S (n + 1), TL.int_num (Nat.le_trans (TL.numL_len (n := n + 1) (k := 6) (by decide) (by omega)) (by decide))]
  rfl
theorem ki_name (ls : List (List Nat)) (its : List It) : keys (cellsOf "name" (toksI "name" ls its)) = (picks its).map fun n : Nat => (.inr (S (ls.getD n [])) : Key) := by
  unfold cellsOf
  rw [keys_name, keys_read, holes_toksI, List.map_map]
  refine List.map_congr_left fun n hn => ?_
  show (.inr (S (keyF "name" ls n)) : Key) = _
  unfold keyF
  rw [if_neg fun z => o_name z.symm, if_neg fun z => n_name z.symm]
theorem ki_len {m : Str} {ls : List (List Nat)} {its : List It} {zs : List V} (hm : Mn m) (d : Drawn ls its zs) : (keys (cellsOf m (toksI m ls its))).length = (picks its).length := by
  rcases hm with rfl | rfl | rfl
  · rw [ki_order, List.length_map, List.length_range]
  · rw [ki_number d, List.length_map]
  · rw [ki_name, List.length_map]
theorem rowI_keys {m : Str} {ls : List (List Nat)} {its : List It} {zs : List V} (hm : Mn m) (d : Drawn ls its zs) : (rowI m ls its zs).map (·.1) = if m = "order" then (List.range (picks its).length).map fun i : Nat => (.inl (i : Int) : Key) else if m = "number" then (List.range zs.length).map fun i : Nat => (.inl ((i : Int) + 1) : Key) else ls.map fun l => (.inr (S l) : Key) := by
  unfold rowI valsI
  rcases hm with rfl | rfl | rfl
  · rw [if_pos rfl, if_pos rfl, if_pos rfl, numd_keys, List.length_map]
    refine List.map_congr_left fun i _ => ?_
    rw [Int.zero_add]
  · rw [if_neg fun z => o_number z.symm, if_pos rfl, if_neg fun z => o_number z.symm, if_neg fun z => o_number z.symm, if_pos rfl, numd_keys]
    refine List.map_congr_left fun i _ => ?_
    rw [Int.add_comm]
  · rw [if_neg fun z => o_name z.symm, if_neg fun z => n_name z.symm, if_neg fun z => o_name z.symm, if_neg fun z => n_name z.symm]
    exact List.map_fst_zip (by rw [List.length_map, d.lsl]; exact Nat.le_refl _)
theorem lab_nodup {ls : List (List Nat)} (h : ls.Nodup) : (ls.map fun l => (.inr (S l) : Key)).Nodup := List.pairwise_map.mpr (h.imp fun hab e => hab (S_inj (Sum.inr.inj e)))
theorem rowI_once {m : Str} {ls : List (List Nat)} {its : List It} {zs : List V} (hm : Mn m) (d : Drawn ls its zs) : ((rowI m ls its zs).map (·.1)).Nodup := by
  rw [rowI_keys hm d]
  split
  · exact List.pairwise_map.mpr (List.nodup_range.imp fun hab e => hab (by have := Sum.inl.inj e; omega))
  · split
    · exact List.pairwise_map.mpr (List.nodup_range.imp fun hab e => hab (by have := Sum.inl.inj e; omega))
    · exact lab_nodup d.nod
theorem rowI_len {m : Str} {ls : List (List Nat)} {its : List It} {zs : List V} (hm : Mn m) (d : Drawn ls its zs) : (rowI m ls its zs).length ≤ 10 := by
  have := congrArg List.length (rowI_keys hm d)
  have h1 := picks_len its
  have h2 := d.il
  have h3 := d.zl
  have h4 := d.lsl
  rw [List.length_map] at this
  rw [this]
  split
  · rw [List.length_map, List.length_range]
    omega
  · split
    · rw [List.length_map, List.length_range]
      omega
    · rw [List.length_map]
      omega
theorem valsI_dv {m : Str} {ls : List (List Nat)} {its : List It} {zs : List V} (d : Drawn ls its zs) : ∀ z ∈ valsI m its zs, DV z := by
  intro z hz
  unfold valsI at hz
  split at hz
  · obtain ⟨n, hn, rfl⟩ := List.mem_map.mp hz
    exact d.dv _ (List.mem_of_getElem? (d.zat (d.pk n (picks_mem.mp hn))))
  · exact d.dv z hz
theorem rowI_vals {m : Str} {ls : List (List Nat)} {its : List It} {zs : List V} (d : Drawn ls its zs) : ∀ y ∈ rowI m ls its zs, DV y.2 := by
  intro y hy
  unfold rowI at hy
  split at hy
  · exact valsI_dv d _ (numd_vals hy)
  · split at hy
    · exact valsI_dv d _ (numd_vals hy)
    · exact d.dv _ (List.of_mem_zip (show (y.1, y.2) ∈ _ from hy)).2
theorem rowI_has {m : Str} {ls : List (List Nat)} {its : List It} {zs : List V} (hm : Mn m) (d : Drawn ls its zs) : ∀ k ∈ keys (cellsOf m (toksI m ls its)), k ∈ (rowI m ls its zs).map (·.1) := by
  intro k hk
  rw [rowI_keys hm d]
  rcases hm with rfl | rfl | rfl
  · rw [if_pos rfl]
    rw [ki_order] at hk
    exact hk
  · rw [if_neg fun z => o_number z.symm, if_pos rfl]
    rw [ki_number d] at hk
    obtain ⟨n, hn, rfl⟩ := List.mem_map.mp hk
    exact List.mem_map.mpr ⟨n, List.mem_range.mpr (d.pk n (picks_mem.mp hn)), rfl⟩
  · rw [if_neg fun z => o_name z.symm, if_neg fun z => n_name z.symm]
    rw [ki_name] at hk
    obtain ⟨n, hn, rfl⟩ := List.mem_map.mp hk
    exact List.mem_map.mpr ⟨_, List.mem_of_getElem? (d.at (d.pk n (picks_mem.mp hn))), rfl⟩
theorem num1_len (m : Str) : ∀ (xs : List (Sum Nat Key)) (n : Nat), (num1 m n xs).length = xs.length
  | [], _ => rfl
  | .inl _ :: r, n => congrArg (· + 1) (num1_len m r n)
  | .inr _ :: r, n => congrArg (· + 1) (num1_len m r (n + 1))
theorem ex_cells (m : Str) (ts : List Tk) : exC (cellsOf m ts) = num1 m 0 (ts.map tkI) := by
  unfold cellsOf
  rw [exC_key, exC_read]
theorem cells_few (m : Str) (ts : List Tk) : (cellsOf m ts).length ≤ 2 * (holes ts).length + 1 := by
  unfold cellsOf
  rw [keyC_len]
  refine Nat.le_trans (mergeC_len _) ?_
  rw [rawC_len]
  exact Nat.le_refl _
theorem cells_size (m : Str) (ts : List Tk) : szC (cellsOf m ts) ≤ ts.length := by
  rw [cnt_ex, ex_cells]
  refine Nat.le_trans (List.countP_le_length) ?_
  rw [num1_len, List.length_map]
  exact Nat.le_refl _
theorem cells_lit {m : Str} {ts : List Tk} (h : ∀ t ∈ ts, RdOk m t) : ∀ l, Sum.inl l ∈ cellsOf m ts → ∀ c ∈ l, litB c = true := by
  intro l hl c hc
  have := mem_lit hl hc
  rw [ex_cells] at this
  obtain ⟨t, ht, e⟩ := List.mem_map.mp (num1_lit m this)
  cases t with
  | ch d =>
    cases e
    exact h _ ht
  | ho k => cases e
theorem Drawn.sizes {m : Str} {ls : List (List Nat)} {its : List It} {zs : List V} (d : Drawn ls its zs) : (flat (toksI m ls its)).length ≤ 160 ∧ (toksI m ls its).length ≤ 30 := by
  have := d.il
  obtain ⟨a, b⟩ := flat_toksI_len (m := m) (ls := ls) (fun l h => (d.lab l h).2) (its := its) (fun l h => (d.lit l h).2) fun n h => by have := d.pk n h; have := d.zl; omega
  omega
theorem Drawn.qy {m : Str} {ls : List (List Nat)} {its : List It} {zs : List V} (hm : Mn m) (d : Drawn ls its zs) : Qy (cellsOf m (toksI m ls its)) (rowI m ls its zs) where
  few := by
    have h1 := cells_few m (toksI m ls its)
    rw [holes_toksI, List.length_map] at h1
    have := picks_len its
    have := d.il
    omega
  size := by
    have h1 := cells_size m (toksI m ls its)
    have := (d.sizes (m := m)).2
    omega
  lit := cells_lit (d.rd hm)
  once := rowI_once hm d
  vals := rowI_vals d
  has := rowI_has hm d
  fewK := Nat.lt_of_le_of_lt (rowI_len hm d) (by decide)
theorem lit_items (m : Str) (ls : List (List Nat)) (l : List Nat) (r : List It) : (toksI m ls (.inl l :: r)).map tkI = l.map .inl ++ (toksI m ls r).map tkI := by
  show (l.map Tk.ch ++ toksI m ls r).map tkI = _
  rw [List.map_append, List.map_map]
  rfl
theorem pick_items (m : Str) (ls : List (List Nat)) (n : Nat) (r : List It) : (toksI m ls (.inr n :: r)).map tkI = .inr (.inr (S (keyF m ls n))) :: (toksI m ls r).map tkI := rfl
theorem order_its (ls : List (List Nat)) (zs : List V) : ∀ (its : List It) (pre : List V), (num1 "order" pre.length ((toksI "order" ls its).map tkI)).map (itV (numd 0 (pre ++ (picks its).map fun n => zs.getD n .non))) = ex ((numI pre.length its).map (lfl (pre ++ (picks its).map fun n => zs.getD n .non)))
  | [], _ => rfl
  | .inl l :: r, pre => by
    rw [lit_items, num1_ch, List.map_append, List.map_map]
    exact congrArg (l.map Sum.inl ++ ·) (order_its ls zs r pre)
  | .inr k :: r, pre => by
    have e := order_its ls zs r (pre ++ [zs.getD k .non])
    rw [List.length_append, List.append_assoc] at e
    rw [pick_items]
    show itV _ (.inr (if ("order" : Str) = "name" then _ else if ("order" : Str) = "number" then _ else .inl (pre.length : Int))) :: (num1 "order" (pre.length + 1) ((toksI "order" ls r).map tkI)).map (itV (numd 0 (pre ++ zs.getD k .non :: (picks r).map fun n => zs.getD n .non))) = .inr ("value", [(pre ++ zs.getD k .non :: (picks r).map fun n => zs.getD n .non).getD pre.length .non]) :: ex ((numI (pre.length + 1) r).map (lfl (pre ++ zs.getD k .non :: (picks r).map fun n => zs.getD n .non)))
    rw [if_neg o_name, if_neg o_number]
    refine congr (congrArg List.cons ?_) e
    have hg : (pre ++ zs.getD k .non :: (picks r).map fun n => zs.getD n .non)[pre.length]? = some (zs.getD k .non) := by rw [List.getElem?_append_right (Nat.le_refl _), Nat.sub_self]; rfl
    have := val_numd (f := 0) hg
    rw [Int.zero_add] at this
    show Sum.inr (("value" : Str), [valOf _ (.inl (pre.length : Int))]) = _
    refine (congrArg (fun z => (Sum.inr (("value" : Str), [z]) : Sum Nat (Str × List V))) this).trans ?_
    have hd : (pre ++ zs.getD k .non :: (picks r).map fun n => zs.getD n .non).getD pre.length .non = zs.getD k .non := by
      rw [List.getD_eq_getElem?_getD, hg]
      rfl
    exact congrArg (fun z => (Sum.inr (("value" : Str), [z]) : Sum Nat (Str × List V))) hd.symm
theorem plain_its {ls : List (List Nat)} {zs : List V} {kvs : List (Key × V)} {m : Str} {h : Key → Key} : ∀ {its : List It}, (∀ n, Sum.inr n ∈ its → valOf kvs (h (.inr (S (keyF m ls n)))) = zs.getD n .non) → (((toksI m ls its).map tkI).map (gK h)).map (itV kvs) = ex (its.map (lfl zs))
  | [], _ => rfl
  | .inl l :: r, hv => by
    rw [lit_items, List.map_append, List.map_append, plain_its (its := r) fun n hn => hv n (List.mem_cons_of_mem _ hn)]
    rw [List.map_map, List.map_map]
    rfl
  | .inr k :: r, hv => by
    rw [pick_items, List.map_cons, List.map_cons, plain_its (its := r) fun n hn => hv n (List.mem_cons_of_mem _ hn)]
    show Sum.inr (("value" : Str), [valOf kvs (h (.inr (S (keyF m ls k))))]) :: _ = Sum.inr (("value" : Str), [zs.getD k .non]) :: _
    rw [hv k List.mem_cons_self]
/-- the filled text of a drawn query -/
theorem Drawn.fill {m : Str} {ls : List (List Nat)} {its : List It} {zs : List V} (hm : Mn m) (d : Drawn ls its zs) : LW.fill (rowI m ls its zs) (cellsOf m (toksI m ls its)) = merge ((cellI m its).map (lfl (valsI m its zs))) := by
  unfold LW.fill
  refine merge_congr ?_
  rw [ex_fill, ex_cells]
  rcases hm with rfl | rfl | rfl
  · have := order_its ls zs its []
    unfold rowI cellI valsI
    rw [if_pos rfl, if_pos rfl, if_pos rfl]
    exact this
  · unfold rowI cellI valsI
    rw [if_neg fun z => o_number z.symm, if_pos rfl, if_neg fun z => o_number z.symm, if_neg fun z => o_number z.symm, num1_number]
    refine plain_its fun n hn => ?_
    have hz := d.zat (d.pk n hn)
    have h1 := d.pk n hn
    have h2 := d.zl
    have e : toI (.inr (S (keyF "number" ls n))) = (n : Int) + 1 := by
      unfold keyF
      rw [if_neg fun z => o_number z.symm, if_pos rfl]
      show (intText? (S (TL.numL (n + 1)))).getD 0 = _
      rw [← num_S (n + 1), TL.int_num (Nat.le_trans (TL.numL_len (n := n + 1) (k := 6) (by decide) (by omega)) (by decide))]
      rfl
    rw [e, Int.add_comm]
    exact val_numd hz
  · unfold rowI cellI valsI
    rw [if_neg fun z => o_name z.symm, if_neg fun z => n_name z.symm, if_neg fun z => o_name z.symm, if_neg fun z => o_name z.symm, num1_name]
    have := plain_its (ls := ls) (zs := zs) (kvs := (ls.map fun l => (.inr (S l) : Key)).zip zs) (m := "name") (h := id) (its := its) fun n hn => by
      have h1 := d.pk n hn
      unfold keyF
      rw [if_neg fun z => o_name z.symm, if_neg fun z => n_name z.symm]
      unfold valOf
      rw [val_mem (v := zs.getD n .non)]
      · rfl
      · rw [List.map_fst_zip (by rw [List.length_map, d.lsl]; exact Nat.le_refl _)]
        exact lab_nodup d.nod
      · refine List.mem_of_getElem? (i := n) ?_
        rw [List.getElem?_zip_eq_some]
        exact ⟨by rw [List.getElem?_map, d.at h1]; rfl, d.zat h1⟩
    rw [show (gK id : Sum Nat Key → Sum Nat Key) = id by funext x; cases x <;> rfl, List.map_id] at this
    exact this
/-- the row of a drawn query stands as its table wants it -/
theorem Drawn.row {m : Str} {ls : List (List Nat)} {its : List It} {zs : List V} {H : Hp} {r : Addr} (hm : Mn m) (d : Drawn ls its zs) (h : H r = some (RowTold m (rowI m ls its zs))) : RowAt H m r (rowI m ls its zs) := by
  have vd := valsI_dv (m := m) d
  rcases hm with rfl | rfl | rfl
  · refine .inr ⟨o_name, valsI "order" its zs, ?_, fun x hx => (vd x hx).val, ?_⟩
    · rw [h]
      unfold RowTold rowI
      rw [if_neg o_name, if_pos rfl, numd_snd]
    · unfold rowI
      rw [if_pos rfl, if_neg o_number]
  · refine .inr ⟨n_name, valsI "number" its zs, ?_, fun x hx => (vd x hx).val, ?_⟩
    · rw [h]
      unfold RowTold rowI
      rw [if_neg n_name, if_neg fun z => o_number z.symm, if_pos rfl, numd_snd]
    · unfold rowI
      rw [if_neg fun z => o_number z.symm, if_pos rfl, if_pos rfl]
  · refine .inl ⟨rfl, ?_, rowI_once (.inr (.inr rfl)) d, fun y hy => ⟨?_, (rowI_vals d y hy).val⟩⟩
    · rw [h]
      unfold RowTold
      rw [if_pos rfl]
    · unfold rowI at hy
      rw [if_neg fun z => o_name z.symm, if_neg fun z => n_name z.symm] at hy
      obtain ⟨l, hl, e⟩ := List.mem_map.mp (List.of_mem_zip (show (y.1, y.2) ∈ _ from hy)).1
      exact ⟨l, e.symm, (d.lab l hl).1, by have := (d.lab l hl).2; omega⟩
theorem cellI_inl {m : Str} {its : List It} {l : List Nat} (h : Sum.inl l ∈ cellI m its) : Sum.inl l ∈ its := by
  have key : ∀ (its : List It) (n : Nat), Sum.inl l ∈ numI n its → Sum.inl l ∈ its := by
    intro its
    induction its with
    | nil => exact fun _ h => h
    | cons x r ih =>
      intro n h
      cases x with
      | inl l' =>
        rcases List.mem_cons.mp (show Sum.inl l ∈ Sum.inl l' :: numI n r from h) with e | h
        · rw [e]
          exact List.mem_cons_self
        · exact List.mem_cons_of_mem _ (ih n h)
      | inr k =>
        rcases List.mem_cons.mp (show Sum.inl l ∈ Sum.inr n :: numI (n + 1) r from h) with e | h
        · cases e
        · exact List.mem_cons_of_mem _ (ih (n + 1) h)
  unfold cellI at h
  split at h
  · exact key its 0 h
  · exact h
theorem cellI_inr {m : Str} {its : List It} {zs : List V} {ls : List (List Nat)} (d : Drawn ls its zs) {n : Nat} (h : Sum.inr n ∈ cellI m its) : n < (valsI m its zs).length := by
  have key : ∀ (its : List It) (k : Nat), Sum.inr n ∈ numI k its → n < k + (picks its).length := by
    intro its
    induction its with
    | nil => exact fun _ h => nomatch h
    | cons x r ih =>
      intro k h
      cases x with
      | inl l' =>
        rcases List.mem_cons.mp (show Sum.inr n ∈ Sum.inl l' :: numI k r from h) with e | h
        · cases e
        · exact ih k h
      | inr j =>
        show n < k + ((picks r).length + 1)
        rcases List.mem_cons.mp (show Sum.inr n ∈ Sum.inr k :: numI (k + 1) r from h) with e | h
        · cases e
          omega
        · have := ih (k + 1) h
          omega
  unfold cellI at h
  unfold valsI
  split at h
  · rw [if_pos (by assumption), List.length_map]
    have := key its 0 h
    omega
  · rw [if_neg (by assumption)]
    exact d.pk n h
theorem cellI_size {m : Str} {its : List It} (h : ∀ l, Sum.inl l ∈ its → l.length ≤ 3) : szL (cellI m its) ≤ 3 * its.length := by
  have key : ∀ cs : List It, (∀ l, Sum.inl l ∈ cs → l.length ≤ 3) → szL cs ≤ 3 * cs.length := by
    intro cs
    induction cs with
    | nil => exact fun _ => Nat.zero_le _
    | cons x r ih =>
      intro h
      have h1 := ih fun l hl => h l (List.mem_cons_of_mem _ hl)
      unfold szL sz at h1 ⊢
      simp only [List.map_cons, List.sum_cons, List.length_cons]
      cases x with
      | inl l =>
        have h2 := h l List.mem_cons_self
        show l.length + _ ≤ _
        omega
      | inr n =>
        show 0 + _ ≤ _
        omega
  have := key (cellI m its) fun l hl => h l (cellI_inl hl)
  rw [cellI_len] at this
  exact this
/-! what is shown by repr -/
theorem merge_all {φ : Pc → Prop} (hs : ∀ m l, φ (.say m) → φ (.say l) → φ (.say (m ++ l))) {ps : List Pc} (h : ∀ p ∈ ps, φ p) : ∀ p ∈ merge ps, φ p := by
  have put_phi : ∀ (acc : List Pc) (p : Pc), (∀ q ∈ acc, φ q) → φ p → ∀ q ∈ put acc p, φ q := by
    intro acc p ha hp q hq
    rcases put_cases acc p with ⟨_, e⟩ | ⟨m, l, _, rfl, hl, e⟩ | ⟨_, e⟩
    · rw [e] at hq
      exact ha q hq
    · rw [e] at hq
      rcases List.mem_append.mp hq with hq | hq
      · exact ha q ((List.dropLast_sublist acc).subset hq)
      · rw [List.mem_singleton.mp hq]
        exact hs m l (ha _ (List.mem_of_getLast? hl)) hp
    · rw [e] at hq
      rcases List.mem_append.mp hq with hq | hq
      · exact ha q hq
      · rw [List.mem_singleton.mp hq]
        exact hp
  have key : ∀ (qs acc : List Pc), (∀ p ∈ acc, φ p) → (∀ p ∈ qs, φ p) → ∀ p ∈ qs.foldl put acc, φ p := by
    intro qs
    induction qs with
    | nil => exact fun acc ha _ => ha
    | cons q r ih => exact fun acc ha hq => ih _ (put_phi acc q ha (hq q List.mem_cons_self)) fun p hp => hq p (List.mem_cons_of_mem _ hp)
  exact key ps [] (fun p hp => nomatch hp) h
/-- a part as a filled text has it -/
def PV : Pc → Prop
  | .say l => ∀ c ∈ l, 32 ≤ c ∧ c ≤ 126
  | .oth t xs => t = "value" ∧ ∃ v, xs = [v] ∧ DV v
theorem PV.tp {p : Pc} (h : PV p) : TP p := by
  cases p with
  | say l => exact TP.say h
  | oth t xs =>
    obtain ⟨rfl, v, rfl, hv⟩ := h
    exact TP.val (TV.of hv)
theorem merge_pv {ps : List Pc} (h : ∀ p ∈ ps, PV p) : ∀ p ∈ merge ps, PV p := merge_all (fun m l h1 h2 c hc => (List.mem_append.mp hc).elim (h1 c) (h2 c)) h
theorem Qy.pv {cs : List Cl} {kvs : List (Key × V)} (h : Qy cs kvs) : ∀ p ∈ LW.fill kvs cs, PV p := by
  refine merge_pv fun p hp => ?_
  obtain ⟨c, hc, rfl⟩ := List.mem_map.mp hp
  cases c with
  | inl l => exact fun c hx => lit_rng (h.lit l hc c hx)
  | inr k =>
    obtain ⟨v, hv⟩ := val_some (h.has k (keys_sub hc))
    refine ⟨rfl, (valV kvs k).getD .non, rfl, ?_⟩
    rw [hv]
    exact h.vals _ (mem_of_val hv)
theorem dv_ok {v : V} (h : DV v) : Ok 0 200 (dV v) := by
  cases h with
  | int i hi =>
    refine Ok.int ?_
    have e : (10 : Nat) ^ 40 = 10000000000000000000000000000000000000000 := by decide +kernel
    unfold most at hi
    rw [e]
    split at hi <;> omega
  | str l hl hc => exact (Ok.str fun c h => Nat.lt_of_le_of_lt (hc c h).2 (by decide)).mono (Nat.le_refl _) (by omega)
theorem dp_dv {K : PySem.W.Frag} {H : Hp} {v : V} (h : DV v) : Dp K H v (dV v) := dp_tv (TV.of h)
theorem dp_dvs {K : PySem.W.Frag} {H : Hp} : ∀ {vs : List V}, (∀ v ∈ vs, DV v) → DpAll K H vs (vs.map dV)
  | [], _ => .nil
  | v :: r, h => .cons (dp_dv (h v List.mem_cons_self)) (dp_dvs fun x hx => h x (List.mem_cons_of_mem _ hx))
theorem flat_dv {v : V} (h : DV v) : flatB v = true := by
  cases h <;> rfl
theorem wt_pv {p : Pc} (h : PV p) : Ok 1 (210 + szP p) (dPc p) := by
  cases p with
  | say l =>
    have a : Ok 0 3 (.str "say") := by
      rw [say_S]
      exact Ok.str (l := [115, 97, 121]) (by decide)
    have b : Ok 0 l.length (.str (S l)) := Ok.str fun c hc => Nat.lt_of_le_of_lt (h c hc).2 (by decide)
    have := Ok.tuple (k := 0) (N := l.length + 3) (ds := [.str "say", .str (S l)]) fun d hd => by
      rcases List.mem_cons.mp hd with rfl | hd
      · exact a.mono (Nat.le_refl _) (by omega)
      · rw [List.mem_singleton.mp hd]
        exact b.mono (Nat.le_refl _) (by omega)
    refine ⟨this.sh, this.nd, this.dp, this.ls, ?_⟩
    show PyData.weight (.tuple [.str "say", .str (S l)]) ≤ 210 + l.length
    simp only [PyData.weight, PyData.weightAll]
    have h1 := a.wt
    have h2 := b.wt
    simp only [PyData.weight] at h1 h2
    omega
  | oth t xs =>
    obtain ⟨rfl, v, rfl, hv⟩ := h
    have a : Ok 0 5 (.str "value") := by
      rw [value_S]
      exact Ok.str (l := [118, 97, 108, 117, 101]) (by decide)
    have b := dv_ok hv
    have := Ok.tuple (k := 0) (N := 200) (ds := [.str "value", dV v]) fun d hd => by
      rcases List.mem_cons.mp hd with rfl | hd
      · exact a.mono (Nat.le_refl _) (by omega)
      · rw [List.mem_singleton.mp hd]
        exact b
    refine ⟨this.sh, this.nd, this.dp, this.ls, ?_⟩
    show PyData.weight (.tuple [.str "value", dV v]) ≤ 210 + 0
    simp only [PyData.weight, PyData.weightAll]
    have h1 := a.wt
    have h2 := b.wt
    simp only [PyData.weight] at h1
    omega
theorem wt_all {f : Pc → Nat} : ∀ {ps : List Pc}, (∀ p ∈ ps, Ok 1 (f p) (dPc p)) → PyData.weightAll (ps.map dPc) ≤ ps.length + (ps.map f).sum
  | [], _ => by simp [PyData.weightAll]
  | p :: r, h => by
    have h1 := (h p List.mem_cons_self).wt
    have h2 := wt_all (ps := r) fun q hq => h q (List.mem_cons_of_mem _ hq)
    simp only [List.map_cons, PyData.weightAll, List.length_cons, List.sum_cons]
    omega
theorem sum_add {f : Pc → Nat} (k : Nat) : ∀ ps : List Pc, (ps.map fun p => k + f p).sum = k * ps.length + (ps.map f).sum
  | [] => rfl
  | p :: r => by
    simp only [List.map_cons, List.sum_cons, List.length_cons, sum_add k r, Nat.mul_succ]
    omega
theorem ok_parts {ps : List Pc} (h : ∀ p ∈ ps, PV p) : Ok 2 (211 * ps.length + sz ps) (dPs ps) := by
  have := Ok.tuple (k := 1) (N := 210 + sz ps) (ds := ps.map dPc) fun d hd => by
    obtain ⟨p, hp, rfl⟩ := List.mem_map.mp hd
    have := wt_pv (h p hp)
    refine this.mono (Nat.le_refl _) ?_
    obtain ⟨i, hi⟩ := List.mem_iff_getElem?.mp hp
    cases p with
    | say l =>
      have : _ + l.length ≤ sz ps := sz_get hi
      show 210 + l.length ≤ _
      omega
    | oth t xs => show 210 + 0 ≤ _; omega
  refine ⟨this.sh, this.nd, this.dp, this.ls, ?_⟩
  unfold dPs
  simp only [PyData.weight]
  have h1 := wt_all (f := fun p => 210 + szP p) fun p hp => wt_pv (h p hp)
  rw [sum_add] at h1
  have : (ps.map szP).sum = sz ps := rfl
  omega
theorem Qy.ok {cs : List Cl} {kvs : List (Key × V)} (h : Qy cs kvs) : Ok 60 70000 (dPs (LW.fill kvs cs)) := by
  have h1 := ok_parts h.pv
  have h2 := merge_len (cs.map (fillP kvs))
  have h3 := h.few
  have h4 := h.size
  have h5 : sz (LW.fill kvs cs) = szC cs := by
    unfold LW.fill
    rw [sz_merge, szC_fill]
  rw [List.length_map] at h2
  refine h1.mono (by decide) ?_
  have : (LW.fill kvs cs).length ≤ cs.length := h2
  omega
end LW

local macro_rules | `(tactic| walk_at "tx") => `(tactic| first
  | with_reducible refine Mk.w_prop ?_
  | with_reducible refine Mk.w_methK ?_
  | with_reducible refine Mk.w_clr ?_
  | with_reducible refine Ow.w_par3 ?_
  | with_reducible refine Ow.c_par3 ?_
  | with_reducible refine Mk.w_pairC ?_
  | with_reducible refine Mk.w_pairN ?_
  | ((with_reducible refine' Mk.c_lenL ?hs ?_); (case hs => walk_at "hp"))
  | ((with_reducible refine' Mk.c_lenD ?hs ?_); (case hs => walk_at "hp")))
namespace LW
open PySem L2 SX Tx Tc Tl Kq Rp
theorem KeptB.free {b : Addr} {H H' : Hp} (k : KeptB b H H') {D : Addr} (n : D ≠ b) (h : H' D = none) : H D = none := by
  cases e : H D with
  | none => rfl
  | some o =>
    rw [k D o e n] at h
    cases h
theorem BagB.ne {b : Addr} {H : Hp} (h : BagB H b) {D : Addr} (hD : H D = none) : D ≠ b := by
  obtain ⟨bs, eb⟩ := h.ob
  exact (ne_of_none eb hD).symm
theorem disp3 (a b c : V) : mergeK [] ([(.inr "order", a), (.inr "number", b), (.inr "name", c)] : List (Key × V)) = ([(.inr "order", a), (.inr "number", b), (.inr "name", c)] : List (Key × V)) := by rfl
theorem pcs_ne {H : Hp} {xs : List V} {ps : List Pc} {a b : Addr} (ha : H a = some (.lst xs)) (p : PcsAt H xs ps) (hb : BagB H b) : a ≠ b := fun z => by
  subst z
  obtain ⟨d, m, e, _⟩ := hb
  rw [e] at ha
  cases ha
  cases p with
  | cons h _ =>
    obtain ⟨t, e, _⟩ := h
    cases e
theorem KeptB.pcs {H H' : Hp} {b : Addr} (k : KeptB b H H') (hb : BagB H b) {xs : List V} {ps : List Pc} (p : PcsAt H xs ps) : PcsAt H' xs ps := by
  obtain ⟨bs, eb⟩ := hb.ob
  exact p.same fun t ys e => k _ _ e (ne_of e eb (fun z => nomatch z))
theorem QAt.kept {C : Addr} {H H' : Hp} {q b : Addr} {m t : Str} {cs : List Cl} {kvs : List (Key × V)} (h : QAt C H q m cs kvs t) (hb : BagB H b) (k : KeptB b H H') : QAt C H' q m cs kvs t := by
  obtain ⟨dx, ca, da, ys, h1, h2, h3, h4⟩ := h
  obtain ⟨bs, eb⟩ := hb.ob
  exact ⟨dx, ca, da, ys, k _ _ h1 (ne_of h1 eb (fun z => nomatch z)), k _ _ h2 (pcs_ne h2 h3 hb), k.pcs hb h3, k _ _ h4 (ne_of h4 eb (fun z => nomatch z))⟩
theorem shape_vals {vs : List V} (h : ∀ v ∈ vs, DV v) : PySem.SeqAt.shaped (.list (vs.map dV)) = true := by
  unfold PySem.SeqAt.shaped
  rw [Bool.and_eq_true, decide_eq_true_iff]
  have dv : ∀ v, (dV v).depth = 0 := fun v => by cases v <;> rfl
  have d0 : ∀ vs : List V, PyData.depthAll (vs.map dV) = 0 := by
    intro vs
    induction vs with
    | nil => rfl
    | cons v r ih =>
      rw [List.map_cons, PyData.depthAll, dv, ih]
      rfl
  refine ⟨?_, ?_⟩
  · rw [PyData.canLay0]
    refine lay_all fun d hd => ?_
    obtain ⟨v, hv, rfl⟩ := List.mem_map.mp hd
    exact lay_tv (TV.of (h v hv))
  · rw [PyData.depth, d0]
    decide
theorem eqv_shaped {d : PyData} (h : PySem.SeqAt.shaped d = true) : PyData.eqv d d = true := by
  unfold PySem.SeqAt.shaped at h
  rw [Bool.and_eq_true] at h
  exact PySem.SeqAt.eqv_refl _ h.1
theorem c_neRow {K : PySem.W.Frag} {H : Hp} {a b : Addr} {m : Str} {kvs : List (Key × V)} {Q : VK} (h1 : H a = some (RowTold m kvs)) (h2 : H b = some (RowTold m kvs)) (nd : (kvs.map (·.1)).Nodup) (dv : ∀ y ∈ kvs, DV y.2) (q : Q (.bl false) H) : Mk.rNeE K (.ref a) (.ref b) H Q := by
  unfold RowTold at h1 h2
  split at h1
  · rw [if_pos (by assumption)] at h2
    exact .inr (Mk.c_neDA h1 h2 (fun y hy => ⟨val_mem nd hy, flat_dv (dv y hy)⟩) q)
  · rw [if_neg (by assumption)] at h2
    have dvs : ∀ v ∈ kvs.map (·.2), DV v := fun v hv => by
      obtain ⟨y, hy', rfl⟩ := List.mem_map.mp hv
      exact dv y hy'
    refine .inl ⟨_, _, .lst (SqL.of h1) (dp_dvs dvs), .lst (SqL.of h2) (dp_dvs dvs), shape_vals dvs, shape_vals dvs, ?_⟩
    rw [eqv_shaped (shape_vals dvs)]
    exact q
theorem d_self (v : V) : decide (v = v) = true := decide_eq_true rfl
theorem filt_snd {α : Type} (p : α → Bool) (L : List (Addr × α)) : (L.filter fun q => p q.2).length = ((L.map (·.2)).filter p).length := by
  rw [List.filter_map, List.length_map]
  rfl

/-! equal filled texts -/
noncomputable instance pcDec : DecidableEq Tx.Pc := fun a b => Classical.propDecidable (a = b)
theorem eqv_dv {v w : V} (hv : DV v) (hw : DV w) : PyData.eqv (dV v) (dV w) = decide (v = w) := by
  cases hv with
  | int i _ =>
    cases hw with
    | int j _ =>
      show PyData.eqv (.int i) (.int j) = _
      simp only [PyData.eqv]
      by_cases e : i = j
      · subst e
        simp
      · rw [decide_eq_false (fun z => e (V.int.inj z))]
        exact beq_false_of_ne e
    | str l _ _ => exact (decide_eq_false (fun z => nomatch z)).symm
  | str l _ _ =>
    cases hw with
    | int j _ => exact (decide_eq_false (fun z => nomatch z)).symm
    | str m _ _ =>
      show PyData.eqv (.str (S l)) (.str (S m)) = _
      simp only [PyData.eqv]
      by_cases e : l = m
      · subst e
        simp
      · rw [decide_eq_false (fun z => e (S_inj (V.str.inj z)))]
        exact beq_false_of_ne fun z => e (S_inj z)
theorem beqS (l m : List Nat) : (S l == S m) = decide (l = m) := by
  by_cases e : l = m
  · subst e
    simp
  · rw [decide_eq_false e]
    exact beq_false_of_ne fun z => e (S_inj z)
theorem eqv_part {p q : Pc} (hp : PV p) (hq : PV q) : PyData.eqv (dPc p) (dPc q) = decide (p = q) := by
  cases p with
  | say l =>
    cases q with
    | say m =>
      show PyData.eqv (.tuple [.str "say", .str (S l)]) (.tuple [.str "say", .str (S m)]) = _
      simp only [PyData.eqv, PyData.eqvAll, beq_self_eq_true, Bool.true_and, Bool.and_true, beqS]
      by_cases e : l = m
      · subst e
        simp
      · rw [decide_eq_false e, decide_eq_false (fun z => e (Pc.say.inj z))]
    | oth t ys =>
      obtain ⟨rfl, w, rfl, hw⟩ := hq
      show PyData.eqv (.tuple [.str "say", .str (S l)]) (.tuple [.str "value", dV w]) = _
      rw [decide_eq_false (fun z => nomatch z)]
      simp only [PyData.eqv, PyData.eqvAll]
      rw [show (("say" : Str) == "value") = false by decide +kernel, Bool.false_and]
  | oth t xs =>
    obtain ⟨rfl, v, rfl, hv⟩ := hp
    cases q with
    | say m =>
      show PyData.eqv (.tuple [.str "value", dV v]) (.tuple [.str "say", .str (S m)]) = _
      rw [decide_eq_false (fun z => nomatch z)]
      simp only [PyData.eqv, PyData.eqvAll]
      rw [show (("value" : Str) == "say") = false by decide +kernel, Bool.false_and]
    | oth t ys =>
      obtain ⟨rfl, w, rfl, hw⟩ := hq
      show PyData.eqv (.tuple [.str "value", dV v]) (.tuple [.str "value", dV w]) = _
      simp only [PyData.eqv, PyData.eqvAll, beq_self_eq_true, Bool.true_and, Bool.and_true, eqv_dv hv hw]
      by_cases e : v = w
      · subst e
        simp
      · rw [decide_eq_false e, decide_eq_false (fun z => e (List.cons.inj (Pc.oth.inj z).2).1)]
theorem eqv_all : ∀ {A B : List Pc}, (∀ p ∈ A, PV p) → (∀ p ∈ B, PV p) → PyData.eqvAll (A.map dPc) (B.map dPc) = decide (A = B)
  | [], [], _, _ => rfl
  | [], q :: s, _, _ => by
    rw [decide_eq_false (fun z => nomatch z)]
    rfl
  | p :: r, [], _, _ => by
    rw [decide_eq_false (fun z => nomatch z)]
    rfl
  | p :: r, q :: s, ha, hb => by
    show PyData.eqvAll (dPc p :: r.map dPc) (dPc q :: s.map dPc) = _
    rw [PyData.eqvAll, eqv_part (ha p List.mem_cons_self) (hb q List.mem_cons_self), eqv_all (fun x hx => ha x (List.mem_cons_of_mem _ hx)) (fun x hx => hb x (List.mem_cons_of_mem _ hx))]
    by_cases e : p = q
    · subst e
      by_cases e2 : r = s
      · subst e2
        simp
      · rw [decide_eq_false e2, Bool.and_false, decide_eq_false (fun z => e2 (List.cons.inj z).2)]
    · rw [decide_eq_false e, Bool.false_and, decide_eq_false (fun z => e (List.cons.inj z).1)]
theorem eqv_fills {A B : List Pc} (ha : ∀ p ∈ A, PV p) (hb : ∀ p ∈ B, PV p) : PyData.eqv (dPs A) (dPs B) = decide (A = B) := by
  unfold dPs
  rw [PyData.eqv]
  exact eqv_all ha hb
/-! a list of parts, told -/
def dLs (ps : List Pc) : PyData := .list (ps.map dPc)
theorem eqv_lsts {A B : List Pc} (ha : ∀ p ∈ A, PV p) (hb : ∀ p ∈ B, PV p) : PyData.eqv (dLs A) (dLs B) = decide (A = B) := by
  unfold dLs
  rw [PyData.eqv]
  exact eqv_all ha hb
theorem at_v {v : V} (h : DV v) : Ri.At (dV v) := by
  cases h with
  | int i _ => exact .inr ⟨i, rfl⟩
  | str l _ hc => exact .inl ⟨l, rfl, hc⟩
theorem t2_part {p : Pc} (h : PV p) : Ri.T2 Ri.At (dPc p) := by
  cases p with
  | say l =>
    refine ⟨[.str "say", .str (S l)], rfl, fun x hx => .inl ?_, (by show 2 ≠ 1; decide)⟩
    rcases List.mem_cons.mp hx with rfl | hx
    · exact ⟨[115, 97, 121], congrArg PyData.str (by decide +kernel), by decide⟩
    · rw [List.mem_singleton.mp hx]
      exact ⟨l, rfl, h⟩
  | oth t xs =>
    obtain ⟨rfl, v, rfl, hv⟩ := h
    refine ⟨[.str "value", dV v], rfl, fun x hx => ?_, (by show 2 ≠ 1; decide)⟩
    rcases List.mem_cons.mp hx with rfl | hx
    · exact .inl ⟨[118, 97, 108, 117, 101], congrArg PyData.str (by decide +kernel), by decide⟩
    · rw [List.mem_singleton.mp hx]
      exact at_v hv
theorem ls_inj {A B : List Pc} (ha : ∀ p ∈ A, PV p) (hb : ∀ p ∈ B, PV p) (e : dLs A = dLs B) : A = B := by
  have h := eqv_lsts ha hb
  rw [← e, eqv_lsts ha ha, decide_eq_true rfl] at h
  exact of_decide_eq_true h.symm
theorem ls_cls {A : List Pc} (h : ∀ p ∈ A, PV p) : Ri.LS (Ri.T2 Ri.At) (dLs A) := ⟨_, rfl, fun d hd => by
  obtain ⟨p, hp, rfl⟩ := List.mem_map.mp hd
  exact t2_part (h p hp)⟩
theorem shown_ls {A B : List Pc} (ha : ∀ p ∈ A, PV p) (hb : ∀ p ∈ B, PV p) : decide (V.str (dLs A).shown = V.str (dLs B).shown) = decide (A = B) := by
  by_cases h : A = B
  · rw [h, decide_eq_true rfl, decide_eq_true rfl]
  · rw [decide_eq_false h, decide_eq_false fun z => h (ls_inj ha hb (Ri.pf_parts.inj (ls_cls ha) (ls_cls hb) (V.str.inj z)))]
theorem ok_lst {ps : List Pc} (h : ∀ p ∈ ps, PV p) : Ok 2 (211 * ps.length + sz ps) (dLs ps) := by
  obtain ⟨h1, h2, h3, h4, h5⟩ := ok_parts h
  exact ⟨h1, h2, h3, h4, h5⟩
/-! other things than a query -/
inductive OthQ (C : Addr) (H : Hp) (A : List Pc) : V → Bool → Prop
  | query {b : Addr} {m t : Str} {cs : List Cl} {kvs : List (Key × V)} : QAt C H b m cs kvs t → Qy cs kvs → OthQ C H A (.ref b) (decide (A = fill kvs cs))
  | str (z : Str) : OthQ C H A (.str z) false
  | lst {b : Addr} {xs : List V} : H b = some (.lst xs) → OthQ C H A (.ref b) false
  | tup {b : Addr} {xs : List V} : H b = some (.tup xs) → OthQ C H A (.ref b) false
def sp_Query_eq (C : Addr) : Sp := fun vs H Q _ => ∃ (q : Addr) (y : V) (m t : Str) (cs : List Cl) (kvs : List (Key × V)) (r : Bool), vs = [.ref q, y] ∧ QAt C H q m cs kvs t ∧ Qy cs kvs ∧ OthQ C H (fill kvs cs) y r ∧
  ∀ H', Same H H' → Q (.bl r) H'
/-! the law's query -/
theorem num_lfl (zs : List V) : ∀ (its : List It) (pre : List V), (numI pre.length its).map (lfl (pre ++ (picks its).map fun n => zs.getD n .non)) = its.map (lfl zs)
  | [], _ => rfl
  | .inl l :: r, pre => congrArg (Pc.say l :: ·) (num_lfl zs r pre)
  | .inr n :: r, pre => by
    show lfl _ (.inr pre.length) :: (numI (pre.length + 1) r).map _ = lfl zs (.inr n) :: r.map (lfl zs)
    have e1 : pre ++ (picks (.inr n :: r)).map (fun n => zs.getD n .non) = (pre ++ [zs.getD n .non]) ++ (picks r).map fun n => zs.getD n .non := by
      rw [List.append_assoc]
      rfl
    have ih := num_lfl zs r (pre ++ [zs.getD n .non])
    rw [List.length_append, ← e1] at ih
    refine congr (congrArg List.cons ?_) ih
    show Pc.oth "value" [_] = Pc.oth "value" [_]
    rw [List.getD_eq_getElem?_getD (l := pre ++ _), List.getElem?_append_right (Nat.le_refl _), Nat.sub_self]
    rfl
theorem Drawn.fill' {m : Str} {ls : List (List Nat)} {its : List It} {zs : List V} (hm : Mn m) (d : Drawn ls its zs) : LW.fill (rowI m ls its zs) (cellsOf m (toksI m ls its)) = merge (its.map (lfl zs)) := by
  rw [d.fill hm]
  unfold cellI valsI
  by_cases e : m = "order"
  · rw [if_pos e, if_pos e]
    exact congrArg merge (num_lfl zs its [])
  · rw [if_neg e, if_neg e]
def rowP (its : List It) (zs : List V) : List V := (picks its).map fun n => zs.getD n .non
def sp_l_query : Sp := fun vs H Q _ => ∃ (a : Addr) (m : Str), vs = [.ref a, .str m] ∧ BagB H a ∧ Mn m ∧
  ∀ (p ra fa : Addr) (ys zs : List V) (ls : List (List Nat)) (its : List It) (H' : Hp), H p = none → H' p = some (.tup [.str (S (flat (toksI m ls its))), .ref ra, .ref fa]) → H ra = none → H fa = none → 
    H' ra = some (RowTold m (rowI m ls its zs)) → H' fa = some (.lst ys) → PcsAt H' ys (merge (its.map (lfl zs))) → Drawn ls its zs → BagB H' a → KeptB a H H' → Q (.ref p) H'
def sp_l_is_due (C : Addr) : Sp := fun vs H Q _ => ∃ (q c f r : Addr) (m t : Str) (cs : List Cl) (kvs : List (Key × V)) (ys : List V), vs = [.ref q, .str m, .ref c] ∧ QAt C H q m cs kvs t ∧ Mn m ∧ Qy cs kvs ∧ H c = some (.tup [.str t, .ref r, .ref f]) ∧ H r = some (RowTold m kvs) ∧
  H f = some (.lst ys) ∧ PcsAt H ys (fill kvs cs) ∧ ∀ H', Same H H' → Q (.bl true) H'
def isOth : Pc → Bool | .say _ => false | .oth _ _ => true
theorem put_oth (acc : List Pc) (p : Pc) : (put acc p).filter isOth = acc.filter isOth ++ [p].filter isOth := by
  rcases put_cases acc p with ⟨rfl, e⟩ | ⟨m, l, hne, rfl, hl, e⟩ | ⟨_, e⟩
  · rw [e]
    exact (List.append_nil _).symm
  · have s : acc.dropLast ++ [.say m] = acc := (last_split hl).symm
    have s2 : acc.filter isOth = acc.dropLast.filter isOth := by
      conv => lhs; rw [← s]
      rw [List.filter_append]
      exact List.append_nil _
    rw [e, List.filter_append, s2]
    rfl
  · rw [e, List.filter_append]
theorem merge_oth (ps : List Pc) : (merge ps).filter isOth = ps.filter isOth := by
  have key : ∀ (qs acc : List Pc), (qs.foldl put acc).filter isOth = acc.filter isOth ++ qs.filter isOth := by
    intro qs
    induction qs with
    | nil => exact fun acc => (List.append_nil _).symm
    | cons q r ih =>
      intro acc
      rw [List.foldl_cons, ih, put_oth, List.append_assoc, ← List.filter_append]
      rfl
  exact (key ps []).trans (List.nil_append _)
theorem fill_oth (kvs : List (Key × V)) (cs : List Cl) : ((fill kvs cs).filter isOth).length = (keys cs).length := by
  unfold LW.fill
  rw [merge_oth]
  induction cs with
  | nil => rfl
  | cons c r ih =>
    cases c with
    | inl l => exact ih
    | inr k => exact congrArg (· + 1) ih
def d3 (ls : List (List Nat)) (n : Nat) : List (Key × V) := [(.inr "order", .str (S [123, 125])), (.inr "number", .str (S (123 :: (TL.numL (n + 1) ++ [125])))), (.inr "name", .str (S (123 :: (ls.getD n [] ++ [125]))))]
theorem d3_merge (ls : List (List Nat)) (n : Nat) : mergeK [] (d3 ls n) = d3 ls n := by rfl
theorem d3_txt {m : Str} (hm : Mn m) (ls : List (List Nat)) (n : Nat) : valV (d3 ls n) (.inr m) = some (.str (S (123 :: (keyF m ls n ++ [125])))) := by
  unfold d3
  rcases hm with rfl | rfl | rfl
  · rw [valV_pos rfl]
    unfold keyF
    rw [if_pos rfl]
    rfl
  · rw [valV_neg (fun z => o_number (Sum.inr.inj z)), valV_pos rfl]
    unfold keyF
    rw [if_neg fun z => o_number z.symm, if_pos rfl]
  · rw [valV_neg (fun z => o_name (Sum.inr.inj z)), valV_neg (fun z => n_name (Sum.inr.inj z)), valV_pos rfl]
    unfold keyF
    rw [if_neg fun z => o_name z.symm, if_neg fun z => n_name z.symm]
theorem lfl_ok (zs : List V) (its : List It) : ∀ p ∈ its.map (lfl zs), p.ok := fun p hp => by
  obtain ⟨c, hc, rfl⟩ := List.mem_map.mp hp
  cases c with
  | inl l => trivial
  | inr n => exact ⟨by decide +kernel, Nat.le_refl _, Nat.le_of_ble_eq_true rfl⟩
theorem Drawn.tp {ls : List (List Nat)} {its : List It} {zs : List V} (d : Drawn ls its zs) : ∀ p ∈ its.map (lfl zs), TP p := fun p hp => by
  obtain ⟨c, hc, rfl⟩ := List.mem_map.mp hp
  cases c with
  | inl l => exact TP.say fun c hx => lit_rng (List.all_eq_true.mp (d.lit l hc).1 c hx)
  | inr n =>
    have hn := d.pk n hc
    show TP (.oth "value" [zs.getD n .non])
    rw [List.getD_eq_getElem?_getD, List.getElem?_eq_getElem hn]
    exact TP.val (TV.of (d.dv _ (List.getElem_mem hn)))
theorem Drawn.sz {ls : List (List Nat)} {its : List It} {zs : List V} (d : Drawn ls its zs) : Tx.sz (its.map (lfl zs)) ≤ 30 := by
  rw [sz_lfl]
  have h := cellI_size (m := "name") (its := its) fun l h => (d.lit l h).2
  unfold cellI at h
  rw [if_neg fun z => o_name z.symm] at h
  have := d.il
  omega
section
variable {P : Program} {w : World} {K : PySem.W.Frag} {mg : Str → Option Value} {base : Heap} {Z : Ad}
theorem ok_Query_eq (T : Txt K mg Z) : FnOk P w K mg base CX0 4 Z.a_Query_eq Z.d_Query_eq ["self", "other"] (sp_Query_eq Z.c_Query) := by
  refine T.F_Query_eq.ok sc_Query_eq (fun vs H Q E h => ?_) (fun cdv A outer s H vs Q E hr h => ?_)
  · obtain ⟨q, y, m, t, cs, kvs, r, rfl, _⟩ := h
    rfl
  · obtain ⟨qa, y, m, t, cs, kvs, r, rfl, ha, ya, ho, q⟩ := h
    have cQ := T.cl_Query
    obtain ⟨dxa, caa, daa, ysa, hqa, _⟩ := id ha
    refine ⟨_, (pss_one (ps_ret (pe_and (pe_callB call_isi (by rfl) T.u_isinstance (by decide +kernel) (pa_cons (pv 1) (pa_cons (pe_glob (v := .ref Z.c_Query) (by rfl) T.g_Query rfl) pa_nil))) (pe_one (pe_cmpR (op_eqD hr.units) (pe_prop (pv 0) T.cl_Query T.p_Query_filled (ok_Query_filled T) (hr.mono (by decide)) T.b_Query_filled .nil pass0 rfl) (pe_prop (pv 1) T.cl_Query T.p_Query_filled (ok_Query_filled T) (hr.mono (by decide)) T.b_Query_filled .nil pass0 rfl) (nomark _)))))), ?_⟩
    refine Eg.w_sig (σ := [some (.ref qa), some y]) rfl ?_
    walk_at "go"
    cases ho with
    | str z =>
      refine Eg.c_isi (.own _) (.base (.str z)) T.ki_Query_str ?_
      walk_at "go"
      exact q H (Same.refl _)
    | lst hl =>
      refine Eg.c_isi (.own _) (.base (.lst hl)) T.ki_Query_list ?_
      walk_at "go"
      exact q H (Same.refl _)
    | tup hl =>
      refine Eg.c_isi (.own _) (.base (.tup hl)) T.ki_Query_tuple ?_
      walk_at "go"
      exact q H (Same.refl _)
    | @query b m' t' cs' kvs' hb yb =>
      obtain ⟨dxb, cab, dab, ysb, hqb, _⟩ := id hb
      refine Eg.c_isi (.own _) (.base (T.i_Query hqb)) (b := true) (by unfold PySem.W.kitOne; rw [if_pos (beq_self_eq_true _)]) ?_
      walk_at "go"
      refine Mk.c_prop hqa ⟨qa, m, cs, kvs, t, rfl, ha, by have := ya.few; omega, by have := ya.size; omega, ya.has, fun p xs H1 hp h1 py s1 => ?_⟩
      walk_at "go"
      refine Mk.c_prop (s1 _ _ hqb) ⟨b, m', cs', kvs', t', rfl, hb.keep s1, by have := yb.few; omega, by have := yb.size; omega, yb.has, fun p' xs' H2 hp' h2 py' s2 => ?_⟩
      refine ⟨_, _, dp_fill (s2 _ _ h1) (py.same fun b zs e => s2 _ _ e) ya.tp, dp_fill h2 py' yb.tp, shape_fill ya.tp, shape_fill yb.tp, ?_⟩
      rw [eqv_fills ya.pv yb.pv]
      exact q H2 (s1.trans s2)
set_option maxHeartbeats 2000000 in
theorem ok_l_query (T : Txt K mg Z) : FnOk P w K mg base CX0 6 Z.a_l_query Z.d_l_query ["_law_bag_here", "_law_manner"] sp_l_query := by
  refine T.F_l_query.ok sc_l_query (fun vs H Q E h => ?_) (fun cdv A outer s H0 vs Q E hr h => ?_)
  · obtain ⟨a, m, rfl, _⟩ := h
    rfl
  · obtain ⟨b, m, rfl, hb0, hm, q⟩ := h
    have nd := sc_l_query.nd
    have hu := hu_of hr
    refine ⟨_, (C8.pss_cut (ps_setLc (i := 3) (own := [("_law_k", 2)]) rfl nd rfl rfl (sw_true rfl rfl rfl (by decide +kernel)) (pi_range1 (by rfl) T.u_range (pa_cons (pe_op op_add pe_int (pe_call (ok_l_take T) (hr.mono (by decide)) (by rfl) T.g_l_take T.F_l_take.kp T.b_l_take .nil pass0 (pa_cons (pv 0) (pa_cons pe_int pa_nil)))) pa_nil)) (blkOk_by (N := N_l_query) (sc := defScope s_l_query) (by decide +kernel)) (fun _ _ _ _ _ => (pg_name (i := 2) nd rfl (Or.inl rfl))) (fun _ _ _ _ _ => pts_nil) (fun _ _ _ _ _ => (Eg.peE (pe_call (ok_l_value T) (hr.mono (by decide)) (by rfl) T.g_l_value T.F_l_value.kp T.b_l_value .nil pass0 (pa_cons (pv 0) pa_nil)) (by walk_at "blk"))))
  (pss_cons (ps_set (i := 4) nd rfl (Or.inl rfl) (pe_call (ok_l_labels T) (hr.mono (by decide)) (by rfl) T.g_l_labels T.F_l_labels.kp T.b_l_labels .nil pass0 (pa_cons (pv 0) (pa_cons (pe_callB Eg.cr_len (by rfl) T.u_len (by decide +kernel) (pa_cons (pv 3) pa_nil)) pa_nil))))
  (pss_cons (ps_par3 (i := 5) (j := 6) (l := 7) rfl nd rfl rfl rfl (by decide) (by decide) (by decide) rfl rfl rfl (pa_cons pe_str (pa_cons (pe_lst pa_nil) (pa_cons (pe_lst pa_nil) pa_nil))) (by rfl))
  (C8.pss_cut (ps_for PassesOwn.never rfl (pi_range1 (by rfl) T.u_range (pa_cons (pe_call (ok_l_take T) (hr.mono (by decide)) (by rfl) T.g_l_take T.F_l_take.kp T.b_l_take .nil pass0 (pa_cons (pv 0) (pa_cons pe_int pa_nil))) pa_nil)) (pg_name (i := 2) nd rfl (Or.inl rfl))
  (pss_one (ps_if (pt_cmpR op_eq (pe_call (ok_l_take T) (hr.mono (by decide)) (by rfl) T.g_l_take T.F_l_take.kp T.b_l_take .nil pass0 (pa_cons (pv 0) (pa_cons pe_int pa_nil))) pe_int (nomark _))
  (pss_cons (ps_set (i := 8) nd rfl (Or.inl rfl) (pe_call (ok_l_literal T) (hr.mono (by decide)) (by rfl) T.g_l_literal T.F_l_literal.kp T.b_l_literal .nil pass0 (pa_cons (pv 0) (pa_cons pe_int pa_nil))))
  (pss_cons (ps_set (i := 5) nd rfl (Or.inl rfl) (pe_op Es.op_addS (pv 5) (pv 8)))
  (pss_one (ps_expr (pe_bm PySem.F.plainAttrs_list PySem.F.slot_list_append PySem.F.type_list_append mt_append (pv 6) (pa_cons (pe_tup (pa_cons pe_str (pa_cons (pv 8) pa_nil))) pa_nil))))))
  (pss_cons (ps_set (i := 9) nd rfl (Or.inl rfl) (pe_call (ok_l_take T) (hr.mono (by decide)) (by rfl) T.g_l_take T.F_l_take.kp T.b_l_take .nil pass0 (pa_cons (pv 0) (pa_cons (pe_callB Eg.cr_len (by rfl) T.u_len (by decide +kernel) (pa_cons (pv 3) pa_nil)) pa_nil))))
  (pss_cons (ps_expr (pe_bm PySem.F.plainAttrs_list PySem.F.slot_list_append PySem.F.type_list_append mt_append (pv 6) (pa_cons (pe_tup (pa_cons pe_str (pa_cons (pe_ix ix_list (pv 3) (pv 9) (fun _ _ => rfl)) pa_nil))) pa_nil)))
  (pss_cons (ps_expr (pe_bm PySem.F.plainAttrs_list PySem.F.slot_list_append PySem.F.type_list_append mt_append (pv 7) (pa_cons (pe_ix ix_list (pv 3) (pv 9) (fun _ _ => rfl)) pa_nil)))
  (pss_one (ps_set (i := 5) nd rfl (Or.inl rfl) (pe_op Es.op_addS (pv 5) (pe_dget hu (pe_disp (pps_cons pe_str pe_str (pps_cons pe_str (pe_op Es.op_addS (pe_op Es.op_addS pe_str (pe_callTy Es.cr_strI (by rfl) T.u_str (by decide +kernel) (pa_cons (pe_op op_add (pv 9) pe_int) pa_nil))) pe_str) (pps_cons pe_str (pe_op Es.op_addS (pe_op Es.op_addS pe_str (pe_ix ix_list (pv 4) (pv 9) (fun _ _ => rfl))) pe_str) pps_nil))) rfl rfl (fun z => nomatch z) (show 3 ≤ 15 by decide)) (pv 1) (fun _ _ => rfl)))))))))))
  (C8.pss_cut (ps_if (pt_cmpR op_eq (pv 1) pe_str (nomark _))
  (pss_one (ps_set (i := 7) nd rfl (Or.inl rfl) (pv 3)))
  pss_nil)
  (C8.pss_cut (ps_if (pt_cmpR op_eq (pv 1) pe_str (nomark _))
  (pss_cons (ps_set (i := 7) nd rfl (Or.inl rfl) pe_dnewK)
  (pss_one (ps_for PassesOwn.never rfl (pi_zip (by rfl) T.u_zip (pa_cons (pv 4) (pa_cons (pv 3) pa_nil))) (pg_tup (by rfl) (pgs_cons (pg_name (i := 10) nd rfl (Or.inl rfl)) (pgs_cons (pg_name (i := 11) nd rfl (Or.inl rfl)) pgs_nil)))
  (pss_one (ps_dput hu (pv 7) (pv 10) (pv 11) rfl)))))
  pss_nil)
  (pss_one (ps_ret (pe_tup (pa_cons (pv 5) (pa_cons (pv 7) (pa_cons (pe_call (ok_l_merged T) (hr.mono (by decide)) (by rfl) T.g_l_merged T.F_l_merged.kp T.b_l_merged .nil pass0 (pa_cons (pv 6) pa_nil)) pa_nil)))))))))))), ?_⟩
    refine Eg.w_sig (σ := [some (.ref b), some (.str m), none, none, none, none, none, none, none, none, none, none]) rfl ?_
    refine ⟨fun σ' H' => ∃ (va : Addr) (zs : List V), σ' = [some (.ref b), some (.str m), none, some (.ref va), none, none, none, none, none, none, none, none] ∧ H' va = some (.lst zs) ∧ 1 ≤ zs.length ∧ zs.length ≤ 6 ∧ (∀ z ∈ zs, DV z) ∧ BagB H' b ∧ KeptB b H0 H' ∧ H0 va = none ∧ va ≠ b, ?_, ?_⟩
    · walk_at "go"
      refine ⟨b, _, rfl, hb0, by decide, by decide, fun r H1 r0 r1 hb1 f1 => ?_⟩
      have k1 : KeptB b H0 H1 := .fr f1
      walk_at "go"
      intro D hD
      have hDb := hb1.ne hD
      have hD1 : ∀ c o, H1 c = some o → c ≠ D := fun c o e => ne_of_none e hD
      refine lc_range (lo := 0) (n := (1 + r).toNat) (fun j H' => ∃ xs : List V, H' D = some (.lst xs) ∧ xs.length = j ∧ (∀ x ∈ xs, DV x) ∧ BagB H' b ∧ KeptB b H1 H') ⟨[], upd_same, rfl, (fun _ z => nomatch z), hb1.to (upd_ne hDb.symm), fun c o e n => Eg.upd_old e hD⟩ ?_ ?_
      · rintro j H7 hj ⟨xs, h7D, xl, xok, hb7, k7⟩
        walk_at "go"
        refine ⟨b, rfl, hb7, fun v H8 hv hb8 k8 => ?_⟩
        have h8D := k8 _ _ h7D hDb
        walk_at "go"
        refine ⟨xs ++ [v], upd_same, by rw [List.length_append, xl]; rfl, fun x hx => ?_, hb8.to (upd_ne hDb.symm), fun c o e n => Eg.upd_mut (hD1 c o e) (k8 _ _ (k7 c o e n) n)⟩
        rcases List.mem_append.mp hx with hx | hx
        · exact xok x hx
        · rw [List.mem_singleton.mp hx]
          exact hv
      rintro H7 ⟨vs, h7v, vl, vok, hb7, k7⟩
      walk_at "go"
      exact ⟨D, vs, rfl, h7v, by omega, by omega, vok, hb7, k1.trans k7, k1.free hDb hD, hDb⟩
    rintro _ H1 ⟨va, zs, rfl, h1v, zl1, zl6, zok, hb1, k1, va0, vab⟩
    walk_at "go"
    refine ⟨b, zs.length, rfl, hb1, by omega, fun la ls H2 hla h2l lsl lsn lsok hb2 k2 => ?_⟩
    have h2v := k2 _ _ h1v vab
    have lab := hb1.ne hla
    have kk2 := k1.trans k2
    have vla : va ≠ la := ne_of_none h1v hla
    clear h1v hb1 k2 hla
    walk_at "go"
    intro ca hca
    have cab := hb2.ne hca
    have s3 : Same H2 (upd H2 ca (.lst [])) := fun c o e => Eg.upd_old e hca
    have h3c : upd H2 ca (.lst []) ca = some (.lst []) := upd_same
    have ca0 := kk2.free cab hca
    have vca : va ≠ ca := ne_of_none h2v hca
    have lca : la ≠ ca := ne_of_none h2l hca
    generalize upd H2 ca (.lst []) = H3 at s3 h3c ⊢
    walk_at "go"
    intro pa hpa
    have s6 : Same H2 (upd H3 pa (.lst [])) := fun c o e => Eg.upd_old (s3 _ _ e) hpa
    have h6c : upd H3 pa (.lst []) ca = some (.lst []) := Eg.upd_old h3c hpa
    have h6p : upd H3 pa (.lst []) pa = some (.lst []) := upd_same
    have pab : pa ≠ b := (hb2.keep s3).ne hpa
    have cpa : ca ≠ pa := ne_of_none h3c hpa
    have pa0 := kk2.free pab (s3.free hpa)
    have vpa : va ≠ pa := ne_of_none (s3 _ _ h2v) hpa
    have lpa : la ≠ pa := ne_of_none (s3 _ _ h2l) hpa
    generalize upd H3 pa (.lst []) = H6 at s6 h6c h6p ⊢
    walk_at "go"
    have h6v := s6 _ _ h2v
    have h6l := s6 _ _ h2l
    have hb6 := hb2.keep s6
    have k6 := kk2.trans (.of s6)
    clear s6 s3 h3c hca hpa hb2 h2v h2l kk2 H3 H2
    rw [show ("" : Str) = S [] by decide +kernel]
    -- the cells
    refine ⟨fun σ' H' => ∃ (its : List It) (xs : List V) (v2 v8 v9 : Option V), σ' = [some (.ref b), some (.str m), v2, some (.ref va), some (.ref la), some (.str (S (flat (toksI m ls its)))), some (.ref ca), some (.ref pa), v8, v9, none, none] ∧
      Drawn ls its zs ∧ H' ca = some (.lst xs) ∧ PcsAt H' xs (its.map (lfl zs)) ∧ H' pa = some (.lst (rowP its zs)) ∧ BagB H' b ∧ (∀ c o, H6 c = some o → c ≠ b → c ≠ ca → c ≠ pa → H' c = some o), ?_, ?_⟩
    · walk_at "go"
      refine ⟨b, _, rfl, hb6, by decide, by decide, fun r H7 r0 r1 hb7 f7 => ?_⟩
      obtain ⟨n, rfl⟩ := Int.eq_ofNat_of_zero_le r0
      walk_at "go"
      refine for_range (lo := 0) (n := n) (fun j σ' H' => ∃ (its : List It) (xs : List V) (v2 v8 v9 : Option V), σ' = [some (.ref b), some (.str m), v2, some (.ref va), some (.ref la), some (.str (S (flat (toksI m ls its)))), some (.ref ca), some (.ref pa), v8, v9, none, none] ∧
        its.length = j ∧ Drawn ls its zs ∧ H' ca = some (.lst xs) ∧ PcsAt H' xs (its.map (lfl zs)) ∧ H' pa = some (.lst (rowP its zs)) ∧ BagB H' b ∧ (∀ c o, H6 c = some o → c ≠ b → c ≠ ca → c ≠ pa → H' c = some o))
        ⟨[], [], none, none, none, rfl, rfl, ⟨zl6, lsl, lsn, lsok, Nat.zero_le _, (fun _ z => nomatch z), (fun _ z => nomatch z), zok⟩, (f7 _ cab).trans h6c, .nil, (f7 _ pab).trans h6p, hb7, fun c o e n1 n2 n3 => (f7 c n1).trans e⟩ ?_ ?_
      · rintro j _ H8 hj ⟨its, xs, v2, v8, v9, rfl, il, dr, h8c, px, h8p, hb8, k8⟩
        have j10 : j < 10 := by omega
        have fl := flat_toksI_len (m := m) (ls := ls) (fun l h => (dr.lab l h).2) (its := its) (fun l h => (dr.lit l h).2) fun n h => by have := dr.pk n h; omega
        have pl := picks_len its
        have xl := px.len
        rw [List.length_map] at xl
        walk_at "go"
        refine ⟨b, _, rfl, hb8, by decide, by decide, fun r3 H9 r30 r31 hb9 f9 => ?_⟩
        have h9c := (f9 _ cab).trans h8c
        have h9p := (f9 _ pab).trans h8p
        have px9 := px.same fun t ys e => (f9 t fun z => by
          obtain ⟨bs, eb⟩ := hb8.ob
          rw [z, eb] at e
          cases e).trans e
        have kk9 : ∀ c o, H6 c = some o → c ≠ b → c ≠ ca → c ≠ pa → H9 c = some o := fun c o e n1 n2 n3 => (f9 c n1).trans (k8 c o e n1 n2 n3)
        clear h8c h8p px hb8 k8 f9
        walk_at "go"
        rw [Eg.int_eq]
        refine Eg.brD (fun e => ?_) (fun e => ?_)
        · walk_at "go"
          refine ⟨b, 3, rfl, hb9, by decide, by decide, fun l H10 hl hl3 hb10 k10 => ?_⟩
          have h10c := k10 _ _ h9c cab
          have h10p := k10 _ _ h9p pab
          have px10 := px9.same fun t ys e => k10 _ _ e fun z => by
            obtain ⟨bs, eb⟩ := hb9.ob
            rw [z, eb] at e
            cases e
          have kk10 : ∀ c o, H6 c = some o → c ≠ b → c ≠ ca → c ≠ pa → H10 c = some o := fun c o e n1 n2 n3 => k10 c o (kk9 c o e n1 n2 n3) n1
          clear h9c h9p px9 hb9 k10 kk9
          walk_at "go"
          intro t1 ht1
          have h12c := (Eg.upd_old h10c ht1 : upd H10 t1 (.tup [.str "say", .str (S l)]) ca = _)
          have h12p := (Eg.upd_old h10p ht1 : upd H10 t1 (.tup [.str "say", .str (S l)]) pa = _)
          have h12t : upd H10 t1 (.tup [.str "say", .str (S l)]) t1 = some (.tup [.str "say", .str (S l)]) := upd_same
          have px12 := px10.same fun t ys e => (Eg.upd_old e ht1 : upd H10 t1 (.tup [.str "say", .str (S l)]) t = _)
          have kk12 : ∀ c o, H6 c = some o → c ≠ b → c ≠ ca → c ≠ pa → upd H10 t1 (.tup [.str "say", .str (S l)]) c = some o := fun c o e n1 n2 n3 => Eg.upd_old (kk10 c o e n1 n2 n3) ht1
          have hb12 : BagB (upd H10 t1 (.tup [.str "say", .str (S l)])) b := hb10.keep fun c o e => Eg.upd_old e ht1
          have tca : t1 ≠ ca := (ne_of_none h10c ht1).symm
          generalize upd H10 t1 (.tup [.str "say", .str (S l)]) = H12 at h12c h12p h12t px12 kk12 hb12 ⊢
          walk_at "go"
          refine ⟨its ++ [.inl l], xs ++ [.ref t1], some (.int (0 + (j : Int))), some (.str (S l)), v9, ?_, by rw [List.length_append, il]; rfl, ⟨zl6, lsl, lsn, lsok, by rw [List.length_append, il]; exact j10, fun l' hl' => ?_, fun n' hn' => ?_, zok⟩, upd_same, ?_, (Eg.upd_mut cpa.symm h12p).trans ?_, hb12.to (upd_ne cab.symm), fun c o e n1 n2 n3 => Eg.upd_mut n2 (kk12 c o e n1 n2 n3)⟩
          · rw [toksI_app, flat_app]
            show _ = [_, _, _, _, _, some (V.str (S (_ ++ flat (l.map Tk.ch)))), _, _, _, _, _, _]
            rw [Kq.flat_ch]
            rfl
          · rcases List.mem_append.mp hl' with h | h
            · exact dr.lit l' h
            · cases List.mem_singleton.mp h
              exact ⟨hl, by omega⟩
          · rcases List.mem_append.mp hn' with h | h
            · exact dr.pk n' h
            · cases List.mem_singleton.mp h
          · rw [List.map_append]
            exact PcsAt.app (px12.same fun t ys e => Eg.upd_mut (ne_of e h12c (fun z => nomatch z)) e) (PcsAt.one (p := .say l) (Eg.upd_mut tca h12t))
          · unfold rowP
            rw [picks_app]
            show _ = some (HO.lst (List.map _ (picks its ++ [])))
            rw [List.append_nil]
        · have h9v := kk9 _ _ h6v vab vca vpa
          walk_at "go"
          refine ⟨b, _, rfl, hb9, by omega, by omega, fun r2 H10 r20 r21 hb10 f10 => ?_⟩
          obtain ⟨n, rfl⟩ := Int.eq_ofNat_of_zero_le r20
          have hn : n < zs.length := by omega
          have hvz : atI zs ((n : Nat) : Int) = some (zs.getD n .non) := atI_nat (dr.zat hn)
          have h10c := (f10 _ cab).trans h9c
          have h10p := (f10 _ pab).trans h9p
          have px10 := px9.same fun t ys e => (f10 t fun z => by
            obtain ⟨bs, eb⟩ := hb9.ob
            rw [z, eb] at e
            cases e).trans e
          have kk10 : ∀ c o, H6 c = some o → c ≠ b → c ≠ ca → c ≠ pa → H10 c = some o := fun c o e n1 n2 n3 => (f10 c n1).trans (kk9 c o e n1 n2 n3)
          clear h9c h9p h9v px9 hb9 f10 kk9
          have h10v := kk10 _ _ h6v vab vca vpa
          walk_at "go"
          intro t1 ht1
          have h11c := (Eg.upd_old h10c ht1 : upd H10 t1 (.tup [.str "value", zs.getD n .non]) ca = _)
          have h11p := (Eg.upd_old h10p ht1 : upd H10 t1 (.tup [.str "value", zs.getD n .non]) pa = _)
          have h11t : upd H10 t1 (.tup [.str "value", zs.getD n .non]) t1 = some (.tup [.str "value", zs.getD n .non]) := upd_same
          have px11 := px10.same fun t ys e => (Eg.upd_old e ht1 : upd H10 t1 (.tup [.str "value", zs.getD n .non]) t = _)
          have kk11 : ∀ c o, H6 c = some o → c ≠ b → c ≠ ca → c ≠ pa → upd H10 t1 (.tup [.str "value", zs.getD n .non]) c = some o := fun c o e n1 n2 n3 => Eg.upd_old (kk10 c o e n1 n2 n3) ht1
          have hb11 : BagB (upd H10 t1 (.tup [.str "value", zs.getD n .non])) b := hb10.keep fun c o e => Eg.upd_old e ht1
          have tca : t1 ≠ ca := (ne_of_none h10c ht1).symm
          have tpa : t1 ≠ pa := (ne_of_none h10p ht1).symm
          generalize upd H10 t1 (.tup [.str "value", zs.getD n .non]) = H11 at h11c h11p h11t px11 kk11 hb11 ⊢
          clear h10c h10p h10v px10 kk10 hb10 ht1
          walk_at "go"
          have h12c : upd H11 ca (.lst (xs ++ [.ref t1])) ca = some (.lst (xs ++ [.ref t1])) := upd_same
          have h12p := (Eg.upd_mut cpa.symm h11p : upd H11 ca (.lst (xs ++ [.ref t1])) pa = _)
          have px12 : PcsAt (upd H11 ca (.lst (xs ++ [.ref t1]))) (xs ++ [.ref t1]) ((its ++ [Sum.inr n]).map (lfl zs)) := by
            rw [List.map_append]
            exact PcsAt.app (px11.same fun t ys e => Eg.upd_mut (ne_of e h11c (fun z => nomatch z)) e) (PcsAt.one (p := .oth "value" [zs.getD n .non]) (Eg.upd_mut tca h11t))
          have kk12 : ∀ c o, H6 c = some o → c ≠ b → c ≠ ca → c ≠ pa → upd H11 ca (.lst (xs ++ [.ref t1])) c = some o := fun c o e n1 n2 n3 => Eg.upd_mut n2 (kk11 c o e n1 n2 n3)
          have hb12 : BagB (upd H11 ca (.lst (xs ++ [.ref t1]))) b := hb11.to (upd_ne cab.symm)
          generalize upd H11 ca (.lst (xs ++ [.ref t1])) = H12 at h12c h12p px12 kk12 hb12 ⊢
          have h12v := kk12 _ _ h6v vab vca vpa
          have rl : (rowP its zs).length < 100 := by unfold rowP; rw [List.length_map]; omega
          clear h11c h11p h11t px11 kk11 hb11
          walk_at "go"
          have h13p : upd H12 pa (.lst (rowP its zs ++ [zs.getD n .non])) pa = some (.lst (rowP (its ++ [Sum.inr n]) zs)) := by
            rw [upd_same]
            unfold rowP
            rw [picks_app, List.map_append]
            rfl
          have h13c := (Eg.upd_mut cpa h12c : upd H12 pa (.lst (rowP its zs ++ [zs.getD n .non])) ca = _)
          have px13 := px12.same fun t ys e => (Eg.upd_mut (ne_of e h12p (fun z => nomatch z)) e : upd H12 pa (.lst (rowP its zs ++ [zs.getD n .non])) t = _)
          have kk13 : ∀ c o, H6 c = some o → c ≠ b → c ≠ ca → c ≠ pa → upd H12 pa (.lst (rowP its zs ++ [zs.getD n .non])) c = some o := fun c o e n1 n2 n3 => Eg.upd_mut n3 (kk12 c o e n1 n2 n3)
          have hb13 : BagB (upd H12 pa (.lst (rowP its zs ++ [zs.getD n .non]))) b := hb12.to (upd_ne pab.symm)
          generalize upd H12 pa (.lst (rowP its zs ++ [zs.getD n .non])) = H13 at h13c h13p px13 kk13 hb13 ⊢
          clear h12c h12p px12 kk12 hb12 h12v
          have h13l := kk13 _ _ h6l lab lca lpa
          have hv : atI (ls.map fun l => V.str (S l)) ((n : Nat) : Int) = some (.str (S (ls.getD n []))) := by
            refine atI_nat ?_
            rw [List.getElem?_map, dr.at hn]
            rfl
          have kfl := keyF_len (m := m) (ls := ls) (n := n) (fun l h => (dr.lab l h).2) (by omega)
          have nl := TL.numL_len (n := n + 1) (k := 6) (by decide) (by omega)
          have gl : (ls.getD n []).length ≤ 14 := (dr.lab _ (List.mem_of_getElem? (dr.at hn))).2
          walk_at "go"
          rw [show ("{" : Str) = S [123] by decide +kernel, show ("}" : Str) = S [125] by decide +kernel, show ("{}" : Str) = S [123, 125] by decide +kernel]
          intro dd hdd
          walk_at "go"
          rw [show Str.ofString (toString (((n : Nat) : Int) + 1)) = S (TL.numL (n + 1)) from num_S (n + 1)]
          walk_at "go"
          refine ⟨upd_same, d3 ls n, by unfold d3; rfl, (show 3 ≤ 15 by decide), ?_⟩
          rw [d3_merge]
          have sD : Same H13 (upd (upd H13 dd (.dK [])) dd (.dK (d3 ls n))) := fun c o e => Eg.upd_mut (ne_of_none e hdd) (Eg.upd_old e hdd)
          have hD : upd (upd H13 dd (.dK [])) dd (.dK (d3 ls n)) dd = some (.dK (d3 ls n)) := upd_same
          generalize upd (upd H13 dd (.dK [])) dd (.dK (d3 ls n)) = H14 at sD hD ⊢
          have dg := Tw.dgetK (k := .inr m) (.inl hD)
          rw [d3_txt hm] at dg
          walk_at "go"
          refine ⟨dd, _, rfl, dg, ?_⟩
          clear dg hD hdd
          walk_at "go"
          refine ⟨its ++ [Sum.inr n], xs ++ [.ref t1], some (.int (0 + (j : Int))), v8, some (.int (n : Nat)), ?_, by rw [List.length_append, il]; rfl, ⟨zl6, lsl, lsn, lsok, by rw [List.length_append, il]; exact j10, fun l' hl' => ?_, fun n' hn' => ?_, zok⟩, sD _ _ h13c, px13.same fun t ys e => sD _ _ e, sD _ _ h13p, hb13.keep sD, fun c o e n1 n2 n3 => sD _ _ (kk13 c o e n1 n2 n3)⟩
          · rw [toksI_app, flat_app]
            rfl
          · rcases List.mem_append.mp hl' with h | h
            · exact dr.lit l' h
            · cases List.mem_singleton.mp h
          · rcases List.mem_append.mp hn' with h | h
            · exact dr.pk n' h
            · cases List.mem_singleton.mp h
              exact hn
      · rintro _ H8 ⟨its, xs, v2, v8, v9, rfl, _, dr, h8c, px, h8p, hb8, k8⟩
        walk_at "go"
        exact ⟨its, xs, v2, v8, v9, rfl, dr, h8c, px, h8p, hb8, k8⟩
    rintro _ H7 ⟨its, xs, v2, v8, v9, rfl, dr, h7c, px, h7p, hb7, k7⟩
    have h7v := k7 _ _ h6v vab vca vpa
    have h7l := k7 _ _ h6l lab lca lpa
    have kk7 : KeptB b H0 H7 := fun c o e n => k7 c o (k6 c o e n) n (ne_of_none e ca0) (ne_of_none e pa0)
    clear k7 h6v h6l h6c h6p hb6 k6 H6
    walk_at "go"
    refine ⟨fun σ' H' => ∃ (ra : Addr), σ' = [some (.ref b), some (.str m), v2, some (.ref va), some (.ref la), some (.str (S (flat (toksI m ls its)))), some (.ref ca), some (.ref ra), v8, v9, none, none] ∧ H' ra = some (.lst (if m = "number" then zs else rowP its zs)) ∧ H0 ra = none ∧ H' = H7, ?_, ?_⟩
    · walk_at "go"
      by_cases em : m = "number"
      · rw [decide_eq_true (show V.str m = V.str "number" by rw [em])]
        walk_at "go"
        refine ⟨va, rfl, ?_, va0, rfl⟩
        rw [if_pos em]
        exact h7v
      · rw [decide_eq_false (show ¬ V.str m = V.str "number" from fun z => em (V.str.inj z))]
        walk_at "go"
        refine ⟨pa, rfl, ?_, pa0, rfl⟩
        rw [if_neg em]
        exact h7p
    rintro _ H7' ⟨ra, rfl, h7r, ra0, rfl⟩
    walk_at "go"
    refine ⟨fun σ' H' => ∃ (rb : Addr) (v10 v11 : Option V), σ' = [some (.ref b), some (.str m), v2, some (.ref va), some (.ref la), some (.str (S (flat (toksI m ls its)))), some (.ref ca), some (.ref rb), v8, v9, v10, v11] ∧ H' rb = some (RowTold m (rowI m ls its zs)) ∧ H0 rb = none ∧ Same H7' H', ?_, ?_⟩
    · walk_at "go"
      by_cases em : m = "name"
      · rw [decide_eq_true (show V.str m = V.str "name" by rw [em])]
        walk_at "go"
        intro R hR
        have h9R : upd H7' R (.dK []) R = some (.dK []) := upd_same
        have s9 : Same H7' (upd H7' R (.dK [])) := fun c o e => Eg.upd_old e hR
        generalize upd H7' R (.dK []) = H9 at h9R s9 ⊢
        walk_at "go"
        have h9v := s9 _ _ h7v
        have h9l := s9 _ _ h7l
        have nlR : la ≠ R := ne_of_none h7l hR
        have nwR : va ≠ R := ne_of_none h7v hR
        have zl : ((ls.map fun l => (.inr (S l) : Key)).zip zs).length = zs.length := by rw [List.length_zip, List.length_map, lsl, Nat.min_self]
        refine RZ.for_zipL (xs := ls.map fun l => V.str (S l)) (ys := zs) (by rw [List.length_map, lsl]) (fun j σ' H' => ∃ (v12 v13 : Option V), σ' = [some (.ref b), some (.str m), v2, some (.ref va), some (.ref la), some (.str (S (flat (toksI m ls its)))), some (.ref ca), some (.ref R), v8, v9, v12, v13] ∧ H' R = some (.dK (((ls.map fun l => (.inr (S l) : Key)).zip zs).take j)) ∧ (∀ c o, H9 c = some o → c ≠ R → H' c = some o)) ⟨none, none, rfl, h9R, fun c o e _ => e⟩ ?_ ?_ ?_
        · rintro j _ H12 ⟨v14, v15, rfl, _, k12⟩
          exact ⟨SqL.of (k12 _ _ h9l nlR), SqL.of (k12 _ _ h9v nwR)⟩
        · rintro j x y t _ H12 hx hy ⟨v14, v15, rfl, h12T, k12⟩ ht
          rw [List.getElem?_map] at hx
          obtain ⟨l, hl, rfl⟩ := Option.map_eq_some_iff.mp hx
          have h13t : upd H12 t (.tup [.str (S l), y]) t = some (.tup [.str (S l), y]) := upd_same
          have h13T : upd H12 t (.tup [.str (S l), y]) R = some (.dK (((ls.map fun l => (.inr (S l) : Key)).zip zs).take j)) := Eg.upd_old h12T ht
          have k13 : ∀ c o, H9 c = some o → c ≠ R → upd H12 t (.tup [.str (S l), y]) c = some o := fun c o e n => Eg.upd_old (k12 c o e n) ht
          generalize upd H12 t (.tup [.str (S l), y]) = H13 at h13t h13T k13 ⊢
          obtain ⟨jl, je⟩ := List.getElem?_eq_some_iff.mp hl
          have hz : ((ls.map fun l => (.inr (S l) : Key)).zip zs)[j]? = some (.inr (S l), y) := by
            rw [List.getElem?_zip_eq_some]
            exact ⟨by rw [List.getElem?_map, hl]; rfl, hy⟩
          obtain ⟨zlt, ze⟩ := List.getElem?_eq_some_iff.mp hz
          walk_at "go"
          refine ⟨R, _, rfl, .inl ⟨_, .inr (S l), h13T, rfl, by rw [List.length_take, sizeLine_eq]; omega, rfl⟩, ?_⟩
          walk_at "go"
          refine ⟨_, _, rfl, ?_, fun c o e n => Eg.upd_mut n (k13 c o e n)⟩
          rw [upd_same, Tl.putK_new, List.take_succ_eq_append_getElem zlt, ze]
          intro hm
          rw [List.map_take, List.map_fst_zip (by rw [List.length_map, lsl]; exact Nat.le_refl _), ← List.map_take] at hm
          obtain ⟨l', hl', e⟩ := List.mem_map.mp hm
          have e := S_inj (Sum.inr.inj e)
          subst e
          obtain ⟨j', hj'⟩ := List.mem_iff_getElem?.mp hl'
          rw [List.getElem?_take] at hj'
          split at hj'
          · obtain ⟨j1, j2⟩ := List.getElem?_eq_some_iff.mp hj'
            exact List.pairwise_iff_getElem.mp lsn j' j j1 jl (by assumption) (j2.trans je.symm)
          · cases hj'
        · rintro _ H12 ⟨v12, v13, rfl, h12R, k12⟩
          rw [List.take_of_length_le (by rw [zl, List.length_map, lsl]; exact Nat.le_refl _)] at h12R
          walk_at "go"
          refine ⟨R, v12, v13, rfl, ?_, kk7.free (hb7.ne hR) hR, fun c o e => k12 c o (s9 c o e) (ne_of_none e hR)⟩
          rw [h12R]
          unfold RowTold rowI
          rw [if_pos em, if_neg fun z => o_name (z.symm.trans em), if_neg fun z => n_name (z.symm.trans em)]
      · rw [decide_eq_false (show ¬ V.str m = V.str "name" from fun z => em (V.str.inj z))]
        walk_at "go"
        refine ⟨ra, none, none, rfl, ?_, ra0, Same.refl _⟩
        rw [h7r]
        unfold RowTold rowI valsI rowP
        rw [if_neg em]
        rcases hm with rfl | rfl | rfl
        · rw [if_pos rfl, if_pos rfl, numd_snd, if_neg o_number]
        · have no : ¬ (("number" : Str) = "order") := fun z => o_number z.symm
          rw [if_pos rfl, if_neg no, if_neg no, if_pos rfl, numd_snd]
        · exact absurd rfl em
    rintro _ H8 ⟨rb, v10, v11, rfl, h8r, rb0, s8⟩
    have h8c := s8 _ _ h7c
    have px8 := px.same fun t ys e => s8 _ _ e
    have hb8 := hb7.keep s8
    have kk8 := kk7.trans (.of s8)
    clear h7c h7l h7v px hb7 kk7 h7p s8 h7r
    walk_at "go"
    have xl := px8.len
    rw [List.length_map] at xl
    have il := dr.il
    refine ⟨ca, xs, its.map (lfl zs), rfl, h8c, px8, lfl_ok zs its, dr.tp, by rw [List.length_map]; omega, by have := dr.sz; omega, fun fa ys H9 hfa h9f py s9 => ?_⟩
    walk_at "go"
    intro tt htt
    walk_at "go"
    have s10 : Same H9 (upd H9 tt (.tup [.str (S (flat (toksI m ls its))), .ref rb, .ref fa])) := fun c o e => Eg.upd_old e htt
    have nfb := hb8.ne hfa
    have hb9 := (hb8.keep s9).keep s10
    refine q tt rb fa ys zs ls its _ ((kk8.trans (.of s9)).free ((hb8.keep s9).ne htt) htt) upd_same rb0 (kk8.free nfb hfa) (s10 _ _ (s9 _ _ h8r)) (s10 _ _ h9f) (py.same fun t ys e => s10 _ _ e) dr hb9 ((kk8.trans (.of s9)).trans (.of s10))
set_option maxHeartbeats 1000000 in
theorem ok_l_is_due (T : Txt K mg Z) : Gd.FnG P w K mg base CX0 4 Z.a_l_is_due Z.d_l_is_due ["_law_query_here", "_law_manner", "_law_case"] (sp_l_is_due Z.c_Query) := by
  refine Gd.Fun.okG T.F_l_is_due sc_l_is_due (fun vs H Q E h => ?_) (fun cdv A outer s H vs Q E hr stl h => ?_)
  · obtain ⟨q, c, f, r, m, t, cs, kvs, ys, rfl, _⟩ := h
    rfl
  · obtain ⟨qa, c, f, r, m, t, cs, kvs, ys, rfl, hQ, hm, hy, hc, hrow, hf, py, q⟩ := h
    have nd := sc_l_is_due.nd
    have hu := hu_of hr
    have cQ := T.cl_Query
    have n3 := T.n_Query_manner
    have n4 := T.n_Query_text
    obtain ⟨dx, ca, da, ys', hq, _⟩ := id hQ
    have lk3 := lk_manner ca da m t
    have lk4 := lk_text ca da m t
    refine ⟨_, (pss_cons (ps_asg (pv 2) (pg_tup (by rfl) (pgs_cons (pg_name (i := 3) nd rfl (Or.inl rfl)) (pgs_cons (pg_name (i := 4) nd rfl (Or.inl rfl)) (pgs_cons (pg_name (i := 5) nd rfl (Or.inl rfl)) pgs_nil)))))
  (pss_cons (ps_if (PW.pt (pw_or (pt_cmpR op_ne (pe_callB (Rv.cr_reprV stl (Gd.u70 hr)) (by rfl) T.u_repr (by decide +kernel) (pa_cons (pe_prop (pv 0) T.cl_Query T.p_Query_filled (ok_Query_filled T) (hr.mono (by decide)) T.b_Query_filled .nil pass0 rfl) pa_nil)) (pe_callB (Rv.cr_reprV stl (Gd.u70 hr)) (by rfl) T.u_repr (by decide +kernel) (pa_cons (pe_callTy Eg.cr_tup (by rfl) T.u_tuple (by decide +kernel) (pa_cons (pv 5) pa_nil)) pa_nil)) (nomark _)) (pw_or (pt_cmpR op_ne (pe_fld (pv 0) rfl) (pv 1) (nomark _)) (pw_or1 (pt_cmpR op_ne (pe_fld (pv 0) rfl) (pv 3) (nomark _))))))
  (pss_one (ps_ret pe_bl))
  pss_nil)
  (pss_cons (ps_set (i := 6) nd rfl (Or.inl rfl) (pe_prop (pv 0) T.cl_Query T.p_Query_row (ok_Query_row T) (hr.mono (by decide)) T.b_Query_row .nil pass0 rfl))
  (pss_cons (ps_if (PW.pt (pw_or (pt_cmpR (Mk.op_neDE hr.units) (pv 6) (pv 4) (nomark _)) (pw_or (pt_cmpR op_ne (pe_callB call_isi (by rfl) T.u_isinstance (by decide +kernel) (pa_cons (pv 6) (pa_cons (pe_bltn (v := .ty "dict") (u := .type "dict") (by rfl) T.u_dict (by decide +kernel) rfl) pa_nil))) (pe_cmpR op_eq (pv 1) pe_str (nomark _)) (nomark _)) (pw_or1 (pt_not (pt_val (pe_callB call_isiT (by rfl) T.u_isinstance (by decide +kernel) (pa_cons (pv 6) (pa_cons (pe_tup (pa_cons (pe_bltn (v := .ty "dict") (u := .type "dict") (by rfl) T.u_dict (by decide +kernel) rfl) (pa_cons (pe_bltn (v := .ty "list") (u := .type "list") (by rfl) T.u_list (by decide +kernel) rfl) pa_nil))) pa_nil)))))))))
  (pss_one (ps_ret pe_bl))
  pss_nil)
  (pss_one (ps_ret (pe_cmpR op_eq (pe_callB (Rv.cr_reprV stl (Gd.u70 hr)) (by rfl) T.u_repr (by decide +kernel) (pa_cons (pe_callB (Ow.cr_ownLen (ok_Query_len T) (hr.mono (by decide)) T.m_Query_len T.b_Query_len pass0) (by rfl) T.u_len (by decide +kernel) (pa_cons (pv 0) pa_nil)) pa_nil)) (pe_callB (Rv.cr_reprV stl (Gd.u70 hr)) (by rfl) T.u_repr (by decide +kernel) (pa_cons (pe_callB Eg.cr_len (by rfl) T.u_len (by decide +kernel) (pa_cons (pe_lc (own := [("_law_part", 7)]) rfl nd (pi_list (pv 5)) (blkOk_by (N := N_l_is_due) (sc := defScope s_l_is_due) (by decide +kernel)) (fun _ _ _ _ _ => (pg_name (i := 7) nd rfl (Or.inl rfl))) (fun _ _ _ _ _ => (Eg.ptsE (pts_one (pt_cmpR op_eq (pe_ix ix_tup (pv 7) pe_int (fun _ _ => rfl)) pe_str (nomark _))) (by walk_at "blk"))) (fun _ _ _ _ _ => (Eg.peE (pv 7) (by walk_at "blk")))) pa_nil)) pa_nil)) (nomark _)))))))), ?_⟩
    refine Eg.w_sig (σ := [some (.ref qa), some (.str m), some (.ref c), none, none, none, none, none]) rfl ?_
    walk_at "go"
    refine Mk.c_prop hq ⟨qa, m, cs, kvs, t, rfl, hQ, by have := hy.few; omega, by have := hy.size; omega, hy.has, fun p xs H1 hp h1 py1 s1 => ?_⟩
    walk_at "go"
    refine Rv.c_reprD (dp_fill h1 py1 hy.tp) hy.ok (by decide) ?_
    walk_at "go"
    have py2 := py.same fun b ys e => s1 _ _ e
    refine Eg.c_tupL (SqL.of (s1 _ _ hf)) fun u hu' => ?_
    have h2u : upd H1 u (.tup ys) u = some (.tup ys) := upd_same
    have s2 : Same H (upd H1 u (.tup ys)) := fun c o e => Eg.upd_old (s1 _ _ e) hu'
    have py3 := py2.same fun b ys' e => (Eg.upd_old e hu' : upd H1 u (.tup ys) b = _)
    generalize upd H1 u (.tup ys) = H2 at h2u s2 py3 ⊢
    walk_at "go"
    refine Rv.c_reprD (dp_fill h2u py3 hy.tp) hy.ok (by decide) ?_
    walk_at "go"
    rw [decide_eq_true (rfl : V.str (dPs (fill kvs cs)).shown = V.str _)]
    clear py2 py3 py1 h1 hp s1 h2u hu'
    have h2q := s2 _ _ hq
    have h2c := s2 _ _ hc
    walk_at "go"
    rw [decide_eq_true (rfl : V.str m = V.str m)]
    walk_at "go"
    rw [decide_eq_true (rfl : V.str t = V.str t)]
    walk_at "go"
    refine Mk.c_prop h2q ⟨qa, m, cs, kvs, t, rfl, hQ.keep s2, by have := hy.fewK; omega, hy.once, fun r' H3 hr' h3r s3 => ?_⟩
    have s03 := s2.trans s3
    have h3o := s03 _ _ hrow
    walk_at "go"
    refine c_neRow h3r h3o hy.once hy.vals ?_
    walk_at "go"
    have isd : ∃ ty, (∀ H', H' r' = H3 r' → TyX K H' (.ref r') ty) ∧ PySem.W.kitOne K ty (.type "dict") = some (decide (m = "name")) ∧ PySem.W.kitAny K ty [.type "dict", .type "list"] = some true := by
      unfold RowTold at h3r
      by_cases em : m = "name"
      · rw [if_pos em] at h3r
        rw [decide_eq_true em]
        exact ⟨_, fun H' e => .base (.dK (e.trans h3r)), kit_ty (b := "dict") (r := true) (by decide +kernel), rfl⟩
      · rw [if_neg em] at h3r
        rw [decide_eq_false em]
        exact ⟨_, fun H' e => .base (.lst (e.trans h3r)), kit_ty (b := "dict") (r := false) (by decide +kernel), rfl⟩
    obtain ⟨ty, tx, te1, te2⟩ := isd
    refine Eg.c_isi (.ty _) (tx H3 rfl) te1 ?_
    walk_at "go"
    rw [show decide (V.str m = V.str "name") = decide (m = "name") from decide_eq_decide.mpr ⟨V.str.inj, fun z => by rw [z]⟩]
    rw [decide_eq_true (rfl : V.bl (decide (m = "name")) = V.bl (decide (m = "name")))]
    walk_at "go"
    intro tp htp
    have h4t : upd H3 tp (.tup [.ty "dict", .ty "list"]) tp = some (.tup [.ty "dict", .ty "list"]) := upd_same
    have s4 : Same H3 (upd H3 tp (.tup [.ty "dict", .ty "list"])) := fun c o e => Eg.upd_old e htp
    have tx4 : TyX K (upd H3 tp (.tup [.ty "dict", .ty "list"])) (.ref r') ty := tx _ ((s4 _ _ h3r).trans h3r.symm)
    generalize upd H3 tp (.tup [.ty "dict", .ty "list"]) = H4 at h4t s4 tx4 ⊢
    refine ⟨.ref r', tp, _, ty, _, true, rfl, h4t, .cons (.ty _) (.cons (.ty _) .nil), tx4, te2, ?_⟩
    walk_at "go"
    have s04 := s03.trans s4
    refine Ow.c_ownLen (s04 _ _ hq) ⟨qa, m, cs, kvs, t, rfl, hQ.keep s04, by have := hy.few; omega, fun H5 s5 => ?_⟩
    have s05 := s04.trans s5
    have kl : (keys cs).length ≤ cs.length := List.length_filterMap_le _ _
    have few := hy.few
    refine ⟨((keys cs).length : Nat), rfl, by omega, by omega, ?_⟩
    walk_at "go"
    refine Rv.c_reprI (by omega) ?_
    walk_at "gw"
    have py5 := py.same fun b ys e => s05 _ _ e
    have h5f := s05 _ _ hf
    obtain ⟨L, hL1, hL2, hL3⟩ := pcs_listM (fun p : Pc => p) (cs := fill kvs cs) (by rw [List.map_id']; exact py5)
    have fl : (fill kvs cs).length ≤ cs.length := by
      have := merge_len (cs.map (fillP kvs))
      rw [List.length_map] at this
      exact this
    have Ll : L.length = (fill kvs cs).length := by
      have := congrArg List.length hL2
      rwa [List.length_map] at this
    refine fm_list (xs := L) (G := fun q => .ref q.1) (F := fun q => .ref q.1) (P := fun q => isOth q.2) (by rw [h5f, hL1]) (by omega) (fun R h => ?_) (fun H' z R s' hz h => ?_) (fun H' z R s' hz hp h => ?_) (fun D H8 hD s8 h8 => ?_)
    · walk_at "go"
      exact h
    · obtain ⟨t', p⟩ := z
      have ht := s' _ _ (hL3 _ hz)
      have hpv : PV p := hy.pv p (by rw [← hL2]; exact List.mem_map.mpr ⟨_, hz, rfl⟩)
      cases p with
      | say l =>
        have ht : H' t' = some (.tup [.str "say", .str (S l)]) := ht
        walk_at "go"
        rw [decide_eq_false (show ¬ V.str "say" = V.str "value" from fun z => absurd (V.str.inj z) (by decide +kernel))]
        exact h _ (Same.refl _)
      | oth tg xs =>
        obtain ⟨rfl, v, rfl, hv⟩ := hpv
        have ht : H' t' = some (.tup [.str "value", v]) := ht
        walk_at "go"
        rw [decide_eq_true (rfl : V.str "value" = V.str "value")]
        exact h _ (Same.refl _)
    · walk_at "go"
      exact h _ (Same.refl _)
    have cnt : (L.filter fun q => isOth q.2).length = (keys cs).length := by rw [filt_snd isOth, hL2, fill_oth]
    have h9 : ((L.filter fun q => isOth q.2).map fun q : Addr × Pc => V.ref q.1).length = (keys cs).length := by rw [List.length_map, cnt]
    walk_at "go"
    rw [h9]
    refine Rv.c_reprI (by omega) ?_
    walk_at "go"
    rw [decide_eq_true rfl]
    exact q _ (s05.trans s8)
end
end LW

local macro_rules | `(tactic| walk_at "tx") => `(tactic| first
  | with_reducible refine Mk.w_prop ?_
  | with_reducible refine Mk.w_methK ?_
  | with_reducible refine Mk.w_clr ?_
  | with_reducible refine Ow.w_par3 ?_
  | with_reducible refine Ow.c_par3 ?_
  | with_reducible refine Mk.w_pairC ?_
  | with_reducible refine Mk.w_pairN ?_
  | ((with_reducible refine' Mk.c_lenL ?hs ?_); (case hs => walk_at "hp"))
  | ((with_reducible refine' Mk.c_lenD ?hs ?_); (case hs => walk_at "hp")))
namespace LW
open PySem L2 SX Tx Tc Tl Kq Rp
/-! the law -/
def sp_law (K : PySem.W.Frag) : Sp := fun vs H Q _ => ∃ (a : Addr) (ns : List Int), vs = [.ref a] ∧ SqL K H a (ns.map V.int) ∧ ns.length ≤ 63 ∧ ∀ H', Q (.bl true) H'
theorem rowI_ord {m : Str} {ls : List (List Nat)} {its : List It} {zs : List V} (d : Drawn ls its zs) (e : m = "order") : (rowI m ls its zs).length ≤ (keys (cellsOf m (toksI m ls its))).length := by
  rw [ki_len (.inl e) d]
  have := congrArg List.length (rowI_keys (.inl e) d)
  rw [List.length_map, if_pos e, List.length_map, List.length_range] at this
  omega
theorem picks10 {ls : List (List Nat)} {its : List It} {zs : List V} (d : Drawn ls its zs) : (picks its).length ≤ 10 := Nat.le_trans (picks_len its) d.il

theorem ok_fill {cs : List Cl} {kvs : List (Key × V)} (h : Qy cs kvs) : Ok 60 70000 (dLs (LW.fill kvs cs)) := by
  have h1 := ok_lst h.pv
  have h2 := merge_len (cs.map (fillP kvs))
  have h3 := h.few
  have h4 := h.size
  have h5 : Tx.sz (LW.fill kvs cs) = szC cs := by
    unfold LW.fill
    rw [sz_merge, szC_fill]
  rw [List.length_map] at h2
  refine h1.mono (by decide) ?_
  have : (LW.fill kvs cs).length ≤ cs.length := h2
  omega
/-- a case: the tuple (manner, case), the case, the query and what they hold -/
structure En where
  p : Addr
  c : Addr
  q : Addr
  m : Str
  t : Str
  cs : List Cl
  kvs : List (Key × V)
/-- a query and its case, off X -/
def EntAt (C : Addr) (X : List Addr) (H : Hp) (m : Str) (c q : Addr) (cs : List Cl) (kvs : List (Key × V)) (t : Str) : Prop := ∃ (dx ca da r f : Addr) (zs ys : List V),
  H q = some (.ins C dx (fldsQ ca da m t)) ∧ H ca = some (.lst zs) ∧ PcsAt H zs (cs.map pc) ∧ H da = some (.dK kvs) ∧ H c = some (.tup [.str t, .ref r, .ref f]) ∧ H r = some (RowTold m kvs) ∧ H f = some (.lst ys) ∧ PcsAt H ys (fill kvs cs) ∧
  ∀ x ∈ X, x ≠ q ∧ x ≠ ca ∧ x ≠ da ∧ x ≠ c ∧ x ≠ r ∧ x ≠ f
theorem EntAt.keep {C : Addr} {X : List Addr} {H H' : Hp} {m t : Str} {c q : Addr} {cs : List Cl} {kvs : List (Key × V)} (h : EntAt C X H m c q cs kvs t) (nt : ∀ x ∈ X, ∀ xs, H x ≠ some (.tup xs)) (k : ∀ a o, H a = some o → a ∉ X → H' a = some o) : EntAt C X H' m c q cs kvs t := by
  obtain ⟨dx, ca, da, r, f, zs, ys, h1, h2, h3, h4, h5, h6, h7, h8, n⟩ := h
  exact ⟨dx, ca, da, r, f, zs, ys, k _ _ h1 fun z => (n _ z).1 rfl, k _ _ h2 fun z => (n _ z).2.1 rfl, h3.same fun b xs e => k _ _ e fun z => nt _ z _ e, k _ _ h4 fun z => (n _ z).2.2.1 rfl, k _ _ h5 fun z => (n _ z).2.2.2.1 rfl, k _ _ h6 fun z => (n _ z).2.2.2.2.1 rfl, k _ _ h7 fun z => (n _ z).2.2.2.2.2 rfl, h8.same fun b xs e => k _ _ e fun z => nt _ z _ e, n⟩
theorem EntAt.same {C : Addr} {X : List Addr} {H H' : Hp} {m t : Str} {c q : Addr} {cs : List Cl} {kvs : List (Key × V)} (h : EntAt C X H m c q cs kvs t) (s : Same H H') : EntAt C X H' m c q cs kvs t := by
  obtain ⟨dx, ca, da, r, f, zs, ys, h1, h2, h3, h4, h5, h6, h7, h8, n⟩ := h
  exact ⟨dx, ca, da, r, f, zs, ys, s _ _ h1, s _ _ h2, h3.same fun b xs e => s _ _ e, s _ _ h4, s _ _ h5, s _ _ h6, s _ _ h7, h8.same fun b xs e => s _ _ e, n⟩
theorem EntAt.mono {C : Addr} {X Y : List Addr} {H : Hp} {m t : Str} {c q : Addr} {cs : List Cl} {kvs : List (Key × V)} (h : EntAt C X H m c q cs kvs t) (s : ∀ y ∈ Y, y ∈ X) : EntAt C Y H m c q cs kvs t := by
  obtain ⟨dx, ca, da, r, f, zs, ys, h1, h2, h3, h4, h5, h6, h7, h8, n⟩ := h
  exact ⟨dx, ca, da, r, f, zs, ys, h1, h2, h3, h4, h5, h6, h7, h8, fun y hy => n y (s y hy)⟩
theorem EntAt.qat {C : Addr} {X : List Addr} {H : Hp} {m t : Str} {c q : Addr} {cs : List Cl} {kvs : List (Key × V)} (h : EntAt C X H m c q cs kvs t) : QAt C H q m cs kvs t := by
  obtain ⟨dx, ca, da, r, f, zs, ys, h1, h2, h3, h4, _⟩ := h
  exact ⟨dx, ca, da, zs, h1, h2, h3, h4⟩
/-- an entry of the lists -/
def EnAt (C : Addr) (X : List Addr) (H : Hp) (e : En) : Prop := H e.p = some (.tup [.str e.m, .ref e.c]) ∧ EntAt C X H e.m e.c e.q e.cs e.kvs e.t ∧ Qy e.cs e.kvs ∧ Mn e.m
theorem EnAt.keep {C : Addr} {X : List Addr} {H H' : Hp} {e : En} (h : EnAt C X H e) (nt : ∀ x ∈ X, ∀ xs, H x ≠ some (.tup xs)) (k : ∀ a o, H a = some o → a ∉ X → H' a = some o) : EnAt C X H' e :=
  ⟨k _ _ h.1 fun z => nt _ z _ h.1, h.2.1.keep nt k, h.2.2⟩
/-- a row as it is passed -/
def RowIs (H : Hp) (m : Str) (r : Addr) (kvs : List (Key × V)) : Prop := (m = "name" ∧ H r = some (.dK kvs)) ∨ (m ≠ "name" ∧ Po.SeqAt H r (kvs.map (·.2)))
theorem RowIs.to {H H' : Hp} {m : Str} {r : Addr} {kvs : List (Key × V)} (h : RowIs H m r kvs) (e : H' r = H r) : RowIs H' m r kvs := h.imp (fun z => ⟨z.1, e.trans z.2⟩) fun z => ⟨z.1, z.2.imp (fun y => e.trans y) fun y => e.trans y⟩
theorem RowIs.ob {H : Hp} {m : Str} {r : Addr} {kvs : List (Key × V)} (h : RowIs H m r kvs) : ∃ o, H r = some o := h.elim (fun z => ⟨_, z.2⟩) fun z => z.2.elim (fun y => ⟨_, y⟩) fun y => ⟨_, y⟩
theorem RowTold.is {H : Hp} {m : Str} {r : Addr} {kvs : List (Key × V)} (h : H r = some (RowTold m kvs)) : RowIs H m r kvs := by
  unfold RowTold at h
  by_cases e : m = "name"
  · rw [if_pos e] at h
    exact .inl ⟨e, h⟩
  · rw [if_neg e] at h
    exact .inr ⟨e, .inl h⟩
theorem Drawn.rowX {m : Str} {ls : List (List Nat)} {its : List It} {zs : List V} {H : Hp} {r : Addr} (hm : Mn m) (d : Drawn ls its zs) (h : RowIs H m r (rowI m ls its zs)) : RowX H m r (rowI m ls its zs) := by
  rcases h with ⟨e, h⟩ | ⟨e, h⟩
  · refine (d.row hm ?_).x
    unfold RowTold
    rw [if_pos e]
    exact h
  · have h0 := d.row (H := upd H r (.lst ((rowI m ls its zs).map (·.2)))) (r := r) hm (by unfold RowTold; rw [if_neg e]; exact upd_same)
    rcases h0 with ⟨z, _⟩ | ⟨_, xs, hx, ok, e2⟩
    · exact absurd z e
    · rw [upd_same] at hx
      cases hx
      exact .inr ⟨e, _, h, ok, e2⟩
/-- the keys of a drawn row, as data -/
theorem rowI_flat {m : Str} {ls : List (List Nat)} {its : List It} {zs : List V} (hm : Mn m) (d : Drawn ls its zs) : ∀ y ∈ rowI m ls its zs, Rd.Flat y.2 ∧ Ok 0 200 (Rd.keyD y.1) ∧ Ok 0 200 (Rd.flD y.2) := by
  intro y hy
  have hk : y.1 ∈ (rowI m ls its zs).map (·.1) := List.mem_map.mpr ⟨y, hy, rfl⟩
  have hv := rowI_vals d y hy
  have v2 : Rd.Flat y.2 ∧ Ok 0 200 (Rd.flD y.2) := by
    have := dv_ok hv
    generalize y.2 = v at hv this
    cases hv with
    | int i hi => exact ⟨trivial, this⟩
    | str l _ hc => exact ⟨trivial, this⟩
  refine ⟨v2.1, ?_, v2.2⟩
  rw [rowI_keys hm d] at hk
  have few := d.zl
  have pl := picks_len its
  have il := d.il
  have big : (1000 : Nat) < 10 ^ 40 := by decide +kernel
  split at hk
  · obtain ⟨i, hi, e⟩ := List.mem_map.mp hk
    have := List.mem_range.mp hi
    rw [← e]
    exact Ok.int (by show ((i : Nat) : Int).natAbs < _; omega)
  · split at hk
    · obtain ⟨i, hi, e⟩ := List.mem_map.mp hk
      have := List.mem_range.mp hi
      rw [← e]
      exact Ok.int (by show (((i : Nat) : Int) + 1).natAbs < _; omega)
    · obtain ⟨l, hl, e⟩ := List.mem_map.mp hk
      have := (d.lab l hl).2
      rw [← e]
      exact (Ok.str (l := l) fun c hc => (label_no (d.lab l hl).1 c hc).2).mono (Nat.le_refl _) (by omega)
theorem row_repr {K : PySem.W.Frag} {H : Hp} {m : Str} {ls : List (List Nat)} {its : List It} {zs : List V} {r : Addr} (hm : Mn m) (d : Drawn ls its zs) (h : RowIs H m r (rowI m ls its zs)) : ∃ z : Str, ∀ (H' : Hp) (Q : VK), H' r = H r → Q (.str z) H' → Rd.rReprK K [.ref r] H' Q := by
  have fl := rowI_flat hm d
  have rl := rowI_len hm d
  have dvs : ∀ v ∈ (rowI m ls its zs).map (·.2), DV v := fun v hv => by
    obtain ⟨y, hy', rfl⟩ := List.mem_map.mp hv
    exact rowI_vals d y hy'
  have okd : ∀ e ∈ ((rowI m ls its zs).map (·.2)).map dV, Ok 0 200 e := fun e he => by
    obtain ⟨v, hv, rfl⟩ := List.mem_map.mp he
    exact dv_ok (dvs v hv)
  have bd : (((rowI m ls its zs).map (·.2)).map dV).length * (200 + 1) ≤ 40000 := by
    rw [List.length_map, List.length_map]
    omega
  rcases h with ⟨e, h⟩ | ⟨e, h | h⟩
  · exact ⟨_, fun H' Q e' q => Rd.c_reprK (N := 200) (e'.trans h) (fun p hp => (fl p hp).1) (fun p hp => (fl p hp).2) (by omega) q⟩
  · exact ⟨_, fun H' Q e' q => .inl (Rv.c_reprD (.lst (SqL.of (e'.trans h)) (dp_dvs dvs)) ((Ok.list okd).mono (by decide) bd) (by decide) q)⟩
  · exact ⟨_, fun H' Q e' q => .inl (Rv.c_reprD (.tup (SqT.of (e'.trans h)) (dp_dvs dvs)) ((Ok.tuple okd).mono (by decide) bd) (by decide) q)⟩
def mnD : PyData := .tuple [.str "order", .str "number", .str "name"]
theorem mn_lay : mnD.canLay0 = true := by decide +kernel
theorem mn_shape : PySem.SeqAt.shaped mnD = true := by decide +kernel
theorem c_neMn {K : PySem.W.Frag} {H : Hp} {t p : Addr} {Q : VK} (ht : SqT K H t [.str "order", .str "number", .str "name"]) (hp : H p = some (.tup [.str "order", .str "number", .str "name"])) (q : Q (.bl false) H) : rNeD K (.ref t) (.ref p) H Q :=
  ⟨mnD, mnD, .tup ht (.cons (.str _) (.cons (.str _) (.cons (.str _) .nil))), .tup (SqT.of hp) (.cons (.str _) (.cons (.str _) (.cons (.str _) .nil))), mn_shape, mn_shape, by
    rw [show PyData.eqv mnD mnD = true from PySem.SeqAt.eqv_refl _ mn_lay]
    exact q⟩
theorem mn_at {j : Nat} {x : V} (h : ([V.str "order", V.str "number", V.str "name"] : List V)[j]? = some x) : ∃ m, x = .str m ∧ Mn m := by
  rcases List.mem_cons.mp (List.mem_of_getElem? h) with rfl | h
  · exact ⟨_, rfl, .inl rfl⟩
  rcases List.mem_cons.mp h with rfl | h
  · exact ⟨_, rfl, .inr (.inl rfl)⟩
  · rw [List.mem_singleton.mp h]
    exact ⟨_, rfl, .inr (.inr rfl)⟩
/-- all but what stands in X stays -/
def KX (X : List Addr) (H H' : Hp) : Prop := ∀ c o, H c = some o → c ∉ X → H' c = some o
theorem KX.trans {X : List Addr} {H H' H'' : Hp} (h : KX X H H') (h' : KX X H' H'') : KX X H H'' := fun c o e n => h' c o (h c o e n) n
theorem KX.of {X : List Addr} {H H' : Hp} (s : Same H H') : KX X H H' := fun c o e _ => s c o e
theorem KX.kb {X : List Addr} {b : Addr} {H H' : Hp} (k : KeptB b H H') (h : b ∈ X) : KX X H H' := fun c o e n => k c o e fun z => n (z ▸ h)
theorem EntAt.add {C : Addr} {X : List Addr} {H : Hp} {m t : Str} {c q y : Addr} {cs : List Cl} {kvs : List (Key × V)} (h : EntAt C X H m c q cs kvs t) (hy : H y = none) : EntAt C (y :: X) H m c q cs kvs t := by
  obtain ⟨dx, ca, da, r, f, zs, ys, h1, h2, h3, h4, h5, h6, h7, h8, n⟩ := h
  refine ⟨dx, ca, da, r, f, zs, ys, h1, h2, h3, h4, h5, h6, h7, h8, fun x hx => ?_⟩
  rcases List.mem_cons.mp hx with rfl | hx
  · exact ⟨(ne_of_none h1 hy).symm, (ne_of_none h2 hy).symm, (ne_of_none h4 hy).symm, (ne_of_none h5 hy).symm, (ne_of_none h6 hy).symm, (ne_of_none h7 hy).symm⟩
  · exact n x hx
theorem RowIs.ty {K : PySem.W.Frag} {H : Hp} {m : Str} {r : Addr} {kvs : List (Key × V)} (h : RowIs H m r kvs) : ∃ ty, TyX K H (.ref r) ty ∧ PySem.W.kitOne K ty (.type "dict") = some (decide (m = "name")) ∧ (m ≠ "name" → (∃ xs, H r = some (.lst xs) ∧ xs.length = kvs.length ∧ PySem.W.kitOne K ty (.type "list") = some true) ∨ PySem.W.kitOne K ty (.type "list") = some false) := by
  rcases h with ⟨e, h⟩ | ⟨e, h | h⟩
  · rw [decide_eq_true e]
    exact ⟨_, .base (.dK h), kit_ty (b := "dict") (r := true) (by decide +kernel), fun z => absurd e z⟩
  · rw [decide_eq_false e]
    exact ⟨_, .base (.lst h), kit_ty (b := "dict") (r := false) (by decide +kernel), fun _ => .inl ⟨_, h, List.length_map _, kit_ty (b := "list") (r := true) (by decide +kernel)⟩⟩
  · rw [decide_eq_false e]
    exact ⟨_, .base (.tup h), kit_ty (b := "dict") (r := false) (by decide +kernel), fun _ => .inr (kit_ty (b := "list") (r := false) (by decide +kernel))⟩
/-- a round of the law: the query with its case, and the entries so far; Y is what may change -/
structure StAt (C b l1 l2 : Addr) (H5 : Hp) (m t : Str) (p x : Addr) (cs : List Cl) (kvs : List (Key × V)) (es : List En) (Y : List Addr) (H : Hp) : Prop where
  ent : EntAt C (Y ++ [b, l1, l2]) H m p x cs kvs t
  la : H l1 = some (.lst (es.map fun e => V.ref e.p))
  lb : H l2 = some (.lst (es.map fun e => V.ref e.q))
  bag : BagB H b
  en : ∀ e ∈ es, EnAt C (Y ++ [b, l1, l2]) H e
  kx : KX [b, l1, l2] H5 H
  ny : ∀ y ∈ Y, y ∉ [b, l1, l2] ∧ H5 y = none
theorem EnAt.mono {C : Addr} {X Y : List Addr} {H : Hp} {e : En} (h : EnAt C X H e) (s : ∀ y ∈ Y, y ∈ X) : EnAt C Y H e := ⟨h.1, h.2.1.mono s, h.2.2⟩
theorem EnAt.same {C : Addr} {X : List Addr} {H H' : Hp} {e : En} (h : EnAt C X H e) (s : Same H H') : EnAt C X H' e := ⟨s _ _ h.1, h.2.1.same s, h.2.2⟩
theorem EnAt.add {C : Addr} {X : List Addr} {H : Hp} {e : En} {y : Addr} (h : EnAt C X H e) (hy : H y = none) : EnAt C (y :: X) H e := ⟨h.1, h.2.1.add hy, h.2.2⟩
section
variable {C b l1 l2 : Addr} {H5 : Hp} {m t : Str} {p x : Addr} {cs : List Cl} {kvs : List (Key × V)} {es : List En} {Y : List Addr} {H H' : Hp}
theorem StAt.same (h : StAt C b l1 l2 H5 m t p x cs kvs es Y H) (s : Same H H') : StAt C b l1 l2 H5 m t p x cs kvs es Y H' :=
  ⟨h.ent.same s, s _ _ h.la, s _ _ h.lb, h.bag.keep s, fun e he => (h.en e he).same s, h.kx.trans (.of s), h.ny⟩
theorem StAt.nt (h : StAt C b l1 l2 H5 m t p x cs kvs es Y H) : ∀ y ∈ [b, l1, l2], ∀ xs, H y ≠ some (.tup xs) := by
  intro y hy xs
  simp only [List.mem_cons, List.not_mem_nil, or_false] at hy
  rcases hy with rfl | rfl | rfl
  · obtain ⟨bs, eb⟩ := h.bag.ob
    rw [eb]
    exact fun z => nomatch z
  · rw [h.la]
    exact fun z => nomatch z
  · rw [h.lb]
    exact fun z => nomatch z
theorem StAt.out (h : StAt C b l1 l2 H5 m t p x cs kvs es Y H) {y : Addr} (hy : H y = none) : y ∉ [b, l1, l2] := by
  simp only [List.mem_cons, List.not_mem_nil, or_false, not_or]
  exact ⟨h.bag.ne hy, (ne_of_none h.la hy).symm, (ne_of_none h.lb hy).symm⟩
theorem StAt.add (h : StAt C b l1 l2 H5 m t p x cs kvs es Y H) {y : Addr} (hy : H y = none) : StAt C b l1 l2 H5 m t p x cs kvs es (y :: Y) H := by
  refine ⟨h.ent.add hy, h.la, h.lb, h.bag, fun e he => (h.en e he).add hy, h.kx, fun z hz => ?_⟩
  rcases List.mem_cons.mp hz with rfl | hz
  · refine ⟨h.out hy, ?_⟩
    cases e : H5 z with
    | none => rfl
    | some o =>
      rw [h.kx _ _ e (h.out hy)] at hy
      cases hy
  · exact h.ny z hz
theorem StAt.drop (h : StAt C b l1 l2 H5 m t p x cs kvs es Y H) : StAt C b l1 l2 H5 m t p x cs kvs es [] H :=
  ⟨h.ent.mono fun y hy => List.mem_append.mpr (.inr hy), h.la, h.lb, h.bag, fun e he => (h.en e he).mono fun y hy => List.mem_append.mpr (.inr hy), h.kx, fun _ z => nomatch z⟩
theorem StAt.chg {y : Addr} (h : StAt C b l1 l2 H5 m t p x cs kvs es [y] H) (n : ∀ xs, H y ≠ some (.tup xs)) (f : ∀ c o, H c = some o → c ≠ y → H' c = some o) : StAt C b l1 l2 H5 m t p x cs kvs es [] H' := by
  have nx := (h.ny y List.mem_cons_self).1
  have n5 := (h.ny y List.mem_cons_self).2
  have nt : ∀ z ∈ ([y] ++ [b, l1, l2] : List Addr), ∀ xs, H z ≠ some (.tup xs) := fun z hz => by
    rcases List.mem_cons.mp hz with rfl | hz
    · exact n
    · exact h.nt z hz
  have k : ∀ a o, H a = some o → a ∉ ([y] ++ [b, l1, l2] : List Addr) → H' a = some o := fun a o e z => f a o e fun w => z (w ▸ List.mem_cons_self)
  have out : ∀ z ∈ [b, l1, l2], z ≠ y := fun z hz w => nx (w ▸ hz)
  obtain ⟨bs, eb⟩ := h.bag.ob
  refine ⟨(h.ent.keep nt k).mono fun y hy => List.mem_append.mpr (.inr hy), f _ _ h.la (out _ (.tail _ List.mem_cons_self)), f _ _ h.lb (out _ (.tail _ (.tail _ List.mem_cons_self))), h.bag.to ((f _ _ eb (out _ List.mem_cons_self)).trans eb.symm), fun e he => ((h.en e he).keep nt k).mono fun y hy => List.mem_append.mpr (.inr hy), fun c o e z => f _ _ (h.kx c o e z) fun w => ?_, fun _ z => nomatch z⟩
  rw [w, n5] at e
  cases e
end
section
variable {P : Program} {w : World} {K : PySem.W.Frag} {mg : Str → Option Value} {base : Heap} {Z : Ad}
set_option maxHeartbeats 8000000 in
theorem ok_law (T : Txt K mg Z) : Gd.FnG P w K mg base CX0 10 Z.a_law Z.d_law ["_law_script"] (sp_law K) := by
  refine Gd.Fun.okG T.F_law sc_law (fun vs H Q E h => ?_) (fun cdv A outer s H0 vs Q E hr stl h => ?_)
  · obtain ⟨a, ns, rfl, _⟩ := h
    rfl
  · obtain ⟨a, sc, rfl, hS, hlen, q⟩ := h
    have nd := sc_law.nd
    have hu := hu_of hr
    have cQ := T.cl_Query
    refine ⟨_, (pss_cons (ps_if (pt_cmpR (op_neD hr.units) (ClX.pe_cval (pe_glob (v := .ref Z.c_Query) (by rfl) T.g_Query rfl)) (pe_tup (pa_cons pe_str (pa_cons pe_str (pa_cons pe_str pa_nil)))) (nomark _))
  (pss_one (ps_ret pe_bl))
  pss_nil)
  (pss_cons (ps_for PassesOwn.never rfl (pi_range1 (by rfl) T.u_range (pa_cons (pe_callB (Eg.cr_max2 rfl) (by rfl) T.u_max (by decide +kernel) (pa_cons pe_int (pa_cons (pe_callB (Eg.cr_min2 rfl) (by rfl) T.u_min (by decide +kernel) (pa_cons pe_int (pa_cons (pe_callB Eg.cr_len (by rfl) T.u_len (by decide +kernel) (pa_cons (pv 0) pa_nil)) pa_nil))) pa_nil))) pa_nil)) (pg_name (i := 1) nd rfl (Or.inl rfl))
  (pss_cons (ps_par3 (i := 2) (j := 3) (l := 4) rfl nd rfl rfl rfl (by decide) (by decide) (by decide) rfl rfl rfl (pa_cons (pe_call (ok_l_bag T) (hr.mono (by decide)) (by rfl) T.g_l_bag T.F_l_bag.kp T.b_l_bag .nil pass0 (pa_cons (pv 0) (pa_cons (pv 1) pa_nil))) (pa_cons (pe_lst pa_nil) (pa_cons (pe_lst pa_nil) pa_nil))) (by rfl))
  (pss_cons (ps_for PassesOwn.never rfl (pi_list (pe_lst (pa_cons pe_str (pa_cons pe_str (pa_cons pe_str pa_nil))))) (pg_name (i := 5) nd rfl (Or.inl rfl))
  (pss_cons (ps_set (i := 6) nd rfl (Or.inl rfl) (pe_call (ok_l_query T) (hr.mono (by decide)) (by rfl) T.g_l_query T.F_l_query.kp T.b_l_query .nil pass0 (pa_cons (pv 2) (pa_cons (pv 5) pa_nil))))
  (C8.pss_cut (ps_set (i := 7) nd rfl (Or.inl rfl) (pe_ifExp (pt_cmpR op_eq (pv 5) pe_str (nomark _)) (pe_callTy call_dictD (by rfl) T.u_dict (by decide +kernel) (pa_cons (pe_ix ix_tup (pv 6) pe_int (fun _ _ => rfl)) pa_nil)) (pe_ifExp (pt_cmpR op_eq (pe_call (ok_l_take T) (hr.mono (by decide)) (by rfl) T.g_l_take T.F_l_take.kp T.b_l_take .nil pass0 (pa_cons (pv 2) (pa_cons pe_int pa_nil))) pe_int (nomark _)) (pe_callTy Eg.cr_tup (by rfl) T.u_tuple (by decide +kernel) (pa_cons (pe_ix ix_tup (pv 6) pe_int (fun _ _ => rfl)) pa_nil)) (pe_callTy call_list_of (by rfl) T.u_list (by decide +kernel) (pa_cons (pe_ix ix_tup (pv 6) pe_int (fun _ _ => rfl)) pa_nil)))))
  (pss_cons (ps_par (i := 8) (j := 9) (by rfl) nd rfl rfl (by decide) rfl rfl (pa_cons (pe_make T.mk_Query (ok_Query_init T) (hr.mono (by decide)) (by rfl) T.g_Query T.b_Query_init .nil pass0 (pa_cons (pv 5) (pa_cons (pe_ix ix_tup (pv 6) pe_int (fun _ _ => rfl)) (pa_cons (pv 7) pa_nil)))) (pa_cons (pe_callB (Rd.cr_reprK stl (Gd.u70 hr)) (by rfl) T.u_repr (by decide +kernel) (pa_cons (pv 7) pa_nil)) pa_nil)) (by rfl))
  (pss_cons (ps_if (PW.pt (pw_or (pt_cmpR op_ne (pe_callB (Rd.cr_reprK stl (Gd.u70 hr)) (by rfl) T.u_repr (by decide +kernel) (pa_cons (pv 7) pa_nil)) (pv 9) (nomark _)) (pw_or1 (pt_not (pt_val (Gd.pe_callG (ok_l_is_due T) (hr.mono (by decide)) stl (by rfl) T.g_l_is_due T.F_l_is_due.kp T.b_l_is_due .nil pass0 (pa_cons (pv 8) (pa_cons (pv 5) (pa_cons (pv 6) pa_nil)))))))))
  (pss_one (ps_ret pe_bl))
  pss_nil)
  (C8.pss_cut (ps_if (pt_val (pe_callB call_isi (by rfl) T.u_isinstance (by decide +kernel) (pa_cons (pv 7) (pa_cons (pe_bltn (v := .ty "dict") (u := .type "dict") (by rfl) T.u_dict (by decide +kernel) rfl) pa_nil))))
  (pss_one (ps_dput hu (pv 7) pe_str pe_int rfl))
  (pss_one (ps_if (pt_val (pe_callB call_isi (by rfl) T.u_isinstance (by decide +kernel) (pa_cons (pv 7) (pa_cons (pe_bltn (v := .ty "list") (u := .type "list") (by rfl) T.u_list (by decide +kernel) rfl) pa_nil))))
  (pss_one (ps_expr (pe_bm PySem.F.plainAttrs_list PySem.F.slot_list_insert PySem.F.type_list_insert mt_insert (pv 7) (pa_cons pe_int (pa_cons pe_int pa_nil)))))
  pss_nil)))
  (pss_cons (ps_set (i := 10) nd rfl (Or.inl rfl) (pe_prop (pv 8) T.cl_Query T.p_Query_row (ok_Query_row T) (hr.mono (by decide)) T.b_Query_row .nil pass0 rfl))
  (C8.pss_cut (ps_if (pt_val (pe_callB call_isi (by rfl) T.u_isinstance (by decide +kernel) (pa_cons (pv 10) (pa_cons (pe_bltn (v := .ty "dict") (u := .type "dict") (by rfl) T.u_dict (by decide +kernel) rfl) pa_nil))))
  (pss_one (ps_dput hu (pv 10) pe_str pe_int rfl))
  (pss_one (ps_expr (pe_bm PySem.F.plainAttrs_list PySem.F.slot_list_append PySem.F.type_list_append mt_append (pv 10) (pa_cons pe_int pa_nil)))))
  (pss_cons (ps_if (pt_not (pt_val (Gd.pe_callG (ok_l_is_due T) (hr.mono (by decide)) stl (by rfl) T.g_l_is_due T.F_l_is_due.kp T.b_l_is_due .nil pass0 (pa_cons (pv 8) (pa_cons (pv 5) (pa_cons (pv 6) pa_nil))))))
  (pss_one (ps_ret pe_bl))
  pss_nil)
  (pss_cons (ps_expr (pe_bm PySem.F.plainAttrs_list PySem.F.slot_list_append PySem.F.type_list_append mt_append (pv 3) (pa_cons (pe_tup (pa_cons (pv 5) (pa_cons (pv 6) pa_nil))) pa_nil)))
  (pss_one (ps_expr (pe_bm PySem.F.plainAttrs_list PySem.F.slot_list_append PySem.F.type_list_append mt_append (pv 4) (pa_cons (pv 8) pa_nil))))))))))))))
  (pss_one (ps_for PassesOwn.never rfl (pi_zip (by rfl) T.u_zip (pa_cons (pv 3) (pa_cons (pv 4) pa_nil))) (pg_tup (by rfl) (pgs_cons (pg_tup (by rfl) (pgs_cons (pg_name (i := 5) nd rfl (Or.inl rfl)) (pgs_cons (pg_name (i := 6) nd rfl (Or.inl rfl)) pgs_nil))) (pgs_cons (pg_name (i := 8) nd rfl (Or.inl rfl)) pgs_nil)))
  (pss_cons (ps_if (pt_not (pt_val (Gd.pe_callG (ok_l_is_due T) (hr.mono (by decide)) stl (by rfl) T.g_l_is_due T.F_l_is_due.kp T.b_l_is_due .nil pass0 (pa_cons (pv 8) (pa_cons (pv 5) (pa_cons (pv 6) pa_nil))))))
  (pss_one (ps_ret pe_bl))
  pss_nil)
  (pss_cons (ps_for PassesOwn.never rfl (pi_zip (by rfl) T.u_zip (pa_cons (pv 3) (pa_cons (pv 4) pa_nil))) (pg_tup (by rfl) (pgs_cons (pg_tup (by rfl) (pgs_cons (pg_name (i := 11) nd rfl (Or.inl rfl)) (pgs_cons (pg_name (i := 12) nd rfl (Or.inl rfl)) pgs_nil))) (pgs_cons (pg_name (i := 13) nd rfl (Or.inl rfl)) pgs_nil)))
  (pss_one (ps_if (pt_cmpR op_ne (pe_cmpR (Oe.op_ownEq (ok_Query_eq T) (hr.mono (by decide)) T.m_Query_eq T.b_Query_eq pass0) (pv 8) (pv 13) (nomark _)) (pe_cmpR op_eq (pe_callB (Rd.cr_reprK stl (Gd.u70 hr)) (by rfl) T.u_repr (by decide +kernel) (pa_cons (pe_ix ix_tup (pv 6) pe_int (fun _ _ => rfl)) pa_nil)) (pe_callB (Rd.cr_reprK stl (Gd.u70 hr)) (by rfl) T.u_repr (by decide +kernel) (pa_cons (pe_ix ix_tup (pv 12) pe_int (fun _ _ => rfl)) pa_nil)) (nomark _)) (nomark _))
  (pss_one (ps_ret pe_bl))
  pss_nil)))
  (pss_one (ps_if (PW.pt (pw_or (pt_cmpR (Oe.op_ownEq (ok_Query_eq T) (hr.mono (by decide)) T.m_Query_eq T.b_Query_eq pass0) (pv 8) (pe_ix ix_tup (pv 6) pe_int (fun _ _ => rfl)) (nomark _)) (pw_or (pt_cmpR (Oe.op_ownEq (ok_Query_eq T) (hr.mono (by decide)) T.m_Query_eq T.b_Query_eq pass0) (pv 8) (pe_ix ix_tup (pv 6) pe_int (fun _ _ => rfl)) (nomark _)) (pw_or1 (pt_cmpR (Oe.op_ownEq (ok_Query_eq T) (hr.mono (by decide)) T.m_Query_eq T.b_Query_eq pass0) (pv 8) (pe_callTy Eg.cr_tup (by rfl) T.u_tuple (by decide +kernel) (pa_cons (pe_ix ix_tup (pv 6) pe_int (fun _ _ => rfl)) pa_nil)) (nomark _))))))
  (pss_one (ps_ret pe_bl))
  pss_nil)))))))))
  (pss_one (ps_ret pe_bl)))), ?_⟩
    refine Eg.w_sig (σ := [some (.ref a), none, none, none, none, none, none, none, none, none, none, none, none, none]) rfl ?_
    walk_at "go"
    obtain ⟨TL, cv, sq⟩ := T.v_Query_MANNERS
    refine ⟨_, _, _, _, rfl, T.cr_Query, cv, ?_⟩
    walk_at "go"
    intro p0 hp0
    have s0 : Same H0 (upd H0 p0 (.tup [.str "order", .str "number", .str "name"])) := fun c o e => Eg.upd_old e hp0
    refine c_neMn (sq _) upd_same ?_
    generalize upd H0 p0 (.tup [.str "order", .str "number", .str "name"]) = H0' at s0 ⊢
    have hS0 := s0.seq hS
    walk_at "go"
    refine for_range (lo := 0) (fun i σ' H' => ∃ v1 v2 v3 v4 v5 v6 v7 v8 v9 v10 v11 v12 v13 : Option V, σ' = [some (.ref a), v1, v2, v3, v4, v5, v6, v7, v8, v9, v10, v11, v12, v13] ∧ Same H0 H') ⟨_, _, _, _, _, _, _, _, _, _, _, _, _, rfl, s0⟩ ?_ ?_
    rotate_left
    · rintro _ H2 ⟨v1, v2, v3, v4, v5, v6, v7, v8, v9, v10, v11, v12, v13, rfl, _⟩
      walk_at "go"
      exact q H2
    rintro i _ H1 hi ⟨v1, v2, v3, v4, v5, v6, v7, v8, v9, v10, v11, v12, v13, rfl, s1⟩
    have hi4 : i < 4 := by
      split at hi <;> split at hi <;> omega
    walk_at "go"
    refine ⟨a, sc, 0 + (i : Int), rfl, s1.seq hS, hlen, by omega, by omega, fun b H2 hb0 hb2 s2 => ?_⟩
    have hnb : H0 b = none := s1.free hb0
    have s02 := s1.trans s2
    clear s2 hb0 s1
    walk_at "go"
    intro l1 hl1
    have h3l : upd H2 l1 (.lst []) l1 = some (.lst []) := upd_same
    have s3 : Same H2 (upd H2 l1 (.lst [])) := fun c o' e => Eg.upd_old e hl1
    have hl10 := s02.free hl1
    have bl1 := hb2.ne hl1
    generalize upd H2 l1 (.lst []) = H3 at h3l s3 ⊢
    walk_at "go"
    intro l2 hl2
    have h4l2 : upd H3 l2 (.lst []) l2 = some (.lst []) := upd_same
    have s4 : Same H3 (upd H3 l2 (.lst [])) := fun c o' e => Eg.upd_old e hl2
    have hl20 := (s02.trans s3).free hl2
    have h4l1 := s4 _ _ h3l
    have bl2 := (hb2.keep s3).ne hl2
    have bl1' : b ≠ l1 := bl1.symm
    have bl2' : b ≠ l2 := bl2.symm
    have l12 : l1 ≠ l2 := ne_of_none h3l hl2
    generalize upd H3 l2 (.lst []) = H4 at h4l2 h4l1 s4 ⊢
    have hb4 := hb2.keep (s3.trans s4)
    have s04 := (s02.trans s3).trans s4
    clear s02 s3 s4 h3l hl1 hl2 hb2
    walk_at "go"
    intro o ho
    have h5o : upd H4 o (.lst [.str "order", .str "number", .str "name"]) o = some (.lst [.str "order", .str "number", .str "name"]) := upd_same
    have s5 : Same H4 (upd H4 o (.lst [.str "order", .str "number", .str "name"])) := fun c o' e => Eg.upd_old e ho
    have nob : o ∉ [b, l1, l2] := by
      simp only [List.mem_cons, List.not_mem_nil, or_false, not_or]
      exact ⟨hb4.ne ho, (ne_of_none h4l1 ho).symm, (ne_of_none h4l2 ho).symm⟩
    generalize upd H4 o (.lst [.str "order", .str "number", .str "name"]) = H5 at h5o s5 ⊢
    have hb5 := hb4.keep s5
    have h5l1 := s5 _ _ h4l1
    have h5l2 := s5 _ _ h4l2
    have s05 := s04.trans s5
    have l10 : H0 l1 = none := hl10
    have l20 : H0 l2 = none := hl20
    clear s5 s04 hb4 h4l1 h4l2 ho H4
    have nX0 : ∀ c o, H0 c = some o → c ∉ [b, l1, l2] := fun c o e => by
      simp only [List.mem_cons, List.not_mem_nil, or_false, not_or]
      exact ⟨ne_of_none e hnb, ne_of_none e l10, ne_of_none e l20⟩
    walk_at "go"
    refine for_list (xs := [.str "order", .str "number", .str "name"]) (fun j σ' H' => ∃ (v5 v6 v7 v8 v9 v10 v11 v12 v13 : Option V) (es : List En), σ' = [some (.ref a), some (.int (0 + (i : Int))), some (.ref b), some (.ref l1), some (.ref l2), v5, v6, v7, v8, v9, v10, v11, v12, v13] ∧
      es.length = j ∧ H' l1 = some (.lst (es.map fun e => V.ref e.p)) ∧ H' l2 = some (.lst (es.map fun e => V.ref e.q)) ∧ (∀ e ∈ es, EnAt Z.c_Query [b, l1, l2] H' e) ∧ BagB H' b ∧ KX [b, l1, l2] H5 H') ⟨_, _, _, _, _, _, _, _, _, [], rfl, rfl, h5l1, h5l2, (fun _ z => nomatch z), hb5, fun c o e _ => e⟩ ?_ ?_ ?_
    · rintro j _ H6 _ ⟨v5, v6, v7, v8, v9, v10, v11, v12, v13, es, rfl, _, _, _, _, _, k6⟩
      exact SqL.of (k6 _ _ h5o nob)
    · rintro j x0 _ H6 hx0 ⟨v5, v6, v7, v8, v9, v10, v11, v12, v13, es, rfl, el, h6l1, h6l2, he6, hb6, k6⟩
      obtain ⟨m, rfl, hm⟩ := mn_at hx0
      have j3 : j < 3 := (List.getElem?_eq_some_iff.mp hx0).1
      clear hx0
      walk_at "go"
      refine ⟨b, m, rfl, hb6, hm, fun p ra fa ys zs ls its H7 hp h7p hra hfa h7r h7f py dr hb7 k7 => ?_⟩
      have pX : p ∉ [b, l1, l2] := by
        simp only [List.mem_cons, List.not_mem_nil, or_false, not_or]
        exact ⟨hb6.ne hp, (ne_of_none h6l1 hp).symm, (ne_of_none h6l2 hp).symm⟩
      have raX : ra ∉ [b, l1, l2] := by
        simp only [List.mem_cons, List.not_mem_nil, or_false, not_or]
        exact ⟨hb6.ne hra, (ne_of_none h6l1 hra).symm, (ne_of_none h6l2 hra).symm⟩
      have faX : fa ∉ [b, l1, l2] := by
        simp only [List.mem_cons, List.not_mem_nil, or_false, not_or]
        exact ⟨hb6.ne hfa, (ne_of_none h6l1 hfa).symm, (ne_of_none h6l2 hfa).symm⟩
      have nt6 : ∀ x ∈ [b, l1, l2], ∀ xs, H6 x ≠ some (.tup xs) := by
        intro x hx xs
        simp only [List.mem_cons, List.not_mem_nil, or_false] at hx
        rcases hx with rfl | rfl | rfl
        · obtain ⟨bs, eb⟩ := hb6.ob
          rw [eb]
          exact fun z => nomatch z
        · rw [h6l1]
          exact fun z => nomatch z
        · rw [h6l2]
          exact fun z => nomatch z
      have h7l1 := k7 _ _ h6l1 bl1
      have h7l2 := k7 _ _ h6l2 bl2
      have kx7 : KX [b, l1, l2] H6 H7 := .kb k7 (List.mem_cons_self)
      have he7 : ∀ e ∈ es, EnAt Z.c_Query [b, l1, l2] H7 e := fun e h => (he6 e h).keep nt6 kx7
      have kx := k6.trans kx7
      clear k6 kx7 k7 he6 nt6 h6l1 h6l2 hb6 hp hra hfa H6
      rw [← dr.fill' hm] at py
      walk_at "go"
      refine ⟨fun σ' H' => ∃ (r : Addr), σ' = [some (.ref a), some (.int (0 + (i : Int))), some (.ref b), some (.ref l1), some (.ref l2), some (.str m), some (.ref p), some (.ref r), v8, v9, v10, v11, v12, v13] ∧ RowIs H' m r (rowI m ls its zs) ∧ H7 r = none ∧ BagB H' b ∧ KeptB b H7 H', ?_, ?_⟩
      · walk_at "go"
        by_cases em : m = "name"
        · rw [decide_eq_true (show V.str m = V.str "name" by rw [em])]
          walk_at "go"
          refine ⟨ra, _, rfl, .inl (by rw [h7r]; unfold RowTold; rw [if_pos em]), fun r hr => ?_⟩
          walk_at "go"
          exact ⟨r, rfl, .inl ⟨em, upd_same⟩, hr, hb7.to (upd_ne (hb7.ne hr).symm), fun c o e _ => Eg.upd_old e hr⟩
        · rw [decide_eq_false (show ¬ V.str m = V.str "name" from fun z => em (V.str.inj z))]
          walk_at "go"
          refine ⟨b, 2, rfl, hb7, by decide, by decide, fun r3 H8 r30 r31 hb8 f8 => ?_⟩
          have h8r : H8 ra = some (.lst ((rowI m ls its zs).map (·.2))) := by
            rw [f8 _ fun z => raX (z ▸ List.mem_cons_self), h7r]
            unfold RowTold
            rw [if_neg em]
          have h8p := (f8 _ fun z => pX (z ▸ List.mem_cons_self)).trans h7p
          walk_at "go"
          rw [Eg.int_eq]
          refine Eg.brD (fun e => ?_) (fun e => ?_)
          · walk_at "go"
            refine Eg.c_tupL (SqL.of h8r) fun r hr => ?_
            walk_at "go"
            exact ⟨r, rfl, .inr ⟨em, .inr upd_same⟩, (KeptB.fr f8).free (hb8.ne hr) hr, hb8.to (upd_ne (hb8.ne hr).symm), fun c o e n => Eg.upd_old ((f8 c n).trans e) hr⟩
          · walk_at "go"
            refine ⟨ra, _, rfl, .inl (SqL.of h8r), fun r hr => ?_⟩
            walk_at "go"
            exact ⟨r, rfl, .inr ⟨em, .inl upd_same⟩, (KeptB.fr f8).free (hb8.ne hr) hr, hb8.to (upd_ne (hb8.ne hr).symm), fun c o e n => Eg.upd_old ((f8 c n).trans e) hr⟩
      rintro _ H8 ⟨r, rfl, h8row, hr7, hb8, k8⟩
      have rX : r ∉ [b, l1, l2] := by
        simp only [List.mem_cons, List.not_mem_nil, or_false, not_or]
        exact ⟨hb7.ne hr7, (ne_of_none h7l1 hr7).symm, (ne_of_none h7l2 hr7).symm⟩
      have h8p := k8 _ _ h7p fun z => pX (z ▸ List.mem_cons_self)
      walk_at "go"
      refine mk_queryN (ts := toksI m ls its) (kvs := rowI m ls its zs) rfl hm (by have := (dr.sizes (m := m)).1; omega) (dr.rd hm) (dr.rowX hm h8row) (by have := rowI_len hm dr; omega) (rowI_has hm dr) (fun e => rowI_ord dr e) fun x H9 hx q9 s9 => ?_
      have hy := dr.qy hm
      obtain ⟨z0, hz0⟩ := row_repr (K := K) hm dr h8row
      -- the round's state
      have S9 : StAt Z.c_Query b l1 l2 H5 m (S (flat (toksI m ls its))) p x (cellsOf m (toksI m ls its)) (rowI m ls its zs) es [r] H9 := by
        obtain ⟨dx, ca, da, xs, h1, h2, h3, h4, n1, n2⟩ := q9
        have h7to9 : KeptB b H7 H9 := fun c o e n => s9 _ _ (k8 c o e n)
        have nb : ∀ {c}, c ∉ [b, l1, l2] → c ≠ b := fun n z => n (z ▸ List.mem_cons_self)
        have h9p := h7to9 _ _ h7p (nb pX)
        have h9r := h7to9 _ _ h7r (nb raX)
        have h9f := h7to9 _ _ h7f (nb faX)
        have h8l1 := k8 _ _ h7l1 bl1
        have h8l2 := k8 _ _ h7l2 bl2
        obtain ⟨bs, eb⟩ := hb8.ob
        obtain ⟨ro, er⟩ := h8row.ob
        refine ⟨⟨dx, ca, da, ra, fa, xs, ys, h1, h2, h3, h4, h9p, h9r, h9f, ?_, fun y hy => ?_⟩, s9 _ _ h8l1, s9 _ _ h8l2, hb8.keep s9, fun e he => ?_, kx.trans ((KX.kb k8 List.mem_cons_self).trans (.of s9)), fun y hy => ?_⟩
        · exact py.same fun t ys' e => h7to9 _ _ e (ne_of e hb7.ob.choose_spec (fun z => nomatch z))
        · have d8 : ∃ o, H8 y = some o := by
            simp only [List.singleton_append, List.mem_cons, List.not_mem_nil, or_false] at hy
            rcases hy with rfl | rfl | rfl | rfl
            · exact ⟨_, er⟩
            · exact ⟨_, eb⟩
            · exact ⟨_, h8l1⟩
            · exact ⟨_, h8l2⟩
          obtain ⟨o8, e8⟩ := d8
          have y3 : y ≠ p ∧ y ≠ ra ∧ y ≠ fa := by
            rcases List.mem_cons.mp hy with rfl | hy
            · exact ⟨(ne_of_none h7p hr7).symm, (ne_of_none h7r hr7).symm, (ne_of_none h7f hr7).symm⟩
            · exact ⟨fun z => pX (z ▸ hy), fun z => raX (z ▸ hy), fun z => faX (z ▸ hy)⟩
          exact ⟨ne_of_none e8 hx, ne_of_none e8 n1, ne_of_none e8 n2, y3.1, y3.2.1, y3.2.2⟩
        · have e1 := ((he7 e he).add hr7)
          refine ⟨h7to9 _ _ e1.1 (ne_of e1.1 hb7.ob.choose_spec (fun z => nomatch z)), ?_, e1.2.2⟩
          obtain ⟨dx, ca, da, r', f, zs', ys', g1, g2, g3, g4, g5, g6, g7, g8, n⟩ := e1.2.1
          have nn := n b (.tail _ List.mem_cons_self)
          exact ⟨dx, ca, da, r', f, zs', ys', h7to9 _ _ g1 nn.1.symm, h7to9 _ _ g2 nn.2.1.symm, g3.same fun t ys'' e => h7to9 _ _ e (ne_of e hb7.ob.choose_spec (fun z => nomatch z)), h7to9 _ _ g4 nn.2.2.1.symm, h7to9 _ _ g5 nn.2.2.2.1.symm, h7to9 _ _ g6 nn.2.2.2.2.1.symm, h7to9 _ _ g7 nn.2.2.2.2.2.symm, g8.same fun t ys'' e => h7to9 _ _ e (ne_of e hb7.ob.choose_spec (fun z => nomatch z)), n⟩
        · cases List.mem_singleton.mp hy
          refine ⟨rX, ?_⟩
          generalize hh : H5 r = w5
          cases w5 with
          | none => rfl
          | some o =>
            rw [kx _ _ hh rX] at hr7
            cases hr7
      have h9row : RowIs H9 m r (rowI m ls its zs) := by
        obtain ⟨ro, er⟩ := h8row.ob
        exact h8row.to ((s9 _ _ er).trans er.symm)
      have hz9 : ∀ (H' : Hp) (Q : VK), Same H9 H' → Q (.str z0) H' → Rd.rReprK K [.ref r] H' Q := fun H' Q s q => by
        obtain ⟨ro, er⟩ := h8row.ob
        exact hz0 H' Q ((s _ _ (s9 _ _ er)).trans er.symm) q
      clear hz0 h8row q9 py hx s9 h8p hr7 hb8 k8 h7p h7r h7f hb7 h7l1 h7l2 he7 kx H7 H8
      walk_at "go"
      refine hz9 _ _ (Same.refl _) ?_
      walk_at "go"
      refine hz9 _ _ (Same.refl _) ?_
      walk_at "go"
      rw [decide_eq_true (rfl : V.str z0 = V.str z0)]
      walk_at "go"
      obtain ⟨dx9, ca9, da9, r9, f9, zs9, ys9, e1, e2, e3, e4, e5, e6, e7, e8, e9⟩ := id S9.ent
      refine ⟨x, p, f9, r9, m, S (flat (toksI m ls its)), cellsOf m (toksI m ls its), rowI m ls its zs, ys9, rfl, S9.ent.qat, hm, hy, e5, e6, e7, e8, fun H10 s10 => ?_⟩
      have S10 := S9.same s10
      have h10row : RowIs H10 m r (rowI m ls its zs) := by
        obtain ⟨ro, er⟩ := h9row.ob
        exact h9row.to ((s10 _ _ er).trans er.symm)
      clear S9 h9row hz9 e1 e2 e3 e4 e5 e6 e7 e8 e9 s10
      walk_at "go"
      refine ⟨fun σ' H' => σ' = [some (.ref a), some (.int (0 + (i : Int))), some (.ref b), some (.ref l1), some (.ref l2), some (.str m), some (.ref p), some (.ref r), some (.ref x), some (.str z0), v10, v11, v12, v13] ∧ StAt Z.c_Query b l1 l2 H5 m (S (flat (toksI m ls its))) p x (cellsOf m (toksI m ls its)) (rowI m ls its zs) es [] H', ?_, ?_⟩
      · walk_at "go"
        obtain ⟨ty, tx, t1, t2⟩ := h10row.ty (K := K)
        refine Eg.c_isi (.ty _) tx t1 ?_
        walk_at "go"
        by_cases em : m = "name"
        · rw [decide_eq_true em]
          walk_at "go"
          rcases h10row with ⟨_, hd⟩ | ⟨z, _⟩
          · refine ⟨r, _, rfl, .inl ⟨_, .inr "zz", hd, rfl, by have := hy.fewK; rw [sizeLine_eq]; omega, rfl⟩, ?_⟩
            walk_at "go"
            exact ⟨rfl, S10.chg (fun xs => by rw [hd]; exact fun z => nomatch z) fun c o e n => Eg.upd_mut n e⟩
          · exact absurd em z
        · rw [decide_eq_false em]
          walk_at "go"
          rcases t2 em with ⟨xs, hl, xl, t2⟩ | t2
          · refine Eg.c_isi (.ty _) tx t2 ?_
            walk_at "go"
            refine ⟨r, xs, 0, .int 99, rfl, rfl, hl, by have := hy.fewK; rw [sizeLine_eq]; omega, by decide, by decide, ?_⟩
            walk_at "go"
            exact ⟨rfl, S10.chg (fun xs => by rw [hl]; exact fun z => nomatch z) fun c o e n => Eg.upd_mut n e⟩
          · refine Eg.c_isi (.ty _) tx t2 ?_
            walk_at "go"
            exact ⟨rfl, S10.drop⟩
      rintro _ H11 ⟨rfl, S11⟩
      clear S10 h10row H10
      obtain ⟨dx9, ca9, da9, r9, f9, zs9, ys9, e1, e2, e3, e4, e5, e6, e7, e8, e9⟩ := id S11.ent
      walk_at "go"
      refine Mk.c_prop e1 ⟨x, m, cellsOf m (toksI m ls its), rowI m ls its zs, S (flat (toksI m ls its)), rfl, S11.ent.qat, by have := hy.fewK; omega, hy.once, fun r' H12 hr' h12r s12 => ?_⟩
      have S12 := (S11.add hr').same s12
      have h12row := RowTold.is h12r
      clear S11 s12 hr' e1 e2 e3 e4 e5 e6 e7 e8 e9 H11
      walk_at "go"
      refine ⟨fun σ' H' => σ' = [some (.ref a), some (.int (0 + (i : Int))), some (.ref b), some (.ref l1), some (.ref l2), some (.str m), some (.ref p), some (.ref r), some (.ref x), some (.str z0), some (.ref r'), v11, v12, v13] ∧ StAt Z.c_Query b l1 l2 H5 m (S (flat (toksI m ls its))) p x (cellsOf m (toksI m ls its)) (rowI m ls its zs) es [] H', ?_, ?_⟩
      · walk_at "go"
        obtain ⟨ty, tx, t1, t2⟩ := h12row.ty (K := K)
        refine Eg.c_isi (.ty _) tx t1 ?_
        walk_at "go"
        by_cases em : m = "name"
        · rw [decide_eq_true em]
          walk_at "go"
          rcases h12row with ⟨_, hd⟩ | ⟨z, _⟩
          · refine ⟨r', _, rfl, .inl ⟨_, .inr "zy", hd, rfl, by have := hy.fewK; rw [sizeLine_eq]; omega, rfl⟩, ?_⟩
            walk_at "go"
            exact ⟨rfl, S12.chg (fun xs => by rw [hd]; exact fun z => nomatch z) fun c o e n => Eg.upd_mut n e⟩
          · exact absurd em z
        · rw [decide_eq_false em]
          have hl : H12 r' = some (.lst ((rowI m ls its zs).map (·.2))) := by
            rw [h12r]
            unfold RowTold
            rw [if_neg em]
          have ll : ((rowI m ls its zs).map (·.2)).length < 60 := by rw [List.length_map]; exact hy.fewK
          walk_at "go"
          exact ⟨rfl, S12.chg (fun xs => by rw [hl]; exact fun z => nomatch z) fun c o e n => Eg.upd_mut n e⟩
      rintro _ H13 ⟨rfl, S13⟩
      clear S12 h12row h12r H12
      obtain ⟨dx9, ca9, da9, r9, f9, zs9, ys9, e1, e2, e3, e4, e5, e6, e7, e8, e9⟩ := id S13.ent
      walk_at "go"
      refine ⟨x, p, f9, r9, m, S (flat (toksI m ls its)), cellsOf m (toksI m ls its), rowI m ls its zs, ys9, rfl, S13.ent.qat, hm, hy, e5, e6, e7, e8, fun H14 s14 => ?_⟩
      have S14 := S13.same s14
      clear S13 e1 e2 e3 e4 e5 e6 e7 e8 e9 s14 H13
      have h14a := S14.la
      have h14b := S14.lb
      have ll : es.length < 3 := by omega
      walk_at "go"
      intro tt htt
      have S15 := S14.same (fun c o e => (Eg.upd_old e htt : upd H14 tt (.tup [.str m, .ref p]) c = some o))
      have ttX := S14.out htt
      have h15t : upd H14 tt (.tup [.str m, .ref p]) tt = some (.tup [.str m, .ref p]) := upd_same
      clear S14 h14a h14b
      generalize upd H14 tt (.tup [.str m, .ref p]) = H15 at S15 h15t ⊢
      clear htt H14
      have h15a := S15.la
      have h15b := S15.lb
      have l12' : l1 ≠ l2 := l12
      walk_at "go"
      have h16b : upd H15 l1 (.lst (es.map (fun e => V.ref e.p) ++ [.ref tt])) l2 = some (.lst (es.map fun e => V.ref e.q)) := Eg.upd_mut l12.symm h15b
      have h16a : upd H15 l1 (.lst (es.map (fun e => V.ref e.p) ++ [.ref tt])) l1 = some (.lst (es.map (fun e => V.ref e.p) ++ [.ref tt])) := upd_same
      have k16 : ∀ c o, H15 c = some o → c ≠ l1 → upd H15 l1 (.lst (es.map (fun e => V.ref e.p) ++ [.ref tt])) c = some o := fun c o e n => Eg.upd_mut n e
      generalize upd H15 l1 (.lst (es.map (fun e => V.ref e.p) ++ [.ref tt])) = H16 at h16a h16b k16 ⊢
      walk_at "go"
      have k17 : KX [b, l1, l2] H15 (upd H16 l2 (.lst (es.map (fun e => V.ref e.q) ++ [.ref x]))) := fun c o e n => Eg.upd_mut (fun z => n (z ▸ .tail _ (.tail _ List.mem_cons_self))) (k16 c o e fun z => n (z ▸ .tail _ List.mem_cons_self))
      refine ⟨_, _, _, _, _, _, _, _, _, es ++ [⟨tt, p, x, m, S (flat (toksI m ls its)), cellsOf m (toksI m ls its), rowI m ls its zs⟩], rfl, by rw [List.length_append, el]; rfl, ?_, ?_, fun e he => ?_, ?_, S15.kx.trans k17⟩
      · rw [List.map_append]
        exact Eg.upd_mut l12 h16a
      · rw [List.map_append]
        exact upd_same
      · rcases List.mem_append.mp he with he | he
        · exact (S15.en e he).keep S15.nt k17
        · cases List.mem_singleton.mp he
          exact ⟨k17 _ _ h15t ttX, S15.ent.keep S15.nt k17, hy, hm⟩
      · obtain ⟨bs, eb⟩ := S15.bag.ob
        exact S15.bag.to ((Eg.upd_mut bl2' (k16 _ _ eb bl1')).trans eb.symm)
    · rintro _ H6 ⟨v5, v6, v7, v8, v9, v10, v11, v12, v13, es, rfl, el, h6l1, h6l2, he6, hb6, k6⟩
      clear hb6
      walk_at "go"
      refine RZ.for_zipL (xs := es.map fun e => V.ref e.p) (ys := es.map fun e => V.ref e.q) (by rw [List.length_map, List.length_map]) (fun j σ' H' => ∃ (v5 v6 v8 v11 v12 v13 : Option V), σ' = [some (.ref a), some (.int (0 + (i : Int))), some (.ref b), some (.ref l1), some (.ref l2), v5, v6, v7, v8, v9, v10, v11, v12, v13] ∧ Same H6 H') ⟨_, _, _, _, _, _, rfl, Same.refl _⟩ ?_ ?_ ?_
      · rintro j _ H7 ⟨v5, v6, v8, v11, v12, v13, rfl, s7⟩
        exact ⟨SqL.of (s7 _ _ h6l1), SqL.of (s7 _ _ h6l2)⟩
      · rintro j y1 y2 T1 _ H7 hy1 hy2 ⟨v5, v6, v8, v11, v12, v13, rfl, s7⟩ hT1
        rw [List.getElem?_map] at hy1 hy2
        obtain ⟨e, hje, rfl⟩ := Option.map_eq_some_iff.mp hy1
        rw [hje] at hy2
        cases hy2
        have he := he6 e (List.mem_of_getElem? hje)
        have h8T : upd H7 T1 (.tup [.ref e.p, .ref e.q]) T1 = some (.tup [.ref e.p, .ref e.q]) := upd_same
        have s8 : Same H6 (upd H7 T1 (.tup [.ref e.p, .ref e.q])) := fun c o z => Eg.upd_old (s7 _ _ z) hT1
        generalize upd H7 T1 (.tup [.ref e.p, .ref e.q]) = H8 at h8T s8 ⊢
        have h8p := s8 _ _ he.1
        have e8 := he.2.1.same s8
        obtain ⟨dxe, cae, dae, re, fe, zse, yse, g1, g2, g3, g4, g5, g6, g7, g8, _⟩ := id e8
        have hy := he.2.2.1
        have hm := he.2.2.2
        clear hT1
        walk_at "go"
        refine ⟨e.q, e.c, fe, re, e.m, e.t, e.cs, e.kvs, yse, rfl, e8.qat, hm, hy, g5, g6, g7, g8, fun H9 s9 => ?_⟩
        have s09 := s8.trans s9
        have Q9 := e8.qat.keep s9
        have h9c := s9 _ _ g5
        have h9f := s9 _ _ g7
        have h9q := s9 _ _ g1
        have py9 := g8.same fun t ys z => s9 _ _ z
        have h9a := s09 _ _ h6l1
        have h9b := s09 _ _ h6l2
        clear e8 g1 g2 g3 g4 g5 g6 g7 g8 s9 h8p h8T s8
        walk_at "go"
        refine RZ.for_zipL (xs := es.map fun e => V.ref e.p) (ys := es.map fun e => V.ref e.q) (by rw [List.length_map, List.length_map]) (fun j σ' H' => ∃ (v11 v12 v13 : Option V), σ' = [some (.ref a), some (.int (0 + (i : Int))), some (.ref b), some (.ref l1), some (.ref l2), some (.str e.m), some (.ref e.c), v7, some (.ref e.q), v9, v10, v11, v12, v13] ∧ Same H9 H') ⟨_, _, _, rfl, Same.refl _⟩ ?_ ?_ ?_
        · rintro j' _ H7 ⟨v11, v12, v13, rfl, s7⟩
          exact ⟨SqL.of (s7 _ _ h9a), SqL.of (s7 _ _ h9b)⟩
        · rintro j' y1 y2 T2 _ H10 hy1 hy2 ⟨v11, v12, v13, rfl, s10⟩ hT2
          rw [List.getElem?_map] at hy1 hy2
          obtain ⟨e', hje', rfl⟩ := Option.map_eq_some_iff.mp hy1
          rw [hje'] at hy2
          cases hy2
          have he' := he6 e' (List.mem_of_getElem? hje')
          have h11T : upd H10 T2 (.tup [.ref e'.p, .ref e'.q]) T2 = some (.tup [.ref e'.p, .ref e'.q]) := upd_same
          have s11 : Same H9 (upd H10 T2 (.tup [.ref e'.p, .ref e'.q])) := fun c o z => Eg.upd_old (s10 _ _ z) hT2
          generalize upd H10 T2 (.tup [.ref e'.p, .ref e'.q]) = H11 at h11T s11 ⊢
          clear hT2 s10
          have s011 := s09.trans s11
          have h11p := s011 _ _ he'.1
          have e11 := he'.2.1.same s011
          obtain ⟨dxe', cae', dae', re', fe', zse', yse', g1, g2, g3, g4, g5, g6, g7, g8, _⟩ := id e11
          have hy' := he'.2.2.1
          have h11q := s11 _ _ h9q
          have h11c := s11 _ _ h9c
          walk_at "go"
          refine Oe.c_ownEq h11q (.ins g1) ⟨e.q, .ref e'.q, e.m, e.t, e.cs, e.kvs, _, rfl, Q9.keep s11, hy, .query e11.qat hy', fun H12 s12 => ⟨_, rfl, ?_⟩⟩
          have h12c := s12 _ _ h11c
          have h12c' := s12 _ _ g5
          have s912 := s11.trans s12
          walk_at "go"
          refine .inl (Rv.c_reprD (.lst (SqL.of (s912 _ _ h9f)) (dp_pcs (py9.same fun t ys z => s912 _ _ z) hy.tp)) (N := 70000) (ok_fill hy) (by decide) ?_)
          walk_at "go"
          refine .inl (Rv.c_reprD (.lst (SqL.of (s12 _ _ g7)) (dp_pcs (g8.same fun t ys z => s12 _ _ z) hy'.tp)) (N := 70000) (ok_fill hy') (by decide) ?_)
          walk_at "go"
          rw [show decide (V.str (PyData.list ((fill e.kvs e.cs).map dPc)).shown = V.str (PyData.list ((fill e'.kvs e'.cs).map dPc)).shown) = decide (fill e.kvs e.cs = fill e'.kvs e'.cs) from shown_ls hy.pv hy'.pv]
          rw [decide_eq_true rfl]
          walk_at "go"
          exact ⟨_, _, _, rfl, s912⟩
        rintro _ H10 ⟨v11, v12, v13, rfl, s10⟩
        have h10c := s10 _ _ h9c
        have h10q := s10 _ _ h9q
        have h10f := s10 _ _ h9f
        have Q10 := Q9.keep s10
        walk_at "go"
        refine Oe.c_ownEq h10q (.str _ T.nf_Query_str) ⟨e.q, _, e.m, e.t, e.cs, e.kvs, _, rfl, Q10, hy, .str _, fun H11 s11 => ⟨_, rfl, ?_⟩⟩
        have h11c := s11 _ _ h10c
        have h11q := s11 _ _ h10q
        have h11f := s11 _ _ h10f
        walk_at "go"
        refine Oe.c_ownEq h11q (.lst h11f T.nf_Query_list) ⟨e.q, _, e.m, e.t, e.cs, e.kvs, _, rfl, Q10.keep s11, hy, .lst h11f, fun H12 s12 => ⟨_, rfl, ?_⟩⟩
        have s02 := s11.trans s12
        have h12c := s02 _ _ h10c
        have h12q := s02 _ _ h10q
        have h12f := s02 _ _ h10f
        walk_at "go"
        refine Eg.c_tupL (SqL.of h12f) fun u hu' => ?_
        have s3 : Same H12 (upd H12 u (.tup yse)) := fun c o z => Eg.upd_old z hu'
        have h13u : upd H12 u (.tup yse) u = some (.tup yse) := upd_same
        generalize upd H12 u (.tup yse) = H13 at s3 h13u ⊢
        walk_at "go"
        refine Oe.c_ownEq (s3 _ _ h12q) (.tup h13u T.nf_Query_tuple) ⟨e.q, _, e.m, e.t, e.cs, e.kvs, _, rfl, (Q10.keep s02).keep s3, hy, .tup h13u, fun H14 s4 => ⟨_, rfl, ?_⟩⟩
        walk_at "go"
        exact ⟨_, _, _, _, _, _, rfl, s09.trans (s10.trans (s02.trans (s3.trans s4)))⟩
      · rintro _ H7 ⟨v5, v6, v8, v11, v12, v13, rfl, s7⟩
        walk_at "go"
        exact ⟨_, _, _, _, _, _, _, _, _, _, _, _, _, rfl, fun c o e => s7 _ _ (k6 _ _ (s05 _ _ e) (nX0 c o e))⟩
end
end LW

namespace LW
open PySem L2
set_option maxHeartbeats 8000000 in
theorem all_mk {l : PySem.W.OpenLaw} {w : World} {K : PySem.W.Frag} {h : Heap} {mg : Str → Option Value} {fa f0 f1 f2 f3 f4 f5 f6 f7 f8 f9 f10 f11 f12 f13 f14 f15 f16 f17 f18 f19 f20 f21 f22 f23 f24 f25 f26 C0 pr12 pr13 : Addr} (X : K.In h) (G : h.Ns mainGlobals mg) (hfa : mg "law" = some (.ref fa))
    {od0 an0 : Option Addr} {sl0 : Array (Option Value)} {oc0 kV0 dc0 pm0 cd0 ct0 : Value}
    {od1 an1 : Option Addr} {sl1 : Array (Option Value)} {oc1 kV1 dc1 pm1 cd1 ct1 : Value}
    {od2 an2 : Option Addr} {sl2 : Array (Option Value)} {oc2 kV2 dc2 pm2 cd2 ct2 : Value}
    {od3 an3 : Option Addr} {sl3 : Array (Option Value)} {oc3 kV3 dc3 pm3 cd3 ct3 : Value}
    {od4 an4 : Option Addr} {sl4 : Array (Option Value)} {oc4 kV4 dc4 pm4 cd4 ct4 : Value}
    {od5 an5 : Option Addr} {sl5 : Array (Option Value)} {oc5 kV5 dc5 pm5 cd5 ct5 : Value}
    {od6 an6 : Option Addr} {sl6 : Array (Option Value)} {oc6 kV6 dc6 pm6 cd6 ct6 : Value}
    {od7 an7 : Option Addr} {sl7 : Array (Option Value)} {oc7 kV7 dc7 pm7 cd7 ct7 : Value}
    {od8 an8 : Option Addr} {sl8 : Array (Option Value)} {oc8 kV8 dc8 pm8 cd8 ct8 : Value}
    {od9 an9 : Option Addr} {sl9 : Array (Option Value)} {oc9 kV9 dc9 pm9 cd9 ct9 : Value}
    {od10 an10 : Option Addr} {sl10 : Array (Option Value)} {oc10 kV10 dc10 pm10 cd10 ct10 : Value}
    {od11 an11 : Option Addr} {sl11 : Array (Option Value)} {oc11 kV11 dc11 pm11 cd11 ct11 : Value}
    {od12 an12 : Option Addr} {sl12 : Array (Option Value)} {oc12 kV12 dc12 pm12 cd12 ct12 : Value}
    {od13 an13 : Option Addr} {sl13 : Array (Option Value)} {oc13 kV13 dc13 pm13 cd13 ct13 : Value}
    {od14 an14 : Option Addr} {sl14 : Array (Option Value)} {oc14 kV14 dc14 pm14 cd14 ct14 : Value}
    {od15 an15 : Option Addr} {sl15 : Array (Option Value)} {oc15 kV15 dc15 pm15 cd15 ct15 : Value}
    {od16 an16 : Option Addr} {sl16 : Array (Option Value)} {oc16 kV16 dc16 pm16 cd16 ct16 : Value}
    {od17 an17 : Option Addr} {sl17 : Array (Option Value)} {oc17 kV17 dc17 pm17 cd17 ct17 : Value}
    {od18 an18 : Option Addr} {sl18 : Array (Option Value)} {oc18 kV18 dc18 pm18 cd18 ct18 : Value}
    {od19 an19 : Option Addr} {sl19 : Array (Option Value)} {oc19 kV19 dc19 pm19 cd19 ct19 : Value}
    {od20 an20 : Option Addr} {sl20 : Array (Option Value)} {oc20 kV20 dc20 pm20 cd20 ct20 : Value}
    {od21 an21 : Option Addr} {sl21 : Array (Option Value)} {oc21 kV21 dc21 pm21 cd21 ct21 : Value}
    {od22 an22 : Option Addr} {sl22 : Array (Option Value)} {oc22 kV22 dc22 pm22 cd22 ct22 : Value}
    {od23 an23 : Option Addr} {sl23 : Array (Option Value)} {oc23 kV23 dc23 pm23 cd23 ct23 : Value}
    {od24 an24 : Option Addr} {sl24 : Array (Option Value)} {oc24 kV24 dc24 pm24 cd24 ct24 : Value}
    {od25 an25 : Option Addr} {sl25 : Array (Option Value)} {oc25 kV25 dc25 pm25 cd25 ct25 : Value}
    {od26 an26 : Option Addr} {sl26 : Array (Option Value)} {oc26 kV26 dc26 pm26 cd26 ct26 : Value}
    {rest12 : List Value}
    {rest13 : List Value}
    {LT0_0 : Addr} {ltd0_0 : Option Addr} {ltn0_0 : Nat} {lts0_0 : Array (Option Value)} {ltk0_0_0 ltk0_0_1 ltk0_0_2 : PySem.Tok}
    {tk_DIGITS tk_MOST_DIGITS tk_MOST_VALUE tk_MOST_WORD : PySem.Tok}
    (aC0 : PySem.W.nsIn K mainGlobals "Query" = some (some (.ref C0)))
    (a0 : PySem.W.nsIn K mainGlobals "is_word" = some (some (.ref f0)))
    (l0 : K.lookup f0 = some ⟨oc0, od0, .func (PySem.W.fnOf "is_word" "is_word" (defArgs s_is_word) (defBody s_is_word) (defScope s_is_word) .none kV0 dc0 pm0 an0 cd0 ct0), sl0⟩)
    (c0 : PySem.W.codeIn K cd0 "is_word" = true)
    (k0 : PySem.W.keepIn K (.ref f0) = true)
    (a1 : PySem.W.nsIn K mainGlobals "is_count" = some (some (.ref f1)))
    (l1 : K.lookup f1 = some ⟨oc1, od1, .func (PySem.W.fnOf "is_count" "is_count" (defArgs s_is_count) (defBody s_is_count) (defScope s_is_count) .none kV1 dc1 pm1 an1 cd1 ct1), sl1⟩)
    (c1 : PySem.W.codeIn K cd1 "is_count" = true)
    (k1 : PySem.W.keepIn K (.ref f1) = true)
    (a2 : PySem.W.nsIn K mainGlobals "is_label" = some (some (.ref f2)))
    (l2 : K.lookup f2 = some ⟨oc2, od2, .func (PySem.W.fnOf "is_label" "is_label" (defArgs s_is_label) (defBody s_is_label) (defScope s_is_label) .none kV2 dc2 pm2 an2 cd2 ct2), sl2⟩)
    (c2 : PySem.W.codeIn K cd2 "is_label" = true)
    (k2 : PySem.W.keepIn K (.ref f2) = true)
    (a3 : PySem.W.nsIn K mainGlobals "is_value" = some (some (.ref f3)))
    (l3 : K.lookup f3 = some ⟨oc3, od3, .func (PySem.W.fnOf "is_value" "is_value" (defArgs s_is_value) (defBody s_is_value) (defScope s_is_value) .none kV3 dc3 pm3 an3 cd3 ct3), sl3⟩)
    (c3 : PySem.W.codeIn K cd3 "is_value" = true)
    (k3 : PySem.W.keepIn K (.ref f3) = true)
    (a4 : PySem.W.nsIn K mainGlobals "is_literal" = some (some (.ref f4)))
    (l4 : K.lookup f4 = some ⟨oc4, od4, .func (PySem.W.fnOf "is_literal" "is_literal" (defArgs s_is_literal) (defBody s_is_literal) (defScope s_is_literal) .none kV4 dc4 pm4 an4 cd4 ct4), sl4⟩)
    (c4 : PySem.W.codeIn K cd4 "is_literal" = true)
    (k4 : PySem.W.keepIn K (.ref f4) = true)
    (a5 : PySem.W.nsIn K mainGlobals "is_key" = some (some (.ref f5)))
    (l5 : K.lookup f5 = some ⟨oc5, od5, .func (PySem.W.fnOf "is_key" "is_key" (defArgs s_is_key) (defBody s_is_key) (defScope s_is_key) .none kV5 dc5 pm5 an5 cd5 ct5), sl5⟩)
    (c5 : PySem.W.codeIn K cd5 "is_key" = true)
    (k5 : PySem.W.keepIn K (.ref f5) = true)
    (a6 : PySem.W.nsIn K mainGlobals "read_parts" = some (some (.ref f6)))
    (l6 : K.lookup f6 = some ⟨oc6, od6, .func (PySem.W.fnOf "read_parts" "read_parts" (defArgs s_read_parts) (defBody s_read_parts) (defScope s_read_parts) .none kV6 dc6 pm6 an6 cd6 ct6), sl6⟩)
    (c6 : PySem.W.codeIn K cd6 "read_parts" = true)
    (k6 : PySem.W.keepIn K (.ref f6) = true)
    (a7 : PySem.W.nsIn K mainGlobals "merged" = some (some (.ref f7)))
    (l7 : K.lookup f7 = some ⟨oc7, od7, .func (PySem.W.fnOf "merged" "merged" (defArgs s_merged) (defBody s_merged) (defScope s_merged) .none kV7 dc7 pm7 an7 cd7 ct7), sl7⟩)
    (c7 : PySem.W.codeIn K cd7 "merged" = true)
    (k7 : PySem.W.keepIn K (.ref f7) = true)
    (a8 : PySem.W.nsIn K mainGlobals "check_manner" = some (some (.ref f8)))
    (l8 : K.lookup f8 = some ⟨oc8, od8, .func (PySem.W.fnOf "check_manner" "check_manner" (defArgs s_check_manner) (defBody s_check_manner) (defScope s_check_manner) .none kV8 dc8 pm8 an8 cd8 ct8), sl8⟩)
    (c8 : PySem.W.codeIn K cd8 "check_manner" = true)
    (k8 : PySem.W.keepIn K (.ref f8) = true)
    (a9 : PySem.W.nsIn K mainGlobals "keyed" = some (some (.ref f9)))
    (l9 : K.lookup f9 = some ⟨oc9, od9, .func (PySem.W.fnOf "keyed" "keyed" (defArgs s_keyed) (defBody s_keyed) (defScope s_keyed) .none kV9 dc9 pm9 an9 cd9 ct9), sl9⟩)
    (c9 : PySem.W.codeIn K cd9 "keyed" = true)
    (k9 : PySem.W.keepIn K (.ref f9) = true)
    (a10 : PySem.W.nsIn K mainGlobals "table_of" = some (some (.ref f10)))
    (l10 : K.lookup f10 = some ⟨oc10, od10, .func (PySem.W.fnOf "table_of" "table_of" (defArgs s_table_of) (defBody s_table_of) (defScope s_table_of) .none kV10 dc10 pm10 an10 cd10 ct10), sl10⟩)
    (c10 : PySem.W.codeIn K cd10 "table_of" = true)
    (k10 : PySem.W.keepIn K (.ref f10) = true)
    (a11 : PySem.W.findIn K (.ref C0) "__init__" = some (some (.ref f11)))
    (i11 : PySem.W.isFn K (.ref f11) = true)
    (l11 : K.lookup f11 = some ⟨oc11, od11, .func (PySem.W.fnOf "__init__" "Query.__init__" (defArgs s_Query_init) (defBody s_Query_init) (defScope s_Query_init) .none kV11 dc11 pm11 an11 cd11 ct11), sl11⟩)
    (c11 : PySem.W.codeIn K cd11 "Query.__init__" = true)
    (k11 : PySem.W.keepIn K (.ref f11) = true)
    (pa12 : PySem.W.findIn K (.ref C0) "row" = some (some (.ref pr12)))
    (pb12 : PySem.W.specialIn K (.ref pr12) "__get__" = some (some (.builtin "property.__get__")))
    (pc12 : PySem.W.takesIn K (.ref pr12) = some true)
    (pd12 : PySem.W.recIn K pr12 "property" = some (.ref f12 :: rest12))
    (l12 : K.lookup f12 = some ⟨oc12, od12, .func (PySem.W.fnOf "row" "Query.row" (defArgs s_Query_row) (defBody s_Query_row) (defScope s_Query_row) .none kV12 dc12 pm12 an12 cd12 ct12), sl12⟩)
    (c12 : PySem.W.codeIn K cd12 "Query.row" = true)
    (k12 : PySem.W.keepIn K (.ref f12) = true)
    (pa13 : PySem.W.findIn K (.ref C0) "filled" = some (some (.ref pr13)))
    (pb13 : PySem.W.specialIn K (.ref pr13) "__get__" = some (some (.builtin "property.__get__")))
    (pc13 : PySem.W.takesIn K (.ref pr13) = some true)
    (pd13 : PySem.W.recIn K pr13 "property" = some (.ref f13 :: rest13))
    (l13 : K.lookup f13 = some ⟨oc13, od13, .func (PySem.W.fnOf "filled" "Query.filled" (defArgs s_Query_filled) (defBody s_Query_filled) (defScope s_Query_filled) .none kV13 dc13 pm13 an13 cd13 ct13), sl13⟩)
    (c13 : PySem.W.codeIn K cd13 "Query.filled" = true)
    (k13 : PySem.W.keepIn K (.ref f13) = true)
    (a14 : PySem.W.findIn K (.ref C0) "__len__" = some (some (.ref f14)))
    (i14 : PySem.W.isFn K (.ref f14) = true)
    (l14 : K.lookup f14 = some ⟨oc14, od14, .func (PySem.W.fnOf "__len__" "Query.__len__" (defArgs s_Query_len) (defBody s_Query_len) (defScope s_Query_len) .none kV14 dc14 pm14 an14 cd14 ct14), sl14⟩)
    (c14 : PySem.W.codeIn K cd14 "Query.__len__" = true)
    (k14 : PySem.W.keepIn K (.ref f14) = true)
    (a15 : PySem.W.findIn K (.ref C0) "__eq__" = some (some (.ref f15)))
    (i15 : PySem.W.isFn K (.ref f15) = true)
    (l15 : K.lookup f15 = some ⟨oc15, od15, .func (PySem.W.fnOf "__eq__" "Query.__eq__" (defArgs s_Query_eq) (defBody s_Query_eq) (defScope s_Query_eq) .none kV15 dc15 pm15 an15 cd15 ct15), sl15⟩)
    (c15 : PySem.W.codeIn K cd15 "Query.__eq__" = true)
    (k15 : PySem.W.keepIn K (.ref f15) = true)
    (a16 : PySem.W.nsIn K mainGlobals "_law_bag" = some (some (.ref f16)))
    (l16 : K.lookup f16 = some ⟨oc16, od16, .func (PySem.W.fnOf "_law_bag" "_law_bag" (defArgs s_l_bag) (defBody s_l_bag) (defScope s_l_bag) .none kV16 dc16 pm16 an16 cd16 ct16), sl16⟩)
    (c16 : PySem.W.codeIn K cd16 "_law_bag" = true)
    (k16 : PySem.W.keepIn K (.ref f16) = true)
    (a17 : PySem.W.nsIn K mainGlobals "_law_take" = some (some (.ref f17)))
    (l17 : K.lookup f17 = some ⟨oc17, od17, .func (PySem.W.fnOf "_law_take" "_law_take" (defArgs s_l_take) (defBody s_l_take) (defScope s_l_take) .none kV17 dc17 pm17 an17 cd17 ct17), sl17⟩)
    (c17 : PySem.W.codeIn K cd17 "_law_take" = true)
    (k17 : PySem.W.keepIn K (.ref f17) = true)
    (a18 : PySem.W.nsIn K mainGlobals "_law_of" = some (some (.ref f18)))
    (l18 : K.lookup f18 = some ⟨oc18, od18, .func (PySem.W.fnOf "_law_of" "_law_of" (defArgs s_l_of) (defBody s_l_of) (defScope s_l_of) .none kV18 dc18 pm18 an18 cd18 ct18), sl18⟩)
    (c18 : PySem.W.codeIn K cd18 "_law_of" = true)
    (k18 : PySem.W.keepIn K (.ref f18) = true)
    (a19 : PySem.W.nsIn K mainGlobals "_law_wide" = some (some (.ref f19)))
    (l19 : K.lookup f19 = some ⟨oc19, od19, .func (PySem.W.fnOf "_law_wide" "_law_wide" (defArgs s_l_wide) (defBody s_l_wide) (defScope s_l_wide) .none kV19 dc19 pm19 an19 cd19 ct19), sl19⟩)
    (c19 : PySem.W.codeIn K cd19 "_law_wide" = true)
    (k19 : PySem.W.keepIn K (.ref f19) = true)
    (a20 : PySem.W.nsIn K mainGlobals "_law_value" = some (some (.ref f20)))
    (l20 : K.lookup f20 = some ⟨oc20, od20, .func (PySem.W.fnOf "_law_value" "_law_value" (defArgs s_l_value) (defBody s_l_value) (defScope s_l_value) .none kV20 dc20 pm20 an20 cd20 ct20), sl20⟩)
    (c20 : PySem.W.codeIn K cd20 "_law_value" = true)
    (k20 : PySem.W.keepIn K (.ref f20) = true)
    (a21 : PySem.W.nsIn K mainGlobals "_law_labels" = some (some (.ref f21)))
    (l21 : K.lookup f21 = some ⟨oc21, od21, .func (PySem.W.fnOf "_law_labels" "_law_labels" (defArgs s_l_labels) (defBody s_l_labels) (defScope s_l_labels) .none kV21 dc21 pm21 an21 cd21 ct21), sl21⟩)
    (c21 : PySem.W.codeIn K cd21 "_law_labels" = true)
    (k21 : PySem.W.keepIn K (.ref f21) = true)
    (a22 : PySem.W.nsIn K mainGlobals "_law_literal" = some (some (.ref f22)))
    (l22 : K.lookup f22 = some ⟨oc22, od22, .func (PySem.W.fnOf "_law_literal" "_law_literal" (defArgs s_l_literal) (defBody s_l_literal) (defScope s_l_literal) .none kV22 dc22 pm22 an22 cd22 ct22), sl22⟩)
    (c22 : PySem.W.codeIn K cd22 "_law_literal" = true)
    (k22 : PySem.W.keepIn K (.ref f22) = true)
    (a23 : PySem.W.nsIn K mainGlobals "_law_merged" = some (some (.ref f23)))
    (l23 : K.lookup f23 = some ⟨oc23, od23, .func (PySem.W.fnOf "_law_merged" "_law_merged" (defArgs s_l_merged) (defBody s_l_merged) (defScope s_l_merged) .none kV23 dc23 pm23 an23 cd23 ct23), sl23⟩)
    (c23 : PySem.W.codeIn K cd23 "_law_merged" = true)
    (k23 : PySem.W.keepIn K (.ref f23) = true)
    (a24 : PySem.W.nsIn K mainGlobals "_law_query" = some (some (.ref f24)))
    (l24 : K.lookup f24 = some ⟨oc24, od24, .func (PySem.W.fnOf "_law_query" "_law_query" (defArgs s_l_query) (defBody s_l_query) (defScope s_l_query) .none kV24 dc24 pm24 an24 cd24 ct24), sl24⟩)
    (c24 : PySem.W.codeIn K cd24 "_law_query" = true)
    (k24 : PySem.W.keepIn K (.ref f24) = true)
    (a25 : PySem.W.nsIn K mainGlobals "_law_is_due" = some (some (.ref f25)))
    (l25 : K.lookup f25 = some ⟨oc25, od25, .func (PySem.W.fnOf "_law_is_due" "_law_is_due" (defArgs s_l_is_due) (defBody s_l_is_due) (defScope s_l_is_due) .none kV25 dc25 pm25 an25 cd25 ct25), sl25⟩)
    (c25 : PySem.W.codeIn K cd25 "_law_is_due" = true)
    (k25 : PySem.W.keepIn K (.ref f25) = true)
    (a26 : PySem.W.nsIn K mainGlobals "law" = some (some (.ref f26)))
    (l26 : K.lookup f26 = some ⟨oc26, od26, .func (PySem.W.fnOf "law" "law" (defArgs s_law) (defBody s_law) (defScope s_law) .none kV26 dc26 pm26 an26 cd26 ct26), sl26⟩)
    (c26 : PySem.W.codeIn K cd26 "law" = true)
    (k26 : PySem.W.keepIn K (.ref f26) = true)
    (pg0 : PySem.W.plainGet K C0 Str.empty = true)
    (hd0 : PySem.W.hasDictIn K C0 = true)
    (po0 : PySem.W.plainOver K C0 = true)
    (sa0 : PySem.W.findIn K (.ref C0) "__setattr__" = some (some (.builtin "object.__setattr__")))
    (mk0 : PySem.W.makesIn K C0 = true)
    (kc0 : PySem.W.keepIn K (.ref C0) = true)
    (w0 : PySem.W.findIn K (.ref C0) "__class__" = some (some (.builtin "object.__class__")))
    (x0 : PySem.W.mroIn K C0 (.type "object") = some true)
    (nf0_str : PySem.W.notFirst K C0 (.type "str") = true)
    (nf0_list : PySem.W.notFirst K C0 (.type "list") = true)
    (nf0_tuple : PySem.W.notFirst K C0 (.type "tuple") = true)
    (ki0_str : PySem.W.kitOne K (.type "str") (.ref C0) = some false)
    (ki0_list : PySem.W.kitOne K (.type "list") (.ref C0) = some false)
    (ki0_tuple : PySem.W.kitOne K (.type "tuple") (.ref C0) = some false)
    (rd0 : PySem.W.readsIn K C0 (.type "type") = true)
    (rg0 : PySem.W.specialIn K (.ref C0) "__getattribute__" = some (some (.builtin "type.__getattribute__")))
    (n0_0 : PySem.W.findIn K (.ref C0) "cells" = some none)
    (n0_1 : PySem.W.findIn K (.ref C0) "assigned" = some none)
    (n0_2 : PySem.W.findIn K (.ref C0) "manner" = some none)
    (n0_3 : PySem.W.findIn K (.ref C0) "text" = some none)
    (lv0_0 : PySem.W.findCls K (.ref C0) (.type "type") "MANNERS" = some (.val (.ref LT0_0)))
    (lw0_0 : K.lookup LT0_0 = some ⟨.type "tuple", ltd0_0, .seq #[.str "order" ltk0_0_0, .str "number" ltk0_0_1, .str "name" ltk0_0_2] ltn0_0, lts0_0⟩)
    (y0 : PySem.W.specialIn K (.builtin "object.__class__") "__get__" = some (some (.builtin "getset_descriptor.__get__")))
    (y1 : PySem.W.takesIn K (.builtin "object.__class__") = some true)
    (kst_DIGITS : PySem.W.nsIn K mainGlobals "DIGITS" = some (some (.str "0123456789" tk_DIGITS)))
    (kst_MOST_DIGITS : PySem.W.nsIn K mainGlobals "MOST_DIGITS" = some (some (.int 6 tk_MOST_DIGITS)))
    (kst_MOST_VALUE : PySem.W.nsIn K mainGlobals "MOST_VALUE" = some (some (.int 10000000000000000000000000000000000000000 tk_MOST_VALUE)))
    (kst_MOST_WORD : PySem.W.nsIn K mainGlobals "MOST_WORD" = some (some (.int 8 tk_MOST_WORD)))
    (z0 : PySem.W.nsIn K mainGlobals "abs" = some none)
    (z1 : PySem.W.nsIn K mainGlobals "all" = some none)
    (z2 : PySem.W.nsIn K mainGlobals "bool" = some none)
    (z3 : PySem.W.nsIn K mainGlobals "dict" = some none)
    (z4 : PySem.W.nsIn K mainGlobals "enumerate" = some none)
    (z5 : PySem.W.nsIn K mainGlobals "int" = some none)
    (z6 : PySem.W.nsIn K mainGlobals "isinstance" = some none)
    (z7 : PySem.W.nsIn K mainGlobals "len" = some none)
    (z8 : PySem.W.nsIn K mainGlobals "list" = some none)
    (z9 : PySem.W.nsIn K mainGlobals "max" = some none)
    (z10 : PySem.W.nsIn K mainGlobals "min" = some none)
    (z11 : PySem.W.nsIn K mainGlobals "ord" = some none)
    (z12 : PySem.W.nsIn K mainGlobals "range" = some none)
    (z13 : PySem.W.nsIn K mainGlobals "repr" = some none)
    (z14 : PySem.W.nsIn K mainGlobals "str" = some none)
    (z15 : PySem.W.nsIn K mainGlobals "tuple" = some none)
    (z16 : PySem.W.nsIn K mainGlobals "zip" = some none) :
    ∃ fd : FuncData, (∀ (s : Shared) (v : Value), BindsTo s fd ⟨[v], []⟩ [("_law_script", v)]) ∧ ∀ base : Heap, K.In base → base.Ns mainGlobals mg → Gd.FnG l.prog w K mg base CX0 10 fa fd ["_law_script"] (sp_law K) := by
  have e := hfa.symm.trans (PySem.W.mg_of X G a26)
  cases e
  have F0 := fun_mk (st := s_is_word) l0 c0 k0
  have F1 := fun_mk (st := s_is_count) l1 c1 k1
  have F2 := fun_mk (st := s_is_label) l2 c2 k2
  have F3 := fun_mk (st := s_is_value) l3 c3 k3
  have F4 := fun_mk (st := s_is_literal) l4 c4 k4
  have F5 := fun_mk (st := s_is_key) l5 c5 k5
  have F6 := fun_mk (st := s_read_parts) l6 c6 k6
  have F7 := fun_mk (st := s_merged) l7 c7 k7
  have F8 := fun_mk (st := s_check_manner) l8 c8 k8
  have F9 := fun_mk (st := s_keyed) l9 c9 k9
  have F10 := fun_mk (st := s_table_of) l10 c10 k10
  have F11 := fun_mk (st := s_Query_init) l11 c11 k11
  have F12 := fun_mk (st := s_Query_row) l12 c12 k12
  have F13 := fun_mk (st := s_Query_filled) l13 c13 k13
  have F14 := fun_mk (st := s_Query_len) l14 c14 k14
  have F15 := fun_mk (st := s_Query_eq) l15 c15 k15
  have F16 := fun_mk (st := s_l_bag) l16 c16 k16
  have F17 := fun_mk (st := s_l_take) l17 c17 k17
  have F18 := fun_mk (st := s_l_of) l18 c18 k18
  have F19 := fun_mk (st := s_l_wide) l19 c19 k19
  have F20 := fun_mk (st := s_l_value) l20 c20 k20
  have F21 := fun_mk (st := s_l_labels) l21 c21 k21
  have F22 := fun_mk (st := s_l_literal) l22 c22 k22
  have F23 := fun_mk (st := s_l_merged) l23 c23 k23
  have F24 := fun_mk (st := s_l_query) l24 c24 k24
  have F25 := fun_mk (st := s_l_is_due) l25 c25 k25
  have F26 := fun_mk (st := s_law) l26 c26 k26
  have b0 := F0.binds (ps := ["thing"]) fun _ _ _ _ _ _ us hl => match us, hl with | [_], _ => rfl
  have b1 := F1.binds (ps := ["text"]) fun _ _ _ _ _ _ us hl => match us, hl with | [_], _ => rfl
  have b2 := F2.binds (ps := ["thing"]) fun _ _ _ _ _ _ us hl => match us, hl with | [_], _ => rfl
  have b3 := F3.binds (ps := ["thing"]) fun _ _ _ _ _ _ us hl => match us, hl with | [_], _ => rfl
  have b4 := F4.binds (ps := ["sign"]) fun _ _ _ _ _ _ us hl => match us, hl with | [_], _ => rfl
  have b5 := F5.binds (ps := ["key", "kind"]) fun _ _ _ _ _ _ us hl => match us, hl with | [_, _], _ => rfl
  have b6 := F6.binds (ps := ["text", "kind"]) fun _ _ _ _ _ _ us hl => match us, hl with | [_, _], _ => rfl
  have b7 := F7.binds (ps := ["parts"]) fun _ _ _ _ _ _ us hl => match us, hl with | [_], _ => rfl
  have b8 := F8.binds (ps := ["manner"]) fun _ _ _ _ _ _ us hl => match us, hl with | [_], _ => rfl
  have b9 := F9.binds (ps := ["manner", "parts"]) fun _ _ _ _ _ _ us hl => match us, hl with | [_, _], _ => rfl
  have b10 := F10.binds (ps := ["manner", "row"]) fun _ _ _ _ _ _ us hl => match us, hl with | [_, _], _ => rfl
  have b11 := F11.binds (ps := ["self", "manner", "text", "row"]) fun _ _ _ _ _ _ us hl => match us, hl with | [_, _, _, _], _ => rfl
  have b12 := F12.binds (ps := ["self"]) fun _ _ _ _ _ _ us hl => match us, hl with | [_], _ => rfl
  have b13 := F13.binds (ps := ["self"]) fun _ _ _ _ _ _ us hl => match us, hl with | [_], _ => rfl
  have b14 := F14.binds (ps := ["self"]) fun _ _ _ _ _ _ us hl => match us, hl with | [_], _ => rfl
  have b15 := F15.binds (ps := ["self", "other"]) fun _ _ _ _ _ _ us hl => match us, hl with | [_, _], _ => rfl
  have b16 := F16.binds (ps := ["_law_script", "_law_at"]) fun _ _ _ _ _ _ us hl => match us, hl with | [_, _], _ => rfl
  have b17 := F17.binds (ps := ["_law_bag_here", "_law_many"]) fun _ _ _ _ _ _ us hl => match us, hl with | [_, _], _ => rfl
  have b18 := F18.binds (ps := ["_law_bag_here", "_law_some"]) fun _ _ _ _ _ _ us hl => match us, hl with | [_, _], _ => rfl
  have b19 := F19.binds (ps := ["_law_bag_here", "_law_many"]) fun _ _ _ _ _ _ us hl => match us, hl with | [_, _], _ => rfl
  have b20 := F20.binds (ps := ["_law_bag_here"]) fun _ _ _ _ _ _ us hl => match us, hl with | [_], _ => rfl
  have b21 := F21.binds (ps := ["_law_bag_here", "_law_many"]) fun _ _ _ _ _ _ us hl => match us, hl with | [_, _], _ => rfl
  have b22 := F22.binds (ps := ["_law_bag_here", "_law_limit"]) fun _ _ _ _ _ _ us hl => match us, hl with | [_, _], _ => rfl
  have b23 := F23.binds (ps := ["_law_parts"]) fun _ _ _ _ _ _ us hl => match us, hl with | [_], _ => rfl
  have b24 := F24.binds (ps := ["_law_bag_here", "_law_manner"]) fun _ _ _ _ _ _ us hl => match us, hl with | [_, _], _ => rfl
  have b25 := F25.binds (ps := ["_law_query_here", "_law_manner", "_law_case"]) fun _ _ _ _ _ _ us hl => match us, hl with | [_, _, _], _ => rfl
  have b26 := F26.binds (ps := ["_law_script"]) fun _ _ _ _ _ _ us hl => match us, hl with | [_], _ => rfl
  have T : Txt K mg ⟨f0, PySem.W.fnOf "is_word" "is_word" (defArgs s_is_word) (defBody s_is_word) (defScope s_is_word) .none kV0 dc0 pm0 an0 cd0 ct0, f1, PySem.W.fnOf "is_count" "is_count" (defArgs s_is_count) (defBody s_is_count) (defScope s_is_count) .none kV1 dc1 pm1 an1 cd1 ct1, f2, PySem.W.fnOf "is_label" "is_label" (defArgs s_is_label) (defBody s_is_label) (defScope s_is_label) .none kV2 dc2 pm2 an2 cd2 ct2, f3, PySem.W.fnOf "is_value" "is_value" (defArgs s_is_value) (defBody s_is_value) (defScope s_is_value) .none kV3 dc3 pm3 an3 cd3 ct3, f4, PySem.W.fnOf "is_literal" "is_literal" (defArgs s_is_literal) (defBody s_is_literal) (defScope s_is_literal) .none kV4 dc4 pm4 an4 cd4 ct4, f5, PySem.W.fnOf "is_key" "is_key" (defArgs s_is_key) (defBody s_is_key) (defScope s_is_key) .none kV5 dc5 pm5 an5 cd5 ct5, f6, PySem.W.fnOf "read_parts" "read_parts" (defArgs s_read_parts) (defBody s_read_parts) (defScope s_read_parts) .none kV6 dc6 pm6 an6 cd6 ct6, f7, PySem.W.fnOf "merged" "merged" (defArgs s_merged) (defBody s_merged) (defScope s_merged) .none kV7 dc7 pm7 an7 cd7 ct7, f8, PySem.W.fnOf "check_manner" "check_manner" (defArgs s_check_manner) (defBody s_check_manner) (defScope s_check_manner) .none kV8 dc8 pm8 an8 cd8 ct8, f9, PySem.W.fnOf "keyed" "keyed" (defArgs s_keyed) (defBody s_keyed) (defScope s_keyed) .none kV9 dc9 pm9 an9 cd9 ct9, f10, PySem.W.fnOf "table_of" "table_of" (defArgs s_table_of) (defBody s_table_of) (defScope s_table_of) .none kV10 dc10 pm10 an10 cd10 ct10, f11, PySem.W.fnOf "__init__" "Query.__init__" (defArgs s_Query_init) (defBody s_Query_init) (defScope s_Query_init) .none kV11 dc11 pm11 an11 cd11 ct11, f12, PySem.W.fnOf "row" "Query.row" (defArgs s_Query_row) (defBody s_Query_row) (defScope s_Query_row) .none kV12 dc12 pm12 an12 cd12 ct12, pr12, f13, PySem.W.fnOf "filled" "Query.filled" (defArgs s_Query_filled) (defBody s_Query_filled) (defScope s_Query_filled) .none kV13 dc13 pm13 an13 cd13 ct13, pr13, f14, PySem.W.fnOf "__len__" "Query.__len__" (defArgs s_Query_len) (defBody s_Query_len) (defScope s_Query_len) .none kV14 dc14 pm14 an14 cd14 ct14, f15, PySem.W.fnOf "__eq__" "Query.__eq__" (defArgs s_Query_eq) (defBody s_Query_eq) (defScope s_Query_eq) .none kV15 dc15 pm15 an15 cd15 ct15, f16, PySem.W.fnOf "_law_bag" "_law_bag" (defArgs s_l_bag) (defBody s_l_bag) (defScope s_l_bag) .none kV16 dc16 pm16 an16 cd16 ct16, f17, PySem.W.fnOf "_law_take" "_law_take" (defArgs s_l_take) (defBody s_l_take) (defScope s_l_take) .none kV17 dc17 pm17 an17 cd17 ct17, f18, PySem.W.fnOf "_law_of" "_law_of" (defArgs s_l_of) (defBody s_l_of) (defScope s_l_of) .none kV18 dc18 pm18 an18 cd18 ct18, f19, PySem.W.fnOf "_law_wide" "_law_wide" (defArgs s_l_wide) (defBody s_l_wide) (defScope s_l_wide) .none kV19 dc19 pm19 an19 cd19 ct19, f20, PySem.W.fnOf "_law_value" "_law_value" (defArgs s_l_value) (defBody s_l_value) (defScope s_l_value) .none kV20 dc20 pm20 an20 cd20 ct20, f21, PySem.W.fnOf "_law_labels" "_law_labels" (defArgs s_l_labels) (defBody s_l_labels) (defScope s_l_labels) .none kV21 dc21 pm21 an21 cd21 ct21, f22, PySem.W.fnOf "_law_literal" "_law_literal" (defArgs s_l_literal) (defBody s_l_literal) (defScope s_l_literal) .none kV22 dc22 pm22 an22 cd22 ct22, f23, PySem.W.fnOf "_law_merged" "_law_merged" (defArgs s_l_merged) (defBody s_l_merged) (defScope s_l_merged) .none kV23 dc23 pm23 an23 cd23 ct23, f24, PySem.W.fnOf "_law_query" "_law_query" (defArgs s_l_query) (defBody s_l_query) (defScope s_l_query) .none kV24 dc24 pm24 an24 cd24 ct24, f25, PySem.W.fnOf "_law_is_due" "_law_is_due" (defArgs s_l_is_due) (defBody s_l_is_due) (defScope s_l_is_due) .none kV25 dc25 pm25 an25 cd25 ct25, fa, PySem.W.fnOf "law" "law" (defArgs s_law) (defBody s_law) (defScope s_law) .none kV26 dc26 pm26 an26 cd26 ct26, C0⟩ := {
    F_is_word := F0,
    b_is_word := b0,
    g_is_word := PySem.W.mg_of X G a0,
    F_is_count := F1,
    b_is_count := b1,
    g_is_count := PySem.W.mg_of X G a1,
    F_is_label := F2,
    b_is_label := b2,
    g_is_label := PySem.W.mg_of X G a2,
    F_is_value := F3,
    b_is_value := b3,
    g_is_value := PySem.W.mg_of X G a3,
    F_is_literal := F4,
    b_is_literal := b4,
    g_is_literal := PySem.W.mg_of X G a4,
    F_is_key := F5,
    b_is_key := b5,
    g_is_key := PySem.W.mg_of X G a5,
    F_read_parts := F6,
    b_read_parts := b6,
    g_read_parts := PySem.W.mg_of X G a6,
    F_merged := F7,
    b_merged := b7,
    g_merged := PySem.W.mg_of X G a7,
    F_check_manner := F8,
    b_check_manner := b8,
    g_check_manner := PySem.W.mg_of X G a8,
    F_keyed := F9,
    b_keyed := b9,
    g_keyed := PySem.W.mg_of X G a9,
    F_table_of := F10,
    b_table_of := b10,
    g_table_of := PySem.W.mg_of X G a10,
    F_Query_init := F11,
    b_Query_init := b11,
    m_Query_init := ⟨a11, i11, k11⟩,
    F_Query_row := F12,
    b_Query_row := b12,
    p_Query_row := ⟨pa12, pb12, pc12, _, pd12⟩,
    F_Query_filled := F13,
    b_Query_filled := b13,
    p_Query_filled := ⟨pa13, pb13, pc13, _, pd13⟩,
    F_Query_len := F14,
    b_Query_len := b14,
    m_Query_len := ⟨a14, i14, k14⟩,
    F_Query_eq := F15,
    b_Query_eq := b15,
    m_Query_eq := ⟨a15, i15, k15⟩,
    F_l_bag := F16,
    b_l_bag := b16,
    g_l_bag := PySem.W.mg_of X G a16,
    F_l_take := F17,
    b_l_take := b17,
    g_l_take := PySem.W.mg_of X G a17,
    F_l_of := F18,
    b_l_of := b18,
    g_l_of := PySem.W.mg_of X G a18,
    F_l_wide := F19,
    b_l_wide := b19,
    g_l_wide := PySem.W.mg_of X G a19,
    F_l_value := F20,
    b_l_value := b20,
    g_l_value := PySem.W.mg_of X G a20,
    F_l_labels := F21,
    b_l_labels := b21,
    g_l_labels := PySem.W.mg_of X G a21,
    F_l_literal := F22,
    b_l_literal := b22,
    g_l_literal := PySem.W.mg_of X G a22,
    F_l_merged := F23,
    b_l_merged := b23,
    g_l_merged := PySem.W.mg_of X G a23,
    F_l_query := F24,
    b_l_query := b24,
    g_l_query := PySem.W.mg_of X G a24,
    F_l_is_due := F25,
    b_l_is_due := b25,
    g_l_is_due := PySem.W.mg_of X G a25,
    F_law := F26,
    b_law := b26,
    g_law := PySem.W.mg_of X G a26,
    cl_Query := ⟨pg0, hd0, po0, sa0⟩,
    g_Query := PySem.W.mg_of X G aC0,
    mk_Query := ⟨mk0, a11, i11, kc0⟩,
    cr_Query := ⟨rd0, rg0⟩,
    n_Query_cells := n0_0,
    n_Query_assigned := n0_1,
    n_Query_manner := n0_2,
    n_Query_text := n0_3,
    v_Query_MANNERS := ⟨LT0_0, ⟨lv0_0, rfl⟩, fun H => .inr ⟨_, _, _, lw0_0, rfl, rfl, Nat.le_of_ble_eq_true rfl, (.cons ⟨_, rfl⟩ (.cons ⟨_, rfl⟩ (.cons ⟨_, rfl⟩ .nil)))⟩⟩,
    nf_Query_str := nf0_str,
    nf_Query_list := nf0_list,
    nf_Query_tuple := nf0_tuple,
    ki_Query_str := ki0_str,
    ki_Query_list := ki0_list,
    ki_Query_tuple := ki0_tuple,
    i_Query := fun e => .ins e ⟨pg0, hd0, po0, sa0⟩ w0 y0 y1 x0,
    u_abs := PySem.W.mg_none_of X G z0,
    u_all := PySem.W.mg_none_of X G z1,
    u_bool := PySem.W.mg_none_of X G z2,
    u_dict := PySem.W.mg_none_of X G z3,
    u_enumerate := PySem.W.mg_none_of X G z4,
    u_int := PySem.W.mg_none_of X G z5,
    u_isinstance := PySem.W.mg_none_of X G z6,
    u_len := PySem.W.mg_none_of X G z7,
    u_list := PySem.W.mg_none_of X G z8,
    u_max := PySem.W.mg_none_of X G z9,
    u_min := PySem.W.mg_none_of X G z10,
    u_ord := PySem.W.mg_none_of X G z11,
    u_range := PySem.W.mg_none_of X G z12,
    u_repr := PySem.W.mg_none_of X G z13,
    u_str := PySem.W.mg_none_of X G z14,
    u_tuple := PySem.W.mg_none_of X G z15,
    u_zip := PySem.W.mg_none_of X G z16,
    g_DIGITS := ⟨_, PySem.W.mg_of X G kst_DIGITS, _, rfl⟩,
    g_MOST_DIGITS := ⟨_, PySem.W.mg_of X G kst_MOST_DIGITS, _, rfl⟩,
    g_MOST_VALUE := ⟨_, PySem.W.mg_of X G kst_MOST_VALUE, _, rfl⟩,
    g_MOST_WORD := ⟨_, PySem.W.mg_of X G kst_MOST_WORD, _, rfl⟩ }
  exact ⟨PySem.W.fnOf "law" "law" (defArgs s_law) (defBody s_law) (defScope s_law) .none kV26 dc26 pm26 an26 cd26 ct26, fun s v => .of_eq rfl, fun base _ _ => ok_law T⟩
theorem walk {l : PySem.W.OpenLaw} {q : Program} {loose : List Str} {XP : (Str → Option Value) → Heap → Prop} {YP : World → Heap → Prop} {d : DefRec} {K : Params → PySem.W.Frag} (hn : l.most = some 63) (hdf : d.params.defaults = [])
    (hY : ∀ (w : World) (h : Heap), YP w h → (K w.params).In h)
    (F : ∀ (w : World) (mg : Str → Option Value) (fa : Addr) (h : Heap), (K w.params).In h → h.Ns mainGlobals mg → mg d.name = some (.ref fa) →
      ∃ fd : FuncData, (∀ (s : Shared) (u : Value), BindsTo s fd ⟨[u], []⟩ [("_law_script", u)]) ∧ ∀ base : Heap, (K w.params).In base → base.Ns mainGlobals mg → Gd.FnG l.prog w (K w.params) mg base CX0 10 fa fd ["_law_script"] (sp_law (K w.params))) :
    PySem.W.WalkO q loose XP YP l.row.toRowW d [] (fun f vs => PySem.call f vs) :=
  Gd.walk_ofG (n := 63) (k := 10) (x := "_law_script") (sp := fun w => sp_law (K w.params)) hn (by decide) hdf ⟨rfl, by decide, by decide⟩ hY F (fun _ _ a ns hl _ hS => ⟨a, ns, rfl, hS, hl, fun _ => rfl⟩)
end LW
open PySem PySem.W PyProof.Rows
set_option maxRecDepth 100000 in
set_option maxHeartbeats 0 in
theorem PySem.Challenge.cw_ownholes_k14_queries_filled_holds : PySem.Challenge.rw_ownholes_k14_queries_filled.Holds := by
  w_on; o_law; k_head; (case hw => w_witness2)
  k_fill
  refine LW.walk (l := PySem.Challenge.rw_ownholes_k14_queries_filled) rfl rfl (fun w h Y => PySem.W.kIn_of Y) ?F
  case F =>
    intro w mg fa h KX G hmg
    refine' LW.all_mk KX G hmg ?aC0 ?a0 ?l0 ?c0 ?k0 ?a1 ?l1 ?c1 ?k1 ?a2 ?l2 ?c2 ?k2 ?a3 ?l3 ?c3 ?k3 ?a4 ?l4 ?c4 ?k4 ?a5 ?l5 ?c5 ?k5 ?a6 ?l6 ?c6 ?k6 ?a7 ?l7 ?c7 ?k7 ?a8 ?l8 ?c8 ?k8 ?a9 ?l9 ?c9 ?k9 ?a10 ?l10 ?c10 ?k10 ?a11 ?i11 ?l11 ?c11 ?k11 ?pa12 ?pb12 ?pc12 ?pd12 ?l12 ?c12 ?k12 ?pa13 ?pb13 ?pc13 ?pd13 ?l13 ?c13 ?k13 ?a14 ?i14 ?l14 ?c14 ?k14 ?a15 ?i15 ?l15 ?c15 ?k15 ?a16 ?l16 ?c16 ?k16 ?a17 ?l17 ?c17 ?k17 ?a18 ?l18 ?c18 ?k18 ?a19 ?l19 ?c19 ?k19 ?a20 ?l20 ?c20 ?k20 ?a21 ?l21 ?c21 ?k21 ?a22 ?l22 ?c22 ?k22 ?a23 ?l23 ?c23 ?k23 ?a24 ?l24 ?c24 ?k24 ?a25 ?l25 ?c25 ?k25 ?a26 ?l26 ?c26 ?k26 ?pg0 ?hd0 ?po0 ?sa0 ?mk0 ?kc0 ?w0 ?x0 ?nf0_str ?nf0_list ?nf0_tuple ?ki0_str ?ki0_list ?ki0_tuple ?rd0 ?rg0 ?n0_0 ?n0_1 ?n0_2 ?n0_3 ?lv0_0 ?lw0_0 ?y0 ?y1 ?kst_DIGITS ?kst_MOST_DIGITS ?kst_MOST_VALUE ?kst_MOST_WORD ?z0 ?z1 ?z2 ?z3 ?z4 ?z5 ?z6 ?z7 ?z8 ?z9 ?z10 ?z11 ?z12 ?z13 ?z14 ?z15 ?z16
    (case aC0 => k_is)
    (case a0 => k_is)
    (case l0 => k_is)
    (case c0 => k_is)
    (case k0 => k_is)
    (case a1 => k_is)
    (case l1 => k_is)
    (case c1 => k_is)
    (case k1 => k_is)
    (case a2 => k_is)
    (case l2 => k_is)
    (case c2 => k_is)
    (case k2 => k_is)
    (case a3 => k_is)
    (case l3 => k_is)
    (case c3 => k_is)
    (case k3 => k_is)
    (case a4 => k_is)
    (case l4 => k_is)
    (case c4 => k_is)
    (case k4 => k_is)
    (case a5 => k_is)
    (case l5 => k_is)
    (case c5 => k_is)
    (case k5 => k_is)
    (case a6 => k_is)
    (case l6 => k_is)
    (case c6 => k_is)
    (case k6 => k_is)
    (case a7 => k_is)
    (case l7 => k_is)
    (case c7 => k_is)
    (case k7 => k_is)
    (case a8 => k_is)
    (case l8 => k_is)
    (case c8 => k_is)
    (case k8 => k_is)
    (case a9 => k_is)
    (case l9 => k_is)
    (case c9 => k_is)
    (case k9 => k_is)
    (case a10 => k_is)
    (case l10 => k_is)
    (case c10 => k_is)
    (case k10 => k_is)
    (case a11 => k_is)
    (case i11 => k_is)
    (case l11 => k_is)
    (case c11 => k_is)
    (case k11 => k_is)
    (case pa12 => k_is)
    (case pb12 => k_is)
    (case pc12 => k_is)
    (case pd12 => k_is)
    (case l12 => k_is)
    (case c12 => k_is)
    (case k12 => k_is)
    (case pa13 => k_is)
    (case pb13 => k_is)
    (case pc13 => k_is)
    (case pd13 => k_is)
    (case l13 => k_is)
    (case c13 => k_is)
    (case k13 => k_is)
    (case a14 => k_is)
    (case i14 => k_is)
    (case l14 => k_is)
    (case c14 => k_is)
    (case k14 => k_is)
    (case a15 => k_is)
    (case i15 => k_is)
    (case l15 => k_is)
    (case c15 => k_is)
    (case k15 => k_is)
    (case a16 => k_is)
    (case l16 => k_is)
    (case c16 => k_is)
    (case k16 => k_is)
    (case a17 => k_is)
    (case l17 => k_is)
    (case c17 => k_is)
    (case k17 => k_is)
    (case a18 => k_is)
    (case l18 => k_is)
    (case c18 => k_is)
    (case k18 => k_is)
    (case a19 => k_is)
    (case l19 => k_is)
    (case c19 => k_is)
    (case k19 => k_is)
    (case a20 => k_is)
    (case l20 => k_is)
    (case c20 => k_is)
    (case k20 => k_is)
    (case a21 => k_is)
    (case l21 => k_is)
    (case c21 => k_is)
    (case k21 => k_is)
    (case a22 => k_is)
    (case l22 => k_is)
    (case c22 => k_is)
    (case k22 => k_is)
    (case a23 => k_is)
    (case l23 => k_is)
    (case c23 => k_is)
    (case k23 => k_is)
    (case a24 => k_is)
    (case l24 => k_is)
    (case c24 => k_is)
    (case k24 => k_is)
    (case a25 => k_is)
    (case l25 => k_is)
    (case c25 => k_is)
    (case k25 => k_is)
    (case a26 => k_is)
    (case l26 => k_is)
    (case c26 => k_is)
    (case k26 => k_is)
    (case pg0 => k_is)
    (case hd0 => k_is)
    (case po0 => k_is)
    (case sa0 => k_is)
    (case mk0 => k_is)
    (case kc0 => k_is)
    (case w0 => k_is)
    (case x0 => k_is)
    (case nf0_str => k_is)
    (case nf0_list => k_is)
    (case nf0_tuple => k_is)
    (case ki0_str => kit_is)
    (case ki0_list => kit_is)
    (case ki0_tuple => kit_is)
    (case rd0 => k_is)
    (case rg0 => k_is)
    (case n0_0 => k_is)
    (case n0_1 => k_is)
    (case n0_2 => k_is)
    (case n0_3 => k_is)
    (case lv0_0 => k_is)
    (case lw0_0 => k_is)
    (case y0 => k_is)
    (case y1 => k_is)
    (case kst_DIGITS => k_is)
    (case kst_MOST_DIGITS => k_is)
    (case kst_MOST_VALUE => k_is)
    (case kst_MOST_WORD => k_is)
    (case z0 => k_is)
    (case z1 => k_is)
    (case z2 => k_is)
    (case z3 => k_is)
    (case z4 => k_is)
    (case z5 => k_is)
    (case z6 => k_is)
    (case z7 => k_is)
    (case z8 => k_is)
    (case z9 => k_is)
    (case z10 => k_is)
    (case z11 => k_is)
    (case z12 => k_is)
    (case z13 => k_is)
    (case z14 => k_is)
    (case z15 => k_is)
    (case z16 => k_is)
