import PyProof.Rows.All
import Wide.All
import OpenK.AllK
import Wide.FinOn
import HandS.ForMost
import HandS.ForExc
import HandS.IsInst
import HandS.Walk
import HandS.Steps
import HandS.DictComp
import HandS.DictTup
import HandS.TupSets
import HandS.TupLen
import HandS.Conv
import HandS.OwnEq
import HandS.Codes
import HandS.Zip
import HandS.Star
import HandS.Style
import HandS.More
import HandS.Property
import HandS.Defaults
import HandS.SortInts
import KE.KDictDisplayH
import HandS.FStr
import HandS.SetKeys
import KE.KCallOwn
import PyProof.Rows.ReprR
import PyProof.DictMoreH
import HandS.StrMore
import HandS.Text
import HandS.Iter
import KE.KDictList
import PyProof.StrWalks
import KE.GoesMore
import PyProof.ReprLen
import PyProof.Rows.SortStr
import PyProof.Rows.TmSorted
import PyProof.Rows.StrMeet
import KE.RegKIsAll
import HandS.RaiseMore
import PyProof.StrOps2
import KE.KxField
import HandS.Finally
import HandS.WordsDict
import PySem.Challenge.RW_ownholes_k77_pages
set_option Elab.async false
set_option maxRecDepth 100000
/-! Eg: step lemmas: each reading of the hand layer, from the left, as one backward step. -/
namespace Eg
open PySem L2
section
variable {σ σ' : L2.St} {H H' : Hp} {Q : VK} {i : Nat} {v x y z : V} {ta tb tc te tv : TE} {r r' : R2} {K : PySem.W.Frag} {p q a C dx : Addr} {t u c : TT} {D : Ends} {t1 t2 : TS} {b : Bool} {fs : List (Str × V)} {f : Str} {o o' : HO}
/-! heaps -/
theorem upd_old {o1 : HO} (h : H p = some o) (hp : H q = none) : upd H q o1 p = some o := by
  rw [upd_ne (ne_of_none h hp)]
  exact h
theorem upd_mut {o1 : HO} (hn : p ≠ q) (h : H p = some o) : upd H q o1 p = some o := by
  rw [upd_ne hn]
  exact h
theorem upd_none {o1 : HO} (hn : p ≠ q) (h : H p = none) : upd H q o1 p = none := by
  rw [upd_ne hn]
  exact h
/-- unallocated ahead of an allocation was unallocated before -/
theorem none_back {o1 : HO} (h : upd H q o1 p = none) : H p = none := by
  unfold upd at h
  by_cases e : p = q
  · rw [if_pos e] at h
    cases h
  · rw [if_neg e] at h
    exact h
theorem none_ne {o1 : HO} (h : upd H q o1 p = none) : p ≠ q := by
  intro e
  unfold upd at h
  rw [if_pos e] at h
  cases h
/-! expressions -/
theorem w_op (h : ta σ H fun x H1 => tb σ H1 fun y H2 => r x y H2 Q) : tOp r ta tb σ H Q := h
theorem w_un {r : V → Hp → VK → Prop} (h : ta σ H fun x H1 => r x H1 Q) : tUn r ta σ H Q := h
theorem w_var (h : σ[i]? = some (some v)) (q : Q v H) : tVar i σ H Q := ⟨v, h, q⟩
theorem w_c (q : Q v H) : tC v σ H Q := q
theorem w_tup {t : TA} (h : t σ H fun xs H1 => xs.length ≤ sizeLine ∧ ∀ p, H1 p = none → Q (.ref p) (upd H1 p (.tup xs))) : tTup t σ H Q := h
theorem w_lst {t : TA} (h : t σ H fun xs H1 => xs.length ≤ sizeLine ∧ ∀ p, H1 p = none → Q (.ref p) (upd H1 p (.lst xs))) : tLst t σ H Q := h
theorem w_sz {xs : List V} {A : Prop} (h : xs.length ≤ 1000) (q : A) : xs.length ≤ sizeLine ∧ A := ⟨Nat.le_trans h (by decide), q⟩
theorem w_cb {r : List V → Hp → VK → Prop} {t : TA} (h : t σ H fun vs H1 => r vs H1 Q) : tCB r t σ H Q := h
theorem w_nil {Q : List V → Hp → Prop} (q : Q [] H) : tNil σ H Q := q
theorem w_cons {tr : TA} {Q : List V → Hp → Prop} (h : ta σ H fun x H1 => tr σ H1 fun xs H2 => Q (x :: xs) H2) : tCons ta tr σ H Q := h
theorem w_call {sp : Sp} {dvs : List V} {E : XK} {t : TA} (h : t σ H fun vs H1 => sp (vs ++ dvs) H1 Q E) : tCall sp dvs E t σ H Q := h
theorem w_bm {T : String} {r : V → List V → Hp → VK → Prop} {t : TA} (h : ta σ H fun x H1 => tyV K T x H1 ∧ t σ H1 fun xs H2 => r x xs H2 Q) : tBM K T r ta t σ H Q := h
theorem w_bm0 {T : String} {r : V → List V → Hp → VK → Prop} (h : ta σ H fun x H1 => tyV K T x H1 ∧ r x [] H1 Q) : tBM0 K T r ta σ H Q := h
theorem w_tyl {xs : List V} {A : Prop} (h : SqL K H p xs) (q : A) : tyV K "list" (.ref p) H ∧ A := ⟨.inl ⟨rfl, _, h⟩, q⟩
theorem w_if {t : TT} (h : t σ H fun c H1 => if c = true then ta σ H1 Q else tb σ H1 Q) : tIf t ta tb σ H Q := h
theorem w_sl {r : V → Option Int → Option Int → Hp → VK → Prop} {tl th : TO} (h : te σ H fun x H1 => tl σ H1 fun l H2 => th σ H2 fun u H3 => r x l u H3 Q) : tSl r te tl th σ H Q := h
theorem w_nopart {Q : Option Int → Hp → Prop} (q : Q none H) : tNoPart σ H Q := q
theorem w_chain (h : ta σ H fun x H1 => tb σ H1 fun y H2 => r x y H2 fun z H3 => ∃ k, z = .bl k ∧ (if k = true then tc σ H3 fun w' H4 => r' y w' H4 Q else Q (.bl false) H3)) : tChain r r' ta tb tc σ H Q := h
/-! operators by values -/
theorem w_rI0 {g : Int → Int → V} {i j : Int} (q : Q (g i j) H) : rI0 g (.int i) (.int j) H Q := ⟨i, j, rfl, rfl, q⟩
theorem w_rI {C : Int → Int → Prop} {g : Int → Int → V} {i j : Int} (hc : C i j) (q : Q (g i j) H) : rI C g (.int i) (.int j) H Q := ⟨i, j, rfl, rfl, hc, q⟩
theorem w_rU {g : Int → V} {i : Int} (q : Q (g i) H) : rU g (.int i) H Q := ⟨i, rfl, q⟩
theorem w_eq (h : scal x y = true) (q : Q (.bl (decide (x = y))) H) : rEq x y H Q := ⟨h, q⟩
theorem w_ne (h : scal x y = true) (q : Q (.bl (!decide (x = y))) H) : rNe x y H Q := ⟨h, q⟩
theorem w_isN (q : Q (.bl (decide (x = .non))) H) : (fun x y H Q => y = V.non ∧ Q (V.bl (decide (x = .non))) H : R2) x .non H Q := ⟨rfl, q⟩
theorem w_ixL {xs : List V} {i : Int} (hs : SqL K H p xs) (hv : atI xs i = some v) (q : Q v H) : rIxL K (.ref p) (.int i) H Q := ⟨p, xs, i, v, rfl, rfl, hs, hv, q⟩
theorem w_ixT {xs : List V} {i : Int} (hs : SqT K H p xs) (hv : atI xs i = some v) (q : Q v H) : rIxT K (.ref p) (.int i) H Q := ⟨p, xs, i, v, rfl, rfl, hs, hv, q⟩
theorem w_setL {xs : List V} {k : Int} {j : Nat} {R : Hp → Prop} (h : H p = some (.lst xs)) (hj : ixN xs.length k = some j) (q : R (upd H p (.lst (xs.set j v)))) : rSetL (.ref p) (.int k) v H R := ⟨p, xs, k, j, rfl, rfl, h, hj, q⟩
theorem w_append {xs : List V} (h : H p = some (.lst xs)) (hz : xs.length < 100000) (q : Q .non (upd H p (.lst (xs ++ [v])))) : rAppend (.ref p) [v] H Q := ⟨p, xs, v, rfl, rfl, h, Nat.lt_of_lt_of_le hz (by decide), q⟩
def fldLeaf (K : PySem.W.Frag) (f : Str) (Q : VK) (x : V) (H1 : Hp) : Prop := ∃ a C dx fs v, x = .ref a ∧ H1 a = some (.ins C dx fs) ∧ Cls K C ∧ NoAttr K C f ∧ fs.lookup f = some v ∧ Q v H1
theorem w_fld (h : ta σ H (fldLeaf K f Q)) : tFld K ta f σ H Q := h
theorem c_fld (h : H p = some (.ins C dx fs)) (hc : Cls K C) (hn : NoAttr K C f) (hl : fs.lookup f = some v) (q : Q v H) : fldLeaf K f Q (.ref p) H := ⟨p, C, dx, fs, v, rfl, h, hc, hn, hl, q⟩
/-! calls by values -/
theorem w_int1 {i : Int} (q : Q (.int i) H) : (∃ j, [V.int i] = [.int j] ∧ Q (.int j) H) ∨ ∃ k, [V.int i] = [.bl k] ∧ Q (.int (if k then 1 else 0)) H := .inl ⟨i, rfl, q⟩
theorem w_ex1 {A : Type} {mk : A → List V} {a : A} {G : A → Prop} (q : G a) : ∃ i, mk a = mk i ∧ G i := ⟨a, rfl, q⟩
/-! tests -/
theorem w_test {R : Bool → Hp → Prop} (h : te σ H fun x H' => ∃ k, x = .bl k ∧ R k H') : tTest te σ H R := h
theorem w_B {R : Bool → Hp → Prop} (h : te σ H fun x H' => ∃ k, x = .bl k ∧ R k H') : tB te σ H R := h
theorem w_bl {R : Bool → Hp → Prop} (q : R b H) : ∃ k, V.bl b = .bl k ∧ R k H := ⟨b, rfl, q⟩
theorem w_bl' {G : Bool → Prop} (q : G b) : ∃ k, V.bl b = .bl k ∧ G k := ⟨b, rfl, q⟩
theorem w_and {R : Bool → Hp → Prop} (h : t σ H fun c H1 => if c = true then u σ H1 R else R false H1) : tAnd t u σ H R := h
theorem w_or {R : Bool → Hp → Prop} (h : t σ H fun c H1 => if c = true then R true H1 else u σ H1 R) : tOr t u σ H R := h
theorem w_not {R : Bool → Hp → Prop} (h : t σ H fun c H1 => R (!c) H1) : tNot t σ H R := h
theorem w_andV (h : ta σ H fun x H1 => ∃ c, x = .bl c ∧ if c = true then tb σ H1 Q else Q (.bl false) H1) : tAndV ta tb σ H Q := h
theorem w_orV (h : ta σ H fun x H1 => ∃ c, x = .bl c ∧ if c = true then Q (.bl true) H1 else tb σ H1 Q) : tOrV ta tb σ H Q := h
theorem w_notV (h : ta σ H fun x H1 => ∃ c, x = .bl c ∧ Q (.bl (!c)) H1) : tNotV ta σ H Q := h
/-! statements -/
theorem w_seq (h : t1 { D with nx := t2 D } σ H) : tSeq t1 t2 D σ H := h
theorem w_seqR (h : ∀ R : L2.St → Hp → Prop, t2 D = R → t1 { D with nx := R } σ H) : tSeq t1 t2 D σ H := h _ rfl
theorem w_R {R R' : L2.St → Hp → Prop} (e : R' = R) (h : R' σ H) : R σ H := e ▸ h
theorem w_next (h : D.nx σ H) : tNext D σ H := h
theorem w_brk (h : D.bk σ H) : tBreak D σ H := h
theorem w_cont (h : D.ct σ H) : tCont D σ H := h
theorem w_nx {f1 f3 f4 : L2.St → Hp → Prop} {f2 : VK} (h : f1 σ H) : Ends.nx ⟨f1, f2, f3, f4⟩ σ H := h
theorem w_rt {f1 f3 f4 : L2.St → Hp → Prop} {f2 : VK} (h : f2 v H) : Ends.rt ⟨f1, f2, f3, f4⟩ v H := h
theorem w_bk {f1 f3 f4 : L2.St → Hp → Prop} {f2 : VK} (h : f3 σ H) : Ends.bk ⟨f1, f2, f3, f4⟩ σ H := h
theorem w_ct {f1 f3 f4 : L2.St → Hp → Prop} {f2 : VK} (h : f4 σ H) : Ends.ct ⟨f1, f2, f3, f4⟩ σ H := h
theorem w_drop (h : te σ H fun _ H1 => D.nx σ H1) : tDrop te D σ H := h
theorem w_ret (h : te σ H D.rt) : tRet te D σ H := h
theorem w_retN (h : D.rt .non H) : tRetN D σ H := h
theorem w_ifS (h : c σ H fun b H1 => if b = true then t1 D σ H1 else t2 D σ H1) : tIfS c t1 t2 D σ H := h
theorem w_asg {g : TG} (h : te σ H fun x H1 => g x σ H1 D.nx) : tAsg te g D σ H := h
theorem w_gN {R : L2.St → Hp → Prop} (h : R (σ.set i (some v)) H) : gName i v σ H R := h
theorem w_gSub {to ti : TE} {s : TSet} {R : L2.St → Hp → Prop} (h : to σ H fun o H1 => ti σ H1 fun i H2 => s o i v H2 fun H3 => R σ H3) : gSub to ti s v σ H R := h
theorem w_gTup {n : Nat} {g : TGs} {xs : List V} {R : L2.St → Hp → Prop} (hs : SqT K H p xs) (hn : xs.length = n) (h : g xs σ H R) : gTup K n g (.ref p) σ H R := ⟨p, xs, rfl, hs, hn, h⟩
theorem w_gNil {R : L2.St → Hp → Prop} (h : R σ H) : gNil [] σ H R := ⟨rfl, h⟩
theorem w_gCons {g : TG} {gs : TGs} {xs : List V} {R : L2.St → Hp → Prop} (h : g v σ H fun σ' H' => gs xs σ' H' R) : gCons g gs (v :: xs) σ H R := ⟨v, xs, rfl, h⟩
theorem w_for {wi : TI} {g : TG} {tb : TS} (h : wi σ H fun J H1 => ∃ W : Nat → Nat → L2.St → Hp → Prop, (∃ m, W 0 m σ H1) ∧ ∀ i m σ H, W i m σ H →
    (J.stop i H ∧ D.nx σ H) ∨ (J.go i H ∧ ∃ N : L2.St → Hp → Prop, (∀ σ' H', N σ' H' → ∃ m', m' < m ∧ W (i + 1) m' σ' H') ∧ ∀ x H', J.yld i H x H' → g x σ H' fun σ2 H2 => tb { D with nx := N, ct := N, bk := D.nx } σ2 H2)) : tFor wi g tb D σ H := h
theorem w_lc {wi : TI} {g : TG} {tt : TT} {vs : List Nat} (h : wi σ H fun J H1 => ∀ D, H1 D = none → ∃ W : Nat → Nat → Hp → Prop, (∃ m, W 0 m (upd H1 D (.lst []))) ∧ ∀ i m H, W i m H →
  (J.stop i H ∧ Q (.ref D) H) ∨ (J.go i H ∧ ∃ Nx : Hp → Prop, (∀ H', Nx H' → ∃ m', m' < m ∧ W (i + 1) m' H') ∧ ∀ x H', J.yld i H x H' → g x (wipe σ vs) H' fun σ2 H2 => wipe σ2 vs = wipe σ vs ∧ tt σ2 H2 fun b H3 =>
    if b = true then te σ2 H3 fun y H4 => ∃ acc, H4 D = some (.lst acc) ∧ acc.length < sizeLine ∧ Nx (upd H4 D (.lst (acc ++ [y]))) else Nx H3)) : tLc wi g tt te vs σ H Q := h
theorem w_yes {R : Bool → Hp → Prop} (h : R true H) : tYes σ H R := h
theorem w_sig (e : σ' = σ) {t : TS} (h : t D σ H) : t D σ' H := by
  rw [e]
  exact h
theorem w_par {j : Nat} {t : TA} (h : t σ H fun vs H1 => ∃ v w, vs = [v, w] ∧ D.nx ((σ.set i (some v)).set j (some w)) H1) : tPar i j t D σ H := h
theorem c_par {G : V → V → Prop} {v w : V} (q : G v w) : ∃ x y, [v, w] = [x, y] ∧ G x y := ⟨v, w, rfl, q⟩
theorem c_max {R : VK} {ns : List Int} (h : SqL K H p (ns.map V.int)) (h0 : 0 < ns.length) (q : ∀ m, m ∈ ns → (∀ y, y ∈ ns → y ≤ m) → R (.int m) H) : rMax K [V.ref p] H R := ⟨p, ns, rfl, h, h0, q⟩
theorem c_cat {xs zs : List V} (h1 : H p = some (.lst xs)) (h2 : H q = some (.lst zs)) (hz : xs.length + zs.length < 100000) (k : ∀ r, H r = none → Q (.ref r) (upd H r (.lst (xs ++ zs)))) : rCat (.ref p) (.ref q) H Q :=
  ⟨p, q, xs, zs, rfl, rfl, h1, h2, Nat.le_trans (Nat.le_of_lt hz) (by decide), k⟩
/-! leaves by name -/
def rngLeaf (R : It → Hp → Prop) (vs : List V) (H1 : Hp) : Prop := ∃ j : Int, vs = [.int j] ∧ -(2 ^ 62) ≤ j ∧ j < 2 ^ 62 ∧ R (Itr 0 j.toNat) H1
def rng2Leaf (R : It → Hp → Prop) (vs : List V) (H1 : Hp) : Prop := ∃ i j : Int, vs = [.int i, .int j] ∧ (-(2 ^ 62) ≤ i ∧ i < 2 ^ 62 ∧ -(2 ^ 62) ≤ j ∧ j < 2 ^ 62) ∧ R (Itr i (j - i).toNat) H1
def lstLeaf (K : PySem.W.Frag) (R : It → Hp → Prop) (x : V) (H1 : Hp) : Prop := ∃ a, x = .ref a ∧ (∃ xs, SqL K H1 a xs) ∧ R (Itl K a) H1
def tupLeaf (K : PySem.W.Frag) (R : It → Hp → Prop) (x : V) (H1 : Hp) : Prop := ∃ a, x = .ref a ∧ (∃ xs, SqT K H1 a xs) ∧ R (Itt K a) H1
def zipLeaf (K : PySem.W.Frag) (R : It → Hp → Prop) (vs : List V) (H1 : Hp) : Prop := ∃ a b xs ys, vs = [.ref a, .ref b] ∧ SqL K H1 a xs ∧ SqL K H1 b ys ∧ R (Itz K a b) H1
def keysLeaf (R : It → Hp → Prop) (x : V) (H1 : Hp) : Prop := ∃ d o, x = .ref d ∧ ((∃ kvs, H1 d = some (.frz o (.dK kvs)) ∧ R (Itk d o kvs) H1) ∨ ∃ kvs, H1 d = some (.frz o (.dT kvs)) ∧ R (Itkt d o kvs) H1)
def partLeaf (Q : Option Int → Hp → Prop) (x : V) (H1 : Hp) : Prop := ∃ i, x = .int i ∧ Q (some i) H1
def dinLeaf (neg : Bool) (Q : VK) (y x : V) (H2 : Hp) : Prop := ∃ a o, x = .ref a ∧ DGet H2 a y o ∧ Q (.bl (if neg then !o.isSome else o.isSome)) H2
theorem w_part {Q : Option Int → Hp → Prop} (h : te σ H (partLeaf Q)) : tPart te σ H Q := h
theorem c_part {Q : Option Int → Hp → Prop} {j : Int} (q : Q (some j) H) : partLeaf Q (.int j) H := ⟨j, rfl, q⟩
theorem w_iL {tl : TE} {R : It → Hp → Prop} (h : tl σ H (lstLeaf K R)) : iList K tl σ H R := h
theorem c_iL {R : It → Hp → Prop} {xs : List V} (hs : SqL K H p xs) (q : R (Itl K p) H) : lstLeaf K R (.ref p) H := ⟨p, rfl, ⟨_, hs⟩, q⟩
theorem w_iT {tl : TE} {R : It → Hp → Prop} (h : tl σ H (tupLeaf K R)) : iTup K tl σ H R := h
theorem c_iT {R : It → Hp → Prop} {xs : List V} (hs : SqT K H p xs) (q : R (Itt K p) H) : tupLeaf K R (.ref p) H := ⟨p, rfl, ⟨_, hs⟩, q⟩
theorem w_iZ {t : TA} {R : It → Hp → Prop} (h : t σ H (zipLeaf K R)) : iZip K t σ H R := h
theorem c_iZ {R : It → Hp → Prop} {xs ys : List V} (h1 : SqL K H p xs) (h2 : SqL K H q ys) (k : R (Itz K p q) H) : zipLeaf K R [.ref p, .ref q] H := ⟨p, q, xs, ys, rfl, h1, h2, k⟩
theorem w_iR1 {t : TA} {R : It → Hp → Prop} (h : t σ H (rngLeaf R)) : iRng1 t σ H R := h
theorem c_iR1 {R : It → Hp → Prop} {n : Int} (h1 : -(2 ^ 62) ≤ n) (h2 : n < 2 ^ 62) (q : R (Itr 0 n.toNat) H) : rngLeaf R [.int n] H := ⟨n, rfl, h1, h2, q⟩
theorem w_iR2 {t : TA} {R : It → Hp → Prop} (h : t σ H (rng2Leaf R)) : iRng2 t σ H R := h
theorem c_iR2 {R : It → Hp → Prop} {n m : Int} (h1 : -(2 ^ 62) ≤ n ∧ n < 2 ^ 62 ∧ -(2 ^ 62) ≤ m ∧ m < 2 ^ 62) (q : R (Itr n (m - n).toNat) H) : rng2Leaf R [.int n, .int m] H := ⟨n, m, rfl, h1, q⟩
theorem w_iK {td : TE} {R : It → Hp → Prop} (h : td σ H (keysLeaf R)) : iKeys td σ H R := h
theorem c_iKT {R : It → Hp → Prop} {ob : Obj} {kvs : List (List Key × V)} (h : H p = some (.frz ob (.dT kvs))) (q : R (Itkt p ob kvs) H) : keysLeaf R (.ref p) H := ⟨p, ob, rfl, .inr ⟨kvs, h, q⟩⟩
theorem c_iKK {R : It → Hp → Prop} {ob : Obj} {kvs : List (Key × V)} (h : H p = some (.frz ob (.dK kvs))) (q : R (Itk p ob kvs) H) : keysLeaf R (.ref p) H := ⟨p, ob, rfl, .inl ⟨kvs, h, q⟩⟩
theorem w_din {ty td : TE} (h : ty σ H fun y H1 => td σ H1 fun x H2 => dinLeaf false Q y x H2) : tDIn ty td σ H Q := h
theorem w_dnin {ty td : TE} (h : ty σ H fun y H1 => td σ H1 fun x H2 => dinLeaf true Q y x H2) : tDNotIn ty td σ H Q := h
theorem c_din {r : Option V} (h : DGet H p y r) (q : Q (.bl r.isSome) H) : dinLeaf false Q y (.ref p) H := ⟨p, r, rfl, h, q⟩
theorem c_dnin {r : Option V} (h : DGet H p y r) (q : Q (.bl (!r.isSome)) H) : dinLeaf true Q y (.ref p) H := ⟨p, r, rfl, h, q⟩
theorem ans_or2 {b1 b2 : Bool} (h1 : Ans t σ H b1) (h2 : Ans u σ H b2) : Ans (tOr t u) σ H (b1 || b2) := by
  cases b1 with
  | true => exact ans_or1 h1
  | false => exact ans_or h1 h2
/-! what is known of a branch -/
theorem br {c : Bool} {A B : Prop} (h1 : c = true → A) (h2 : c = false → B) : if c = true then A else B := by
  cases c with
  | true => exact h1 rfl
  | false => exact h2 rfl
theorem brT {c : Bool} {A B : Prop} (h : c = true) (h1 : A) : if c = true then A else B := by rw [if_pos h]; exact h1
theorem brF {c : Bool} {A B : Prop} (h : c = false) (h1 : B) : if c = true then A else B := by rw [if_neg (by rw [h]; decide)]; exact h1
theorem brD {c : Prop} [Decidable c] {A B : Prop} (h1 : c → A) (h2 : ¬ c → B) : if decide c = true then A else B := br (fun h => h1 (of_decide_eq_true h)) (fun h => h2 (of_decide_eq_false h))
theorem brDn {c : Prop} [Decidable c] {A B : Prop} (h1 : ¬ c → A) (h2 : c → B) : if (!decide c) = true then A else B := br (fun h => h1 (by simpa using h)) (fun h => h2 (by simpa using h))
theorem brDT {c : Prop} [Decidable c] {A B : Prop} (h : c) (h1 : A) : if decide c = true then A else B := brT (decide_eq_true h) h1
theorem brDF {c : Prop} [Decidable c] {A B : Prop} (h : ¬ c) (h1 : B) : if decide c = true then A else B := brF (decide_eq_false h) h1
theorem int_eq {i j : Int} : decide (V.int i = V.int j) = decide (i = j) := by
  by_cases e : i = j
  · subst e; simp
  · rw [decide_eq_false e, decide_eq_false (fun h => e (V.int.inj h))]
theorem str_eq {i j : Str} : decide (V.str i = V.str j) = decide (i = j) := by
  by_cases e : i = j
  · subst e; simp
  · rw [decide_eq_false e, decide_eq_false (fun h => e (V.str.inj h))]
end
/-! calls of built-ins by named readings -/
def rLenQ (K : PySem.W.Frag) : List V → Hp → VK → Prop := fun xs H Q => ∃ p ys, xs = [V.ref p] ∧ (SqL K H p ys ∨ SqT K H p ys) ∧ Q (.int (ys.length : Nat)) H
def rAbsQ : List V → Hp → VK → Prop := fun xs H Q => ∃ i, xs = [V.int i] ∧ Q (.int (if i < 0 then -i else i)) H
def rMin2Q : List V → Hp → VK → Prop := fun xs H Q => ∃ i j, xs = [V.int i, V.int j] ∧ Q (.int (if j < i then j else i)) H
def rMax2Q : List V → Hp → VK → Prop := fun xs H Q => ∃ i j, xs = [V.int i, V.int j] ∧ Q (.int (if j > i then j else i)) H
def rIntQ : List V → Hp → VK → Prop := fun xs H Q => (∃ i, xs = [V.int i] ∧ Q (.int i) H) ∨ ∃ k, xs = [V.bl k] ∧ Q (.int (if k then 1 else 0)) H
def rIsNQ : R2 := fun x y H Q => y = .non ∧ Q (.bl (decide (x = .non))) H
def rNotNQ : R2 := fun x y H Q => y = .non ∧ Q (.bl (!decide (x = .non))) H
section
variable {X : Cx}
theorem cr_len : CallR X (.builtin "len") (rLenQ X.K) := call_len_seq
theorem cr_abs : CallR X (.builtin "abs") rAbsQ := call_abs
theorem cr_min2 (h : X.calm = true) : CallR X (.builtin "min") rMin2Q := call_min2 h
theorem cr_max2 (h : X.calm = true) : CallR X (.builtin "max") rMax2Q := call_max2 h
theorem cr_int : CallR X (.type "int") rIntQ := call_int1
theorem opr_isN : OpR X (compareOp .Is) rIsNQ := op_isN
theorem opr_notN : OpR X (compareOp .IsNot) rNotNQ := op_notN
end
section
variable {σ σ' : L2.St} {H H' : Hp} {Q : VK} {i : Nat} {v x y z : V} {ta tb tc te tv td ty : TE} {K : PySem.W.Frag} {p q a C dx : Addr} {D : Ends} {b : Bool} {o : HO} {n m : Int}
theorem c_len {ys : List V} (h : SqL K H p ys) (q : Q (.int (ys.length : Nat)) H) : rLenQ K [V.ref p] H Q := ⟨p, ys, rfl, .inl h, q⟩
theorem c_lenT {ys : List V} (h : SqT K H p ys) (q : Q (.int (ys.length : Nat)) H) : rLenQ K [V.ref p] H Q := ⟨p, ys, rfl, .inr h, q⟩
theorem c_abs (q : Q (.int (if n < 0 then -n else n)) H) : rAbsQ [V.int n] H Q := ⟨n, rfl, q⟩
theorem c_min2 (q : Q (.int (if m < n then m else n)) H) : rMin2Q [V.int n, V.int m] H Q := ⟨n, m, rfl, q⟩
theorem c_max2 (q : Q (.int (if m > n then m else n)) H) : rMax2Q [V.int n, V.int m] H Q := ⟨n, m, rfl, q⟩
theorem c_int (q : Q (.int n) H) : rIntQ [V.int n] H Q := .inl ⟨n, rfl, q⟩
theorem c_isN (q : Q (.bl (decide (x = .non))) H) : rIsNQ x .non H Q := ⟨rfl, q⟩
theorem c_notN (q : Q (.bl (!decide (x = .non))) H) : rNotNQ x .non H Q := ⟨rfl, q⟩
theorem c_isi {t u : Value} {c : V} (hc : ClsV c u) (ht : TyX K H x t) (hk : PySem.W.kitOne K t u = some b) (q : Q (.bl b) H) : rIsi K [x, c] H Q := ⟨x, c, t, u, b, rfl, hc, ht, hk, q⟩
theorem c_sum {ns : List Int} (h : SqL K H p (ns.map V.int)) (q : Q (.int ns.sum) H) : rSum K [V.ref p] H Q := ⟨p, ns, rfl, h, q⟩
theorem c_popAt {xs : List V} {k : Nat} (h : H p = some (.lst xs)) (hn : (0 : Int) ≤ n ∧ n < xs.length ∧ xs.length < 100000) (hk : n = (k : Int)) (hv : xs[k]? = some v) (q : Q v (upd H p (.lst (xs.eraseIdx k)))) : rPopAt (.ref p) [.int n] H Q := by
  refine ⟨p, xs, n, k, v, rfl, rfl, h, by omega, by omega, ?_, hv, q⟩
  subst hk
  unfold seqIndex?
  have h0 : ¬ ((k : Int) < 0) := by omega
  rw [if_neg h0]
  have h2 : (decide (0 ≤ (k : Int)) && decide ((k : Int) < (xs.length : Int))) = true := by simp; omega
  rw [if_pos h2]
  simp
/-! dicts -/
theorem w_dget (h : td σ H fun x H1 => ty σ H1 fun y H2 => ∃ a v, x = .ref a ∧ DGet H2 a y (some v) ∧ Q v H2) : tDGet td ty σ H Q := h
theorem w_dput (h : tv σ H fun v H1 => td σ H1 fun x H2 => ty σ H2 fun y H3 => ∃ a H4, x = .ref a ∧ DPut H3 a y v H4 ∧ D.nx σ H4) : sDPut td ty tv D σ H := h
theorem w_dnewT (h : ∀ p, H p = none → Q (.ref p) (upd H p (.dT []))) : tDNewT σ H Q := h
theorem w_dnewK (h : ∀ p, H p = none → Q (.ref p) (upd H p (.dK []))) : tDNewK σ H Q := h
/-! comprehensions -/
theorem w_wipe {vs : List Nat} {A : Prop} (hw : wipe σ' vs = wipe σ vs) (q : A) : wipe σ' vs = wipe σ vs ∧ A := ⟨hw, q⟩
theorem w_acc {acc : List V} {G : Hp → Prop} (h : H p = some (.lst acc)) (hz : acc.length < 100000) (q : G (upd H p (.lst (acc ++ [v])))) : ∃ acc, H p = some (.lst acc) ∧ acc.length < sizeLine ∧ G (upd H p (.lst (acc ++ [v]))) := ⟨acc, h, Nat.lt_of_lt_of_le hz (by decide), q⟩
/-! what stays of tuples -/
theorem tup_frame {xs : List V} (hf : ∀ b, b ≠ a → H' b = H b) (ha : H a = some (.lst xs)) : ∀ b ys, H b = some (.tup ys) → H' b = some (.tup ys) := fun b ys h => by
  rw [hf b (ne_of h ha (fun z => nomatch z))]
  exact h
theorem tup_upd {xs : List V} {o1 : HO} (ha : H a = some (.lst xs)) : ∀ b ys, H b = some (.tup ys) → upd H a o1 b = some (.tup ys) := fun b ys h => by
  rw [upd_ne (ne_of h ha (fun z => nomatch z))]
  exact h
theorem tup_new {o1 : HO} (ha : H a = none) : ∀ b ys, H b = some (.tup ys) → upd H a o1 b = some (.tup ys) := fun b ys h => upd_old h ha
theorem tup_frz {ob : Obj} {u o1 : HO} (ha : H a = some (.frz ob u)) : ∀ b ys, H b = some (.tup ys) → upd H a o1 b = some (.tup ys) := fun b ys h => by
  rw [upd_ne (ne_of h ha (fun z => nomatch z))]
  exact h
theorem frame_at (hf : ∀ b, b ≠ a → H' b = H b) (hn : p ≠ a) (h : H p = some o) : H' p = some o := by
  rw [hf p hn]
  exact h
theorem same_new {H0 : Hp} {o1 : HO} (h : Same H0 H) (hp : H p = none) : Same H0 (upd H p o1) := fun b o hb => upd_old (h b o hb) hp
/-- changed at p, which H0 does not know -/
theorem same_mut {H0 : Hp} {o1 : HO} (h : Same H0 H) (hp : H0 p = none) : Same H0 (upd H p o1) := fun b o hb => upd_mut (ne_of_none hb hp) (h b o hb)
end
section
variable {σ σ' : L2.St} {H H' : Hp} {Q : VK} {i : Nat} {v x y z : V} {ta tb tc te tv td ty : TE} {K : PySem.W.Frag} {p q a C dx : Addr} {D : Ends} {b : Bool} {o : HO} {n m : Int} {fs : List (Str × V)} {f mm : Str} {sp : Sp} {dvs : List V} {E : XK} {t : TA}
/-! fields, methods, instances -/
def sfldLeaf (K : PySem.W.Frag) (f : Str) (y : V) (R : Hp → Prop) (x : V) (H2 : Hp) : Prop := ∃ a C dx fs, x = .ref a ∧ H2 a = some (.ins C dx fs) ∧ Cls K C ∧ NoAttr K C f ∧ fs.length < 1000 ∧ R (upd H2 a (.ins C dx (putF f y fs)))
theorem w_sfld (h : tv σ H fun y H1 => ta σ H1 (sfldLeaf K f y (D.nx σ))) : sFld K ta tv f D σ H := h
theorem c_sfld {R : Hp → Prop} (h : H p = some (.ins C dx fs)) (hc : Cls K C) (hn : NoAttr K C f) (hl : fs.length < 1000) (q : R (upd H p (.ins C dx (putF f y fs)))) : sfldLeaf K f y R (.ref p) H := ⟨p, C, dx, fs, rfl, h, hc, hn, hl, q⟩
def methLeaf (C : Addr) (mm : Str) (sp : Sp) (dvs : List V) (E : XK) (t : TA) (σ : L2.St) (Q : VK) (x : V) (H1 : Hp) : Prop := ∃ a dx fs, x = .ref a ∧ H1 a = some (.ins C dx fs) ∧ fs.lookup mm = none ∧ t σ H1 fun vs H2 => sp (x :: (vs ++ dvs)) H2 Q E
theorem w_meth (h : ta σ H (methLeaf C mm sp dvs E t σ Q)) : tMeth C mm sp dvs E ta t σ H Q := h
theorem c_meth (h : H p = some (.ins C dx fs)) (hl : fs.lookup mm = none) (q : t σ H fun vs H2 => sp (.ref p :: (vs ++ dvs)) H2 Q E) : methLeaf C mm sp dvs E t σ Q (.ref p) H := ⟨p, dx, fs, rfl, h, hl, q⟩
def makeLeaf (C : Addr) (sp : Sp) (dvs : List V) (E : XK) (Q : VK) (vs : List V) (H1 : Hp) : Prop := ∀ x dx, H1 x = none → H1 dx = none → dx ≠ x → sp (.ref x :: (vs ++ dvs)) (upd (upd H1 dx (.own x)) x (.ins C dx [])) (fun v H2 => v = .non ∧ Q (.ref x) H2) E
theorem w_make {t : TA} (h : t σ H (makeLeaf C sp dvs E Q)) : tMake C sp dvs E t σ H Q := h
end
section
variable {X : Cx}
theorem peE {e : Expr} {t t' : TE} (h : PE X e t) (q : t = t') : PE X e t' := q ▸ h
theorem ptsE {e : List Expr} {t t' : TT} (h : PTs X e t) (q : t = t') : PTs X e t' := q ▸ h
theorem pgE {e : Expr} {t t' : TG} (h : PG X e t) (q : t = t') : PG X e t' := q ▸ h
end
end Eg

/-! DTx: dicts whose keys are tuples: comprehensions that make them, == and != of two, sorted of one. -/
namespace DTx
open PySem PySem.Spec PyProof.Rows L2
/-- a pair put into the dict of a comprehension, its key a tuple that stands -/
theorem d_putT {X : Cx} {pins : List (Addr × Obj)} {σ : L2.St} {H : Hp} {s : Shared} {E : Value → Shared → Prop} {D c : Addr} {ps : List (List Key × V)} {k : List Key} {y : V} {u r : Value} {Q : Unit → Shared → Prop} (hu : X.A.units < cLine) (I : Inv X pins σ H s)
    (hD : H D = some (.dT ps)) (hz : ps.length < sizeLine) (hc : H c = some (.tup (k.map kV))) (ru : RelV (.ref c) u) (ry : RelV y r) (q : ∀ s', Inv X pins σ (upd H D (.dT (putK ps k y))) s' → Q () s') :
    wpAny (model X.prog X.w) X.A (dictSet D u r) Q E s := by
  cases (show u = Value.ref c from ru)
  obtain ⟨z, hs, es, rel, dd⟩ := dt_of I.hok hD
  have hl : (putK ps k y).length ≤ sizeLine := by
    have := length_putK ps k y
    omega
  have hn : es.length ≤ sizeLine := by
    rw [← Paired.length rel]
    exact z
  refine wpAny_dictSet_heap (knd := tupleKind (mixKind X.prog X.w)) hu (key_of I.hok hc) dd (fun h' d2 sb => q _ ?_) hn
  obtain ⟨ob, fs, ep, g1, g2, g3, g4, _, g6⟩ := d2
  refine d_write I (by rw [hD]; trivial) sb ⟨ob, g1⟩ ⟨hl, hs, _, KT.keeps (KT.put rel k hc ry) fun b ys e => ?_, ob, fs, ep, g1, g2, g3, g4, g6⟩
  rw [upd_ne (ne_of e hD fun z => nomatch z)]
  exact e
/-- the reading of such a comprehension -/
def tDt (wi : TI) (g : TG) (tt : TT) (tk tv : TE) (vs : List Nat) : TE := fun σ H Q => wi σ H fun J H1 => ∀ D, H1 D = none →
  ∃ W : Nat → Nat → Hp → Prop, (∃ m, W 0 m (upd H1 D (.dT []))) ∧ ∀ i m H, W i m H → (J.stop i H ∧ Q (.ref D) H) ∨
    (J.go i H ∧ ∃ Nx : Hp → Prop, (∀ H', Nx H' → ∃ m', m' < m ∧ W (i + 1) m' H') ∧ ∀ x H', J.yld i H x H' → g x (wipe σ vs) H' fun σ2 H2 => wipe σ2 vs = wipe σ vs ∧ tt σ2 H2 fun b H3 =>
      if b = true then tk σ2 H3 fun y H4 => tv σ2 H4 fun z H5 => ∃ ps k c, y = .ref c ∧ H5 c = some (.tup (k.map kV)) ∧ H5 D = some (.dT ps) ∧ ps.length < sizeLine ∧ Nx (upd H5 D (.dT (putK ps k z))) else Nx H3)
section
variable {X : Cx}
/-- the block of a comprehension, in short -/
abbrev InBlk (X : Cx) (scope : Scope) (φ : Cx → Prop) : Prop := ∀ (s : Shared) (H : Hp) (C : Addr) (cl : List (Str × Addr)) (fp : List Addr), φ (X.blk s H scope (compEnvC scope cl C X.env) fp)
theorem dc_core {pins : List (Addr × Obj)} {s : Shared} {σ : L2.St} {H : Hp} {Q : VK} {kx vx tg iter : Expr} {ifs : List Expr} {scope : Scope} {own : List (Str × Nat)} {pos pos' : Pos} {wi : TI} {g : TG} {tt : TT} {tk tv : TE} {use : Option (Value → Sem Unit)} {Qf : Value → Shared → Prop}
    (hu : X.A.units < cLine) (calm : X.calm = true) (nd : X.N.Nodup) (I : Inv X pins σ H s) (hi : PI X tg iter wi) (ok : BlkOk X.N X.env.scope scope own)
    (hg : InBlk X scope fun Y => PG Y tg g) (ht : InBlk X scope fun Y => PTs Y ifs tt) (hk : InBlk X scope fun Y => PE Y kx tk) (hv : InBlk X scope fun Y => PE Y vx tv) (hs : ∀ x, foldedSetIterable iter X.env x = pure x)
    (h : tDt wi g tt tk tv (own.map (·.2)) σ H Q)
    (hRR : ∀ D C s' m H', Inv X pins σ H' s' → Q (.ref D) H' → s'.heap.Ns C m → FpOk X pins H' C → compPost (model X.prog X.w) X.A X.xe use Qf (.ref D) C (.ok .next) s') :
    wpAny (model X.prog X.w) X.A (comprehension (.DictComp kx vx [⟨tg, iter, ifs, 0⟩] scope pos) scope X.env pos' newDict false (eval iter X.env) use) Qf X.xe s := by
  have cells : ∀ y ∈ scope.names, y.2 = .free → ∃ c, X.env.cells.lookup y.1 = some c := fun y hy e => (ok.free y hy e).elim (fun k => I.ok.has _ (.inl k)) fun k => I.ok.has _ (.inr k)
  refine wpAny_comprehension_free (use := use) rfl hs (closure_ok cells) ok.kind (fun y hy e => by rw [ok.uniq y hy, e]) (thn (hi.run pins s σ H _ I h) fun xv s1 hx => thn hx fun itv s2 h2 => ?_)
  obtain ⟨it, fp, tn, J, H2, rfl, I2, T, t2, f2, q⟩ := h2
  refine wpAny_newObj_type (newEnv_comp ?_)
  -- the new dict, at D
  obtain ⟨D, hD⟩ : ∃ D, s2.heap.objs.size = D := ⟨_, rfl⟩
  obtain ⟨W, ⟨m0, w0⟩, turn⟩ := q D (I2.hok.fresh (Nat.le_of_eq hD))
  obtain ⟨s3, es3⟩ : ∃ s3 : Shared, { s2 with heap := s2.heap.push { cls := .type "dict", data := .dict #[] } } = s3 := ⟨_, rfl⟩
  have J3 : Inv X pins σ (upd H2 D (.dT [])) s3 := by
    rw [← es3, ← hD]
    exact I2.laid (t' := s2.toks) (fun b o e => Heap.get?_push_of_some _ e) (Nat.le_refl _) (dt_empty s2.heap I2.big)
  have hp3 : s3.heap = s2.heap.push { cls := .type "dict", data := .dict #[] } := by rw [← es3]
  have low : ∀ b ∈ fp, b < s2.heap.objs.size := fun b hb => let ⟨_, e, _⟩ := T.obj _ _ t2 b hb; Heap.lt_size e
  have F3 : ∀ b ∈ fp, FpOk X pins (upd H2 D (.dT [])) b ∧ b < s3.heap.objs.size := fun b hb => by
    refine ⟨⟨?_, (f2 b hb).2⟩, ?_⟩
    · rw [upd_ne (by rw [← hD]; exact Nat.ne_of_lt (low b hb))]
      exact (f2 b hb).1
    · rw [hp3, Heap.size_push]
      exact Nat.lt_succ_of_lt (low b hb)
  have t3 : tn 0 s3.heap := T.keep _ _ _ t2 fun b _ o e => by
    rw [hp3]
    exact Heap.get?_push_of_some _ e
  have J4 := block_start J3 ok nd F3
  -- the block's context
  show codeAny _ _ (.compStart (.DictComp kx vx [⟨tg, iter, ifs, 0⟩] scope pos) 0 (.ref it) (.ref s2.heap.objs.size) _) _ _
  rw [hD]
  show codeAny _ _ (.compStart _ 0 (.ref it) (.ref D) (compEnvC scope (cellsFrom (s2.heap.push { cls := .type "dict", data := .dict #[] } |>.objs.size.succ) scope.names (cloFrom X.env.cells scope.names [])) (s2.heap.push { cls := .type "dict", data := .dict #[] }).objs.size X.env)) _
    { s2 with heap := pushCells ((s2.heap.push { cls := .type "dict", data := .dict #[] }).push { cls := .type "dict", data := .dict #[] }) scope.names }
  rw [← hp3]
  have Fn : ∀ b ∈ fp, (upd H2 D (.dT [])) b = none := fun b hb => (F3 b hb).1.1
  have Pg := hg s3 (upd H2 D (.dT [])) s3.heap.objs.size (cellsFrom (s3.heap.objs.size + 1) scope.names (cloFrom X.env.cells scope.names [])) fp
  have Pt := ht s3 (upd H2 D (.dT [])) s3.heap.objs.size (cellsFrom (s3.heap.objs.size + 1) scope.names (cloFrom X.env.cells scope.names [])) fp
  have Pk := hk s3 (upd H2 D (.dT [])) s3.heap.objs.size (cellsFrom (s3.heap.objs.size + 1) scope.names (cloFrom X.env.cells scope.names [])) fp
  have Pv := hv s3 (upd H2 D (.dT [])) s3.heap.objs.size (cellsFrom (s3.heap.objs.size + 1) scope.names (cloFrom X.env.cells scope.names [])) fp
  have e24 : ({ s2 with heap := pushCells (s3.heap.push { cls := .type "dict", data := .dict #[] }) scope.names } : Shared) = { s3 with heap := pushCells (s3.heap.push { cls := .type "dict", data := .dict #[] }) scope.names } := by rw [← es3]
  rw [e24]
  generalize ece : compEnvC scope (cellsFrom (s3.heap.objs.size + 1) scope.names (cloFrom X.env.cells scope.names [])) s3.heap.objs.size X.env = ce at J4 Pg Pt Pk Pv ⊢
  have eL : ce.locals = s3.heap.objs.size := by rw [← ece]; rfl
  generalize eH3 : upd H2 D (.dT []) = H3 at J3 J4 Pg Pt Pk Pv w0 Fn F3
  generalize es4 : ({ s3 with heap := pushCells (s3.heap.push { cls := .type "dict", data := .dict #[] }) scope.names } : Shared) = s4 at J4 ⊢
  have t4 : tn 0 s4.heap := T.keep _ _ _ t3 fun b _ o e => by
    rw [← es4]
    exact pushCells_keeps _ _ _ _ (Heap.get?_push_of_some _ e)
  have still : ∀ {σ' : L2.St} {H' : Hp} {s' : Shared}, Inv (X.blk s3 H3 scope ce fp) [] σ' H' s' → (∀ b ∈ fp, H' b = none) → ∀ b ∈ fp, FpOk (X.blk s3 H3 scope ce fp) [] H' b := fun K hn b hb =>
    ⟨hn b hb, (K.ok.exf b hb).1, K.ok.exfs b hb, .inl hb, fun x c e => (K.ok.exf b hb).2 x c e, fun p hp => absurd (show p ∈ ([] : List (Addr × Obj)) ++ [] from hp) (by simp)⟩
  have back : ∀ {H' : Hp} {s' : Shared}, Inv (X.blk s3 H3 scope ce fp) [] (wipe σ (own.map (·.2))) H' s' → Q (.ref D) H' → compPost (model X.prog X.w) X.A X.xe use Qf (.ref D) s3.heap.objs.size (.ok .next) s' := fun {H' s'} K qq => by
    have L : Inv X pins σ H' s' := J3.call' (ch := fp) K.os K.base K.hok K.bare fun b hb => ⟨(F3 b hb).1.2.2.2.1, (F3 b hb).1.2.1, (F3 b hb).1.2.2.2.2.1, (F3 b hb).1.2.2.2.2.2⟩
    have nC : H' s3.heap.objs.size = none := by
      have z : H' ce.locals = none := K.free
      rw [eL] at z
      exact z
    obtain ⟨m, hn, _⟩ := K.loc
    have hm : s'.heap.Ns ce.locals m := hn
    rw [eL] at hm
    exact hRR D s3.heap.objs.size s' m H' L qq hm (J3.fpOk (Nat.le_refl _) nC)
  have loop : codeAny (model X.prog X.w) X.A (.compLoop (.DictComp kx vx [⟨tg, iter, ifs, 0⟩] scope pos) 0 (.ref it) (.ref D) ce) (compPost (model X.prog X.w) X.A X.xe use Qf (.ref D) s3.heap.objs.size) s4 := by
    refine compLoop_anyD (fun n s' => ∃ i H', Inv (X.blk s3 H3 scope ce fp) [] (wipe σ (own.map (·.2))) H' s' ∧ tn i s'.heap ∧ (∀ b ∈ fp, H' b = none) ∧ W i n H') ?_ m0 ⟨0, H3, J4, t4, Fn, w0⟩
    rintro n s5 ⟨i, H5, J5, t5, n5, w5⟩
    rcases turn i n H5 w5 with ⟨stop, qq⟩ | ⟨go, Nx, hNx, step⟩
    · refine thnF (T.done (X.blk s3 H3 scope ce fp) rfl rfl rfl calm i [] s5 _ H5 (fun _ _ => False) J5 (still J5 n5) t5 stop) fun r s6 ⟨hr, J6⟩ => ?_
      subst hr
      exact back J6 qq
    · refine thnF (T.item (X.blk s3 H3 scope ce fp) rfl rfl rfl calm i [] s5 _ H5 (fun _ _ => False) J5 (still J5 n5) t5 go) fun r s6 ⟨u, hr, h6⟩ => ?_
      subst hr
      refine thnF h6 fun _ s7 ⟨x, H7, J7, r7, y7, t7, n7⟩ => ?_
      refine thnF (Pg.run _ s7 _ H7 x u _ (J7.pinned (still J7 n7) (T.obj _ _ t7)) r7 (step x H7 y7)) fun _ s8 ⟨σ8, H8, J8, w8, q8⟩ => ?_
      refine thnF (Pt.run _ s8 σ8 H8 _ J8 q8) fun b s9 ⟨H9, J9, q9⟩ => ?_
      have fin : ∀ {s' : Shared} {H' : Hp}, Inv (X.blk s3 H3 scope ce fp) ([] ++ pinsAt fp s7.heap) σ8 H' s' → Nx H' →
          ∃ m, m < n ∧ ∃ i H', Inv (X.blk s3 H3 scope ce fp) [] (wipe σ (own.map (·.2))) H' s' ∧ tn i s'.heap ∧ (∀ b ∈ fp, H' b = none) ∧ W i m H' := fun {s' H'} K nx => by
        obtain ⟨m', hm, w'⟩ := hNx H' nx
        have stood : ∀ b ∈ fp, ∀ o, s7.heap.get? b = some o → s'.heap.get? b = some o ∧ H' b = none := fun b hb o e =>
          have z := K.pin (b, o) (List.mem_append_right _ (List.mem_append_right _ (mem_pinsAt hb e)))
          ⟨z.1, z.2.1⟩
        refine ⟨m', hm, i + 1, H', (K.unpinned (pins := [])).weak (by rw [← w8, wipe_length]) (fun j v e => ?_), T.keep _ _ _ t7 fun b hb o e => (stood b hb o e).1, fun b hb => ?_, w'⟩
        · rw [← w8] at e
          exact (wipe_some e).1
        · obtain ⟨o, e, _⟩ := T.obj _ _ t7 b hb
          exact (stood b hb o e).2
      cases b with
      | false =>
        simp only [Bool.false_eq_true, if_false] at q9 ⊢
        exact fin J9 q9
      | true =>
        simp only [if_true] at q9 ⊢
        refine thnF (Pk.run _ s9 σ8 H9 _ J9 q9) fun z s10 ⟨yk, H10, J10, r10, q10⟩ => ?_
        refine thnF (Pv.run _ s10 σ8 H10 _ J10 q10) fun z2 s11 ⟨yv, H11, J11, r11, ps, k, c, ek, hcK, hD11, hz11, nx⟩ => ?_
        subst ek
        exact d_putT (X := X.blk s3 H3 scope ce fp) hu J11 hD11 hz11 hcK r10 r11 fun s12 J12 => fin J12 nx
  exact codeAny_compStart_dict loop (T.self X.A 0 _ _ _ t4 loop)
theorem pe_dcT {kx vx tg iter : Expr} {ifs : List Expr} {scope : Scope} {own : List (Str × Nat)} {pos : Pos} {wi : TI} {g : TG} {tt : TT} {tk tv : TE} (hu : X.A.units < cLine) (calm : X.calm = true) (nd : X.N.Nodup) (hi : PI X tg iter wi) (ok : BlkOk X.N X.env.scope scope own)
    (hg : InBlk X scope fun Y => PG Y tg g) (ht : InBlk X scope fun Y => PTs Y ifs tt) (hk : InBlk X scope fun Y => PE Y kx tk) (hv : InBlk X scope fun Y => PE Y vx tv) (hs : ∀ x, foldedSetIterable iter X.env x = pure x := by intro _; rfl) :
    PE X (.DictComp kx vx [⟨tg, iter, ifs, 0⟩] scope pos) (tDt wi g tt tk tv (own.map (·.2))) := by
  refine ⟨fun pins s σ H Q I h => ?_⟩
  rw [arm_eval_DictComp]
  refine dc_core hu calm nd I hi ok hg ht hk hv hs h fun D C s' m H' L q hn f => ⟨m, hn, fun h'' sb => ?_⟩
  obtain ⟨f0, f1, f2, f3, f4, f5⟩ := f
  exact ⟨.ref D, H', L.turned (t' := s'.toks) (fun b o hb e => (sb.2 b hb).trans e) f0 f1 f3 f4 f5, rfl, q⟩
/-- name = {..} on one line, the name a local -/
theorem ps_setDcT {i : Nat} {y : Str} {py : Pos} {kx vx tg iter : Expr} {ifs : List Expr} {scope : Scope} {own : List (Str × Nat)} {pos spos : Pos} {wi : TI} {g : TG} {tt : TT} {tk tv : TE} (hu : X.A.units < cLine) (calm : X.calm = true) (nd : X.N.Nodup) (hy : X.N[i]? = some y) (hyl : X.env.scope.names.lookup y = some .local)
    (hsw : swapsWith (.DictComp kx vx [⟨tg, iter, ifs, 0⟩] scope pos) (some (.Name y py)) spos.line X.env = pure true) (hi : PI X tg iter wi) (ok : BlkOk X.N X.env.scope scope own)
    (hg : InBlk X scope fun Y => PG Y tg g) (ht : InBlk X scope fun Y => PTs Y ifs tt) (hk : InBlk X scope fun Y => PE Y kx tk) (hv : InBlk X scope fun Y => PE Y vx tv) (hs : ∀ x, foldedSetIterable iter X.env x = pure x := by intro _; rfl) :
    PS X (.Assign [.Name y py] (.DictComp kx vx [⟨tg, iter, ifs, 0⟩] scope pos) spos) (tAsg (tDt wi g tt tk tv (own.map (·.2))) (gName i)) := by
  refine ⟨fun pins s σ H D I h => ?_⟩
  rw [exec_Assign_Name_used _ _ _ _ hsw]
  refine wpAny_bind (wpAny_standAt (wpAny_bind ?_))
  show wpAny _ X.A (do let _ ← comprehension (.DictComp kx vx [⟨tg, iter, ifs, 0⟩] scope pos) scope X.env (firstIterPos [⟨tg, iter, ifs, 0⟩] pos) newDict false (eval iter X.env) (some (assign (.Name y py) X.env))) _ _ s
  have h : tDt wi g tt tk tv (own.map (·.2)) σ H (fun x H1 => gName i x σ H1 D.nx) := h
  refine wpAny_bind (thn (dc_core (Qf := fun _ s' => SP X pins D .next s') hu calm nd I hi ok hg ht hk hv hs h fun L C s' m H' I' q hn f => ?_) fun _ s' hq => wpAny_pure (wpAny_pure hq))
  show wpAny _ _ (assign (.Name y py) X.env (.ref L)) _ _ _
  refine wpAny_assign_Name (store_ok2 (v := V.ref L) I' nd hy (.inl hyl) rfl (fun s2 I2 ⟨a, sb, ha⟩ => ?_) (.inr hyl))
  obtain ⟨f0, f1, f2, f3, f4, f5⟩ := f
  have haC : C ≠ a := by
    rcases ha with z | z
    · rw [z]; exact f1
    · exact fun e => f4 y a z e.symm
  refine ⟨m, hn.sameBut sb haC, fun h3 sb3 => ?_⟩
  exact ⟨_, H', I2.turned (t' := s2.toks) (fun b o hb e => (sb3.2 b hb).trans e) f0 f1 f3 f4 f5, q⟩
theorem sw_trueD {kx vx : Expr} {gs : List Comprehension} {scope : Scope} {pos py : Pos} {y : Str} {l : Nat} {env : Env} (hk : env.scope.kind = .function) (hy : env.scope.names.lookup y = some .local) (hl : (py.line == pos.line) = true)
    (ha : (scope.names.any fun (n, k) => n == y && (k == .local || k == .cell)) = false) : swapsWith (.DictComp kx vx gs scope pos) (some (.Name y py)) l env = pure true := by
  have ky : env.kindOf y = some .local := hy
  have hb : env.blockKind = .function := by unfold Env.blockKind; rw [hk]; rfl
  unfold swapsWith
  simp only [hb, ky, ha, Expr.pos, hl]
  rfl
/-- walked by anything -/
theorem dt_it {J : It} {n : Nat} {G : Hp → Prop} {Y : Nat → Hp → V → Hp → Prop} (w : Walk J n G Y) {g : TG} {tt : TT} {tk tv : TE} {vs : List Nat} {σ : L2.St} {H1 : Hp} {D : Addr} {Qd : Hp → Prop} (Pv : Nat → Hp → Prop) (h0 : Pv 0 (upd H1 D (.dT []))) (hG : ∀ i H, i ≤ n → Pv i H → G H)
    (turn : ∀ i x H H', i < n → Pv i H → Y i H x H' → g x (wipe σ vs) H' fun σ2 H2 => wipe σ2 vs = wipe σ vs ∧ tt σ2 H2 fun b H3 =>
      if b = true then tk σ2 H3 fun y H4 => tv σ2 H4 fun z H5 => ∃ ps k c, y = .ref c ∧ H5 c = some (.tup (k.map kV)) ∧ H5 D = some (.dT ps) ∧ ps.length < sizeLine ∧ Pv (i + 1) (upd H5 D (.dT (putK ps k z))) else Pv (i + 1) H3) (done : ∀ H, Pv n H → Qd H) :
    ∃ W : Nat → Nat → Hp → Prop, (∃ m, W 0 m (upd H1 D (.dT []))) ∧ ∀ i m H, W i m H → (J.stop i H ∧ Qd H) ∨ (J.go i H ∧ ∃ Nx : Hp → Prop, (∀ H', Nx H' → ∃ m', m' < m ∧ W (i + 1) m' H') ∧ ∀ x H', J.yld i H x H' → g x (wipe σ vs) H' fun σ2 H2 => wipe σ2 vs = wipe σ vs ∧ tt σ2 H2 fun b H3 =>
      if b = true then tk σ2 H3 fun y H4 => tv σ2 H4 fun z H5 => ∃ ps k c, y = .ref c ∧ H5 c = some (.tup (k.map kV)) ∧ H5 D = some (.dT ps) ∧ ps.length < sizeLine ∧ Nx (upd H5 D (.dT (putK ps k z))) else Nx H3) := by
  refine ⟨fun i m H => m + i = n ∧ Pv i H, ⟨n, rfl, h0⟩, fun i m H hw => ?_⟩
  obtain ⟨hm, p⟩ := hw
  by_cases hi : i < n
  · refine .inr ⟨w.goes i H hi (hG i H (by omega) p), Pv (i + 1), fun H' p' => ⟨m - 1, by omega, by omega, p'⟩, fun x H' y => ?_⟩
    exact turn i x H H' hi p (w.yields i H x H' hi (hG i H (by omega) p) y)
  · have e : i = n := by omega
    subst e
    exact .inl ⟨w.stops H (hG i H (Nat.le_refl _) p), done H p⟩
end
end DTx

/-! DTx: == and != of two dicts with tuple keys and int values; sorted of such a dict. -/
namespace DTx
open PySem PySem.Spec PyProof.Rows L2 PySem.Calls
section
variable {prog : Program} {w : World} {T : Type} [DecidableEq T] {knd : HeapKind prog w T} {A : Around} {E : Value → Shared → Prop} {s : Shared}
/-- the ints that stand as values -/
def intV : Value → Option Int
  | .int i _ => some i
  | _ => none
/-- whether all pairs of one stand in the other -/
def subD (xs ys : List (T × Addr × Value)) : Bool := xs.all fun x => decide (((atKey ys x.1).map fun p => intV p.2) = some (intV x.2.2))
theorem atKey_some {ys : List (T × Addr × Value)} {k : T} {j : Nat} {p : Addr × Value} (hn : (ys.map (·.1)).Nodup) (h : ys[j]? = some (k, p)) : atKey ys k = some p := by
  induction ys generalizing j with
  | nil => simp at h
  | cons y r ih =>
    have hn' : (y.1 :: r.map (·.1)).Nodup := hn
    obtain ⟨h1, h2⟩ := List.nodup_cons.mp hn'
    cases j with
    | zero =>
      have e : y = (k, p) := Option.some.inj h
      subst e
      simp [atKey]
    | succ j =>
      have e : r[j]? = some (k, p) := h
      have hm : k ∈ r.map (·.1) := List.mem_map.mpr ⟨(k, p), List.mem_of_getElem? e, rfl⟩
      have hne : ¬ y.1 = k := fun z => h1 (z ▸ hm)
      have := ih h2 e
      simp only [atKey, List.find?_cons] at this ⊢
      rw [decide_eq_false hne]
      exact this
theorem atKey_none {ys : List (T × Addr × Value)} {k : T} (h : ∀ (j : Nat) (p : Addr × Value), ys[j]? ≠ some (k, p)) : atKey ys k = none := by
  unfold atKey
  rw [Option.map_eq_none_iff, List.find?_eq_none]
  intro x hx e
  obtain ⟨j, hj⟩ := List.mem_iff_getElem?.mp hx
  have e2 : x.1 = k := of_decide_eq_true e
  exact h j x.2 (by rw [hj, ← e2])
theorem samePairs_heap {nm : String} {a b : Addr} {xs ys : List (T × Addr × Value)} {Q : Bool → Shared → Prop} (hu : knd.room A) (ha : (a == sysModules) = false) (hb : (b == sysModules) = false) (da : s.heap.DictOfH knd a xs) (db : s.heap.DictOfH knd b ys)
    (ix : ∀ x ∈ xs, ∃ i t, x.2.2 = Value.int i t) (iy : ∀ y ∈ ys, ∃ i t, y.2.2 = Value.int i t) (h : Q (xs.length == ys.length && subD xs ys) s) : wpAny (model prog w) A (Builtin.Dict.samePairs nm a b) Q E s := by
  obtain ⟨oa, es, ep, a1, _, a3, a4, a5, a6⟩ := da
  obtain ⟨ob, fs, fp, b1, _, b3, b4, b5, b6⟩ := db
  have la : es.size = xs.length := size_of_entries a4
  have lb : fs.size = ys.length := size_of_entries b4
  unfold Builtin.Dict.samePairs Builtin.Dict.showsAll
  rw [ha, hb, if_neg Bool.false_ne_true]
  refine wpAny_bind (wpAny_pure (wpAny_bind (wpAny_pure (wpAny_bind (wpAny_dictEntries a1 a3 ?_)))))
  dsimp only
  refine wpAny_bind (wpAny_dictEntries b1 b3 ?_)
  by_cases hz : es.size = fs.size
  · have hz' : (xs.length == ys.length) = true := by simp [← la, ← lb, hz]
    rw [hz', Bool.true_and] at h
    rw [if_neg (by rw [hz]; simp)]
    refine wpAny_bind (wpAny_dictEpoch a1 a3 (wpAny_bind ?_))
    rw [Std.Legacy.Range.forIn_eq_forIn_range']
    simp only [Std.Legacy.Range.size, Nat.sub_zero, Nat.add_sub_cancel, Nat.div_one]
    refine wpAny_forIn_list _ (fun rest q s' => s' = s ∧ q = (none, ()) ∧ ∃ i, i ≤ es.size ∧ rest = List.range' i (es.size - i) ∧ subD (xs.drop i) ys = subD xs ys) _ ?_ ?_ _ _ ⟨rfl, rfl, 0, Nat.zero_le _, by simp, rfl⟩
    · rintro j rest q s' ⟨rfl, rfl, i, hi, hr, hd⟩
      have hlt : i < es.size := by
        rcases Nat.lt_or_ge i es.size with z | z
        · exact z
        · rw [Nat.sub_eq_zero_of_le z] at hr
          simp at hr
      have er : es.size - i = (es.size - (i + 1)) + 1 := by omega
      rw [er, List.range'_succ] at hr
      injection hr with e1 e2
      subst e1
      refine wpAny_bind (wpAny_dictEntries a1 a3 ?_)
      obtain ⟨k, c, v, hx⟩ : ∃ k c v, xs[j]? = some (k, c, v) := by
        have hl : j < xs.length := by omega
        exact ⟨_, _, _, List.getElem?_eq_getElem hl⟩
      rw [entry_at a4 j, hx]
      have hm := List.mem_of_getElem? hx
      have hcut : xs.drop j = (k, c, v) :: xs.drop (j + 1) := by
        obtain ⟨hl, e⟩ := List.getElem?_eq_some_iff.mp hx
        rw [← e]
        exact List.drop_eq_getElem_cons hl
      obtain ⟨i1, t1, ev⟩ := ix _ hm
      have ev : v = Value.int i1 t1 := ev
      subst ev
      have hc : subD (xs.drop j) ys = (decide (((atKey ys k).map fun p => intV p.2) = some (some i1)) && subD (xs.drop (j + 1)) ys) := by rw [hcut]; rfl
      rw [hc] at hd
      show wpAny _ _ (holding [(entryOfKey knd (k, c, Value.int i1 t1)).key, (entryOfKey knd (k, c, Value.int i1 t1)).val] _ >>= _) _ _ _
      refine wpAny_bind (wpAny_holding (wpAny_bind (wpAny_dictFind_heap hu (a5 _ hm) b1 b3 b4 b5 b6 (fun no => ?_) fun m p hmp => ?_)))
      · refine wpAny_pure ?_
        rw [atKey_none no] at hd
        have hd' : false = subD xs ys := hd
        rw [← hd'] at h
        show wpAny _ _ (if (!false) = true then _ else _) _ _ _
        rw [if_pos (by decide)]
        exact wpAny_pure (wpAny_pure h)
      · obtain ⟨c2, v2⟩ := p
        obtain ⟨i2, t2, ev⟩ := iy _ (List.mem_of_getElem? hmp)
        have ev : v2 = Value.int i2 t2 := ev
        subst ev
        rw [atKey_some b6 hmp] at hd
        refine wpAny_bind (wpAny_dictEntries b1 b3 ?_)
        rw [entry_at b4 m, hmp]
        refine wpAny_holding ?_
        show wpAny _ _ (eqBool (Value.int i1 t1) (Value.int i2 t2)) _ _ _
        refine wpAny_eqBool_int ?_
        by_cases e : i1 = i2
        · subst e
          have hd' : subD (xs.drop (j + 1)) ys = subD xs ys := by
            rw [← hd]
            simp [intV]
          rw [beq_self_eq_true]
          show wpAny _ _ (if (!true) = true then _ else _) _ _ _
          rw [if_neg (by decide)]
          refine wpAny_bind (wpAny_dictEpoch a1 a3 ?_)
          rw [if_neg (by simp)]
          exact wpAny_pure ⟨rfl, rfl, j + 1, hlt, e2, hd'⟩
        · have hd' : subD xs ys = false := by
            rw [← hd]
            simp [intV, Ne.symm e]
          rw [beq_eq_false_iff_ne.mpr e]
          rw [hd'] at h
          show wpAny _ _ (if (!false) = true then _ else _) _ _ _
          rw [if_pos (by decide)]
          exact wpAny_pure (wpAny_pure h)
    · rintro q s' ⟨rfl, rfl, i, hi, hr, hd⟩
      have ei : i = es.size := by
        rcases Nat.lt_or_ge i es.size with z | z
        · have er : es.size - i = (es.size - (i + 1)) + 1 := by omega
          rw [er, List.range'_succ] at hr
          exact nomatch hr
        · exact Nat.le_antisymm hi z
      refine wpAny_pure ?_
      rw [ei, la, List.drop_length] at hd
      have hd' : true = subD xs ys := hd
      rw [← hd'] at h
      exact h
  · have hz' : (xs.length == ys.length) = false := by
      rw [← la, ← lb]
      simpa using hz
    rw [if_pos (by simpa using hz)]
    rw [hz', Bool.false_and] at h
    exact wpAny_bind (wpAny_rule (wpAny_pure h))
theorem eq_heap {a b : Addr} {xs ys : List (T × Addr × Value)} {Q : Value → Shared → Prop} (hu : knd.room A.in1) (hw : A.units < cLine) (ha : (a == sysModules) = false) (hb : (b == sysModules) = false) (ta : s.TypeIs (.ref a) "dict") (tb : s.TypeIs (.ref b) "dict") (da : s.heap.DictOfH knd a xs) (db : s.heap.DictOfH knd b ys)
    (ix : ∀ x ∈ xs, ∃ i t, x.2.2 = Value.int i t) (iy : ∀ y ∈ ys, ∃ i t, y.2.2 = Value.int i t) (h : Q (.bool (xs.length == ys.length && subD xs ys)) s) : wpAny (model prog w) A (compareOp .Eq (.ref a) (.ref b)) Q E s := by
  refine wpAny_richCompare_same_room (op := .Eq) ta tb PySem.F.slot_dict_eq (wpAny_call_entry PySem.F.slot_dict_eq ta PySem.F.entry_dict_eq ?_ (PySem.F.args_dict_eq_2 _ _)) hw
  show wpAny _ _ (Builtin.Dict.dictSlotArgs "__eq__" ⟨[.ref a, .ref b], []⟩ >>= _) _ _ s
  unfold Builtin.Dict.dictSlotArgs
  refine wpAny_bind (wpAny_bind (wpAny_notOrdered_dict ta ?_))
  refine (show wpAny _ _ (pure (Value.ref a, Value.ref b)) _ _ s from wpAny_pure (wpAny_bind (wpAny_isInstance (T := "dict") tb PySem.F.sub_dict_dict ?_)))
  rw [Bool.not_true, if_neg Bool.false_ne_true]
  refine wpAny_bind (wpAny_pure (wpAny_bind (wpAny_pure (wpAny_bind (samePairs_heap hu ha hb da db ix iy (wpAny_pure ⟨_, rfl, (fun z => nomatch z), ?_⟩))))))
  simpa using h
theorem ne_heap {a b : Addr} {xs ys : List (T × Addr × Value)} {Q : Value → Shared → Prop} (hu : knd.room A.in1) (hw : A.units < cLine) (ha : (a == sysModules) = false) (hb : (b == sysModules) = false) (ta : s.TypeIs (.ref a) "dict") (tb : s.TypeIs (.ref b) "dict") (da : s.heap.DictOfH knd a xs) (db : s.heap.DictOfH knd b ys)
    (ix : ∀ x ∈ xs, ∃ i t, x.2.2 = Value.int i t) (iy : ∀ y ∈ ys, ∃ i t, y.2.2 = Value.int i t) (h : Q (.bool (!(xs.length == ys.length && subD xs ys))) s) : wpAny (model prog w) A (compareOp .NotEq (.ref a) (.ref b)) Q E s := by
  refine wpAny_richCompare_same_room (op := .NotEq) ta tb PySem.F.slot_dict_ne (wpAny_call_entry PySem.F.slot_dict_ne ta PySem.F.entry_dict_ne ?_ (PySem.F.args_dict_ne_2 _ _)) hw
  show wpAny _ _ (Builtin.Dict.dictSlotArgs "__ne__" ⟨[.ref a, .ref b], []⟩ >>= _) _ _ s
  unfold Builtin.Dict.dictSlotArgs
  refine wpAny_bind (wpAny_bind (wpAny_notOrdered_dict ta ?_))
  refine (show wpAny _ _ (pure (Value.ref a, Value.ref b)) _ _ s from wpAny_pure (wpAny_bind (wpAny_isInstance (T := "dict") tb PySem.F.sub_dict_dict ?_)))
  rw [Bool.not_true, if_neg Bool.false_ne_true]
  refine wpAny_bind (wpAny_pure (wpAny_bind (wpAny_pure (wpAny_bind (samePairs_heap hu ha hb da db ix iy (wpAny_pure ⟨_, rfl, (fun z => nomatch z), ?_⟩))))))
  simpa using h
end
/-! over the layer -/
theorem pair_at {α β : Type} {F : α → β → Prop} {us : List α} {vs : List β} (r : Paired F us vs) : ∀ {j : Nat} {y : β}, vs[j]? = some y → ∃ x, us[j]? = some x ∧ F x y := by
  induction r with
  | nil => intro j y h; simp at h
  | @cons a b as bs hab t ih =>
    intro j y h
    cases j with
    | zero => exact ⟨a, rfl, by rw [← Option.some.inj (show some b = some y from h)]; exact hab⟩
    | succ j => exact ih (show bs[j]? = some y from h)
def isIntV : V → Prop := fun v => ∃ i, v = .int i
/-- the answer: the same pairs -/
def sameD (ks ls : List (List Key × V)) : Bool := ks.length == ls.length && ks.all fun p => decide (valV ls p.1 = some p.2)
def rEqT (neg : Bool) : R2 := fun x y H Q => ∃ a b ks ls, x = .ref a ∧ y = .ref b ∧ Rd H a (.dT ks) ∧ Rd H b (.dT ls) ∧ (∀ p ∈ ks, isIntV p.2) ∧ (∀ p ∈ ls, isIntV p.2) ∧ Q (.bl (if neg then !sameD ks ls else sameD ks ls)) H
theorem KT.ints {H : Hp} {ks : List (List Key × V)} {xs : List (List Key × Addr × Value)} (r : KT H ks xs) (h : ∀ p ∈ ks, isIntV p.2) : ∀ x ∈ xs, ∃ i t, x.2.2 = Value.int i t := by
  intro x hx
  obtain ⟨j, hj⟩ := List.mem_iff_getElem?.mp hx
  obtain ⟨p, hp, e⟩ := pair_at r hj
  obtain ⟨i, ei⟩ := h p (List.mem_of_getElem? hp)
  have e2 := e.2.2
  rw [ei] at e2
  obtain ⟨t, et⟩ := e2
  exact ⟨i, t, et⟩
theorem sub_same {H : Hp} {ks ls : List (List Key × V)} {xs ys : List (List Key × Addr × Value)} (rb : KT H ls ys) (ra : KT H ks xs) (h : ∀ p ∈ ks, isIntV p.2) (h' : ∀ p ∈ ls, isIntV p.2) : subD xs ys = ks.all fun p => decide (valV ls p.1 = some p.2) := by
  induction ra with
  | nil => rfl
  | @cons p q ps qs e t ih =>
    obtain ⟨e1, _, e2⟩ := e
    have ih' := ih fun p hp => h p (List.mem_cons_of_mem _ hp)
    obtain ⟨i, ei⟩ := h p List.mem_cons_self
    rw [ei] at e2
    obtain ⟨ti, et⟩ := e2
    have hk := KT.val rb p.1
    show (decide (((atKey ys q.1).map fun p => intV p.2) = some (intV q.2.2)) && subD qs ys) = (decide (valV ls p.1 = some p.2) && ps.all fun p => decide (valV ls p.1 = some p.2))
    rw [ih', ← e1, et, ei]
    congr 1
    cases hv : valV ls p.1 with
    | none =>
      rw [hv] at hk
      cases ha : atKey ys p.1 with
      | none => simp
      | some z =>
        rw [ha] at hk
        exact False.elim hk
    | some v =>
      have hm : ∃ u ∈ ls, u.2 = v := by
        unfold valV at hv
        obtain ⟨u, hu, eu⟩ := Option.map_eq_some_iff.mp hv
        exact ⟨u, List.mem_of_find?_eq_some hu, eu⟩
      obtain ⟨u, hul, eu⟩ := hm
      obtain ⟨i', ei'⟩ := h' u hul
      rw [eu] at ei'
      rw [hv] at hk
      cases ha : atKey ys p.1 with
      | none =>
        rw [ha] at hk
        exact False.elim hk
      | some z =>
        rw [ha] at hk
        have hk' : RelV v z.2 := hk
        rw [ei'] at hk'
        obtain ⟨t', et'⟩ := hk'
        rw [ei', Option.map_some, et']
        by_cases e : i' = i
        · subst e
          simp [intV]
        · rw [decide_eq_false, decide_eq_false]
          · exact fun z => e (V.int.inj (Option.some.inj z))
          · exact fun z => e (Option.some.inj (Option.some.inj z))
theorem rd_dT {X : Cx} {pins : List (Addr × Obj)} {σ : L2.St} {H : Hp} {s : Shared} {a : Addr} {ks : List (List Key × V)} (I : Inv X pins σ H s) (h : Rd H a (.dT ks)) : s.TypeIs (.ref a) "dict" ∧ (a == sysModules) = false ∧ ∃ xs, KT H ks xs ∧ s.heap.DictOfH (tupleKind (mixKind X.prog X.w)) a xs :=
  have z := isD_at I (Or.inr ⟨ks, h⟩)
  have y := dt_rd I.hok h
  ⟨z.1, z.2.2, y.2.2⟩
theorem op_eqT {X : Cx} (hu : X.A.units + 1 < cLine) : OpR X (compareOp .Eq) (rEqT false) := by
  intro pins s σ H x y v u Q I rx ry h
  obtain ⟨a, b, ks, ls, rfl, rfl, ha, hb, ia, ib, q⟩ := h
  cases (show v = Value.ref a from rx)
  cases (show u = Value.ref b from ry)
  obtain ⟨ta, na, xs, ra, da⟩ := rd_dT I ha
  obtain ⟨tb, nb, ys, rb, db⟩ := rd_dT I hb
  refine eq_heap (knd := tupleKind (mixKind X.prog X.w)) (tupleKind_room_in1 hu) (by omega) na nb ta tb da db (KT.ints ra ia) (KT.ints rb ib) (fin_bl I q ?_)
  rw [sub_same rb ra ia ib, ← Paired.length ra, ← Paired.length rb]
  all_goals rfl
theorem op_neT {X : Cx} (hu : X.A.units + 1 < cLine) : OpR X (compareOp .NotEq) (rEqT true) := by
  intro pins s σ H x y v u Q I rx ry h
  obtain ⟨a, b, ks, ls, rfl, rfl, ha, hb, ia, ib, q⟩ := h
  cases (show v = Value.ref a from rx)
  cases (show u = Value.ref b from ry)
  obtain ⟨ta, na, xs, ra, da⟩ := rd_dT I ha
  obtain ⟨tb, nb, ys, rb, db⟩ := rd_dT I hb
  refine ne_heap (knd := tupleKind (mixKind X.prog X.w)) (tupleKind_room_in1 hu) (by omega) na nb ta tb da db (KT.ints ra ia) (KT.ints rb ib) (fin_bl I q ?_)
  rw [sub_same rb ra ia ib, ← Paired.length ra, ← Paired.length rb]
  all_goals rfl
end DTx

/-! DTx: sorted of a dict whose keys are tuples of ints, fewer than 64. -/
namespace DTx
open PySem PySem.Spec PyProof.Rows L2 PySem.Calls PySem.W
section
variable {prog : Program} {w : World} {A : Around} {E : Value → Shared → Prop} {s : Shared} {T : String} {r d : Addr} {n : Nat} {P : Nat → Value → Prop} {OK : Heap → Prop}
/-- what a source gives, collected into a list of the interpreter's own -/
theorem collect_src {R : List Value → Shared → Prop} (src : KdlSrc prog w T r d n P OK) (hh : A.handled = none) (hok : OK s.heap) (hn : n ≤ sizeLine)
    (q : ∀ h' tk (acc : Array Value), (∀ b o, s.heap.get? b = some o → h'.get? b = some o) → s.heap.objs.size ≤ h'.objs.size → ItemsOf P acc n → R acc.toList { s with heap := h', toks := tk }) : wpAny (model prog w) A (collect (.ref r)) R E s := by
  obtain ⟨lr, ld⟩ := src.there _ hok
  unfold collect
  refine wpAny_bind (wpAny_runValue (codeAny_builtin entry_proto_collect' ?_))
  rw [Around.under_plainId PySem.F.plain_proto_collect _]
  show wpAny _ A.in1 (newList [] >>= fun l => again (.builtin "list.__iadd__" ⟨[l, .ref r], []⟩)) _ _ s
  refine wpAny_bind (wpAny_newObj_type (wpAny_pure ⟨plainId_quiet PySem.F.plain_list_iadd _, codeAny_builtin entry_list_iadd' ?_⟩))
  rw [Around.under_plainId PySem.F.plain_list_iadd _]
  show wpAny _ A.in1 (Builtin.List.listExtendWith (.ref s.heap.objs.size) (.ref r) (.ref s.heap.objs.size)) _ _ { s with heap := s.heap.push { cls := .type "list", data := .seq ([] : List Value).toArray } }
  have ok1 : OK (s.heap.push { cls := .type "list", data := .seq ([] : List Value).toArray }) := src.keep _ _ hok fun b _ o e => Heap.get?_push_of_some _ e
  have at1 : (s.heap.push { cls := .type "list", data := .seq ([] : List Value).toArray }).get? s.heap.objs.size = some { cls := .type "list", data := .seq #[] 0 } := Heap.get?_push_size _ rfl
  have key := kdl_extend (A := A) (s := { s with heap := s.heap.push { cls := .type "list", data := .seq ([] : List Value).toArray } })
    (R := fun (z : Result) (s' : Shared) => ∃ (h' : Heap) (tk : Nat) (acc : Array Value) (c : Nat), z = .ok (.ret (.ref s.heap.objs.size)) ∧ s' = { s with heap := h', toks := tk } ∧ (∀ b o, s.heap.get? b = some o → h'.get? b = some o) ∧
      h'.get? s.heap.objs.size = some { cls := .type "list", dict := none, data := .seq acc c, slots := #[] } ∧ ItemsOf P acc n) src hh ok1 s.heap.objs.size (Nat.ne_of_gt lr) (Nat.ne_of_gt ld) (.ref s.heap.objs.size) 0 at1
    (fun h' tk acc c hk hS it => ⟨h', tk, acc, c, rfl, rfl, fun b o e => hk b o (Nat.ne_of_lt (Heap.lt_size e)) (Heap.get?_push_of_some _ e), hS, it⟩) hn
  have fin : ∀ (z : Result) (s' : Shared), (∃ (h' : Heap) (tk : Nat) (acc : Array Value) (c : Nat), z = .ok (.ret (.ref s.heap.objs.size)) ∧ s' = { s with heap := h', toks := tk } ∧ (∀ b o, s.heap.get? b = some o → h'.get? b = some o) ∧
      h'.get? s.heap.objs.size = some { cls := .type "list", dict := none, data := .seq acc c, slots := #[] } ∧ ItemsOf P acc n) → ∃ (f : Flow), z = .ok f ∧ wpAny (model prog w) A (load s.heap.objs.size >>= fun o => match o.data with | .seq xs _ => pure xs.toList | _ => unsupported "internal:collected") R E s' := by
    rintro z s' ⟨h', tk, acc, c, rfl, rfl, hk, hS, it⟩
    exact ⟨_, rfl, wpAny_bind (wpAny_load hS (wpAny_pure (q h' tk acc hk (Nat.le_of_lt (Heap.lt_size hS)) it)))⟩
  refine wpAny_mono key (fun x s' z => ?_) fun e s' z => ?_
  · cases x with
    | done f =>
      obtain ⟨h', tk, acc, c, e, rfl, hk, hS, it⟩ := z
      cases e
      show wpAny _ A (load s.heap.objs.size >>= _) _ _ _
      exact wpAny_bind (wpAny_load hS (wpAny_pure (q h' tk acc hk (Nat.le_of_lt (Heap.lt_size hS)) it)))
    | again c1 =>
      refine ⟨z.1, codeAny_mono z.2 fun q2 s2 y => ?_⟩
      obtain ⟨h', tk, acc, c, rfl, rfl, hk, hS, it⟩ := y
      show wpAny _ A (load s.heap.objs.size >>= _) _ _ _
      exact wpAny_bind (wpAny_load hS (wpAny_pure (q h' tk acc hk (Nat.le_of_lt (Heap.lt_size hS)) it)))
  · obtain ⟨_, _, _, _, e', _⟩ := z
    cases e'
end
/-- sorted(d): the addresses of the keys, by their ints -/
def rSortD : List V → Hp → VK → Prop := fun vs H Q => ∃ (a : Addr) (ks : List (List Int × V)) (m : Nat) (B : Int), vs = [V.ref a] ∧ Rd H a (.dT (ks.map fun p => (p.1.map Sum.inl, p.2))) ∧ ks.length < 64 ∧ 1 ≤ m ∧ (∀ p ∈ ks, p.1.length = m ∧ TS.Bd B p.1) ∧
  ∀ (L : List (Addr × List Int)) (p : Addr), (L.map (·.2)).Perm (ks.map (·.1)) → L.Pairwise (fun q r => TS.code B q.2 ≤ TS.code B r.2) → (∀ q ∈ L, H q.1 = some (.tup (q.2.map V.int))) → H p = none → Q (.ref p) (upd H p (.lst (L.map fun q => V.ref q.1)))
theorem src_items {prog : Program} {w : World} {K : Type} [DecidableEq K] {knd : HeapKind prog w K} {es : Array DictEntry} {xs : List (K × Addr × Value)} {acc : Array Value} (he : es.toList = xs.map (entryOfKey knd)) (it : ItemsOf (fun i v => ∃ en : DictEntry, es[i]? = some en ∧ v = en.key) acc es.size) :
    acc.toList = xs.map fun x => Value.ref x.2.1 := by
  have l1 : es.size = xs.length := size_of_entries he
  have l2 : acc.toList.length = xs.length := by rw [Array.length_toList, it.1, l1]
  refine List.ext_getElem? fun j => ?_
  rw [List.getElem?_map]
  rcases Nat.lt_or_ge j xs.length with hj | hj
  · have ha : acc.toList[j]? = some (acc.toList[j]'(by omega)) := List.getElem?_eq_getElem (by omega)
    obtain ⟨en, he2, ev⟩ := it.2 j (acc.toList[j]'(by omega)) (by rw [← Array.getElem?_toList]; exact ha)
    have h2 := entry_at he j
    rw [he2, List.getElem?_eq_getElem hj] at h2
    have e3 : en = entryOfKey knd xs[j] := Option.some.inj h2
    rw [ha, ev, e3, List.getElem?_eq_getElem hj]
    all_goals rfl
  · rw [List.getElem?_eq_none (by omega), List.getElem?_eq_none hj]
    all_goals rfl
theorem isTup_ints {X : Cx} {pins : List (Addr × Obj)} {σ : L2.St} {H : Hp} {s : Shared} (I : Inv X pins σ H s) {t : Addr} {ns : List Int} (h : H t = some (.tup (ns.map V.int))) : TS.TupInts s.heap (.ref t) ns := tupI_raw I (SqT.of h)
theorem sort_refs {h : Heap} {B : Int} {L0 : List (Addr × List Int)} {out : List Value} (tk : ∀ q ∈ L0, TS.TupInts h (.ref q.1) q.2) (pm : out.Perm (L0.map fun q => Value.ref q.1)) (pw : out.Pairwise fun u v => TS.code B (TS.intsOf h u) ≤ TS.code B (TS.intsOf h v)) :
    ∃ L : List (Addr × List Int), out = L.map (fun q => Value.ref q.1) ∧ L.Perm L0 ∧ L.Pairwise fun q r => TS.code B q.2 ≤ TS.code B r.2 := by
  have back : ∀ vs : List Value, (∀ v ∈ vs, v ∈ L0.map fun q => Value.ref q.1) → ∃ L : List (Addr × List Int), vs = L.map (fun q => Value.ref q.1) ∧ ∀ q ∈ L, q ∈ L0 := by
    intro vs
    induction vs with
    | nil => exact fun _ => ⟨[], rfl, fun q hq => nomatch hq⟩
    | cons v r ih =>
      intro hv
      obtain ⟨q, hq, e⟩ := List.mem_map.mp (hv v List.mem_cons_self)
      obtain ⟨L, e2, hL⟩ := ih fun u hu => hv u (List.mem_cons_of_mem _ hu)
      refine ⟨q :: L, by rw [List.map_cons, e, e2], fun z hz => ?_⟩
      rcases List.mem_cons.mp hz with rfl | hz
      · exact hq
      · exact hL z hz
  obtain ⟨L, e, hL⟩ := back out fun v hv => pm.mem_iff.mp hv
  have fn : ∀ v : Value, (fun v : Value => match v with | .ref a => (a, TS.intsOf h v) | _ => ((0 : Addr), ([] : List Int))) v = (fun v : Value => match v with | .ref a => (a, TS.intsOf h v) | _ => ((0 : Addr), ([] : List Int))) v := fun _ => rfl
  have inv : ∀ M : List (Addr × List Int), (∀ q ∈ M, q ∈ L0) → (M.map fun q => Value.ref q.1).map (fun v : Value => match v with | .ref a => (a, TS.intsOf h v) | _ => ((0 : Addr), ([] : List Int))) = M := by
    intro M hM
    rw [List.map_map]
    refine (List.map_congr_left fun q hq => ?_).trans (List.map_id _)
    show (q.1, TS.intsOf h (.ref q.1)) = q
    rw [(tk q (hM q hq)).ints]
  refine ⟨L, e, ?_, ?_⟩
  · have := pm.map (fun v : Value => match v with | .ref a => (a, TS.intsOf h v) | _ => ((0 : Addr), ([] : List Int)))
    rw [e, inv L hL, inv L0 fun _ z => z] at this
    exact this
  · rw [e] at pw
    refine List.Pairwise.imp_of_mem (fun {q r} hq hr hle => ?_) (List.pairwise_map.mp pw)
    rw [(tk q (hL q hq)).ints, (tk r (hL r hr)).ints] at hle
    exact hle
theorem cr_sortedD {X : Cx} (calm : X.calm = true) : CallR X (.builtin "sorted") rSortD := by
  intro pins s σ H vs us Q I r h
  obtain ⟨a, ks, m, B, rfl, ha, hl, hm, hB, q⟩ := h
  obtain ⟨u, rfl, rx⟩ := r.one
  cases rx
  obtain ⟨z, hs, xs, pr, o, es, ep, ho, hx, hdt, he, hnd⟩ := (show ObjOk X.prog X.w H s.heap a (.dT (ks.map fun p => (p.1.map Sum.inl, p.2))) from ha.ok I.hok)
  have l1 : es.size = xs.length := size_of_entries he
  have l2 : xs.length = ks.length := by
    have := Paired.length pr
    rw [List.length_map] at this
    exact this.symm
  -- the keys' addresses with their ints
  obtain ⟨L0, e0, e0k, t0⟩ : ∃ L0 : List (Addr × List Int), xs.map (fun x => Value.ref x.2.1) = L0.map (fun q => Value.ref q.1) ∧ L0.map (·.2) = ks.map (·.1) ∧ ∀ y ∈ L0, H y.1 = some (.tup (y.2.map V.int)) := by
    clear hnd he hdt l1 l2 hl z q ho hx
    generalize hkk : (ks.map fun p => (p.1.map Sum.inl, p.2) : List (List Key × V)) = kk at pr
    clear ha
    induction pr generalizing ks with
    | nil =>
      cases ks with
      | nil => exact ⟨[], rfl, rfl, fun _ z => nomatch z⟩
      | cons => cases hkk
    | @cons p x ps ys e t ih =>
      cases ks with
      | nil => cases hkk
      | cons k kr =>
        injection hkk with e1 e2
        obtain ⟨L, f1, f2, f3⟩ := ih (ks := kr) (fun p hp => hB p (List.mem_cons_of_mem _ hp)) e2
        refine ⟨(x.2.1, k.1) :: L, by rw [List.map_cons, List.map_cons, f1], by rw [List.map_cons, List.map_cons, f2], fun y hy => ?_⟩
        rcases List.mem_cons.mp hy with rfl | hy
        · have h2 := e.2.1
          rw [← e1] at h2
          have h3 : (k.1.map Sum.inl : List Key).map kV = k.1.map V.int := by rw [List.map_map]; rfl
          rw [← h3]
          exact h2
        · exact f3 y hy
  refine call_function_entry kind_sorted plain_sorted entry_sorted (args_sorted1 _) ?_
  unfold Builtin.«sorted»
  refine wpAny_bind (m := checkCount "sorted" 1 1 _) (wpAny_pure ?_)
  refine wpAny_bind (collect_src (A := X.A.in1) (kdl_raw hs hx hdt) (I.ok.hd calm) ho (by rw [sizeLine_eq]; omega) fun h' tk acc hk hsz it => ?_)
  have eacc : acc.toList = L0.map fun q => Value.ref q.1 := (src_items he it).trans e0
  have ll : L0.length = ks.length := by
    have := congrArg List.length e0k
    rwa [List.length_map, List.length_map] at this
  rw [eacc]
  refine wpAny_bind (wpAny_newList ?_ (by rw [List.length_map, sizeLine_eq]; omega))
  have hoL : (h'.push (seqObj "list" (L0.map fun q => Value.ref q.1).toArray 0)).get? h'.objs.size = some (seqObj "list" (L0.map fun q => Value.ref q.1).toArray 0) := Heap.get?_push_size _ rfl
  have tk2 : ∀ y ∈ L0, TS.TupInts (h'.push (seqObj "list" (L0.map fun q => Value.ref q.1).toArray 0)) (.ref y.1) y.2 := fun y hy =>
    (isTup_ints I (t0 y hy)).keeps fun b u e _ => Heap.get?_push_of_some _ (hk b u e)
  have tok : TS.TupsOk (h'.push (seqObj "list" (L0.map fun q => Value.ref q.1).toArray 0)) m B (L0.map fun q => Value.ref q.1) := fun v hv => by
    obtain ⟨y, hy, rfl⟩ := List.mem_map.mp hv
    have hk2 : y.2 ∈ ks.map (·.1) := by
      rw [← e0k]
      exact List.mem_map.mpr ⟨y, hy, rfl⟩
    obtain ⟨p, hp, ep⟩ := List.mem_map.mp hk2
    have := hB p hp
    rw [ep] at this
    exact ⟨y.2, tk2 y hy, this⟩
  refine wpAny_bind (wpAny_holding (TS.call_sort_tups (s := { s with heap := h'.push (seqObj "list" (L0.map fun q => Value.ref q.1).toArray 0), toks := tk }) hoL (by rw [List.length_map]; omega) hm tok fun out a1 a2 => ?_))
  obtain ⟨c, hc⟩ := sortedHeap_at (vs := L0.map fun q => Value.ref q.1) (out := out) hoL
  obtain ⟨L, eL, pL, wL⟩ := sort_refs tk2 a1 a2
  refine wpAny_pure ⟨_, rfl, ?_⟩
  have keep : ∀ b u, s.heap.get? b = some u → (sortedHeap (h'.push (seqObj "list" (L0.map fun q => Value.ref q.1).toArray 0)) h'.objs.size (L0.map fun q => Value.ref q.1) out).get? b = some u := fun b u e => by
    have e2 := hk b u e
    have lt := Heap.lt_size e2
    rw [sortedHeap_old (Nat.ne_of_lt lt) (by rw [size_push']; exact Nat.lt_succ_of_lt lt)]
    exact Heap.get?_push_of_some _ e2
  have hn : H h'.objs.size = none := I.hok.fresh hsz
  have rv : Vals (L.map fun q => V.ref q.1) out.toList := by
    rw [eL]
    clear eL pL wL
    induction L with
    | nil => exact .nil
    | cons y r ih => exact .cons rfl ih
  have lz : (L.map fun q => V.ref q.1).length ≤ sizeLine := by
    rw [List.length_map, pL.length_eq, sizeLine_eq]
    omega
  have J : Inv X pins σ (upd H h'.objs.size (.lst (L.map fun q => V.ref q.1))) { s with heap := sortedHeap (h'.push (seqObj "list" (L0.map fun q => Value.ref q.1).toArray 0)) h'.objs.size (L0.map fun q => Value.ref q.1) out, toks := tk } :=
    I.laid (t' := tk) keep hsz ⟨lz, out.toList, c, rv, hc⟩
  refine ⟨.ref h'.objs.size, _, J, rfl, q L _ ?_ wL (fun y hy => t0 y (pL.mem_iff.mp hy)) hn⟩
  rw [← e0k]
  exact pL.map _
end DTx

/-! DTx: {k: v} with a tuple as its one key. -/
namespace DTx
open PySem PySem.Spec PyProof.Rows L2 PySem.Calls
def tOne (tk tv : TE) : TE := fun σ H Q => ∀ p, H p = none → tk σ (upd H p (.dT [])) fun y H1 => tv σ H1 fun z H2 => H2 p = some (.dT []) ∧ ∃ k c, y = .ref c ∧ H2 c = some (.tup (k.map kV)) ∧ Q (.ref p) (upd H2 p (.dT [(k, z)]))
theorem pe_one_pair {X : Cx} {pos : Pos} {kx vx : Expr} {tk tv : TE} (hu : X.A.units < cLine) (hk : PE X kx tk) (hv : PE X vx tv) : PE X (.Dict [some kx] [vx] pos) (tOne tk tv) := by
  refine ⟨fun pins s σ H Q I q => ?_⟩
  have hn := I.hok.fresh (Nat.le_refl s.heap.objs.size)
  have J := I.laid (a := s.heap.objs.size) (o := .dT []) (h' := s.heap.push { cls := .type "dict", data := .dict #[] }) (t' := s.toks) (fun _ _ e => Heap.get?_push_of_some _ e) (Nat.le_refl _) (dt_empty s.heap I.big)
  rw [arm_eval_Dict, zip_pairTrees [some kx] [vx] X.env pos rfl rfl, dictDisplay_pairs _ (fun z => by have := congrArg List.length z; rw [pairTrees_length _ _ _ _ rfl rfl] at this; cases this) (by rw [pairTrees_length _ _ _ _ rfl rfl]; show 1 < 17; decide)]
  refine wpAny_bind (wpAny_standAt (wpAny_bind (wpAny_subDictH (knd := tupleKind (mixKind X.prog X.w)) (Q := fun d s' => wpAny (model X.prog X.w) X.A (pure (Value.ref d)) (EP X pins σ Q) X.xe s') hu (by rw [pairTrees_length _ _ _ _ rfl rfl]; show 1 ≤ 15; decide) ?_)))
  refine pairTrees_cons_walk (thn (hk.run pins _ σ _ _ J (q _ hn)) fun u s1 ⟨y, H1, I1, ry, q1⟩ => thn (hv.run pins s1 σ H1 _ I1 q1) fun r s2 ⟨z, H2, I2, rz, hp, k, c, ey, hc, q2⟩ => pairTrees_nil_walk ?_)
  subst ey
  cases (show u = Value.ref c from ry)
  obtain ⟨_, hd, xs, rel, dd⟩ := dt_of I2.hok hp
  cases rel
  refine ⟨[(k, c, r)], ⟨rfl, rfl, key_of I2.hok hc, trivial⟩, dd, fun h' tk d2 sb => wpAny_pure ⟨.ref s.heap.objs.size, _, ?_, rfl, q2⟩⟩
  obtain ⟨ob, es, ep, g1, g2, g3, g4, _, g6⟩ := d2
  refine d_write I2 (by rw [hp]; trivial) sb ⟨ob, g1⟩ ⟨by show 1 ≤ sizeLine; decide, hd, [(k, c, r)], .cons ⟨rfl, ?_, rz⟩ .nil, ob, es, ep, g1, g2, g3, g4, g6⟩
  show upd H2 s.heap.objs.size (.dT [(k, z)]) c = some (.tup (k.map kV))
  rw [upd_ne (ne_of hc hp fun z => nomatch z)]
  exact hc
end DTx

/-! Sm: dicts from int lists to ints, as lists of pairs; forms. -/
namespace Sm
open PySem L2
abbrev DI := List (List Int × Int)
abbrev ek (k : List Int) : List Key := k.map Sum.inl
def enc (ps : DI) : List (List Key × V) := ps.map fun p => (ek p.1, V.int p.2)
def getI (ps : DI) (k : List Int) : Option Int := (ps.find? fun p => decide (p.1 = k)).map (·.2)
def putI (ps : DI) (k : List Int) (v : Int) : DI := if (ps.any fun p => decide (p.1 = k)) = true then ps.map (fun p => if p.1 = k then (p.1, v) else p) else ps ++ [(k, v)]
theorem ek_inj {a b : List Int} : ek a = ek b ↔ a = b := by
  constructor
  · intro h
    induction a generalizing b with
    | nil => cases b with
      | nil => rfl
      | cons y ys => cases h
    | cons x xs ih => cases b with
      | nil => cases h
      | cons y ys =>
        injection h with h1 h2
        rw [Sum.inl.inj h1, ih h2]
  · intro h; rw [h]
theorem ek_kV (k : List Int) : (ek k).map kV = k.map V.int := by
  unfold ek
  rw [List.map_map]
  rfl
theorem val_enc (ps : DI) (k : List Int) : valV (enc ps) (ek k) = (getI ps k).map V.int := by
  induction ps with
  | nil => rfl
  | cons p r ih =>
    show valV ((ek p.1, V.int p.2) :: enc r) (ek k) = _
    by_cases e : p.1 = k
    · rw [valV_pos (by rw [e])]
      simp [getI, e]
    · rw [valV_neg (fun h => e (ek_inj.mp h)), ih]
      simp [getI, e]
theorem put_enc (ps : DI) (k : List Int) (v : Int) : putK (enc ps) (ek k) (.int v) = enc (putI ps k v) := by
  have e : ((enc ps).any fun kv => decide (kv.1 = ek k)) = (ps.any fun p => decide (p.1 = k)) := by
    unfold enc
    rw [List.any_map]
    congr 1
    funext p
    exact decide_eq_decide.mpr ek_inj
  unfold putK putI
  rw [e]
  split
  · unfold enc
    rw [List.map_map, List.map_map]
    refine List.map_congr_left fun p _ => ?_
    show (if ek p.1 = ek k then (ek p.1, V.int v) else (ek p.1, V.int p.2)) = _
    by_cases h : p.1 = k
    · rw [if_pos (by rw [h])]
      simp [h]
    · rw [if_neg (fun z => h (ek_inj.mp z))]
      simp [h]
  · simp [enc]
theorem putI_new {ps : DI} {k : List Int} {v : Int} (h : k ∉ ps.map (·.1)) : putI ps k v = ps ++ [(k, v)] := by
  unfold putI
  rw [if_neg]
  intro h2
  obtain ⟨p, hp, e⟩ := List.any_eq_true.mp h2
  exact h (List.mem_map.mpr ⟨p, hp, of_decide_eq_true e⟩)
theorem getI_none {ps : DI} {k : List Int} (h : k ∉ ps.map (·.1)) : getI ps k = none := by
  unfold getI
  rw [Option.map_eq_none_iff, List.find?_eq_none]
  intro p hp e
  exact h (List.mem_map.mpr ⟨p, hp, of_decide_eq_true e⟩)
theorem getI_mem {ps : DI} (nd : (ps.map (·.1)).Nodup) {p : List Int × Int} (hp : p ∈ ps) : getI ps p.1 = some p.2 := by
  induction ps with
  | nil => cases hp
  | cons q r ih =>
    have nd' : (q.1 :: r.map (·.1)).Nodup := nd
    obtain ⟨h1, h2⟩ := List.nodup_cons.mp nd'
    rcases List.mem_cons.mp hp with rfl | hp
    · simp [getI]
    · have : ¬ q.1 = p.1 := fun e => h1 (e ▸ List.mem_map.mpr ⟨p, hp, rfl⟩)
      have ih' := ih h2 hp
      simp only [getI, List.find?_cons] at ih' ⊢
      rw [decide_eq_false this]
      exact ih'
theorem mem_getI {ps : DI} {k : List Int} {v : Int} (h : getI ps k = some v) : (k, v) ∈ ps := by
  unfold getI at h
  obtain ⟨p, hp, e⟩ := Option.map_eq_some_iff.mp h
  have h1 := List.mem_of_find?_eq_some hp
  have h2 : p.1 = k := by
    have := List.find?_some hp
    exact of_decide_eq_true this
  rw [← h2, ← e]
  exact h1
/-- the steps that are not 0 -/
def nz (ps : DI) : DI := ps.filter fun p => decide (p.2 ≠ 0)
theorem nz_sub {ps : DI} {p : List Int × Int} (h : p ∈ nz ps) : p ∈ ps := (List.mem_filter.mp h).1
theorem nd_nz {ps : DI} (nd : (ps.map (·.1)).Nodup) : ((nz ps).map (·.1)).Nodup := by
  unfold nz
  exact nd.sublist ((List.filter_sublist).map _)
theorem same_self {ps : DI} (nd : (ps.map (·.1)).Nodup) : DTx.sameD (enc ps) (enc ps) = true := by
  unfold DTx.sameD
  rw [beq_self_eq_true, Bool.true_and, List.all_eq_true]
  intro x hx
  obtain ⟨p, hp, rfl⟩ := List.mem_map.mp hx
  show decide (valV (enc ps) (ek p.1) = some (V.int p.2)) = true
  rw [val_enc, getI_mem nd hp]
  simp
theorem enc_int (ps : DI) : ∀ p ∈ enc ps, DTx.isIntV p.2 := fun x hx => by
  obtain ⟨p, _, rfl⟩ := List.mem_map.mp hx
  exact ⟨p.2, rfl⟩
/-- refs of tuples of ints -/
def TupsAt (H : Hp) : List V → List (List Int) → Prop := Paired fun v k => ∃ t, v = .ref t ∧ H t = some (.tup (k.map V.int))
theorem TupsAt.same {H H' : Hp} (e : ∀ b ys, H b = some (.tup ys) → H' b = some (.tup ys)) {xs : List V} {ks : List (List Int)} (h : TupsAt H xs ks) : TupsAt H' xs ks :=
  Paired.mapP h fun _ _ ⟨t, a, b⟩ => ⟨t, a, e _ _ b⟩
theorem TupsAt.get {H : Hp} {xs : List V} {ks : List (List Int)} (h : TupsAt H xs ks) {i : Nat} {x : V} (hx : xs[i]? = some x) : ∃ k t, ks[i]? = some k ∧ x = .ref t ∧ H t = some (.tup (k.map V.int)) := by
  induction h generalizing i with
  | nil => simp at hx
  | @cons a b as bs hab r ih =>
    cases i with
    | zero =>
      obtain ⟨t, e1, e2⟩ := hab
      have e : a = x := Option.some.inj hx
      exact ⟨b, t, rfl, by rw [← e, e1], e2⟩
    | succ i => exact ih hx
theorem TupsAt.app {H : Hp} {xs ys : List V} {ks ls : List (List Int)} (h : TupsAt H xs ks) (h' : TupsAt H ys ls) : TupsAt H (xs ++ ys) (ks ++ ls) := by
  induction h with
  | nil => exact h'
  | cons hab r ih => exact .cons hab ih
theorem TupsAt.erase {H : Hp} {xs : List V} {ks : List (List Int)} (h : TupsAt H xs ks) (j : Nat) : TupsAt H (xs.eraseIdx j) (ks.eraseIdx j) := by
  induction h generalizing j with
  | nil => exact .nil
  | cons hab r ih =>
    cases j with
    | zero => exact r
    | succ j => exact .cons hab (ih j)
theorem TupsAt.len {H : Hp} {xs : List V} {ks : List (List Int)} (h : TupsAt H xs ks) : xs.length = ks.length := Paired.length h
theorem perm_erase {α : Type} {l : List α} {j : Nat} {x : α} (h : l[j]? = some x) : (x :: l.eraseIdx j).Perm l := by
  induction l generalizing j with
  | nil => simp at h
  | cons a r ih =>
    cases j with
    | zero =>
      have e : a = x := Option.some.inj h
      rw [e]
      exact List.Perm.refl _
    | succ j =>
      have := ih (j := j) h
      show (x :: a :: r.eraseIdx j).Perm (a :: r)
      exact (List.Perm.swap _ _ _).trans (this.cons a)
/-- a sort: three ints from 0 to 2 -/
def Sort3 (k : List Int) : Prop := k.length = 3 ∧ TS.Bd 3 k
theorem code_inj {B : Int} (hB : 0 < B) : ∀ {a b : List Int}, a.length = b.length → TS.Bd B a → TS.Bd B b → TS.code B a = TS.code B b → a = b
  | [], [], _, _, _, _ => rfl
  | [], _ :: _, h, _, _, _ => by cases h
  | _ :: _, [], h, _, _, _ => by cases h
  | x :: xs, y :: ys, h, ha, hb, e => by
    have hl : xs.length = ys.length := Nat.succ.inj h
    have bound : ∀ {l : List Int}, TS.Bd B l → 0 ≤ TS.code B l ∧ TS.code B l < B ^ l.length := by
      intro l
      induction l with
      | nil => intro _; exact ⟨Int.le_refl 0, by simp [TS.code]⟩
      | cons z zs ih =>
        intro hz
        obtain ⟨i1, i2⟩ := ih hz.tail
        obtain ⟨z0, z1⟩ := hz.head
        have := TS.num1 (P := B ^ zs.length) (B := B) i1 i2 z0 z1
        refine ⟨this.1, ?_⟩
        show z * B ^ zs.length + TS.code B zs < B ^ (zs.length + 1)
        rw [Int.pow_succ]
        exact this.2
    have e2 : x * B ^ xs.length + TS.code B xs = y * B ^ ys.length + TS.code B ys := e
    rw [hl] at e2
    obtain ⟨p1, p2⟩ := bound ha.tail
    obtain ⟨q1, q2⟩ := bound hb.tail
    rw [hl] at p2
    have pp : 0 < B ^ ys.length := Int.pow_pos hB
    generalize B ^ ys.length = M at e2 p2 q2 pp
    have exy : x = y := by
      rcases Int.lt_trichotomy x y with h | h | h
      · exfalso
        have : (x + 1) * M ≤ y * M := Int.mul_le_mul_of_nonneg_right (by omega) (by omega)
        rw [Int.add_mul] at this
        omega
      · exact h
      · exfalso
        have : (y + 1) * M ≤ x * M := Int.mul_le_mul_of_nonneg_right (by omega) (by omega)
        rw [Int.add_mul] at this
        omega
    subst exy
    rw [code_inj hB hl ha.tail hb.tail (by omega)]
end Sm

/-! Sl: comprehensions of ints over the keys of a dict with int-tuple keys. -/
namespace Sl
open PySem L2 Sm
theorem inl_key {k : List Key} {ps : DI} {i : Nat} {v : V} (h : (enc ps)[i]? = some (k, v)) : ∃ ns z, ps[i]? = some (ns, z) ∧ k = ek ns ∧ v = .int z := by
  unfold enc at h
  rw [List.getElem?_map] at h
  obtain ⟨p, hp, e⟩ := Option.map_eq_some_iff.mp h
  exact ⟨p.1, p.2, hp, (Prod.mk.inj e).1.symm, (Prod.mk.inj e).2.symm⟩
theorem upd_back {H : Hp} {c : Addr} {o : HO} (h : H c = some o) : upd H c o = H := by
  funext b
  by_cases e : b = c
  · rw [e, upd_same, h]
  · rw [upd_ne e]
/-- [F for k in d] -/
theorem lock_ints {σ : L2.St} {H : Hp} {c : Addr} {r : DI} {i j : Nat} {te : TE} {F : List Int → Int → Int} {Q : VK} (hv : σ[i]? = some (some (.ref c))) (hc : H c = some (.dT (enc r))) (hsz : r.length < 1000)
    (step : ∀ (od : Obj) (H' : Hp) (k : List Int) (z : Int) (t : Addr), (∀ b o, H b = some o → b ≠ c → H' b = some o) → H' c = some (.frz od (.dT (enc r))) → (k, z) ∈ r → H' t = some (.tup (k.map V.int)) →
      ∀ R : VK, R (.int (F k z)) H' → te ((wipe σ [j]).set j (some (.ref t))) H' R)
    (done : ∀ (D : Addr) (H' : Hp), H D = none → Same H H' → H' D = some (.lst ((r.map fun y => F y.1 y.2).map V.int)) → Q (.ref D) H') : tLockE (tLc (iKeys (tVar i)) (gName j) tYes te [j]) σ H Q := by
  refine ⟨c, _, hc, trivial, fun od => ?_⟩
  refine Eg.w_lc (Eg.w_iK (Eg.w_var hv (Eg.c_iKT upd_same ?_)))
  intro D hD
  have hDc : D ≠ c := fun e => by rw [e, upd_same] at hD; cases hD
  have hD0 : H D = none := by rw [upd_ne hDc] at hD; exact hD
  refine lc_it walk_keysT (fun n H' => H' c = some (.frz od (.dT (enc r))) ∧ H' D = some (.lst (((r.take n).map fun y => F y.1 y.2).map V.int)) ∧ ∀ b o, H b = some o → b ≠ c → H' b = some o) ?_ (fun n H' _ h => h.1) ?_ ?_
  · exact ⟨Eg.upd_old upd_same hD, upd_same, fun b o e hn => Eg.upd_old (Eg.upd_mut hn e) hD⟩
  · rintro n y _ _ hn ⟨h1, h2, h3⟩ ⟨rfl, k, v, t, hk, rfl, ht⟩
    obtain ⟨kk, z, hkz, rfl, rfl⟩ := inl_key hk
    rw [ek_kV] at ht
    obtain ⟨hlt, he⟩ := List.getElem?_eq_some_iff.mp hkz
    refine Eg.w_gN (Eg.w_wipe ?_ (Eg.w_yes (iteT (step od _ kk z t h3 h1 (List.mem_of_getElem? hkz) ht _ ?_))))
    · show ((wipe σ []).set j none |>.set j (some (.ref t))).set j none = _
      show (((σ.set j none).set j (some (.ref t))).set j none) = σ.set j none
      rw [List.set_set, List.set_set]
    · refine ⟨_, h2, ?_, Eg.upd_mut hDc.symm h1, ?_, fun b o e hne => Eg.upd_mut (ne_of_none e hD0) (h3 b o e hne)⟩
      · rw [List.length_map, List.length_map, List.length_take, sizeLine_eq]
        omega
      · rw [upd_same, List.take_succ_eq_append_getElem hlt, he]
        simp
  · rintro H1 ⟨h1, h2, h3⟩
    refine ⟨h1, done D _ hD0 (fun b o e => ?_) (Eg.upd_mut hDc ?_)⟩
    · by_cases hb : b = c
      · rw [hb, upd_same]
        rw [hb, hc] at e
        exact e
      · exact Eg.upd_mut hb (h3 b o e hb)
    · rw [h2]
      unfold enc
      rw [List.length_map, List.take_length]
end Sl

/-! DTx5: lists of tuples of ints: sorted, == and !=. -/
namespace DTx
open PySem PySem.Spec PyProof.Rows L2
/-- sorted(xs) of a list of tuples of ints -/
def rSortT (K : PySem.W.Frag) : List V → Hp → VK → Prop := fun vs H Q => ∃ (a : Addr) (L0 : List (Addr × List Int)) (m : Nat) (B : Int), vs = [V.ref a] ∧ SqL K H a (L0.map fun q => V.ref q.1) ∧ (∀ q ∈ L0, H q.1 = some (.tup (q.2.map V.int))) ∧ L0.length < 64 ∧ 1 ≤ m ∧ (∀ q ∈ L0, q.2.length = m ∧ TS.Bd B q.2) ∧
  ∀ (L : List (Addr × List Int)) (p : Addr), L.Perm L0 → L.Pairwise (fun q r => TS.code B q.2 ≤ TS.code B r.2) → H p = none → Q (.ref p) (upd H p (.lst (L.map fun q => V.ref q.1)))
theorem vals_refs : ∀ {L0 : List (Addr × List Int)} {us : List Value}, Vals (L0.map fun q => V.ref q.1) us → us = L0.map fun q => Value.ref q.1
  | [], _, .nil => rfl
  | q :: r, _, .cons a b => by
    cases a
    rw [vals_refs b]
    rfl
theorem cr_sortedT {X : Cx} : CallR X (.builtin "sorted") (rSortT X.K) := by
  intro pins s σ H vs us Q I r h
  obtain ⟨a, L0, m, B, rfl, hs, t0, h64, hm, hB, q⟩ := h
  obtain ⟨its, rv, hl, _⟩ := I.list hs
  rw [Vals.ref1 r]
  have ei := vals_refs rv
  subst ei
  have tk : ∀ y ∈ L0, TS.TupInts s.heap (.ref y.1) y.2 := fun y hy => isTup_ints I (t0 y hy)
  refine TS.sorted_tups (B := B) hl.isList (by rw [List.length_map]; exact h64) hm (fun v hv => ?_) fun out h1 h2 => ?_
  · obtain ⟨y, hy, rfl⟩ := List.mem_map.mp hv
    exact ⟨y.2, tk y hy, hB y hy⟩
  · obtain ⟨L, eL, pL, wL⟩ := sort_refs tk h1 h2
    obtain ⟨ep, he'⟩ := PyProof.Rows.sortedAll_at s.heap (L0.map fun q => Value.ref q.1) out
    have rv2 : Vals (L.map fun q => V.ref q.1) out.toList := by
      rw [eL]
      clear eL pL wL
      induction L with
      | nil => exact .nil
      | cons y r ih => exact .cons rfl ih
    have hlen : (L.map fun q => V.ref q.1).length ≤ sizeLine := by rw [List.length_map, pL.length_eq, sizeLine_eq]; omega
    exact ⟨.ref _, upd H (s.heap.objs.size + 1) (.lst (L.map fun q => V.ref q.1)), I.laid (t' := s.toks) (fun _ _ => PyProof.Rows.sortedAll_old) (Nat.le_succ _) ⟨hlen, out.toList, ep, rv2, he'⟩, rfl, q L _ pL wL (I.hok.fresh (Nat.le_succ _))⟩
/-! equality of data -/
def tI (k : List Int) : PyData := .tuple (k.map .int)
def lT (ks : List (List Int)) : PyData := .list (ks.map tI)
def lI (ns : List Int) : PyData := .list (ns.map .int)
theorem ints_lay : ∀ ns : List Int, PyData.canLayAll0 (ns.map .int) = true
  | [] => rfl
  | n :: r => by
    rw [List.map_cons, PyData.canLayAll0, ints_lay r]
    simp [PyData.canLay0]
theorem ints_depth : ∀ ns : List Int, PyData.depthAll (ns.map .int) ≤ 1
  | [] => by simp [PyData.depthAll]
  | n :: r => by
    have := ints_depth r
    simp only [List.map_cons, PyData.depthAll, PyData.depth]
    omega
theorem tups_lay : ∀ ks : List (List Int), PyData.canLayAll0 (ks.map tI) = true
  | [] => rfl
  | k :: r => by
    rw [List.map_cons, PyData.canLayAll0, tups_lay r]
    simp [tI, PyData.canLay0, ints_lay]
theorem tups_depth : ∀ ks : List (List Int), PyData.depthAll (ks.map tI) ≤ 3
  | [] => by simp [PyData.depthAll]
  | k :: r => by
    have := tups_depth r
    have := ints_depth k
    simp only [List.map_cons, PyData.depthAll, PyData.depth, tI]
    omega
theorem shaped_lT (ks : List (List Int)) : SeqAt.shaped (lT ks) = true := by
  unfold SeqAt.shaped lT
  rw [PyData.canLay0, tups_lay, Bool.true_and, decide_eq_true_eq]
  have := tups_depth ks
  simp only [PyData.depth]
  omega
theorem shaped_lI (ns : List Int) : SeqAt.shaped (lI ns) = true := by
  unfold SeqAt.shaped lI
  rw [PyData.canLay0, ints_lay, Bool.true_and, decide_eq_true_eq]
  have := ints_depth ns
  simp only [PyData.depth]
  omega
theorem shaped_tI (ns : List Int) : SeqAt.shaped (tI ns) = true := by
  unfold SeqAt.shaped tI
  rw [PyData.canLay0, ints_lay, Bool.true_and, decide_eq_true_eq]
  have := ints_depth ns
  simp only [PyData.depth]
  omega
theorem eqv_ints : ∀ ns ms : List Int, PyData.eqvAll (ns.map .int) (ms.map .int) = decide (ns = ms)
  | [], [] => by simp [PyData.eqvAll]
  | [], _ :: _ => by simp [PyData.eqvAll]
  | _ :: _, [] => by simp [PyData.eqvAll]
  | n :: r, m :: t => by
    rw [List.map_cons, List.map_cons, PyData.eqvAll, eqv_ints r t, PyData.eqv]
    by_cases e : n = m <;> by_cases f : r = t <;> simp [e, f]
theorem eqv_lI (ns ms : List Int) : PyData.eqv (lI ns) (lI ms) = decide (ns = ms) := by
  unfold lI
  rw [PyData.eqv, eqv_ints]
theorem eqv_tI (ns ms : List Int) : PyData.eqv (tI ns) (tI ms) = decide (ns = ms) := by
  unfold tI
  rw [PyData.eqv, eqv_ints]
theorem eqv_tups : ∀ ks ls : List (List Int), PyData.eqvAll (ks.map tI) (ls.map tI) = decide (ks = ls)
  | [], [] => by simp [PyData.eqvAll]
  | [], _ :: _ => by simp [PyData.eqvAll]
  | _ :: _, [] => by simp [PyData.eqvAll]
  | n :: r, m :: t => by
    rw [List.map_cons, List.map_cons, PyData.eqvAll, eqv_tups r t, eqv_tI]
    by_cases e : n = m <;> by_cases f : r = t <;> simp [e, f]
theorem eqv_lT (ks ls : List (List Int)) : PyData.eqv (lT ks) (lT ls) = decide (ks = ls) := by
  unfold lT
  rw [PyData.eqv, eqv_tups]
section
variable {K : PySem.W.Frag} {H : Hp} {a b : Addr} {xs ys : List V} {ks ls : List (List Int)} {ns ms : List Int} {Q : VK}
theorem dpInts : ∀ ns : List Int, DpAll K H (ns.map V.int) (ns.map .int)
  | [] => .nil
  | n :: r => .cons (.int n) (dpInts r)
theorem dpTups (h : Sm.TupsAt H xs ks) : DpAll K H xs (ks.map tI) := by
  induction h with
  | nil => exact .nil
  | cons hab r ih =>
    obtain ⟨t, rfl, ht⟩ := hab
    exact .cons (.tup (SqT.of ht) (dpInts _)) ih
theorem c_neTL (h1 : SqL K H a xs) (t1 : Sm.TupsAt H xs ks) (h2 : SqL K H b ys) (t2 : Sm.TupsAt H ys ls) (q : Q (.bl (!decide (ks = ls))) H) : rNeD K (.ref a) (.ref b) H Q :=
  ⟨lT ks, lT ls, .lst h1 (dpTups t1), .lst h2 (dpTups t2), shaped_lT _, shaped_lT _, by rw [eqv_lT]; exact q⟩
theorem c_eqTL (h1 : SqL K H a xs) (t1 : Sm.TupsAt H xs ks) (h2 : SqL K H b ys) (t2 : Sm.TupsAt H ys ls) (q : Q (.bl (decide (ks = ls))) H) : rEqD K (.ref a) (.ref b) H Q :=
  ⟨lT ks, lT ls, .lst h1 (dpTups t1), .lst h2 (dpTups t2), shaped_lT _, shaped_lT _, by rw [eqv_lT]; exact q⟩
theorem c_neIL (h1 : SqL K H a (ns.map V.int)) (h2 : SqL K H b (ms.map V.int)) (q : Q (.bl (!decide (ns = ms))) H) : rNeD K (.ref a) (.ref b) H Q :=
  ⟨lI ns, lI ms, .lst h1 (dpInts _), .lst h2 (dpInts _), shaped_lI _, shaped_lI _, by rw [eqv_lI]; exact q⟩
theorem c_eqIL (h1 : SqL K H a (ns.map V.int)) (h2 : SqL K H b (ms.map V.int)) (q : Q (.bl (decide (ns = ms))) H) : rEqD K (.ref a) (.ref b) H Q :=
  ⟨lI ns, lI ms, .lst h1 (dpInts _), .lst h2 (dpInts _), shaped_lI _, shaped_lI _, by rw [eqv_lI]; exact q⟩
end
end DTx

/-! Gt: what a dict of steps gives for each sort. -/
namespace Sm
open PySem L2
def gt (qs : DI) (k : List Int) : Int := (getI qs k).getD 0
theorem getI_cons (p : List Int × Int) (r : DI) (k : List Int) : getI (p :: r) k = if p.1 = k then some p.2 else getI r k := by
  unfold getI
  rw [List.find?_cons]
  by_cases e : p.1 = k
  · rw [if_pos e, decide_eq_true e]
    rfl
  · rw [if_neg e, decide_eq_false e]
theorem getI_append (a b : DI) (k : List Int) : getI (a ++ b) k = (getI a k).or (getI b k) := by
  induction a with
  | nil => rfl
  | cons p r ih =>
    rw [List.cons_append, getI_cons, getI_cons]
    split
    · rfl
    · exact ih
theorem getI_iff {ps : DI} {k : List Int} : (getI ps k).isSome = true ↔ k ∈ ps.map (·.1) := by
  constructor
  · intro h
    obtain ⟨v, hv⟩ := Option.isSome_iff_exists.mp h
    exact List.mem_map.mpr ⟨_, mem_getI hv, rfl⟩
  · intro h
    induction ps with
    | nil => cases h
    | cons p r ih =>
      rw [getI_cons]
      split
      · rfl
      · next e =>
        rcases List.mem_cons.mp h with h | h
        · exact absurd h.symm e
        · exact ih h
theorem getI_none_iff {ps : DI} {k : List Int} : getI ps k = none ↔ k ∉ ps.map (·.1) := by
  rw [← getI_iff]
  cases getI ps k <;> simp
theorem getI_map (F : List Int → Int) (ks : List (List Int)) (k : List Int) : getI (ks.map fun k => (k, F k)) k = if k ∈ ks then some (F k) else none := by
  induction ks with
  | nil => rfl
  | cons a r ih =>
    rw [List.map_cons, getI_cons, ih]
    by_cases e : a = k
    · subst e
      simp
    · have : k ≠ a := fun z => e z.symm
      simp [e, this]
theorem getI_putI {ps : DI} {k k' : List Int} {v : Int} : getI (putI ps k v) k' = if k' = k then some v else getI ps k' := by
  unfold putI
  split
  · next h =>
    obtain ⟨p, hp, e⟩ := List.any_eq_true.mp h
    have e' : p.1 = k := of_decide_eq_true e
    clear h
    have mem : k ∈ ps.map (·.1) := List.mem_map.mpr ⟨p, hp, e'⟩
    clear hp e e' p
    induction ps with
    | nil => cases mem
    | cons q r ih =>
      rw [List.map_cons, getI_cons, getI_cons]
      by_cases e : q.1 = k
      · rw [if_pos e]
        by_cases e2 : k' = k
        · subst e2
          simp [e]
        · have n1 : ¬ q.1 = k' := fun z => e2 (z.symm.trans e)
          simp only [n1, e2, if_false]
          by_cases m : k ∈ r.map (·.1)
          · rw [ih m, if_neg e2]
          · rw [show (r.map fun p => if p.1 = k then (p.1, v) else p) = r from ?_]
            refine (List.map_congr_left fun x hx => ?_).trans (List.map_id r)
            rw [if_neg fun z => m (List.mem_map.mpr ⟨x, hx, z⟩)]
            rfl
      · rw [if_neg e]
        have m : k ∈ r.map (·.1) := by
          rcases List.mem_cons.mp mem with h | h
          · exact absurd h.symm e
          · exact h
        by_cases e3 : q.1 = k'
        · have : ¬ k' = k := fun z => e (e3.trans z)
          rw [if_pos e3, if_neg this, if_pos e3]
        · rw [if_neg e3, ih m, if_neg e3]
  · next h =>
    have mem : k ∉ ps.map (·.1) := fun m => h (by
      obtain ⟨p, hp, e⟩ := List.mem_map.mp m
      exact List.any_eq_true.mpr ⟨p, hp, decide_eq_true e⟩)
    rw [getI_append, getI_cons]
    by_cases e2 : k' = k
    · subst e2
      rw [getI_none mem]
      simp
    · have : ¬ k = k' := fun z => e2 z.symm
      rw [if_neg e2]
      simp only [this, if_false]
      show (getI ps k').or none = _
      cases getI ps k' <;> rfl
theorem keys_putI {ps : DI} {k : List Int} {v : Int} : (putI ps k v).map (·.1) = if k ∈ ps.map (·.1) then ps.map (·.1) else ps.map (·.1) ++ [k] := by
  have e : (ps.any fun p => decide (p.1 = k)) = true ↔ k ∈ ps.map (·.1) := by
    rw [List.any_eq_true, List.mem_map]
    exact ⟨fun ⟨p, h, e⟩ => ⟨p, h, of_decide_eq_true e⟩, fun ⟨p, h, e⟩ => ⟨p, h, decide_eq_true e⟩⟩
  unfold putI
  by_cases h : k ∈ ps.map (·.1)
  · rw [if_pos (e.mpr h), if_pos h, List.map_map]
    refine List.map_congr_left fun p _ => ?_
    show (if p.1 = k then (p.1, v) else p).1 = p.1
    split <;> rfl
  · rw [if_neg (fun z => h (e.mp z)), if_neg h, List.map_append]
    rfl
theorem nd_putI {ps : DI} {k : List Int} {v : Int} (h : (ps.map (·.1)).Nodup) : ((putI ps k v).map (·.1)).Nodup := by
  rw [keys_putI]
  split
  · exact h
  · next n =>
    rw [List.nodup_append]
    exact ⟨h, by simp, fun a ha b hb e => n (by rw [List.mem_singleton.mp hb] at e; exact e ▸ ha)⟩
theorem gt_mem {ps : DI} (nd : (ps.map (·.1)).Nodup) {p : List Int × Int} (hp : p ∈ ps) : gt ps p.1 = p.2 := by
  unfold gt
  rw [getI_mem nd hp]
  rfl
theorem gt_none {ps : DI} {k : List Int} (h : k ∉ ps.map (·.1)) : gt ps k = 0 := by
  unfold gt
  rw [getI_none h]
  rfl
theorem getI_nz {ps : DI} (nd : (ps.map (·.1)).Nodup) (k : List Int) : getI (nz ps) k = if gt ps k = 0 then none else some (gt ps k) := by
  induction ps with
  | nil => rfl
  | cons p r ih =>
    have nd' : (p.1 :: r.map (·.1)).Nodup := nd
    obtain ⟨h1, h2⟩ := List.nodup_cons.mp nd'
    have ih := ih h2
    have gc : gt (p :: r) k = if p.1 = k then p.2 else gt r k := by
      unfold gt
      rw [getI_cons]
      split <;> rfl
    rw [gc]
    unfold nz at ih ⊢
    rw [List.filter_cons]
    by_cases z : p.2 = 0
    · rw [if_neg (by simp [z]), ih]
      by_cases e : p.1 = k
      · subst e
        rw [gt_none h1, if_pos rfl, if_pos rfl, z, if_pos rfl]
      · rw [if_neg e]
    · rw [if_pos (by simp [z]), getI_cons, ih]
      by_cases e : p.1 = k
      · rw [if_pos e, if_pos e, if_neg z]
      · rw [if_neg e, if_neg e]
theorem gt_nz {ps : DI} (nd : (ps.map (·.1)).Nodup) (k : List Int) : gt (nz ps) k = gt ps k := by
  show (getI (nz ps) k).getD 0 = _
  rw [getI_nz nd]
  split
  · next h => exact h.symm
  · rfl
theorem nodup_len {α : Type} [BEq α] [LawfulBEq α] : ∀ (l D : List α), l.Nodup → (∀ x ∈ l, x ∈ D) → l.length ≤ D.length
  | [], _, _, _ => Nat.zero_le _
  | x :: l, D, hn, hs => by
    obtain ⟨h1, h2⟩ := List.nodup_cons.mp hn
    have hx : x ∈ D := hs x List.mem_cons_self
    have ih := nodup_len l (D.erase x) h2 fun y hy => by
      have hne : y ≠ x := fun e => h1 (e ▸ hy)
      exact (List.mem_erase_of_ne hne).2 (hs y (List.mem_cons_of_mem _ hy))
    have e := List.length_erase_of_mem hx
    have hp : 0 < D.length := List.length_pos_of_mem hx
    rw [List.length_cons]
    omega
def all27 : List (List Int) := (List.range 27).map fun (i : Nat) => [(i : Int) / 9, (i : Int) / 3 % 3, (i : Int) % 3]
theorem mem27 {k : List Int} (h : Sort3 k) : k ∈ all27 := by
  obtain ⟨hl, hb⟩ := h
  match k, hl with
  | [a, b, c], _ =>
    have ha := hb a (by simp)
    have hb' := hb b (by simp)
    have hc := hb c (by simp)
    refine List.mem_map.mpr ⟨(a * 9 + b * 3 + c).toNat, List.mem_range.mpr (by omega), ?_⟩
    have e : (((a * 9 + b * 3 + c).toNat : Nat) : Int) = a * 9 + b * 3 + c := by omega
    rw [e]
    have e1 : (a * 9 + b * 3 + c) / 9 = a := by omega
    have e2 : (a * 9 + b * 3 + c) / 3 % 3 = b := by omega
    have e3 : (a * 9 + b * 3 + c) % 3 = c := by omega
    rw [e1, e2, e3]
/-- steps as dicts have them: each sort once -/
structure Keys3 (ps : DI) : Prop where
  nd : (ps.map (·.1)).Nodup
  s3 : ∀ p ∈ ps, Sort3 p.1
theorem Keys3.sz {ps : DI} (h : Keys3 ps) : ps.length ≤ 27 := by
  have := nodup_len (ps.map (·.1)) all27 h.nd fun k hk => by
    obtain ⟨p, hp, rfl⟩ := List.mem_map.mp hk
    exact mem27 (h.s3 p hp)
  rw [List.length_map] at this
  exact this
theorem Keys3.nil : Keys3 [] := ⟨List.nodup_nil, fun _ h => nomatch h⟩
theorem Keys3.nz {ps : DI} (h : Keys3 ps) : Keys3 (nz ps) := ⟨nd_nz h.nd, fun p hp => h.s3 p (nz_sub hp)⟩
theorem Keys3.put {ps : DI} (h : Keys3 ps) {k : List Int} (hk : Sort3 k) (v : Int) : Keys3 (putI ps k v) := ⟨nd_putI h.nd, fun p hp => by
  have : p.1 ∈ (putI ps k v).map (·.1) := List.mem_map.mpr ⟨p, hp, rfl⟩
  rw [keys_putI] at this
  have h2 : p.1 ∈ ps.map (·.1) ∨ p.1 = k := by
    split at this
    · exact .inl this
    · rcases List.mem_append.mp this with h | h
      · exact .inl h
      · exact .inr (List.mem_singleton.mp h)
  rcases h2 with h2 | h2
  · obtain ⟨q, hq, e⟩ := List.mem_map.mp h2
    rw [← e]
    exact h.s3 q hq
  · rw [h2]
    exact hk⟩
/-- the steps of a form -/
structure Good (qs : DI) : Prop extends Keys3 qs where
  nz : ∀ p ∈ qs, p.2 ≠ 0
theorem Keys3.good {ps : DI} (h : Keys3 ps) : Good (Sm.nz ps) := ⟨h.nz, fun p hp => by
  have := (List.mem_filter.mp hp).2
  exact of_decide_eq_true this⟩
theorem Good.mem {qs : DI} (h : Good qs) (k : List Int) : k ∈ qs.map (·.1) ↔ gt qs k ≠ 0 := by
  constructor
  · intro hk
    obtain ⟨p, hp, rfl⟩ := List.mem_map.mp hk
    rw [gt_mem h.nd hp]
    exact h.nz p hp
  · intro hk
    rcases Classical.em (k ∈ qs.map (·.1)) with c | c
    · exact c
    · exact absurd (gt_none c) hk
theorem perm_of {α : Type} [BEq α] [LawfulBEq α] : ∀ {l m : List α}, l.Nodup → m.Nodup → (∀ x, x ∈ l ↔ x ∈ m) → l.Perm m
  | [], m, _, _, h => by
    cases m with
    | nil => exact List.Perm.refl _
    | cons y r => exact absurd ((h y).mpr List.mem_cons_self) (fun z => nomatch z)
  | x :: l, m, h1, h2, h => by
    obtain ⟨a1, a2⟩ := List.nodup_cons.mp h1
    have hx : x ∈ m := (h x).mp List.mem_cons_self
    have ih := perm_of (l := l) (m := m.erase x) a2 (h2.erase x) fun y => by
      rw [h2.mem_erase_iff, ← h y, List.mem_cons]
      constructor
      · intro hy
        exact ⟨fun e => a1 (e ▸ hy), .inr hy⟩
      · rintro ⟨n, e | e⟩
        · exact absurd e n
        · exact e
    exact (ih.cons x).trans (List.perm_cons_erase hx).symm
theorem good_perm {qs rs : DI} (h : Good qs) (h' : Good rs) (e : ∀ k, gt qs k = gt rs k) : (qs.map (·.1)).Perm (rs.map (·.1)) :=
  perm_of h.nd h'.nd fun k => by rw [h.mem, h'.mem, e k]
theorem good_same {qs rs : DI} (h : Good qs) (h' : Good rs) (e : ∀ k, gt qs k = gt rs k) : DTx.sameD (enc qs) (enc rs) = true := by
  have pm := (good_perm h h' e).length_eq
  rw [List.length_map, List.length_map] at pm
  unfold DTx.sameD
  rw [Bool.and_eq_true]
  refine ⟨?_, ?_⟩
  · unfold enc
    rw [List.length_map, List.length_map, pm]
    exact beq_self_eq_true _
  · rw [List.all_eq_true]
    intro x hx
    obtain ⟨p, hp, rfl⟩ := List.mem_map.mp hx
    show decide (valV (enc rs) (ek p.1) = some (V.int p.2)) = true
    have g1 := gt_mem h.nd hp
    have g2 := h.nz p hp
    rw [val_enc]
    rw [e] at g1
    unfold gt at g1
    cases hg : getI rs p.1 with
    | none =>
      rw [hg] at g1
      exact absurd g1.symm g2
    | some v =>
      rw [hg] at g1
      have : v = p.2 := g1
      simp [this]
theorem sorted_one : ∀ {l m : List (List Int)}, l.Perm m → (∀ k ∈ l, Sort3 k) → l.Pairwise (fun a b => TS.code 3 a ≤ TS.code 3 b) → m.Pairwise (fun a b => TS.code 3 a ≤ TS.code 3 b) → l = m
  | [], m, h, _, _, _ => by rw [List.nil_perm.mp h]
  | x :: l, [], h, _, _, _ => absurd h.length_eq (by simp)
  | x :: l, y :: m, h, s, p1, p2 => by
    obtain ⟨a1, a2⟩ := List.pairwise_cons.mp p1
    obtain ⟨b1, b2⟩ := List.pairwise_cons.mp p2
    have hx : x ∈ y :: m := h.mem_iff.mp List.mem_cons_self
    have hy : y ∈ x :: l := h.mem_iff.mpr List.mem_cons_self
    have c1 : TS.code 3 x ≤ TS.code 3 y := by
      rcases List.mem_cons.mp hy with e | e
      · rw [e]; exact Int.le_refl _
      · exact a1 y e
    have c2 : TS.code 3 y ≤ TS.code 3 x := by
      rcases List.mem_cons.mp hx with e | e
      · rw [e]; exact Int.le_refl _
      · exact b1 x e
    have sx := s x List.mem_cons_self
    have sy := s y hy
    have e : x = y := code_inj (B := 3) (by decide) (sx.1.trans sy.1.symm) sx.2 sy.2 (Int.le_antisymm c1 c2)
    subst e
    rw [sorted_one ((List.perm_cons x).mp h) (fun k hk => s k (List.mem_cons_of_mem _ hk)) a2 b2]
/-- the sum of a form at counts -/
def atC (qs cs : DI) : Int := (cs.map fun y => gt qs y.1 * y.2).sum
theorem atC_lin {qs q1 q2 : DI} {f g : Int} (h : ∀ k, gt qs k = f * gt q1 k + g * gt q2 k) (cs : DI) : atC qs cs = f * atC q1 cs + g * atC q2 cs := by
  induction cs with
  | nil => simp [atC]
  | cons y r ih =>
    unfold atC at ih ⊢
    rw [List.map_cons, List.map_cons, List.map_cons, List.sum_cons, List.sum_cons, List.sum_cons, ih, h, Int.add_mul, Int.mul_add, Int.mul_add, Int.mul_assoc, Int.mul_assoc]
    omega
end Sm

/-! Bf: breadth first over sums: what is reached by n steps, with and without a limit. -/
namespace Bf
/-- x is reached from a by n steps out of S -/
inductive Rch (S : List Int) (a : Int) : Nat → Int → Prop
  | zero : Rch S a 0 a
  | succ {n : Nat} {x s : Int} : Rch S a n x → s ∈ S → Rch S a (n + 1) (x + s)
/-- the same, no number behind a beyond the limit -/
inductive RchB (S : List Int) (L : Int) (a : Int) : Nat → Int → Prop
  | zero : RchB S L a 0 a
  | succ {n : Nat} {x s : Int} : RchB S L a n x → s ∈ S → -L ≤ x + s → x + s ≤ L → RchB S L a (n + 1) (x + s)
/-- x is reached by i steps and by no fewer -/
def Dst (S : List Int) (L a : Int) (i : Nat) (x : Int) : Prop := RchB S L a i x ∧ ∀ j, j < i → ¬ RchB S L a j x
section
variable {S S' : List Int} {L L' a : Int} {i j n : Nat} {x y : Int}
theorem RchB.un (h : RchB S L a n x) : Rch S a n x := by
  induction h with
  | zero => exact .zero
  | succ _ hs _ _ ih => exact .succ ih hs
theorem RchB.lim (h : RchB S L a n x) (ha : -L ≤ a ∧ a ≤ L) : -L ≤ x ∧ x ≤ L := by
  cases h with
  | zero => exact ha
  | succ _ _ h1 h2 => exact ⟨h1, h2⟩
theorem Rch.sub (h : Rch S a n x) (hs : ∀ s ∈ S, s ∈ S') : Rch S' a n x := by
  induction h with
  | zero => exact .zero
  | succ _ h ih => exact .succ ih (hs _ h)
theorem RchB.sub (h : RchB S L a n x) (hs : ∀ s ∈ S, s ∈ S') : RchB S' L a n x := by
  induction h with
  | zero => exact .zero
  | succ _ h h1 h2 ih => exact .succ ih (hs _ h) h1 h2
/-- steps of 0 may be left out -/
theorem Rch.drop (h : Rch S a n x) (hs : ∀ s ∈ S, s ≠ 0 → s ∈ S') : ∃ m, m ≤ n ∧ Rch S' a m x := by
  induction h with
  | zero => exact ⟨0, Nat.le_refl _, .zero⟩
  | @succ n x s _ h ih =>
    obtain ⟨m, hm, r⟩ := ih
    by_cases e : s = 0
    · exact ⟨m, by omega, by rw [e, Int.add_zero]; exact r⟩
    · exact ⟨m + 1, by omega, .succ r (hs s h e)⟩
theorem Rch.list (h : Rch S a n x) : ∃ l : List Int, l.length = n ∧ (∀ s ∈ l, s ∈ S) ∧ a + l.sum = x := by
  induction h with
  | zero => exact ⟨[], rfl, (fun _ h => nomatch h), by simp⟩
  | @succ n x s _ hs ih =>
    obtain ⟨l, h1, h2, h3⟩ := ih
    refine ⟨s :: l, by simp [h1], fun t ht => ?_, by rw [List.sum_cons]; omega⟩
    rcases List.mem_cons.mp ht with e | ht
    · rw [e]; exact hs
    · exact h2 t ht
theorem Rch.front {s : Int} (h : Rch S (a + s) n x) (hs : s ∈ S) : Rch S a (n + 1) x := by
  induction h with
  | zero => exact .succ .zero hs
  | succ _ h ih => exact .succ ih h
theorem RchB.front {s : Int} (h : RchB S L (a + s) n x) (hs : s ∈ S) (h1 : -L ≤ a + s) (h2 : a + s ≤ L) : RchB S L a (n + 1) x := by
  induction h with
  | zero => exact .succ .zero hs h1 h2
  | succ _ h h3 h4 ih => exact .succ ih h h3 h4
theorem rch_of_list : ∀ (l : List Int) (a : Int), (∀ s ∈ l, s ∈ S) → Rch S a l.length (a + l.sum)
  | [], a, _ => by
    rw [List.sum_nil, Int.add_zero]
    exact .zero
  | s :: l, a, h => by
    have := rch_of_list l (a + s) fun t ht => h t (List.mem_cons_of_mem _ ht)
    rw [List.sum_cons, ← Int.add_assoc]
    exact this.front (h s List.mem_cons_self)
theorem sum_erase {s : Int} : ∀ {l : List Int}, s ∈ l → (l.erase s).sum + s = l.sum
  | x :: l, h => by
    by_cases e : x = s
    · subst e
      rw [List.erase_cons_head, List.sum_cons]
      omega
    · rcases List.mem_cons.mp h with h | h
      · exact absurd h.symm e
      · rw [List.erase_cons_tail (by simpa using e), List.sum_cons, List.sum_cons]
        have := sum_erase h
        omega
theorem neg_of_sum : ∀ {l : List Int}, l.sum < 0 → ∃ s ∈ l, s < 0
  | [], h => by simp at h
  | x :: l, h => by
    by_cases e : x < 0
    · exact ⟨x, List.mem_cons_self, e⟩
    · rw [List.sum_cons] at h
      obtain ⟨s, hs, h0⟩ := neg_of_sum (l := l) (by omega)
      exact ⟨s, List.mem_cons_of_mem _ hs, h0⟩
theorem pos_of_sum : ∀ {l : List Int}, 0 < l.sum → ∃ s ∈ l, 0 < s
  | [], h => by simp at h
  | x :: l, h => by
    by_cases e : 0 < x
    · exact ⟨x, List.mem_cons_self, e⟩
    · rw [List.sum_cons] at h
      obtain ⟨s, hs, h0⟩ := pos_of_sum (l := l) (by omega)
      exact ⟨s, List.mem_cons_of_mem _ hs, h0⟩
/-- steps with the sum -a can be taken in an order that stays within the limit -/
theorem order (hS : ∀ s ∈ S, -L ≤ s ∧ s ≤ L) : ∀ (n : Nat) (l : List Int) (a : Int), l.length = n → (∀ s ∈ l, s ∈ S) → a + l.sum = 0 → -L ≤ a → a ≤ L → ∃ m, m ≤ n ∧ RchB S L a m 0
  | 0, l, a, hl, hm, h0, h1, h2 => by
    have : l = [] := List.length_eq_zero_iff.mp hl
    subst this
    have : a = 0 := by simpa using h0
    subst this
    exact ⟨0, Nat.le_refl _, .zero⟩
  | n + 1, l, a, hl, hm, h0, h1, h2 => by
    have go : ∀ s ∈ l, -L ≤ a + s → a + s ≤ L → ∃ m, m ≤ n + 1 ∧ RchB S L a m 0 := fun s hs g1 g2 => by
      have e := sum_erase hs
      obtain ⟨m, hmn, r⟩ := order hS n (l.erase s) (a + s) (by rw [List.length_erase_of_mem hs, hl]; rfl) (fun t ht => hm t (List.mem_of_mem_erase ht)) (by omega) g1 g2
      exact ⟨m + 1, by omega, r.front (hm s hs) g1 g2⟩
    by_cases c0 : a = 0
    · subst c0
      exact ⟨0, Nat.zero_le _, .zero⟩
    by_cases c : 0 < a
    · obtain ⟨s, hs, hn⟩ := neg_of_sum (l := l) (by omega)
      have := hS s (hm s hs)
      exact go s hs (by omega) (by omega)
    · obtain ⟨s, hs, hn⟩ := pos_of_sum (l := l) (by omega)
      have := hS s (hm s hs)
      exact go s hs (by omega) (by omega)
theorem Rch.within (h : Rch S a n 0) (hS : ∀ s ∈ S, -L ≤ s ∧ s ≤ L) (ha : -L ≤ a ∧ a ≤ L) : ∃ m, m ≤ n ∧ RchB S L a m 0 := by
  obtain ⟨l, h1, h2, h3⟩ := h.list
  exact order hS n l a h1 h2 h3 ha.1 ha.2
theorem Dst.one (h : Dst S L a i x) (h' : Dst S L a j x) : i = j := by
  rcases Nat.lt_trichotomy i j with c | c | c
  · exact absurd h.1 (h'.2 i c)
  · exact c
  · exact absurd h'.1 (h.2 j c)
theorem RchB.dst : ∀ {n : Nat} {x : Int}, RchB S L a n x → ∃ j, j ≤ n ∧ Dst S L a j x := by
  intro n
  induction n using Nat.strongRecOn with
  | _ n ih =>
    intro x h
    rcases Classical.em (∃ j, j < n ∧ RchB S L a j x) with ⟨j, hj, r⟩ | c
    · obtain ⟨k, hk, d⟩ := ih j hj r
      exact ⟨k, by omega, d⟩
    · exact ⟨n, Nat.le_refl _, h, fun j hj r => c ⟨j, hj, r⟩⟩
theorem dst0 (h : Dst S L a i a) : i = 0 := by
  cases i with
  | zero => rfl
  | succ i => exact absurd RchB.zero (h.2 0 (Nat.succ_pos _))
/-- what is known behind i turns: C what came, R the ring -/
structure Lev (S : List Int) (L a : Int) (i : Nat) (C R : List Int) : Prop where
  came : ∀ x, x ∈ C ↔ ∃ j, j ≤ i ∧ RchB S L a j x
  ring : ∀ x, x ∈ R ↔ Dst S L a i x
  nd : C.Nodup
theorem Lev.start : Lev S L a 0 [a] [a] := by
  refine ⟨fun x => ?_, fun x => ?_, by simp⟩
  · rw [List.mem_singleton]
    constructor
    · rintro rfl
      exact ⟨0, Nat.le_refl _, .zero⟩
    · rintro ⟨j, hj, h⟩
      have : j = 0 := by omega
      subst this
      cases h
      rfl
  · rw [List.mem_singleton]
    constructor
    · rintro rfl
      exact ⟨.zero, fun j hj => absurd hj (Nat.not_lt_zero _)⟩
    · rintro ⟨h, _⟩
      cases h
      rfl
/-- what is found in a turn -/
structure Found (S : List Int) (L : Int) (C R F : List Int) : Prop where
  mem : ∀ x, x ∈ F ↔ (x ∉ C ∧ -L ≤ x ∧ x ≤ L ∧ ∃ n ∈ R, ∃ s ∈ S, x = n + s)
  nd : F.Nodup
theorem Lev.next {C R F : List Int} (h : Lev S L a i C R) (f : Found S L C R F) : Lev S L a (i + 1) (C ++ F) F := by
  have key : ∀ x, x ∈ F ↔ Dst S L a (i + 1) x := fun x => by
    rw [f.mem]
    constructor
    · rintro ⟨hc, h1, h2, n, hn, s, hs, rfl⟩
      refine ⟨.succ ((h.ring n).mp hn).1 hs h1 h2, fun j hj r => hc ((h.came _).mpr ⟨j, by omega, r⟩)⟩
    · rintro ⟨r, hmin⟩
      cases r with
      | @succ _ n s r hs h1 h2 =>
        refine ⟨fun hc => ?_, h1, h2, n, (h.ring n).mpr ⟨r, fun j hj r' => ?_⟩, s, hs, rfl⟩
        · obtain ⟨j, hj, r'⟩ := (h.came _).mp hc
          exact hmin j (by omega) r'
        · exact hmin (j + 1) (by omega) (.succ r' hs h1 h2)
  refine ⟨fun x => ?_, key, ?_⟩
  · rw [List.mem_append]
    constructor
    · rintro (hx | hx)
      · obtain ⟨j, hj, r⟩ := (h.came x).mp hx
        exact ⟨j, by omega, r⟩
      · exact ⟨i + 1, Nat.le_refl _, ((key x).mp hx).1⟩
    · rintro ⟨j, hj, r⟩
      obtain ⟨k, hk, d⟩ := r.dst
      by_cases e : k = i + 1
      · exact .inr ((key x).mpr (e ▸ d))
      · exact .inl ((h.came x).mpr ⟨k, by omega, d.1⟩)
  · rw [List.nodup_append]
    refine ⟨h.nd, f.nd, fun x hx y hy e => ?_⟩
    exact ((f.mem y).mp hy).1 (e ▸ hx)
/-- the ring is empty: everything came -/
theorem Lev.all {C : List Int} (h : Lev S L a i C []) : ∀ n x, RchB S L a n x → x ∈ C := by
  intro n x r
  induction r with
  | zero => exact (h.came a).mpr ⟨0, Nat.zero_le _, .zero⟩
  | @succ n x s _ hs h1 h2 ih =>
    obtain ⟨j, hj, r⟩ := (h.came x).mp ih
    obtain ⟨k, hk, d⟩ := r.dst
    have : k ≠ i := fun e => by
      have := (h.ring x).mpr (e ▸ d)
      cases this
    exact (h.came _).mpr ⟨k + 1, by omega, .succ d.1 hs h1 h2⟩
theorem Lev.lim {C R : List Int} (h : Lev S L a i C R) (ha : -L ≤ a ∧ a ≤ L) {x : Int} (hx : x ∈ C) : -L ≤ x ∧ x ≤ L := by
  obtain ⟨j, _, r⟩ := (h.came x).mp hx
  exact r.lim ha
theorem Lev.sub {C R : List Int} (h : Lev S L a i C R) : ∀ x ∈ R, x ∈ C := fun x hx => (h.came x).mpr ⟨i, Nat.le_refl _, ((h.ring x).mp hx).1⟩
/-- a list of different numbers within the limit is no longer than the limit allows -/
theorem few {C : List Int} (nd : C.Nodup) (h : ∀ x ∈ C, -L ≤ x ∧ x ≤ L) (hL : 0 ≤ L) : (C.length : Int) ≤ 2 * L + 1 := by
  have key : ∀ (D : List Int) (k : Nat), D.Nodup → (∀ x ∈ D, 0 ≤ x ∧ x < (k : Int)) → D.length ≤ k := by
    intro D k
    induction k generalizing D with
    | zero =>
      intro _ hb
      cases D with
      | nil => exact Nat.le_refl _
      | cons x D =>
        have := hb x List.mem_cons_self
        omega
    | succ k ih =>
      intro hn hb
      have := ih (D.erase (k : Int)) (hn.erase _) fun x hx => by
        have h1 := hb x (List.mem_of_mem_erase hx)
        have h2 := (hn.mem_erase_iff.mp hx).1
        omega
      have l := List.length_erase (a := (k : Int)) (l := D)
      split at l <;> omega
  have := key (C.map fun x => x + L) (2 * L + 1).toNat (by
    refine List.pairwise_map.mpr (nd.imp ?_)
    intro x y hxy e
    omega) (fun x hx => by
      obtain ⟨y, hy, rfl⟩ := List.mem_map.mp hx
      have := h y hy
      omega)
  rw [List.length_map] at this
  omega
/-- a number that is reached by i steps and no fewer has i others before it -/
theorem dst_len : ∀ {i : Nat} {x : Int}, Dst S L a i x → ∃ l : List Int, l.length = i + 1 ∧ l.Nodup ∧ ∀ y ∈ l, ∃ j, j ≤ i ∧ Dst S L a j y
  | 0, x, d => ⟨[x], rfl, by simp, fun y hy => ⟨0, Nat.le_refl _, by rw [List.mem_singleton.mp hy]; exact d⟩⟩
  | i + 1, x, d => by
    have p : ∃ y, Dst S L a i y := by
      obtain ⟨r, hm⟩ := d
      cases r with
      | @succ _ n s r hs h1 h2 => exact ⟨n, r, fun j hj r' => hm (j + 1) (by omega) (.succ r' hs h1 h2)⟩
    obtain ⟨y, hy⟩ := p
    obtain ⟨l, h1, h2, h3⟩ := dst_len hy
    refine ⟨x :: l, by rw [List.length_cons, h1], List.nodup_cons.mpr ⟨fun hx => ?_, h2⟩, fun z hz => ?_⟩
    · obtain ⟨j, hj, dj⟩ := h3 x hx
      have := d.one dj
      omega
    · rcases List.mem_cons.mp hz with e | hz
      · exact ⟨i + 1, Nat.le_refl _, e ▸ d⟩
      · obtain ⟨j, hj, dj⟩ := h3 z hz
        exact ⟨j, by omega, dj⟩
theorem Dst.le2 (d : Dst S L a i x) (ha : -L ≤ a ∧ a ≤ L) : (i : Int) ≤ 2 * L := by
  obtain ⟨l, h1, h2, h3⟩ := dst_len d
  have := Bf.few (L := L) h2 (fun y hy => by
    obtain ⟨j, _, dj⟩ := h3 y hy
    exact dj.1.lim ha) (by omega)
  omega
/-- the least number of steps that lead to 0 -/
def Least (S : List Int) (a : Int) : Option Nat → Prop
  | none => ∀ n, ¬ Rch S a n 0
  | some m => Rch S a m 0 ∧ ∀ n, Rch S a n 0 → m ≤ n
theorem Least.one {o o' : Option Nat} (h : Least S a o) (h' : Least S a o') : o = o' := by
  cases o with
  | none => cases o' with
    | none => rfl
    | some m => exact absurd h'.1 (h m)
  | some m => cases o' with
    | none => exact absurd h.1 (h' m)
    | some k =>
      have h1 := h.2 k h'.1
      have h2 := h'.2 m h.1
      rw [show m = k by omega]
theorem least_some (hS : ∀ s ∈ S, -L ≤ s ∧ s ≤ L) (ha : -L ≤ a ∧ a ≤ L) (h : Dst S L a i 0) : Least S a (some i) := by
  refine ⟨h.1.un, fun n r => ?_⟩
  obtain ⟨m, hm, r⟩ := r.within hS ha
  rcases Nat.lt_or_ge m i with c | c
  · exact absurd r (h.2 m c)
  · omega
theorem least_none (hS : ∀ s ∈ S, -L ≤ s ∧ s ≤ L) (ha : -L ≤ a ∧ a ≤ L) {C : List Int} (h : Lev S L a i C []) (h0 : (0 : Int) ∉ C) : Least S a none := fun n r => by
  obtain ⟨m, _, r⟩ := r.within hS ha
  exact h0 (h.all m 0 r)
/-- the same steps but 0 -/
theorem Least.steps {o : Option Nat} (h : Least S a o) (e : ∀ s, s ≠ 0 → (s ∈ S ↔ s ∈ S')) : Least S' a o := by
  have f : ∀ n, Rch S' a n 0 → ∃ m, m ≤ n ∧ Rch S a m 0 := fun n r => r.drop fun s hs hn => (e s hn).mpr hs
  have g : ∀ n, Rch S a n 0 → ∃ m, m ≤ n ∧ Rch S' a m 0 := fun n r => r.drop fun s hs hn => (e s hn).mp hs
  cases o with
  | none =>
    intro n r
    obtain ⟨m, _, r⟩ := f n r
    exact h m r
  | some k =>
    obtain ⟨m, hm, r⟩ := g k h.1
    obtain ⟨m', hm', r'⟩ := f m r
    have := h.2 m' r'
    have e : m = k := by omega
    subst e
    refine ⟨r, fun n r => ?_⟩
    obtain ⟨m2, hm2, r2⟩ := f n r
    have := h.2 m2 r2
    omega
end
end Bf

/-! Sl2: comprehensions of ints over a locked dict told by any expression, over lists of ints. -/
namespace Sl
open PySem L2 Sm
/-- [F for k in d], d told by td -/
theorem lock_intsG {σ : L2.St} {H : Hp} {c : Addr} {r : DI} {j : Nat} {te td : TE} {F : List Int → Int → Int} {Q : VK} (hc : H c = some (.dT (enc r))) (hsz : r.length < 1000)
    (hd : ∀ (H' : Hp) (R : VK), (∀ b o, H b = some o → b ≠ c → H' b = some o) → R (.ref c) H' → td σ H' R)
    (step : ∀ (od : Obj) (H' : Hp) (k : List Int) (z : Int) (t : Addr), (∀ b o, H b = some o → b ≠ c → H' b = some o) → H' c = some (.frz od (.dT (enc r))) → (k, z) ∈ r → H' t = some (.tup (k.map V.int)) →
      ∀ R : VK, R (.int (F k z)) H' → te ((wipe σ [j]).set j (some (.ref t))) H' R)
    (done : ∀ (D : Addr) (H' : Hp), H D = none → Same H H' → H' D = some (.lst ((r.map fun y => F y.1 y.2).map V.int)) → Q (.ref D) H') : tLockE (tLc (iKeys td) (gName j) tYes te [j]) σ H Q := by
  refine ⟨c, _, hc, trivial, fun od => ?_⟩
  refine Eg.w_lc (Eg.w_iK (hd _ _ (fun b o e hn => Eg.upd_mut hn e) (Eg.c_iKT upd_same ?_)))
  intro D hD
  have hDc : D ≠ c := fun e => by rw [e, upd_same] at hD; cases hD
  have hD0 : H D = none := by rw [upd_ne hDc] at hD; exact hD
  refine lc_it walk_keysT (fun n H' => H' c = some (.frz od (.dT (enc r))) ∧ H' D = some (.lst (((r.take n).map fun y => F y.1 y.2).map V.int)) ∧ ∀ b o, H b = some o → b ≠ c → H' b = some o) ?_ (fun n H' _ h => h.1) ?_ ?_
  · exact ⟨Eg.upd_old upd_same hD, upd_same, fun b o e hn => Eg.upd_old (Eg.upd_mut hn e) hD⟩
  · rintro n y _ _ hn ⟨h1, h2, h3⟩ ⟨rfl, k, v, t, hk, rfl, ht⟩
    obtain ⟨kk, z, hkz, rfl, rfl⟩ := inl_key hk
    rw [ek_kV] at ht
    obtain ⟨hlt, he⟩ := List.getElem?_eq_some_iff.mp hkz
    refine Eg.w_gN (Eg.w_wipe ?_ (Eg.w_yes (iteT (step od _ kk z t h3 h1 (List.mem_of_getElem? hkz) ht _ ?_))))
    · show (((σ.set j none).set j (some (.ref t))).set j none) = σ.set j none
      rw [List.set_set, List.set_set]
    · refine ⟨_, h2, ?_, Eg.upd_mut hDc.symm h1, ?_, fun b o e hne => Eg.upd_mut (ne_of_none e hD0) (h3 b o e hne)⟩
      · rw [List.length_map, List.length_map, List.length_take, sizeLine_eq]
        omega
      · rw [upd_same, List.take_succ_eq_append_getElem hlt, he]
        simp
  · rintro H1 ⟨h1, h2, h3⟩
    refine ⟨h1, done D _ hD0 (fun b o e => ?_) (Eg.upd_mut hDc ?_)⟩
    · by_cases hb : b = c
      · rw [hb, upd_same]
        rw [hb, hc] at e
        exact e
      · exact Eg.upd_mut hb (h3 b o e hb)
    · rw [h2]
      unfold enc
      rw [List.length_map, List.take_length]
theorem tups_pairs {H : Hp} {xs : List V} {ks : List (List Int)} (h : TupsAt H xs ks) : ∃ L : List (Addr × List Int), xs = L.map (fun q => V.ref q.1) ∧ L.map (·.2) = ks ∧ ∀ q ∈ L, H q.1 = some (.tup (q.2.map V.int)) := by
  induction h with
  | nil => exact ⟨[], rfl, rfl, fun _ z => nomatch z⟩
  | @cons a b as bs hab r ih =>
    obtain ⟨t, rfl, ht⟩ := hab
    obtain ⟨L, e1, e2, e3⟩ := ih
    refine ⟨(t, b) :: L, by rw [List.map_cons, e1], by rw [List.map_cons, e2], fun q hq => ?_⟩
    rcases List.mem_cons.mp hq with rfl | hq
    · exact ht
    · exact e3 q hq
theorem pairs_tups {H : Hp} {L : List (Addr × List Int)} (h : ∀ q ∈ L, H q.1 = some (.tup (q.2.map V.int))) : TupsAt H (L.map fun q => V.ref q.1) (L.map (·.2)) := by
  induction L with
  | nil => exact .nil
  | cons q r ih => exact .cons ⟨q.1, rfl, h q List.mem_cons_self⟩ (ih fun y hy => h y (List.mem_cons_of_mem _ hy))
theorem nz_succ {ps : DI} {i : Nat} {p : List Int × Int} (h : ps[i]? = some p) : nz (ps.take (i + 1)) = nz (ps.take i) ++ nz [p] := by
  obtain ⟨hl, e⟩ := List.getElem?_eq_some_iff.mp h
  rw [List.take_succ_eq_append_getElem hl, e, nz, List.filter_append]
  rfl
/-- [k for k in d if d[k] != 0] -/
theorem lock_keysG {σ : L2.St} {H : Hp} {c : Addr} {r : DI} {j : Nat} {td : TE} {tt : TT} {Q : VK} (hj : j < σ.length) (hc : H c = some (.dT (enc r))) (hsz : r.length < 1000)
    (hd : ∀ (H' : Hp) (R : VK), (∀ b o, H b = some o → b ≠ c → H' b = some o) → R (.ref c) H' → td σ H' R)
    (test : ∀ (od : Obj) (H' : Hp) (k : List Int) (z : Int) (t : Addr), (∀ b o, H b = some o → b ≠ c → H' b = some o) → H' c = some (.frz od (.dT (enc r))) → (k, z) ∈ r → H' t = some (.tup (k.map V.int)) →
      ∀ R : Bool → Hp → Prop, R (decide (z ≠ 0)) H' → tt ((wipe σ [j]).set j (some (.ref t))) H' R)
    (done : ∀ (D : Addr) (ys : List V) (H' : Hp), H D = none → Same H H' → H' D = some (.lst ys) → TupsAt H' ys ((nz r).map (·.1)) → Q (.ref D) H') : tLockE (tLc (iKeys td) (gName j) tt (tVar j) [j]) σ H Q := by
  refine ⟨c, _, hc, trivial, fun od => ?_⟩
  refine Eg.w_lc (Eg.w_iK (hd _ _ (fun b o e hn => Eg.upd_mut hn e) (Eg.c_iKT upd_same ?_)))
  intro D hD
  have hDc : D ≠ c := fun e => by rw [e, upd_same] at hD; cases hD
  have hD0 : H D = none := by rw [upd_ne hDc] at hD; exact hD
  refine lc_it walk_keysT (fun n H' => H' c = some (.frz od (.dT (enc r))) ∧ (∃ ys, H' D = some (.lst ys) ∧ TupsAt H' ys ((nz (r.take n)).map (·.1))) ∧ ∀ b o, H b = some o → b ≠ c → H' b = some o) ?_ (fun n H' _ h => h.1) ?_ ?_
  · exact ⟨Eg.upd_old upd_same hD, ⟨[], upd_same, .nil⟩, fun b o e hn => Eg.upd_old (Eg.upd_mut hn e) hD⟩
  · rintro n y _ H1 hn ⟨h1, ⟨ys, h2, ty⟩, h3⟩ ⟨rfl, k, v, t, hk, rfl, ht⟩
    obtain ⟨kk, z, hkz, rfl, rfl⟩ := inl_key hk
    rw [ek_kV] at ht
    refine Eg.w_gN (Eg.w_wipe ?_ (test od _ kk z t h3 h1 (List.mem_of_getElem? hkz) ht _ ?_))
    · show (((σ.set j none).set j (some (.ref t))).set j none) = σ.set j none
      rw [List.set_set, List.set_set]
    have tyl := ty.len
    have fl := List.length_filter_le (fun p : List Int × Int => decide (p.2 ≠ 0)) (r.take n)
    rw [List.length_take] at fl
    rw [List.length_map] at tyl
    unfold nz at tyl
    by_cases hz : z = 0
    · rw [decide_eq_false (fun h => h hz)]
      refine iteF ⟨h1, ⟨ys, h2, ?_⟩, h3⟩
      rw [nz_succ hkz, hz, List.map_append, show (nz [((kk, 0) : List Int × Int)]).map (·.1) = [] from by simp [nz], List.append_nil]
      exact ty
    · rw [decide_eq_true hz]
      refine iteT (Eg.w_var (v := .ref t) ?_ ⟨_, h2, by rw [sizeLine_eq]; omega, Eg.upd_mut hDc.symm h1, ⟨_, upd_same, ?_⟩, fun b o e hne => Eg.upd_mut (ne_of_none e hD0) (h3 b o e hne)⟩)
      · show ((σ.set j none).set j (some (.ref t)))[j]? = _
        rw [List.getElem?_set_self (by rw [List.length_set]; exact hj)]
      · rw [nz_succ hkz, List.map_append]
        refine TupsAt.app (ty.same (Eg.tup_upd h2)) ?_
        rw [show (nz [((kk, z) : List Int × Int)]).map (·.1) = [kk] from by simp [nz, hz]]
        exact .cons ⟨t, rfl, Eg.tup_upd h2 _ _ ht⟩ .nil
  · rintro H1 ⟨h1, ⟨ys, h2, ty⟩, h3⟩
    have el : (enc r).length = r.length := by unfold enc; rw [List.length_map]
    rw [el, List.take_length] at ty
    refine ⟨h1, done D ys _ hD0 (fun b o e => ?_) (Eg.upd_mut hDc h2) (ty.same fun b zs e => ?_)⟩
    · by_cases hb : b = c
      · rw [hb, upd_same]
        rw [hb, hc] at e
        exact e
      · exact Eg.upd_mut hb (h3 b o e hb)
    · rw [upd_ne (ne_of e h1 (fun z => nomatch z))]
      exact e
/-- [z for z in xs if P z] -/
theorem filt_ints {K : PySem.W.Frag} {σ : L2.St} {H : Hp} {a : Addr} {xs : List Int} {j : Nat} {ti : TE} {tt : TT} {P : Int → Bool} {Q : VK} (hj : j < σ.length) (ha : SqL K H a (xs.map V.int)) (hsz : xs.length < 100000)
    (hi : ∀ R : VK, R (.ref a) H → ti σ H R) (keep : ∀ H', Same H H' → SqL K H' a (xs.map V.int))
    (test : ∀ (H' : Hp) (z : Int) (R : Bool → Hp → Prop), Same H H' → z ∈ xs → R (P z) H' → tt ((wipe σ [j]).set j (some (.int z))) H' R)
    (done : ∀ (D : Addr) (H' : Hp), H D = none → Same H H' → H' D = some (.lst ((xs.filter P).map V.int)) → Q (.ref D) H') : tLc (iList K ti) (gName j) tt (tVar j) [j] σ H Q := by
  refine Eg.w_lc (Eg.w_iL (hi _ (Eg.c_iL ha ?_)))
  intro D hD
  refine lc_list (xs := xs.map V.int) (fun n H' => Same H H' ∧ H' D = some (.lst (((xs.take n).filter P).map V.int))) ⟨Eg.same_new (Same.refl _) hD, upd_same⟩ (fun n H' _ h => keep _ h.1) ?_ ?_
  · rintro n x H1 hx ⟨s1, h2⟩
    rw [List.getElem?_map] at hx
    obtain ⟨z, hz, rfl⟩ := Option.map_eq_some_iff.mp hx
    obtain ⟨hlt, he⟩ := List.getElem?_eq_some_iff.mp hz
    refine Eg.w_gN (Eg.w_wipe ?_ (test H1 z _ s1 (List.mem_of_getElem? hz) ?_))
    · show (((σ.set j none).set j (some (.int z))).set j none) = σ.set j none
      rw [List.set_set, List.set_set]
    · have fl := List.length_filter_le P (xs.take n)
      rw [List.length_take] at fl
      cases hp : P z with
      | true =>
        refine iteT (Eg.w_var (v := .int z) ?_ ⟨_, h2, ?_, Eg.same_mut s1 hD, ?_⟩)
        · show ((σ.set j none).set j (some (.int z)))[j]? = _
          rw [List.getElem?_set_self (by rw [List.length_set]; exact hj)]
        · rw [List.length_map, sizeLine_eq]
          omega
        · rw [upd_same, List.take_succ_eq_append_getElem hlt, he, List.filter_append]
          simp [hp]
      | false =>
        refine iteF ⟨s1, ?_⟩
        rw [h2, List.take_succ_eq_append_getElem hlt, he, List.filter_append]
        simp [hp]
  · rintro H1 ⟨s1, h2⟩
    rw [List.length_map, List.take_length] at h2
    exact done D H1 hD s1 h2
/-- [F z for z in xs] -/
theorem map_ints {K : PySem.W.Frag} {σ : L2.St} {H : Hp} {a : Addr} {xs : List Int} {j : Nat} {ti te : TE} {F : Int → Int} {Q : VK} (ha : SqL K H a (xs.map V.int)) (hsz : xs.length < 100000)
    (hi : ∀ R : VK, R (.ref a) H → ti σ H R) (keep : ∀ H', Same H H' → SqL K H' a (xs.map V.int))
    (elt : ∀ (H' : Hp) (z : Int) (R : VK), Same H H' → z ∈ xs → R (.int (F z)) H' → te ((wipe σ [j]).set j (some (.int z))) H' R)
    (done : ∀ (D : Addr) (H' : Hp), H D = none → Same H H' → H' D = some (.lst ((xs.map F).map V.int)) → Q (.ref D) H') : tLc (iList K ti) (gName j) tYes te [j] σ H Q := by
  refine Eg.w_lc (Eg.w_iL (hi _ (Eg.c_iL ha ?_)))
  intro D hD
  refine lc_list (xs := xs.map V.int) (fun n H' => Same H H' ∧ H' D = some (.lst (((xs.take n).map F).map V.int))) ⟨Eg.same_new (Same.refl _) hD, upd_same⟩ (fun n H' _ h => keep _ h.1) ?_ ?_
  · rintro n x H1 hx ⟨s1, h2⟩
    rw [List.getElem?_map] at hx
    obtain ⟨z, hz, rfl⟩ := Option.map_eq_some_iff.mp hx
    obtain ⟨hlt, he⟩ := List.getElem?_eq_some_iff.mp hz
    refine Eg.w_gN (Eg.w_wipe ?_ (Eg.w_yes (iteT (elt H1 z _ s1 (List.mem_of_getElem? hz) ⟨_, h2, ?_, Eg.same_mut s1 hD, ?_⟩))))
    · show (((σ.set j none).set j (some (.int z))).set j none) = σ.set j none
      rw [List.set_set, List.set_set]
    · rw [List.length_map, List.length_map, List.length_take, sizeLine_eq]
      omega
    · rw [upd_same, List.take_succ_eq_append_getElem hlt, he]
      simp
  · rintro H1 ⟨s1, h2⟩
    rw [List.length_map, List.take_length] at h2
    exact done D H1 hD s1 h2
/-- [n for n in d if P n], d with int keys -/
theorem lock_keysI {σ : L2.St} {H : Hp} {c : Addr} {kvs : List (Key × V)} {xs : List Int} {j : Nat} {td : TE} {tt : TT} {P : Int → Bool} {Q : VK} (hj : j < σ.length) (hc : H c = some (.dK kvs)) (hk : kvs.map (·.1) = xs.map Sum.inl) (hsz : xs.length < 100000)
    (hd : ∀ (H' : Hp) (R : VK), (∀ b o, H b = some o → b ≠ c → H' b = some o) → R (.ref c) H' → td σ H' R)
    (test : ∀ (H' : Hp) (z : Int), (∀ b o, H b = some o → b ≠ c → H' b = some o) → z ∈ xs → ∀ R : Bool → Hp → Prop, R (P z) H' → tt ((wipe σ [j]).set j (some (.int z))) H' R)
    (done : ∀ (D : Addr) (H' : Hp), H D = none → Same H H' → H' D = some (.lst ((xs.filter P).map V.int)) → Q (.ref D) H') : tLockE (tLc (iKeys td) (gName j) tt (tVar j) [j]) σ H Q := by
  refine ⟨c, _, hc, trivial, fun od => ?_⟩
  refine Eg.w_lc (Eg.w_iK (hd _ _ (fun b o e hn => Eg.upd_mut hn e) (Eg.c_iKK upd_same ?_)))
  intro D hD
  have hDc : D ≠ c := fun e => by rw [e, upd_same] at hD; cases hD
  have hD0 : H D = none := by rw [upd_ne hDc] at hD; exact hD
  have hl : kvs.length = xs.length := by
    have := congrArg List.length hk
    simpa only [List.length_map] using this
  refine lc_it walk_keys (fun n H' => H' c = some (.frz od (.dK kvs)) ∧ H' D = some (.lst (((xs.take n).filter P).map V.int)) ∧ ∀ b o, H b = some o → b ≠ c → H' b = some o) ?_ (fun n H' _ h => h.1) ?_ ?_
  · exact ⟨Eg.upd_old upd_same hD, upd_same, fun b o e hn => Eg.upd_old (Eg.upd_mut hn e) hD⟩
  · rintro n y _ H1 hn ⟨h1, h2, h3⟩ ⟨rfl, k, v, hkv, rfl⟩
    have hx : (xs.map (Sum.inl : Int → Key))[n]? = some k := by rw [← hk, List.getElem?_map, hkv]; rfl
    rw [List.getElem?_map] at hx
    obtain ⟨z, hz, rfl⟩ := Option.map_eq_some_iff.mp hx
    obtain ⟨hlt, he⟩ := List.getElem?_eq_some_iff.mp hz
    refine Eg.w_gN (Eg.w_wipe ?_ (test H1 z h3 (List.mem_of_getElem? hz) _ ?_))
    · show (((σ.set j none).set j (some (.int z))).set j none) = σ.set j none
      rw [List.set_set, List.set_set]
    · have fl := List.length_filter_le P (xs.take n)
      rw [List.length_take] at fl
      cases hp : P z with
      | true =>
        refine iteT (Eg.w_var (v := .int z) ?_ ⟨_, h2, ?_, Eg.upd_mut hDc.symm h1, ?_, fun b o e hne => Eg.upd_mut (ne_of_none e hD0) (h3 b o e hne)⟩)
        · show ((σ.set j none).set j (some (.int z)))[j]? = _
          rw [List.getElem?_set_self (by rw [List.length_set]; exact hj)]
        · rw [List.length_map, sizeLine_eq]
          omega
        · rw [upd_same, List.take_succ_eq_append_getElem hlt, he, List.filter_append]
          simp [hp]
      | false =>
        refine iteF ⟨h1, ?_, h3⟩
        rw [h2, List.take_succ_eq_append_getElem hlt, he, List.filter_append]
        simp [hp]
  · rintro H1 ⟨h1, h2, h3⟩
    rw [hl, List.take_length] at h2
    refine ⟨h1, done D _ hD0 (fun b o e => ?_) (Eg.upd_mut hDc h2)⟩
    by_cases hb : b = c
    · rw [hb, upd_same]
      rw [hb, hc] at e
      exact e
    · exact Eg.upd_mut hb (h3 b o e hb)
theorem inV_ints (n : Int) (xs : List Int) : inV (.int n) (xs.map V.int) = decide (n ∈ xs) := by
  unfold inV
  rw [List.any_map]
  by_cases c : n ∈ xs
  · rw [decide_eq_true c]
    exact List.any_eq_true.mpr ⟨n, c, by simp [eqV]⟩
  · rw [decide_eq_false c]
    refine List.any_eq_false.mpr fun y hy e => c ?_
    have : y = n := by
      have e : eqV (.int y) (.int n) = true := e
      simpa [eqV] using e
    rw [← this]
    exact hy
/-- the numbers that were seen -/
def SeenL (H : Hp) (d : Addr) (xs : List Int) : Prop := H d = some (.dK (xs.map fun x => (Sum.inl x, V.bl true)))
theorem seen_val {xs : List Int} {n : Int} : valV (xs.map fun x => ((Sum.inl x : Key), V.bl true)) (Sum.inl n) = if n ∈ xs then some (.bl true) else none := by
  induction xs with
  | nil => rfl
  | cons x r ih =>
    rw [List.map_cons]
    by_cases e : x = n
    · rw [valV_pos (by rw [e]), if_pos (by rw [e]; exact List.mem_cons_self)]
    · rw [valV_neg (fun z => e (Sum.inl.inj z)), ih]
      by_cases h : n ∈ r
      · rw [if_pos h, if_pos (List.mem_cons_of_mem _ h)]
      · rw [if_neg h, if_neg (fun z => (List.mem_cons.mp z).elim (fun z => e z.symm) h)]
theorem SeenL.get {H : Hp} {d : Addr} {xs : List Int} (h : SeenL H d xs) (n : Int) : ∃ r, DGet H d (.int n) r ∧ r.isSome = decide (n ∈ xs) := by
  refine ⟨_, DGet.k (k := Sum.inl n) h, ?_⟩
  rw [seen_val]
  by_cases e : n ∈ xs
  · rw [if_pos e, decide_eq_true e]; rfl
  · rw [if_neg e, decide_eq_false e]; rfl
theorem SeenL.put {H : Hp} {d : Addr} {xs : List Int} {n : Int} (h : SeenL H d xs) (hn : n ∉ xs) (hs : xs.length < 100000) :
    ∃ kvs, DPut H d (.int n) (.bl true) (upd H d (.dK kvs)) ∧ SeenL (upd H d (.dK kvs)) d (xs ++ [n]) := by
  have p := DPut.k (k := Sum.inl n) (v := .bl true) h (by rw [List.length_map, sizeLine_eq]; omega)
  rw [putK_new _ (by rw [seen_val, if_neg hn])] at p
  refine ⟨_, p, ?_⟩
  unfold SeenL
  rw [upd_same, List.map_append]
  rfl
theorem seen_keys (xs : List Int) : (xs.map fun x => ((Sum.inl x : Key), V.bl true)).map (·.1) = xs.map Sum.inl := by
  rw [List.map_map]
  rfl
end Sl
namespace Eg
open PySem L2
def dispLeaf (p : Addr) (x : V) (Q : VK) (y : V) (H2 : Hp) : Prop := H2 p = some (.dK []) ∧ ∃ k : Key, x = kV k ∧ Q (.ref p) (upd H2 p (.dK [(k, y)]))
theorem w_disp1 {tk tv : TE} {σ : L2.St} {H : Hp} {Q : VK} (h : ∀ p, H p = none → tk σ (upd H p (.dK [])) fun x H1 => tv σ H1 (dispLeaf p x Q)) : tDisp [(tk, tv)] σ H Q := by
  intro p hp
  show tk σ _ fun x H1 => tv σ H1 fun y H2 => _
  have e : (fun x H1 => tv σ H1 fun y H2 => H2 p = some (.dK []) ∧ ∃ kvs : List (Key × V), [(x, y)] = kvs.map (fun kv => (kV kv.1, kv.2)) ∧ kvs.length ≤ 15 ∧ Q (.ref p) (upd H2 p (.dK (mergeK [] kvs)))) = fun x H1 => tv σ H1 (dispLeaf p x Q) := by
    funext x H1
    congr 1
    funext y H2
    refine propext ⟨?_, ?_⟩
    · rintro ⟨h0, kvs, e, _, q⟩
      match kvs, e, q with
      | [(k, z)], e, q =>
        have e := (List.cons.inj e).1
        have e1 : x = kV k := (Prod.mk.inj e).1
        have e2 : y = z := (Prod.mk.inj e).2
        exact ⟨h0, k, e1, by rw [e2]; exact q⟩
    · rintro ⟨h0, k, e, q⟩
      exact ⟨h0, [(k, y)], by rw [e]; rfl, (show 1 ≤ 15 by decide), q⟩
  have := h p hp
  rw [← e] at this
  exact this
theorem c_dispI {H : Hp} {Q : VK} {p : Addr} {n : Int} {y : V} (h : H p = some (.dK [])) (q : Q (.ref p) (upd H p (.dK [(Sum.inl n, y)]))) : dispLeaf p (.int n) Q y H := ⟨h, Sum.inl n, rfl, q⟩
theorem c_min {K : PySem.W.Frag} {H : Hp} {p : Addr} {R : VK} {ns : List Int} (h : SqL K H p (ns.map V.int)) (h0 : 0 < ns.length) (q : ∀ m, m ∈ ns → (∀ y, y ∈ ns → m ≤ y) → R (.int m) H) : rMin K [V.ref p] H R := ⟨p, ns, rfl, h, h0, q⟩
def rTupQ (K : PySem.W.Frag) : List V → Hp → VK → Prop := fun xs H Q => ∃ p ys, xs = [V.ref p] ∧ ((SqL K H p ys ∧ ∀ l, H l = none → Q (.ref l) (upd H l (.tup ys))) ∨ (SqT K H p ys ∧ Q (.ref p) H))
theorem cr_tup {X : Cx} : CallR X (.type "tuple") (rTupQ X.K) := call_tuple_of
theorem c_tupL {K : PySem.W.Frag} {H : Hp} {p : Addr} {Q : VK} {ys : List V} (h : SqL K H p ys) (q : ∀ l, H l = none → Q (.ref l) (upd H l (.tup ys))) : rTupQ K [V.ref p] H Q := ⟨p, ys, rfl, .inl ⟨h, q⟩⟩
theorem c_sortI {K : PySem.W.Frag} {H : Hp} {p : Addr} {Q : VK} {ns : List Int} (h : SqL K H p (ns.map V.int)) (q : ∀ (ms : List Int) (l : Addr), ms.Perm ns → ms.Pairwise (· ≤ ·) → H l = none → Q (.ref l) (upd H l (.lst (ms.map V.int)))) : rSortedI K [V.ref p] H Q := ⟨p, ns, rfl, h, q⟩
end Eg

/-! Ow: what a class of the program's own answers to operators, len, [], truth, in, a call. -/
namespace Ow
open PySem PySem.Spec PyProof.Rows L2
section
variable {X : Cx} {CX : CXT} {k : Nat} {f : Addr} {fd : FuncData} {ps : List Str} {sp : Sp} {E : XK}
theorem run_in1 {pins : List (Addr × Obj)} {σ : L2.St} {H : Hp} {s : Shared} {Q : VK} {us : List Value} {vs : List V} (F : FnOk X.prog X.w X.K X.mg X.base CX k f fd ps sp) (hr : Room (k + 1) X.A) (hb : Binds X.K fd ps []) (hx : Passes CX X E)
    (I : Inv X pins σ H s) (r : Vals vs us) (h : sp vs H Q E) : wpAny (model X.prog X.w) X.A.in1 (call (.ref f) us) (EP X pins σ Q) X.xe s := by
  have hl : us.length = ps.length := by rw [← r.length]; exact F.len _ _ _ _ h
  have e0 : Env0 X.prog X.w X.K X.mg X.base X.A.in1 X.stack s H := by
    have e := I.env0
    exact ⟨e.frames, e.mod, e.bs, e.bsz, e.funs, e.frf, e.hok, e.bare⟩
  have b := hb s us I.kIn (by rw [List.append_nil]; exact hl)
  rw [List.append_nil] at b
  refine wpAny_call (codeAny_mono (F.run X.A.in1 X.stack s H ⟨us, []⟩ us vs Q E hr.in1 e0 b r h) fun z s' hq => ?_)
  cases z with
  | error e => exact hx pins σ H s e s' I hq
  | ok fl =>
    cases fl with
    | ret v => exact I.after hq
    | next => exact False.elim hq
    | brk => exact False.elim hq
    | cont => exact False.elim hq
theorem relNN {v : V} {u : Value} (r : RelV v u) : u ≠ .notImplemented := by
  rintro rfl
  cases v <;> first | (cases r; done) | (obtain ⟨_, e⟩ := r; cases e)
theorem back_of {Q : Value → Shared → Prop} {u : Value} {s : Shared} (h : u ≠ .notImplemented) (q : Q u s) : PySem.W.CmpBack Q u s := by
  cases u <;> first | exact q | exact absurd rfl h
/-- x op y by x's own method, y of the same class -/
def rOwn2 (C : Addr) (sp : Sp) (E : XK) : R2 := fun x y H Q => ∃ a b dx dy fs gs, x = .ref a ∧ y = .ref b ∧ H a = some (.ins C dx fs) ∧ H b = some (.ins C dy gs) ∧ sp [x, y] H Q E
theorem op_own2 {C : Addr} {op : Operator} (F : FnOk X.prog X.w X.K X.mg X.base CX k f fd ps sp) (hr : Room k X.A) (hc : PySem.W.selfFirst X.K C = true) (hm : Meth X.K C (PySem.dunder op.info.2) f) (hb : Binds X.K fd ps []) (hx : Passes CX X E) :
    OpR X (binaryOp op) (rOwn2 C sp E) := by
  intro pins s σ H x y v u Q I rx ry h
  obtain ⟨a, b, dx, dy, fs, gs, rfl, rfl, ha, hb', q⟩ := h
  have r2 : Vals [V.ref a, V.ref b] [v, u] := .cons rx (.cons ry .nil)
  cases rx
  cases ry
  obtain ⟨mA, J, _⟩ := ins_get I.hok ha
  obtain ⟨mB, J', _⟩ := ins_get I.hok hb'
  obtain ⟨od, J, _⟩ := J.look
  obtain ⟨od', J', _⟩ := J'.look
  obtain ⟨m, hF⟩ := I.fr
  refine PySem.W.binop_K hF I.ok.mod.kin J J'.type hc hm.at_ hm.fn ?_
  exact wpAny_mono (run_fn F hr hb .nil hx I r2 q) (fun z s' ⟨v', H', I', rz, q'⟩ => back_of (relNN rz) ⟨v', H', I', rz, q'⟩) fun _ _ z => z
/-- -x, ~x by its own method -/
def rOwn1 (C : Addr) (sp : Sp) (E : XK) : V → Hp → VK → Prop := fun x H Q => ∃ a dx fs, x = .ref a ∧ H a = some (.ins C dx fs) ∧ sp [x] H Q E
theorem un_own_neg {C : Addr} (F : FnOk X.prog X.w X.K X.mg X.base CX k f fd ps sp) (hr : Room k X.A) (hm : Meth X.K C "__neg__" f) (hb : Binds X.K fd ps []) (hx : Passes CX X E) : UnR X (unaryOp .USub) (rOwn1 C sp E) := by
  intro pins s σ H x v Q I rx h
  obtain ⟨a, dx, fs, rfl, ha, q⟩ := h
  have r1 : Vals [V.ref a] [v] := .cons rx .nil
  cases rx
  obtain ⟨mA, J, _⟩ := ins_get I.hok ha
  obtain ⟨od, J, _⟩ := J.look
  obtain ⟨m, hF⟩ := I.fr
  exact PySem.W.ksp_neg hF I.ok.mod.kin J hm.at_ hm.fn (run_fn F hr hb .nil hx I r1 q)
theorem un_own_inv {C : Addr} (F : FnOk X.prog X.w X.K X.mg X.base CX k f fd ps sp) (hr : Room k X.A) (hm : Meth X.K C "__invert__" f) (hb : Binds X.K fd ps []) (hx : Passes CX X E) : UnR X (unaryOp .Invert) (rOwn1 C sp E) := by
  intro pins s σ H x v Q I rx h
  obtain ⟨a, dx, fs, rfl, ha, q⟩ := h
  have r1 : Vals [V.ref a] [v] := .cons rx .nil
  cases rx
  obtain ⟨mA, J, _⟩ := ins_get I.hok ha
  obtain ⟨od, J, _⟩ := J.look
  obtain ⟨m, hF⟩ := I.fr
  exact PySem.W.ksp_inv hF I.ok.mod.kin J hm.at_ hm.fn (run_fn F hr hb .nil hx I r1 q)
/-- x[i] by its own __getitem__ -/
def rOwnIx (C : Addr) (sp : Sp) (E : XK) : R2 := fun x y H Q => ∃ a dx fs, x = .ref a ∧ H a = some (.ins C dx fs) ∧ sp [x, y] H Q E
variable {a b : Expr} {ta tb : TE} {pos : Pos}
theorem pe_ixOwn {C : Addr} (F : FnOk X.prog X.w X.K X.mg X.base CX k f fd ps sp) (hr : Room (k + 1) X.A) (hm : Meth X.K C "__getitem__" f) (hfn : PySem.W.fnIn X.K f = true) (hb : Binds X.K fd ps []) (hx : Passes CX X E) (ha : PE X a ta) (hb' : PE X b tb)
    (hsl : ∀ o i : Value, subscripted b true o i = runValue (.builtin "lifetime.subscript" ⟨[o, i], []⟩) := by intro o i; with_unfolding_all rfl) : PE X (.Subscript a b pos) (tOp (rOwnIx C sp E) ta tb) := by
  refine ⟨fun pins s σ H Q I h => ?_⟩
  refine Subscript_ (binT ha hb' I h fun v u s2 x y H2 I2 rx ry q => ?_)
  obtain ⟨p, dx, fs, rfl, hp, q⟩ := q
  have r2 : Vals [V.ref p, y] [v, u] := .cons rx (.cons ry .nil)
  cases rx
  obtain ⟨mA, J, _⟩ := ins_get I2.hok hp
  obtain ⟨od, J, _⟩ := J.look
  obtain ⟨m, hF⟩ := I2.fr
  exact PySem.W.sub_K hF I2.ok.mod.kin J hm.at_ hfn hm.fn (run_in1 F hr hb hx I2 r2 q) (hsl _ _)
/-- len(x) by its own __len__ -/
def rOwnLen (C : Addr) (sp : Sp) (E : XK) : List V → Hp → VK → Prop := fun xs H Q => ∃ a dx fs, xs = [.ref a] ∧ H a = some (.ins C dx fs) ∧ sp [.ref a] H (fun v H' => ∃ n : Int, v = .int n ∧ 0 ≤ n ∧ n < 2 ^ 63 ∧ Q (.int n) H') E
theorem cr_ownLen {C : Addr} (F : FnOk X.prog X.w X.K X.mg X.base CX k f fd ps sp) (hr : Room (k + 1) X.A) (hm : Meth X.K C "__len__" f) (hb : Binds X.K fd ps []) (hx : Passes CX X E) : CallR X (.builtin "len") (rOwnLen C sp E) := by
  intro pins s σ H xs us Q I r h
  obtain ⟨a, dx, fs, rfl, ha, q⟩ := h
  obtain ⟨u, rfl, rx⟩ := vals1 r
  cases rx
  obtain ⟨mA, J, _⟩ := ins_get I.hok ha
  obtain ⟨od, J, _⟩ := J.look
  obtain ⟨m, hF⟩ := I.fr
  refine PySem.W.len_K hF I.ok.mod.kin J hm.at_ hm.fn ?_
  refine wpAny_mono (run_in1 F hr hb hx I (us := [.ref a]) (.cons (show RelV (V.ref a) (.ref a) from rfl) .nil) q) (fun z s' ⟨v, H', I', rz, n, ev, n0, n1, q'⟩ => ?_) fun _ _ z => z
  subst ev
  obtain ⟨t, rfl⟩ := rz
  exact ⟨⟨n0, n1⟩, ⟨.int n, H', I'.tok _, ⟨_, rfl⟩, q'⟩⟩
end
section
variable {K : PySem.W.Frag} {X : Cx} {σ : L2.St} {H : Hp} {Q : VK} {E : XK} {sp : Sp} {C a b dx dy : Addr} {fs gs : List (Str × V)} {y : V} {tf : TE} {t : TA}
theorem c_own2 (ha : H a = some (.ins C dx fs)) (hb : H b = some (.ins C dy gs)) (q : sp [.ref a, .ref b] H Q E) : rOwn2 C sp E (.ref a) (.ref b) H Q := ⟨a, b, dx, dy, fs, gs, rfl, rfl, ha, hb, q⟩
theorem c_own1 (ha : H a = some (.ins C dx fs)) (q : sp [.ref a] H Q E) : rOwn1 C sp E (.ref a) H Q := ⟨a, dx, fs, rfl, ha, q⟩
theorem c_ownIx (ha : H a = some (.ins C dx fs)) (q : sp [.ref a, y] H Q E) : rOwnIx C sp E (.ref a) y H Q := ⟨a, dx, fs, rfl, ha, q⟩
theorem c_ownLen (ha : H a = some (.ins C dx fs)) (q : sp [.ref a] H (fun v H' => ∃ n : Int, v = .int n ∧ 0 ≤ n ∧ n < 2 ^ 63 ∧ Q (.int n) H') E) : rOwnLen C sp E [.ref a] H Q := ⟨a, dx, fs, rfl, ha, q⟩
def callLeaf (X : Cx) (C : Addr) (sp : Sp) (E : XK) (t : TA) (σ : L2.St) (Q : VK) (y : V) (H1 : Hp) : Prop := ∃ a, y = V.ref a ∧ t σ H1 fun vs H2 => StX.InsC X H2 a C ∧ sp (V.ref a :: vs) H2 Q E
theorem w_callO (h : tf σ H (callLeaf X C sp E t σ Q)) : StX.tCallO X C sp E tf t σ H Q := h
def callArgs (X : Cx) (C : Addr) (sp : Sp) (E : XK) (a : Addr) (Q : VK) (vs : List V) (H2 : Hp) : Prop := StX.InsC X H2 a C ∧ sp (V.ref a :: vs) H2 Q E
theorem c_callO (h : t σ H (callArgs X C sp E a Q)) : callLeaf X C sp E t σ Q (.ref a) H := ⟨a, rfl, h⟩
theorem c_callA {vs : List V} (h : H a = some (.ins C dx fs)) (q : sp (V.ref a :: vs) H Q E) : callArgs X C sp E a Q vs H := ⟨.inr ⟨dx, fs, h⟩, q⟩
def getLeaf (t : TE) (t' : TE) (σ : L2.St) (Q : VK) (x : V) (H1 : Hp) : Prop := ∃ a, x = .ref a ∧ IsD H1 a ∧ t σ H1 fun y H2 => t' σ H2 fun z H3 => ∃ o, DGet H3 a y o ∧ Q (o.getD z) H3
theorem w_dget2 {td ty tx : TE} (h : td σ H (getLeaf ty tx σ Q)) : tDGet2 td ty tx σ H Q := h
theorem c_dget2T {ty tx : TE} {kvs : List (List Key × V)} (h : Rd H a (.dT kvs)) (q : ty σ H fun y H2 => tx σ H2 fun z H3 => ∃ o, DGet H3 a y o ∧ Q (o.getD z) H3) : getLeaf ty tx σ Q (.ref a) H := ⟨a, rfl, .inr ⟨kvs, h⟩, q⟩
theorem w_aug {i : Nat} {te : TE} {ti : TIp} {D : Ends} {x : V} (h : σ[i]? = some (some x)) (q : te σ H fun y H1 => ti x y H1 fun z H2 => D.nx (σ.set i (some z)) H2) : tAug i te ti D σ H := ⟨x, h, q⟩
theorem c_ipI {f : Int → Int → Int} {i j : Int} (q : Q (.int (f i j)) H) : ipI f (.int i) (.int j) H Q := ⟨i, j, rfl, rfl, q⟩
theorem w_par3 {i j l : Nat} {D : Ends} (h : t σ H fun vs H1 => ∃ u v w, vs = [u, v, w] ∧ D.nx (((σ.set i (some u)).set j (some v)).set l (some w)) H1) : tPar3 i j l t D σ H := h
theorem c_par3 {G : V → V → V → Prop} {u v w : V} (q : G u v w) : ∃ x y z, [u, v, w] = [x, y, z] ∧ G x y z := ⟨u, v, w, rfl, q⟩
theorem nT : (!true) = false := rfl
end
end Ow

/-! Gd: defs that tell data as text (repr, str, f-strings): the promise where nothing that tells itself is under way. -/
namespace Gd
open PySem PySem.Spec PyProof.Rows L2
/-- nothing that tells itself is under way -/
def Still (A : Around) : Prop := A.guards = some []
structure FnG (P : Program) (w : World) (K : PySem.W.Frag) (mg : Str → Option Value) (base : Heap) (CX : CXT) (k : Nat) (f : Addr) (fd : FuncData) (ps : List Str) (sp : Sp) : Prop where
  lenG : ∀ vs H Q E, sp vs H Q E → vs.length = ps.length
  runG : ∀ (A : Around) (out : List Env) (s : Shared) (H : Hp) (ar : Args) (us : List Value) (vs : List V) (Q : VK) (E : XK), Room k A → Still A → Env0 P w K mg base A out s H → BindsTo s fd ar (ps.zip us) → Vals vs us →
    sp vs H Q E → codeAny (model P w) A (.call (.ref f) ar) (CR CX out P w H s Q E) s
section
variable {P : Program} {w : World} {K : PySem.W.Frag} {mg : Str → Option Value} {base : Heap} {CX : CXT} {k : Nat} {f : Addr} {fd : FuncData} {ps : List Str} {sp : Sp}
theorem FnG.of (F : FnOk P w K mg base CX k f fd ps sp) : FnG P w K mg base CX k f fd ps sp := ⟨F.len, fun A out s H ar us vs Q E hr _ => F.run A out s H ar us vs Q E hr⟩
theorem u70 {A : Around} {k : Nat} (h : Room k A) : A.units + 70 < cLine := by
  have := h.un
  omega
theorem still_deeper {A : Around} {env : Env} (h : Still A) : Still (A.deeper env) := h
/-- a def's body, where nothing is under way -/
theorem Fun.okG {x qual : Str} {st : Stmt} {N : List Str} (F : Fun K x qual st f fd) (S : FnScope N ps (defScope st)) (len : ∀ vs H Q E, sp vs H Q E → vs.length = ps.length)
    (body : ∀ (cdv : Value) (A : Around) (out : List Env) (s : Shared) (H : Hp) (vs : List V) (Q : VK) (E : XK), Room k (A.deeper (envOfC qual (defScope st) s.heap.objs.size f cdv)) → Still (A.deeper (envOfC qual (defScope st) s.heap.objs.size f cdv)) → sp vs H Q E →
      ∃ t, PSs (cxOf CX0 P w K mg base N qual (defScope st) f cdv A out s H E).nox (defBody st) t ∧ t { nx := fun _ H' => Q .non H', rt := Q } (start N vs) H) : FnG P w K mg base CX0 (k + 1) f fd ps sp := by
  obtain ⟨oc, od, kV, doc, pm, an, cdv, ct, osl, rfl, lk, hcd⟩ := F.ex
  refine ⟨len, ?_⟩
  intro A out s H ar us vs Q E hr hg e0 hb r hs
  have hlen := len _ _ _ _ hs
  have kin : K.In s.heap := e0.mod.kin.keeps fun b o z => (e0.bs b o z).1
  have nol : s.heap.NoLimit := e0.mod.nolimit.keeps fun b o z => (e0.bs b o z).1
  have kinds : ∀ y ∈ ps.zip us, (defScope st).names.lookup y.1 = some .local ∨ ((defScope st).names.lookup y.1 = some .cell ∧ ((cellsFrom (s.heap.objs.size + 1) (defScope st).names []).lookup y.1).isSome = true) := by
    rintro ⟨n, v⟩ hy
    exact (S.par n (List.of_mem_zip hy).1).elim .inl fun q => .inr ⟨q, PySem.W.cellsFrom_some _ _ _ (.inl q)⟩
  refine codeAny_call_function hr.depth (kin _ _ lk) rfl S.co S.gen rfl (PySem.W.codeRec_of kin hcd) (hb _ _ _ _ (wpAny_newFunctionEnv_cells S.kind kinds fun env he s1 x => ?_))
  subst he
  obtain ⟨t, ht, q⟩ := body cdv A out s H vs Q E (hr.deeper _) (still_deeper hg) hs
  have I : Inv (cxOf CX0 P w K mg base N qual (defScope st) f cdv A out s H E) [] (start N vs) H s1 := inv_start S hr.hd e0 hlen r x
  refine ⟨nol.keeps x.toInCall.keep, codeAny_func (wpAny_mono (ht.nox.run [] s1 (start N vs) H _ I q) (fun fl s' z => ?_) fun e s' z => z)⟩
  cases fl with
  | ret u => exact let ⟨v, _, H', J, rv, y⟩ := z; (⟨v, H', J.os, J.bare, J.base, J.hok, rv, y⟩ : CE out P w H s Q u s')
  | next => exact let ⟨_, H', J, y⟩ := z; (⟨V.non, H', J.os, J.bare, J.base, J.hok, rfl, y⟩ : CE out P w H s Q Value.none s')
  | brk => exact let ⟨_, _, _, y⟩ := z; False.elim y
  | cont => exact let ⟨_, _, _, y⟩ := z; False.elim y
end
section
variable {X : Cx} {CX : CXT} {k : Nat} {f C : Addr} {fd : FuncData} {ps : List Str} {sp : Sp} {dvs : List V} {ds : List Value} {E : XK} {x m : Str} {p pos apos : Pos} {e o : Expr} {es : List Expr} {ta : TE} {t : TA}
theorem run_fnG {pins : List (Addr × Obj)} {σ : L2.St} {H : Hp} {s : Shared} {Q : VK} {us : List Value} {vs : List V} (F : FnG X.prog X.w X.K X.mg X.base CX k f fd ps sp) (hr : Room k X.A) (hg : Still X.A) (hb : Binds X.K fd ps ds) (hd : Vals dvs ds) (hx : Passes CX X E)
    (I : Inv X pins σ H s) (r : Vals vs us) (q : sp (vs ++ dvs) H Q E) : wpAny (model X.prog X.w) X.A (call (.ref f) us) (EP X pins σ Q) X.xe s := by
  have rr : Vals (vs ++ dvs) (us ++ ds) := r.append hd
  have ll : (us ++ ds).length = ps.length := rr.length.symm.trans (F.lenG _ _ _ _ q)
  refine wpAny_call (codeAny_mono (F.runG X.A X.stack s H ⟨us, []⟩ (us ++ ds) (vs ++ dvs) Q E hr hg I.env0 (hb s us I.kIn ll) rr q) fun z s' hz => ?_)
  cases z with
  | error e => exact hx pins σ H s e s' I hz
  | ok fl => cases fl with
    | ret u => exact I.after hz
    | next => exact hz.elim
    | brk => exact hz.elim
    | cont => exact hz.elim
/-- f(e, ..) -/
theorem pe_callG (F : FnG X.prog X.w X.K X.mg X.base CX k f fd ps sp) (hr : Room k X.A) (st : Still X.A) (hg : Gl X x) (hm : X.mg x = some (.ref f)) (hk : PySem.W.keepIn X.K (.ref f) = true) (hb : Binds X.K fd ps ds) (hd : Vals dvs ds) (hx : Passes CX X E)
    (ha : PA X (e :: es) t) (hdb : (x == ("__debug__" : Str)) = false := by decide) (he : starEach (e :: es) X.env = (false, eval e X.env) :: starEach es X.env := by rfl) (hpl : (backTo pos (starEach es X.env)).any (·.1) = false := by rfl) :
    PE X (.Call (.Name x p) (e :: es) [] pos) (tCall sp dvs E t) := by
  refine ⟨fun pins s σ H Q I q => wpAny_Call_Name_kw (ld_glob I hg hm ?_ hdb)⟩
  exact PySem.W.callWith_K (h₀ := X.base) I.ok.mod.kin hk (thn (ha.run pos pins s σ H _ I q) fun us s1 ⟨vs, H1, I1, r, z⟩ => ⟨I1.kIn, run_fnG F hr st hb hd hx I1 r z⟩) he hpl
/-- o.m(e, ..) -/
theorem pe_methG {pl : Sem Bool} (he : PE X o ta) (c : Cls X.K C) (hm : Meth X.K C m f) (F : FnG X.prog X.w X.K X.mg X.base CX k f fd ps sp) (hr : Room k X.A) (st : Still X.A) (hb : Binds X.K fd ps ds) (hd : Vals dvs ds) (hx : Passes CX X E) (ha : PA X (e :: es) t)
    (hst : starEach (e :: es) X.env = (false, eval e X.env) :: starEach es X.env := by rfl) (hpl : (backTo pos (starEach es X.env)).any (·.1) = false := by rfl)
    (ht : eval (.Call (.Attribute o m apos) (e :: es) [] pos) X.env = (do
      let u ← eval o X.env
      standAt apos.atName
      let (g, first) ← holding [u] (getMethod u m pl)
      callWith pos g first (backTo pos (starEach (e :: es) X.env)) (backToKw pos (keywordEach [] X.env))) := by rfl) :
    PE X (.Call (.Attribute o m apos) (e :: es) [] pos) (tMeth C m sp dvs E ta t) := by
  refine ⟨fun pins s σ H Q I q => PySem.W.methodCall_KW (pl := pl) (thn (he.run pins s σ H _ I q) fun u s1 ⟨y, H1, I1, ry, a, dx, fs, ey, ea, l, z⟩ => ?_) ht⟩
  subst ey
  cases ry
  refine getmeth_ok I1 ea c hm l (PySem.W.callWith_K (first := [.ref a]) (h₀ := X.base) I.ok.mod.kin hm.kp (thn (ha.run pos pins s1 σ H1 _ I1 z) fun us s2 ⟨vs, H2, I2, r, y⟩ => ⟨I2.kIn, ?_⟩) hst hpl)
  exact run_fnG (us := .ref a :: us) (vs := .ref a :: vs) F hr st hb hd hx I2 (.cons rfl r) y
/-- repr(x) of data -/
def rRepr (K : PySem.W.Frag) : List V → Hp → VK → Prop := fun xs H Q => ∃ (a : Addr) (d : PyData), xs = [V.ref a] ∧ Dp K H (.ref a) d ∧ d.showable = true ∧ d.hasDict = false ∧ d.depth ≤ 64 ∧ d.shown.length ≤ sizeLine ∧ Q (.str d.shown) H
theorem cr_repr (st : Still X.A) (hu : X.A.units + 70 < cLine) : CallR X (.builtin "repr") (rRepr X.K) := by
  intro pins s σ H xs us Q I r q
  obtain ⟨a, d, rfl, hd, hs, hn, hdp, hz, q⟩ := q
  obtain ⟨u, rfl, ru⟩ := vals1 r
  obtain ⟨as, rd⟩ := Dp.reads I d _ _ hd ru
  cases ru
  exact repr_of_reads' rd hs (PyData.noDict_hsm hn) st (by omega) (fun _ _ e => e) (fun h' u tk hk => ⟨.str d.shown, H, I.kept hk, ⟨u, rfl⟩, q⟩) hz
/-- {x} of data -/
def tFmtD (K : PySem.W.Frag) (te : TE) : TE := fun σ H Q => te σ H fun x H1 => ∃ (a : Addr) (d : PyData), x = .ref a ∧ Dp K H1 (.ref a) d ∧ d.showable = true ∧ d.hasDict = false ∧ d.depth ≤ 64 ∧ d.shown.length ≤ sizeLine ∧ Q (.str d.shown) H1
theorem pe_fmtD {te : TE} (st : Still X.A) (hu : X.A.units + 70 < cLine) (he : PE X e te) : PE X (.FormattedValue e (-1) none pos) (tFmtD X.K te) := by
  refine ⟨fun pins s σ H Q I q => wpAny_FormattedValue_plain (thn (he.run pins s σ H _ I q) fun v s1 ⟨y, H1, I1, r1, a, d, ey, hd, hs, hn, hdp, hz, q⟩ => ?_)⟩
  subst ey
  obtain ⟨as, rd⟩ := Dp.reads I1 d _ _ hd r1
  cases r1
  exact formatField_of_reads rd hs (PyData.noDict_hsm hn) st (by omega) (fun _ _ z => z) (fun h' u tk hk => ⟨.str d.shown, H1, I1.kept hk, ⟨u, rfl⟩, q⟩) hz
/-- str(x) by its own __str__ -/
def rOwnStr (C : Addr) (sp : Sp) (E : XK) : List V → Hp → VK → Prop := fun xs H Q => ∃ a dx fs, xs = [V.ref a] ∧ H a = some (.ins C dx fs) ∧ sp [V.ref a] H (fun v H' => ∃ z, v = .str z ∧ Q (.str z) H') E
theorem cr_ownStr (F : FnG X.prog X.w X.K X.mg X.base CX k f fd ps sp) (hr : Room (k + 2) X.A) (st : Still X.A) (hm : Meth X.K C "__str__" f) (hb : Binds X.K fd ps []) (hx : Passes CX X E) : CallR X (.type "str") (rOwnStr C sp E) := by
  intro pins s σ H xs us Q I r q
  obtain ⟨a, dx, fs, rfl, ha, q⟩ := q
  obtain ⟨u, rfl, ru⟩ := vals1 r
  cases ru
  obtain ⟨mA, J, _⟩ := ins_get I.hok ha
  obtain ⟨od, J, _⟩ := J.look
  have e0 : Env0 X.prog X.w X.K X.mg X.base X.A.in1.in1 X.stack s H := I.env0.in1.in1
  have b := hb s [.ref a] I.kIn (by
    have := F.lenG _ _ _ _ q
    rw [List.append_nil]
    exact this)
  rw [List.append_nil] at b
  have r1 : Vals [V.ref a] [Value.ref a] := .cons (show RelV (V.ref a) (.ref a) from rfl) .nil
  have hun := hr.units
  refine PySem.W.kso_call (by show X.A.units + 1 + 1 < cLine; omega) I.kIn J hm.at_ hm.fn (wpAny_call (codeAny_mono (F.runG X.A.in1.in1 X.stack s H ⟨[.ref a], []⟩ [.ref a] [.ref a] _ E hr.in1.in1 st e0 b r1 q) fun z s' hz => ?_))
  cases z with
  | error e => exact hx pins σ H s e s' I hz
  | ok fl => cases fl with
    | ret u =>
      obtain ⟨v, H', I', rv, y, ev, q'⟩ := I.after hz
      subst ev
      obtain ⟨t, rfl⟩ := rv
      exact ⟨.str y, H', I', ⟨_, rfl⟩, q'⟩
    | next => exact hz.elim
    | brk => exact hz.elim
    | cont => exact hz.elim
end
end Gd

/-! Ge: the end of a law whose def tells data as text. -/
namespace Gd
open PySem PySem.Spec PyProof.Rows L2
theorem law_callG {P : Program} {w : World} {K : PySem.W.Frag} {mg mb : Str → Option Value} {k : Nat} {fa a : Addr} {fd : FuncData} {x : Str} {sp : Sp} {s : Shared} {vs : List Value} {ns : List Int}
    (kin : K.In s.heap) (gm : s.heap.Ns mainGlobals mg) (gb : s.heap.Ns builtinsNs mb) (bb : ∀ y : Str, y ≠ "__name__" → mb y = bootBuiltins y) (lim : s.heap.NoLimit) (gen : s.gens = #[])
    (ha : s.heap.get? a = some { cls := .type "list", data := .seq vs.toArray }) (hi : IntsAre vs ns) (hl : ns.length ≤ sizeLine) (room : Room k callerA)
    (F : ∀ base : Heap, K.In base → base.Ns mainGlobals mg → FnG P w K mg base CX0 k fa fd [x] sp) (bind : ∀ (t : Shared) (u : Value), BindsTo t fd ⟨[u], []⟩ [(x, u)])
    (told : ∀ H : Hp, Only H → SqL K H a (ns.map V.int) → sp [.ref a] H (fun v _ => v = .bl true) fun _ _ _ => False) :
    codeAny (model P w) callerA (.call (.ref fa) ⟨[.ref a], []⟩) (fun r t => r = .ok (.ret (.bool true)) ∧ OldK s.heap t.heap ∧ t.os = s.os ∧ AllBare t.gens) s := by
  have rel := vals_ints hi
  have len := hi.length
  -- H knows of nothing but the script
  have main : ∀ H : Hp, Only H → SqL K H a (ns.map V.int) → HOk P w H s.heap → (∀ b, b ≠ a → H b = none) → (∀ u, H a = some u → K.lookup a = none) →
      codeAny (model P w) callerA (.call (.ref fa) ⟨[.ref a], []⟩) (fun r t => r = .ok (.ret (.bool true)) ∧ OldK s.heap t.heap ∧ t.os = s.os ∧ AllBare t.gens) s := by
    intro H only seq ok none_at free
    have ns_to : ∀ {b : Addr} {m : Str → Option Value}, s.heap.Ns b m → (hidT s.heap H).Ns b m := by
      rintro b m ⟨o, es, ep, e, d, r⟩
      refine ⟨o, es, ep, hidT_get e (none_at b fun z => ?_), d, r⟩
      subst z
      rw [ha] at e
      obtain rfl := Option.some.inj e
      exact absurd (show Data.seq vs.toArray 0 = Data.dict es ep from d) (fun z => nomatch z)
    have kb : K.In (hidT s.heap H) := fun b o e => hidT_get (kin b o e) <| by
      by_cases hb : b = a
      · subst hb
        cases h : H b with
        | none => rfl
        | some u => exact absurd ((free u h).symm.trans e) (fun z => nomatch z)
      · exact none_at b hb
    obtain ⟨mc, l1, l2⟩ := lim
    have env : Env0 P w K mg (hidT s.heap H) callerA [] s H := { frames := rfl, mod := ⟨kb, ns_to gm, ⟨mb, ns_to gb, bb⟩, ⟨mc, ns_to l1, l2⟩⟩, bs := fun _ _ z => of_hidT z, bsz := Nat.le_of_eq (hidT_size _ _), funs := trivial, frf := fun _ z => (nomatch z), hok := ok, bare := .of_eq gen }
    refine codeAny_mono ((F _ kb (ns_to gm)).runG callerA [] s H ⟨[.ref a], []⟩ [.ref a] [.ref a] _ _ room rfl env (bind s (.ref a)) (.cons rfl .nil) (told H only seq)) fun r t h => ?_
    match r, h with
    | .ok (.ret u), ⟨v, H', os, bare, un, ok', ru, q⟩ =>
      have q : v = .bl true := q
      subst q
      have ru : u = Value.bool true := ru
      subst ru
      refine ⟨rfl, OldK.of_keep fun b o e => ?_, os, bare⟩
      rcases only b with h0 | ⟨ob, xs, h1⟩
      · exact un.keep b o e h0 (fun z => nomatch z) (fun z => nomatch z)
      · have a1 := (ok b _ h1).1
        have a2 := (ok' b _ (un.frzs b ob _ h1)).1
        exact a2.trans (a1.symm.trans e)
  cases look : K.lookup a with
  | some o =>
    have e := kin a o look
    rw [ha] at e
    obtain rfl := Option.some.inj e
    refine main (fun _ => none) (fun _ => .inl rfl) (.inr ⟨_, vs.toArray, _, look, rfl, rfl, rfl, by rw [List.size_toArray, len]; exact hl, by simpa using rel⟩) (fun b u z => (nomatch z)) (fun _ _ => rfl) fun u z => (nomatch z)
  | none =>
    let o1 : HO := .frz { cls := .type "list", data := .seq vs.toArray } (.lst (ns.map V.int))
    have at_a : upd (fun _ => none) a o1 a = some o1 := upd_same
    have off : ∀ b, b ≠ a → upd (fun _ => none) a o1 b = none := fun b hb => upd_ne hb
    refine main (upd (fun _ => none) a o1) (fun b => ?_) (.inl (.inr ⟨_, at_a⟩)) (fun b u z => ?_) off fun u _ => look
    · by_cases hb : b = a
      · rw [hb]
        exact .inr ⟨_, _, at_a⟩
      · exact .inl (off b hb)
    · by_cases hb : b = a
      · subst hb
        rw [at_a] at z
        obtain rfl := Option.some.inj z
        exact ⟨ha, by rw [List.length_map]; exact hl, vs, _, rel, ha⟩
      · rw [off b hb] at z
        cases z
theorem walk_ofG {l : PySem.W.OpenLaw} {n k : Nat} {q : Program} {loose : List Str} {XP : (Str → Option Value) → Heap → Prop} {YP : World → Heap → Prop} {d : DefRec} {K : Params → PySem.W.Frag} {sp : World → Sp} {x : Str}
    (most : l.most = some n) (fits : n ≤ sizeLine) (nodef : d.params.defaults = []) (room : Room k callerA) (hY : ∀ (w : World) (h : Heap), YP w h → (K w.params).In h)
    (F : ∀ (w : World) (mg : Str → Option Value) (fa : Addr) (h : Heap), (K w.params).In h → h.Ns mainGlobals mg → mg d.name = some (.ref fa) →
      ∃ fd : FuncData, (∀ (s : Shared) (u : Value), BindsTo s fd ⟨[u], []⟩ [(x, u)]) ∧ ∀ base : Heap, (K w.params).In base → base.Ns mainGlobals mg → FnG l.prog w (K w.params) mg base CX0 k fa fd [x] (sp w))
    (told : ∀ (w : World) (H : Hp) (a : Addr) (ns : List Int), ns.length ≤ n → Only H → SqL (K w.params) H a (ns.map V.int) → sp w [.ref a] H (fun v _ => v = .bl true) fun _ _ _ => False) :
    PySem.W.WalkO q loose XP YP l.row.toRowW d [] (fun f vs => PySem.call f vs) := by
  refine Att.attach_call most nodef fun w s₀ s₁ mg mb fa o pm cd doc a vs ns G Y _ _ _ hmg hobj hints hlen hg => ?_
  have kin := hY w _ Y
  obtain ⟨fd, hb, hF⟩ := F w mg fa _ kin G.T.g hmg
  exact law_callG kin G.T.g G.T.b G.T.builtins G.T.nolimit hg hobj hints (Nat.le_trans hlen fits) room hF hb fun H hO hS => told w H a ns hlen hO hS
end Gd

/-! Oe: x == y by x's own __eq__, y anything that is told here, either answer. -/
namespace Oe
open PySem PySem.Spec PyProof.Rows L2
inductive NF (K : PySem.W.Frag) (C : Addr) (H : Hp) : V → Prop
  | int (i : Int) : PySem.W.notFirst K C (.type "int") = true → NF K C H (.int i)
  | str (z : Str) : PySem.W.notFirst K C (.type "str") = true → NF K C H (.str z)
  | tup {b : Addr} {xs : List V} : H b = some (.tup xs) → PySem.W.notFirst K C (.type "tuple") = true → NF K C H (.ref b)
  | lst {b : Addr} {xs : List V} : H b = some (.lst xs) → PySem.W.notFirst K C (.type "list") = true → NF K C H (.ref b)
  | ins {b dy : Addr} {gs : List (Str × V)} : H b = some (.ins C dy gs) → NF K C H (.ref b)
section
variable {X : Cx} {CX : CXT} {k : Nat} {f C : Addr} {fd : FuncData} {ps : List Str} {sp : Sp} {E : XK}
theorem NF.looks {M : Model} {pins : List (Addr × Obj)} {σ : L2.St} {H : Hp} {s : Shared} {y : V} {u : Value} (I : Inv X pins σ H s) (h : NF X.K C H y) (ru : RelV y u) : ∃ tb, PySem.W.Looks M s.heap (typeOf u) tb ∧ PySem.W.notFirst X.K C tb = true := by
  cases h with
  | int i n =>
    obtain ⟨t, rfl⟩ := ru
    exact ⟨_, PySem.W.Looks.of_pure rfl, n⟩
  | str z n =>
    obtain ⟨t, rfl⟩ := ru
    exact ⟨_, PySem.W.Looks.of_pure rfl, n⟩
  | @tup b xs e n =>
    cases ru
    obtain ⟨_, _, _, o, h1, h2, _⟩ := I.hok b _ e
    exact ⟨_, fun A Q E s k q => wpAny_typeOf_ref (k _ _ h1) (by rw [h2]; exact q), n⟩
  | @lst b xs e n =>
    cases ru
    obtain ⟨_, _, m, _, h1⟩ := I.hok b _ e
    exact ⟨_, fun A Q E s k q => wpAny_typeOf_ref (k _ _ h1) q, n⟩
  | @ins b dy gs e =>
    cases ru
    obtain ⟨mB, J, _⟩ := ins_get I.hok e
    obtain ⟨od, J, _⟩ := J.look
    exact ⟨_, J.type, by simp [PySem.W.notFirst]⟩
def rOwnEq (K : PySem.W.Frag) (C : Addr) (sp : Sp) (E : XK) : R2 := fun x y H Q => ∃ a dx fs, x = .ref a ∧ H a = some (.ins C dx fs) ∧ NF K C H y ∧ sp [x, y] H (fun v H' => ∃ b, v = .bl b ∧ Q (.bl b) H') E
theorem op_ownEq (F : FnOk X.prog X.w X.K X.mg X.base CX k f fd ps sp) (hr : Room k X.A) (hm : Meth X.K C "__eq__" f) (hb : Binds X.K fd ps []) (hx : Passes CX X E) : OpR X (compareOp .Eq) (rOwnEq X.K C sp E) := by
  intro pins s σ H x y v u Q I rx ry h
  obtain ⟨a, dx, fs, rfl, ha, nf, q⟩ := h
  have r2 : Vals [V.ref a, y] [v, u] := .cons rx (.cons ry .nil)
  cases rx
  obtain ⟨mA, J, _⟩ := ins_get I.hok ha
  obtain ⟨od, J, _⟩ := J.look
  obtain ⟨m, hF⟩ := I.fr
  obtain ⟨tb, lk, nn⟩ := nf.looks (M := model X.prog X.w) I ry
  have un := hr.units
  show wpAny (model X.prog X.w) X.A (richCompare .Eq (.ref a) u) (EP X pins σ Q) X.xe s
  refine PySem.W.cmp_K (op := .Eq) (tb := tb) (by omega) hF I.ok.mod.kin J lk nn hm.at_ hm.fn ?_
  refine wpAny_mono (run_fn F hr hb .nil hx I r2 q) (fun z s' ⟨v', H', I', rz, b, ev, q'⟩ => ?_) fun _ _ z => z
  subst ev
  cases rz
  exact ⟨.bl b, H', I', rfl, q'⟩
theorem c_ownEq {K : PySem.W.Frag} {a dx : Addr} {fs : List (Str × V)} {y : V} {H : Hp} {Q : VK} (ha : H a = some (.ins C dx fs)) (n : NF K C H y) (q : sp [.ref a, y] H (fun v H' => ∃ b, v = .bl b ∧ Q (.bl b) H') E) : rOwnEq K C sp E (.ref a) y H Q := ⟨a, dx, fs, rfl, ha, n, q⟩
end
end Oe

/-! Fs: a form as a text: the pieces and their lengths. -/
namespace Fs
open PySem L2 Sm
abbrev tI (i : Int) : Str := Str.ofString (toString i)
theorem tI_len {i : Int} (h : i.natAbs < 1000000000) : (Str.ofString (toString i)).length ≤ 10 := by

  rw [ofString_length]
  exact int_text_length_le10 (k := 9) (by decide) h
theorem log_small {i : Int} (h : i.natAbs < 1000000000) : i.natAbs.log2 < 1920 := by
  by_cases z : i.natAbs = 0
  · rw [z]
    decide
  · refine (Nat.log2_lt z).mpr (Nat.lt_of_lt_of_le h ?_)
    exact Nat.le_trans (show (1000000000 : Nat) ≤ 2 ^ 30 by decide) (Nat.pow_le_pow_right (by decide) (by decide))
def tupS (k : List Int) : Str := tupleText (k.map tI)
def signS (z : Int) : Str := if decide (z < 0) = true then "-" else "+"
def partS (k : List Int) (z : Int) : Str := Str.empty ++ (" " : Str) ++ signS z ++ (" " : Str) ++ tI (if z < 0 then -z else z) ++ (" * " : Str) ++ tupS k
def shownS (st : Int) (ks : List (List Int)) (f : List Int → Int) : Str := ks.foldl (fun a k => a ++ partS k (f k)) (tI st)
def small (k : List Int) : Prop := k.length = 3 ∧ ∀ x ∈ k, x.natAbs < 1000000000
theorem small_of {k : List Int} (h : Sort3 k) : small k := ⟨h.1, fun x hx => by
  have := h.2 x hx
  omega⟩
theorem sum_le {α : Type} (f : α → Nat) (c : Nat) : ∀ {l : List α}, (∀ x ∈ l, f x ≤ c) → (l.map f).sum ≤ c * l.length
  | [], _ => Nat.le_refl _
  | x :: l, h => by
    rw [List.map_cons, List.sum_cons, List.length_cons, Nat.mul_succ]
    have := h x List.mem_cons_self
    have := sum_le f c (l := l) fun y hy => h y (List.mem_cons_of_mem _ hy)
    omega
theorem tupS_len {k : List Int} (h : small k) : (tupS k).length ≤ 39 := by
  unfold tupS
  have := tupleText_len_le (k.map tI)
  rw [List.length_map, List.map_map, h.1] at this
  have h2 := sum_le ((fun x : Str => x.length) ∘ tI) 10 (l := k) fun x hx => tI_len (h.2 x hx)
  rw [h.1] at h2
  exact Nat.le_trans this (Nat.add_le_add (Nat.add_le_add h2 (Nat.le_refl _)) (Nat.le_refl _))
theorem sp1 : ((" " : Str)).length = 1 := by decide +kernel
theorem sp3 : ((" * " : Str)).length = 3 := by decide +kernel
theorem emp0 : Str.empty.length = 0 := by decide +kernel
theorem sg1 (z : Int) : (signS z).length = 1 := by
  unfold signS
  split <;> decide +kernel
theorem partS_len {k : List Int} {z : Int} (h : small k) (hz : z.natAbs < 1000000000) : (partS k z).length ≤ 60 := by
  unfold partS
  unfold tI
  rw [strLen_append, strLen_append, strLen_append, strLen_append, strLen_append, strLen_append, sp1, sp3, emp0, sg1]
  have := tupS_len h
  have := tI_len (i := if z < 0 then -z else z) (by split <;> omega)
  omega
theorem fold_len {f : List Int → Int} : ∀ {ks : List (List Int)} {a : Str}, (∀ k ∈ ks, small k ∧ (f k).natAbs < 1000000000) → (ks.foldl (fun a k => a ++ partS k (f k)) a).length ≤ a.length + 60 * ks.length
  | [], _, _ => Nat.le_refl _
  | k :: ks, a, h => by
    have h1 := h k List.mem_cons_self
    have h2 := partS_len h1.1 h1.2
    have h3 := fold_len (ks := ks) (a := a ++ partS k (f k)) fun y hy => h y (List.mem_cons_of_mem _ hy)
    rw [List.foldl_cons, List.length_cons]
    rw [strLen_append] at h3
    omega
theorem shownS_len {st : Int} {ks : List (List Int)} {f : List Int → Int} (hs : st.natAbs < 1000000000) (h : ∀ k ∈ ks, small k ∧ (f k).natAbs < 1000000000) : (shownS st ks f).length ≤ 10 + 60 * ks.length := by
  have := fold_len (a := tI st) h
  have := tI_len hs
  unfold shownS
  unfold tI at *
  omega
theorem shownS_snoc (st : Int) (ks : List (List Int)) (k : List Int) (f : List Int → Int) : shownS st (ks ++ [k]) f = shownS st ks f ++ partS k (f k) := by
  unfold shownS
  rw [List.foldl_append]
  rfl
theorem tl_fold (f : List Int → Int) : ∀ (ks : List (List Int)) (a : Str), TL.tl (ks.foldl (fun a k => a ++ partS k (f k)) a) = TL.tl a ++ (ks.map fun k => TL.tl (partS k (f k))).flatten
  | [], a => by rw [List.map_nil, List.flatten_nil, List.append_nil]; rfl
  | k :: ks, a => by rw [List.foldl_cons, tl_fold f ks, TL.tl_append, List.map_cons, List.flatten_cons, List.append_assoc]
theorem joinL_nil : ∀ l : List (List Nat), TL.joinL [] l = l.flatten
  | [] => rfl
  | [p] => by rw [List.flatten_cons, List.flatten_nil, List.append_nil]; rfl
  | p :: q :: r => by
    show p ++ ([] ++ TL.joinL [] (q :: r)) = _
    rw [joinL_nil (q :: r), List.flatten_cons]
    rfl
theorem join_shown (st : Int) (ks : List (List Int)) (f : List Int → Int) : Txt.join ("" : Str) (tI st :: ks.map fun k => partS k (f k)) = shownS st ks f := by
  refine TL.ext_tl ?_
  unfold shownS
  rw [TL.join_eq, TL.tl_join, show TL.tl ("" : Str) = [] by decide +kernel, joinL_nil, tl_fold, List.map_cons, List.flatten_cons, List.map_map]
  rfl
/-- what the law adds for one sort -/
def stepS (a : Str) (k : List Int) (z : Int) : Str := a ++ (if decide (z < 0) = true then (" - " : Str) else (" + " : Str)) ++ tI (if z < 0 then -z else z) ++ (" * " : Str)
def tailS (b : Str) (k : List Int) : Str := b ++ ("(" : Str) ++ Txt.join (", " : Str) (k.map tI) ++ (")" : Str)
theorem tail_part (a : Str) {k : List Int} (z : Int) (h : k.length = 3) : tailS (stepS a k z) k = a ++ partS k z := by
  refine TL.ext_tl ?_
  unfold tailS stepS partS tupS tupleText signS
  rw [List.length_map, h, show ((3 : Nat) == 1) = false from rfl, if_neg Bool.false_ne_true, TL.join_eq]
  simp only [TL.tl_append]
  rw [show TL.tl Str.empty = [] by decide +kernel]
  by_cases hz : z < 0
  · simp only [if_pos hz, decide_eq_true hz, if_true]
    rw [show TL.tl (" - " : Str) = TL.tl (" " : Str) ++ (TL.tl ("-" : Str) ++ TL.tl (" " : Str)) by decide +kernel]
    simp only [List.append_assoc, List.nil_append]
  · simp only [if_neg hz, decide_eq_false hz, if_neg Bool.false_ne_true]
    rw [show TL.tl (" + " : Str) = TL.tl (" " : Str) ++ (TL.tl ("+" : Str) ++ TL.tl (" " : Str)) by decide +kernel]
    simp only [List.append_assoc, List.nil_append]
theorem shown_all (k : List Int) : (PyData.tuple (k.map .int)).shown = tupS k := by
  have : ∀ l : List Int, PyData.shownAll (l.map .int) = l.map tI := by
    intro l
    induction l with
    | nil => simp only [List.map_nil, PyData.shownAll]
    | cons x l ih =>
      simp only [List.map_cons, PyData.shownAll, PyData.shown, ih]
  simp only [PyData.shown, this]
  rfl
theorem showable_all {k : List Int} (h : small k) : (PyData.tuple (k.map .int)).showable = true := by
  have : ∀ l : List Int, (∀ x ∈ l, x.natAbs < 1000000000) → PyData.showableAll (l.map .int) = true := by
    intro l
    induction l with
    | nil => exact fun _ => by simp only [List.map_nil, PyData.showableAll]
    | cons x l ih =>
      intro h
      rw [List.map_cons]
      simp only [PyData.showableAll]
      rw [ih fun y hy => h y (List.mem_cons_of_mem _ hy), Bool.and_true]
      simp only [PyData.showable]
      exact decide_eq_true (log_small (h x List.mem_cons_self))
  simp only [PyData.showable]
  exact this k h.2
theorem nodict_all (k : List Int) : (PyData.tuple (k.map .int)).hasDict = false := by
  have : ∀ l : List Int, PyData.hasDictAll (l.map .int) = false := by
    intro l
    induction l with
    | nil => simp only [List.map_nil, PyData.hasDictAll]
    | cons x l ih => simp only [List.map_cons, PyData.hasDictAll, PyData.hasDict, ih, Bool.or_self]
  simp only [PyData.hasDict]
  exact this k
theorem depth_all (k : List Int) : (PyData.tuple (k.map .int)).depth ≤ 64 := by
  have : ∀ l : List Int, PyData.depthAll (l.map .int) = 0 := by
    intro l
    induction l with
    | nil => simp only [List.map_nil, PyData.depthAll]
    | cons x l ih => simp only [List.map_cons, PyData.depthAll, PyData.depth, ih, Nat.max_self]
  simp only [PyData.depth, this]
  exact (by decide : 0 + 1 ≤ 64)
theorem dp_all {K : PySem.W.Frag} {H : Hp} {b : Addr} {k : List Int} (h : H b = some (.tup (k.map V.int))) : Dp K H (.ref b) (.tuple (k.map .int)) := by
  have : ∀ l : List Int, DpAll K H (l.map V.int) (l.map .int) := by
    intro l
    induction l with
    | nil => exact .nil
    | cons x l ih => exact .cons (.int x) ih
  exact .tup (SqT.of h) (this k)
end Fs

/-! Es: backward steps of the readings of texts. -/
namespace Es
open PySem L2
section
variable {σ : L2.St} {H : Hp} {Q : VK} {ts : List TE} {acc y : Str} {K : PySem.W.Frag} {te to : TE}
def jsL (ts : List TE) (acc : Str) (σ : L2.St) (R : Str → Hp → Prop) : VK := fun x H1 => ∃ y : Str, x = .str y ∧ (acc ++ y).length ≤ sizeLine ∧ tJs ts (acc ++ y) σ H1 R
theorem js_nil {R : Str → Hp → Prop} (q : R acc H) : tJs [] acc σ H R := q
theorem js_cons {t : TE} {R : Str → Hp → Prop} (h : t σ H (jsL ts acc σ R)) : tJs (t :: ts) acc σ H R := h
theorem js_leaf {R : Str → Hp → Prop} (hz : (acc ++ y).length ≤ sizeLine) (q : tJs ts (acc ++ y) σ H R) : jsL ts acc σ R (.str y) H := ⟨y, rfl, hz, q⟩
def fmL (Q : VK) : VK := fun x H1 => (∃ y : Str, x = .str y ∧ y.length ≤ sizeLine ∧ Q (.str y) H1) ∨ ∃ i : Int, x = .int i ∧ i.natAbs.log2 < 1920 ∧ Q (.str (toString i)) H1
theorem w_fmt (h : te σ H (fmL Q)) : tFmt te σ H Q := h
theorem fm_str (hz : y.length ≤ sizeLine) (q : Q (.str y) H) : fmL Q (.str y) H := .inl ⟨y, rfl, hz, q⟩
theorem fm_int {i : Int} (hz : i.natAbs.log2 < 1920) (q : Q (.str (Str.ofString (toString i))) H) : fmL Q (.int i) H := .inr ⟨i, rfl, hz, q⟩
def fdL (K : PySem.W.Frag) (Q : VK) : VK := fun x H1 => ∃ (a : Addr) (d : PyData), x = .ref a ∧ Dp K H1 (.ref a) d ∧ d.showable = true ∧ d.hasDict = false ∧ d.depth ≤ 64 ∧ d.shown.length ≤ sizeLine ∧ Q (.str d.shown) H1
theorem w_fmtD (h : te σ H (fdL K Q)) : Gd.tFmtD K te σ H Q := h
def jnL (K : PySem.W.Frag) (y : Str) (Q : VK) : VK := fun x H => ∃ a p, ∃ ys : List Str, V.str y = .str a ∧ [x] = [.ref p] ∧ (SqL K H p (ys.map V.str) ∨ SqT K H p (ys.map V.str)) ∧ (ys.map (·.length)).sum + ys.length * a.length ≤ 16777216 ∧ Q (.str (Txt.join a ys)) H
/-- 'sep'.join(xs) -/
theorem w_join (h : te σ H (jnL K y Q)) : tM1 (fun x xs H Q => ∃ a p, ∃ ys : List Str, x = .str a ∧ xs = [.ref p] ∧ (SqL K H p (ys.map V.str) ∨ SqT K H p (ys.map V.str)) ∧ (ys.map (·.length)).sum + ys.length * a.length ≤ 16777216 ∧ Q (.str (Txt.join a ys)) H) (tC (.str y)) te σ H Q := ⟨⟨_, rfl⟩, h⟩
theorem jn_leaf {a : Str} {p : Addr} {ys : List Str} (hs : SqL K H p (ys.map V.str) ∨ SqT K H p (ys.map V.str)) (hz : (ys.map (·.length)).sum + ys.length * a.length ≤ 16777216) (q : Q (.str (Txt.join a ys)) H) : jnL K a Q (.ref p) H := ⟨a, p, ys, rfl, rfl, hs, hz, q⟩
def rAddS : R2 := fun x y H Q => ∃ i j, x = .str i ∧ y = .str j ∧ i.length + j.length ≤ sizeLine ∧ Q (.str (i ++ j)) H
theorem op_addS {X : Cx} : OpR X (binaryOp .Add) rAddS := op_add_str
theorem c_addS {i j : Str} (hz : i.length + j.length ≤ sizeLine) (q : Q (.str (i ++ j)) H) : rAddS (.str i) (.str j) H Q := ⟨i, j, rfl, rfl, hz, q⟩
def rStrI : List V → Hp → VK → Prop := fun xs H Q => ∃ i, xs = [V.int i] ∧ i.natAbs.log2 < 1920 ∧ Q (.str (toString i)) H
theorem cr_strI {X : Cx} : CallR X (.type "str") rStrI := call_str_int
theorem c_strI {i : Int} (hz : i.natAbs.log2 < 1920) (q : Q (.str (Str.ofString (toString i))) H) : rStrI [.int i] H Q := ⟨i, rfl, hz, q⟩
/-- 'a' if t else 'b' -/
theorem w_ifSS {t : TT} {a b : Str} (h : t σ H fun c H1 => Q (.str (if c = true then a else b)) H1) : tIf t (tC (.str a)) (tC (.str b)) σ H Q := by
  have e : (fun (c : Bool) (H1 : Hp) => Q (.str (if c = true then a else b)) H1) = fun c H1 => if c = true then tC (.str a) σ H1 Q else tC (.str b) σ H1 Q := by
    funext c H1
    cases c <;> rfl
  rw [e] at h
  exact h
end
/-- [F z for z in xs], xs a list of things alike -/
theorem map_list {α : Type} {K : PySem.W.Frag} {σ : L2.St} {H : Hp} {a : Addr} {xs : List α} {j : Nat} {ti te : TE} {G F : α → V} {Q : VK} (ha : SqL K H a (xs.map G)) (hsz : xs.length < 100000)
    (hi : ∀ R : VK, R (.ref a) H → ti σ H R) (keep : ∀ H', Same H H' → SqL K H' a (xs.map G))
    (elt : ∀ (H' : Hp) (z : α) (R : VK), Same H H' → z ∈ xs → R (F z) H' → te ((wipe σ [j]).set j (some (G z))) H' R)
    (done : ∀ (D : Addr) (H' : Hp), H D = none → Same H H' → H' D = some (.lst (xs.map F)) → Q (.ref D) H') : tLc (iList K ti) (gName j) tYes te [j] σ H Q := by
  refine Eg.w_lc (Eg.w_iL (hi _ (Eg.c_iL ha ?_)))
  intro D hD
  refine lc_list (xs := xs.map G) (fun n H' => Same H H' ∧ H' D = some (.lst ((xs.take n).map F))) ⟨Eg.same_new (Same.refl _) hD, upd_same⟩ (fun n H' _ h => keep _ h.1) ?_ ?_
  · rintro n x H1 hx ⟨s1, h2⟩
    rw [List.getElem?_map] at hx
    obtain ⟨z, hz, rfl⟩ := Option.map_eq_some_iff.mp hx
    obtain ⟨hlt, he⟩ := List.getElem?_eq_some_iff.mp hz
    refine Eg.w_gN (Eg.w_wipe ?_ (Eg.w_yes (iteT (elt H1 z _ s1 (List.mem_of_getElem? hz) ⟨_, h2, ?_, Eg.same_mut s1 hD, ?_⟩))))
    · show (((σ.set j none).set j (some (G z))).set j none) = σ.set j none
      rw [List.set_set, List.set_set]
    · rw [List.length_map, List.length_take, sizeLine_eq]
      omega
    · rw [upd_same, List.take_succ_eq_append_getElem hlt, he]
      simp
  · rintro H1 ⟨s1, h2⟩
    rw [List.length_map, List.take_length] at h2
    exact done D H1 hD s1 h2
/-- [F z for z in xs], xs a tuple of things alike -/
theorem map_tup {α : Type} {K : PySem.W.Frag} {σ : L2.St} {H : Hp} {a : Addr} {xs : List α} {j : Nat} {ti te : TE} {G F : α → V} {Q : VK} (ha : SqT K H a (xs.map G)) (hsz : xs.length < 100000)
    (hi : ∀ R : VK, R (.ref a) H → ti σ H R) (keep : ∀ H', Same H H' → SqT K H' a (xs.map G))
    (elt : ∀ (H' : Hp) (z : α) (R : VK), Same H H' → z ∈ xs → R (F z) H' → te ((wipe σ [j]).set j (some (G z))) H' R)
    (done : ∀ (D : Addr) (H' : Hp), H D = none → Same H H' → H' D = some (.lst (xs.map F)) → Q (.ref D) H') : tLc (iTup K ti) (gName j) tYes te [j] σ H Q := by
  refine Eg.w_lc (Eg.w_iT (hi _ (Eg.c_iT ha ?_)))
  intro D hD
  refine lc_tup (xs := xs.map G) (fun n H' => Same H H' ∧ H' D = some (.lst ((xs.take n).map F))) ⟨Eg.same_new (Same.refl _) hD, upd_same⟩ (fun n H' _ h => keep _ h.1) ?_ ?_
  · rintro n x H1 hx ⟨s1, h2⟩
    rw [List.getElem?_map] at hx
    obtain ⟨z, hz, rfl⟩ := Option.map_eq_some_iff.mp hx
    obtain ⟨hlt, he⟩ := List.getElem?_eq_some_iff.mp hz
    refine Eg.w_gN (Eg.w_wipe ?_ (Eg.w_yes (iteT (elt H1 z _ s1 (List.mem_of_getElem? hz) ⟨_, h2, ?_, Eg.same_mut s1 hD, ?_⟩))))
    · show (((σ.set j none).set j (some (G z))).set j none) = σ.set j none
      rw [List.set_set, List.set_set]
    · rw [List.length_map, List.length_take, sizeLine_eq]
      omega
    · rw [upd_same, List.take_succ_eq_append_getElem hlt, he]
      simp
  · rintro H1 ⟨s1, h2⟩
    rw [List.length_map, List.take_length] at h2
    exact done D H1 hD s1 h2
end Es

/-! Tx: texts with holes, plainly: lists of code points, words, counts, labels, tokens, parts. -/
namespace Tx
open PySem PySem.Builtin PySem.Builtin.Str L2 SX
/-! ### single signs, slices, find -/
theorem tlS (l : List Nat) : (S l).cps.toList = l := rfl
theorem S_eq {a b : List Nat} : (S a = S b) = (a = b) := propext ⟨S_inj, fun e => by rw [e]⟩
theorem str_eqS {a b : List Nat} : decide (V.str (S a) = V.str (S b)) = decide (a = b) := by
  by_cases e : a = b
  · subst e; simp
  · rw [decide_eq_false e, decide_eq_false (fun h => e (S_inj (V.str.inj h)))]
theorem one_lt (c d : Nat) : ([c] < [d]) = (c < d) := by
  apply propext
  constructor
  · intro h
    cases h with
    | rel h => exact h
    | cons h => cases h
  · intro h
    exact List.Lex.rel h
theorem slice_mid (p q r : List Nat) {i j : Int} (hi : i = (p.length : Int)) (hj : j = ((p.length + q.length : Nat) : Int)) : Txt.slice (S (p ++ (q ++ r))) (some i) (some j) = S q := by
  have hl : (S (p ++ (q ++ r))).length = p.length + (q.length + r.length) := by rw [S_len, List.length_append, List.length_append]
  have e := beq_iff_eq.mp (PyProof.Rows.slice_closesL (x := S (p ++ (q ++ r))) (i := i) (j := j) (by omega) (by omega) (by omega))
  refine e.trans (TL.ext_tl ?_)
  show ((p ++ (q ++ r)).drop i.toNat).take (j - i).toNat = q
  rw [show i.toNat = p.length by omega, List.drop_left, show (j - i).toNat = q.length by omega, List.take_left]
theorem getD_S (l : List Nat) (i : Nat) : (S l).cps.getD i 0 = l.getD i 0 := by
  show (l.toArray).getD i 0 = l.getD i 0
  rw [List.getD_eq_getElem?_getD]
  unfold Array.getD
  split
  · rename_i h
    have h : i < l.length := by simpa using h
    rw [List.getElem?_eq_getElem h]
    rfl
  · rename_i h
    have h : ¬ i < l.length := by simpa using h
    rw [List.getElem?_eq_none (by omega)]
    rfl
/-- where the next c stands -/
theorem find_mid (p q r : List Nat) (c : Nat) {i : Int} (hi : i = (p.length : Int)) (hq : c ∉ q) : Txt.find3 (S (p ++ (q ++ c :: r))) (S [c]) i = ((p.length + q.length : Nat) : Int) := by
  have hl : (S (p ++ (q ++ c :: r))).length = p.length + (q.length + (r.length + 1)) := by rw [S_len, List.length_append, List.length_append, List.length_cons]
  have hf : fromIndex (S (p ++ (q ++ c :: r))).length i = p.length := by
    subst hi
    show (max 0 (if ((p.length : Nat) : Int) < 0 then ((p.length : Nat) : Int) + _ else ((p.length : Nat) : Int))).toNat = p.length
    rw [if_neg (by omega)]
    omega
  have at_ : (S (p ++ (q ++ c :: r))).cps.getD (p.length + q.length) 0 = c := by
    rw [getD_S, ← List.append_assoc, List.getD_eq_getElem?_getD, List.getElem?_append_right (by rw [List.length_append]; omega), List.length_append, Nat.sub_self]
    rfl
  have ne_ : ∀ v, p.length ≤ v → v < p.length + q.length → (S (p ++ (q ++ c :: r))).cps.getD v 0 ≠ c := fun v h1 h2 => by
    rw [getD_S, List.getD_eq_getElem?_getD, List.getElem?_append_right h1, List.getElem?_append_left (by omega)]
    rw [List.getElem?_eq_getElem (by omega)]
    intro e
    exact hq (by rw [← show q[v - p.length]'(by omega) = c from e]; exact List.getElem_mem _)
  rcases StrLaws.find3_spec (S (p ++ (q ++ c :: r))) c i with ⟨_, hn⟩ | ⟨k, hk, h1, h2, h3, h4⟩
  · rw [hf, hl] at hn
    exact absurd at_ (hn _ (by omega) (by omega))
  · rw [hf] at h1 h4
    have : k = p.length + q.length := by
      rcases Nat.lt_trichotomy k (p.length + q.length) with h | h | h
      · exact absurd h3 (ne_ k h1 h)
      · exact h
      · exact absurd at_ (h4 _ (by omega) h)
    rw [← this]
    exact hk
/-! ### words, counts, labels -/
def low (c : Nat) : Bool := decide (97 ≤ c) && decide (c ≤ 122)
def dig (c : Nat) : Bool := decide (48 ≤ c) && decide (c ≤ 57)
def wordB (l : List Nat) : Bool := decide (1 ≤ l.length) && decide (l.length ≤ 8) && l.all low
def countB (l : List Nat) : Bool := decide (1 ≤ l.length) && decide (l.length ≤ 6) && !(decide (l.head? = some 48) && decide (l ≠ [48])) && l.all dig
def stem (l : List Nat) : List Nat := (l.reverse.dropWhile dig).reverse
def labelB (l : List Nat) : Bool := wordB (stem l) && (decide (stem l = l) || countB (l.drop (stem l).length))
def litB (c : Nat) : Bool := decide (32 ≤ c) && decide (c ≤ 126) && decide (c ≠ 37) && decide (c ≠ 123) && decide (c ≠ 125)
def digits10 : List Nat := [48, 49, 50, 51, 52, 53, 54, 55, 56, 57]
theorem digits10_S : ("0123456789" : Str) = S digits10 := by decide +kernel
theorem mem_digits10 (c : Nat) : decide (c ∈ digits10) = dig c := by
  unfold digits10 dig
  rw [← Bool.decide_and]
  refine decide_eq_decide.mpr ?_
  simp only [List.mem_cons, List.not_mem_nil, or_false]
  omega
theorem contains_digits (c : Nat) : (S digits10).cps.contains c = dig c := by
  rw [← mem_digits10]
  show digits10.toArray.contains c = _
  rw [List.contains_toArray, List.contains_eq_mem]
theorem stem_app (l : List Nat) : ∃ d, l = stem l ++ d ∧ d.all dig = true := by
  refine ⟨(l.reverse.takeWhile dig).reverse, ?_, ?_⟩
  · unfold stem
    rw [← List.reverse_append, List.takeWhile_append_dropWhile, List.reverse_reverse]
  · rw [List.all_reverse, List.all_eq_true]
    exact fun x hx => List.all_eq_true.mp (List.all_takeWhile (p := dig) (l := l.reverse)) x hx
theorem rstrip_digits (l : List Nat) : Txt.rstripChars (S l) (S digits10) = S (stem l) := by
  have e0 : (fun c => (S digits10).cps.contains c) = dig := funext contains_digits
  have lo0 : stripLo (S digits10).cps.contains false (S l) = 0 := rfl
  have hlen : (S l).length = l.length := S_len l
  have tw : (l.reverse.takeWhile dig).length + (stem l).length = l.length := by
    unfold stem
    rw [List.length_reverse, ← List.length_append, List.takeWhile_append_dropWhile, List.length_reverse]
  have hi0 : stripHi (S digits10).cps.contains true (S l) 0 = (stem l).length := by
    show (S l).length - ((l.drop 0).reverse.takeWhile (S digits10).cps.contains).length = _
    rw [List.drop_zero, hlen, show (S digits10).cps.contains = dig from e0]
    omega
  unfold Txt.rstripChars Txt.stripBy stripSame
  rw [lo0, hi0]
  obtain ⟨d, hd, _⟩ := stem_app l
  split
  · rename_i h
    have h2 : (stem l).length = l.length := by
      rw [hlen] at h
      simpa using h
    have : d = [] := by
      have := congrArg List.length hd
      rw [List.length_append] at this
      exact List.eq_nil_of_length_eq_zero (by omega)
    rw [this, List.append_nil] at hd
    rw [← hd]
  · unfold stripped
    rw [lo0, hi0]
    refine TL.ext_tl ?_
    rw [TL.tl_strSub]
    show (l.drop 0).take ((stem l).length - 0) = stem l
    rw [List.drop_zero, Nat.sub_zero]
    have : (stem l ++ d).take (stem l).length = stem l := List.take_left
    rw [← hd] at this
    exact this
theorem stem_of {w d : List Nat} (hw : ∀ c, w.getLast? = some c → dig c = false) (hd : d.all dig = true) : stem (w ++ d) = w := by
  unfold stem
  rw [List.reverse_append, List.dropWhile_append_of_pos (fun x hx => List.all_eq_true.mp hd x (List.mem_reverse.mp hx))]
  have : w.reverse.dropWhile dig = w.reverse := by
    cases h : w.reverse with
    | nil => rfl
    | cons c r =>
      have hc : w.getLast? = some c := by
        rw [← List.head?_reverse, h]
        rfl
      rw [List.dropWhile_cons, if_neg (by rw [hw c hc]; exact Bool.false_ne_true)]
  rw [this, List.reverse_reverse]
theorem low_nodig {c : Nat} (h : low c = true) : dig c = false := by
  unfold low at h
  unfold dig
  rw [Bool.and_eq_true, decide_eq_true_eq, decide_eq_true_eq] at h
  rw [← Bool.decide_and]
  exact decide_eq_false (by omega)
/-- a word with a number, or with none, is a label -/
theorem label_of {w d : List Nat} (hw : wordB w = true) (hd : d = [] ∨ countB d = true) : labelB (w ++ d) = true := by
  have hl : w.all low = true := by
    unfold wordB at hw
    rw [Bool.and_eq_true] at hw
    exact hw.2
  have hdd : d.all dig = true := by
    rcases hd with rfl | h
    · rfl
    · unfold countB at h
      rw [Bool.and_eq_true] at h
      exact h.2
  have e := stem_of (w := w) (d := d) (fun c hc => low_nodig (List.all_eq_true.mp hl c (List.mem_of_getLast? hc))) hdd
  unfold labelB
  rw [e, hw, Bool.true_and, List.drop_left]
  rcases hd with rfl | h
  · rw [List.append_nil, decide_eq_true rfl, Bool.true_or]
  · rw [h, Bool.or_true]
theorem count_num {n : Nat} (h : n < 1000000) : countB (TL.numL n) = true := by
  have hl := TL.numL_len (n := n) (k := 6) (by decide) h
  have hne := TL.numL_ne n
  have h1 : 1 ≤ (TL.numL n).length := List.length_pos_iff.mpr hne
  have hd : (TL.numL n).all dig = true := List.all_eq_true.mpr fun c hc => by
    have := TL.numL_digits n c hc
    unfold dig
    rw [← Bool.decide_and]
    exact decide_eq_true this
  have h0 : (decide ((TL.numL n).head? = some 48) && decide (TL.numL n ≠ [48])) = false := by
    by_cases z : n = 0
    · subst z
      decide +kernel
    · have : (TL.numL n).head? ≠ some 48 := by
        clear hl hne h1 hd h
        induction n using Nat.strongRecOn with
        | _ n ih =>
          by_cases h : n < 10
          · rw [TL.numL_lt h]
            intro e
            have := Option.some.inj e
            omega
          · rw [TL.numL_step (by omega), List.head?_append]
            have hh := ih (n / 10) (by omega) (by omega)
            cases e : (TL.numL (n / 10)).head? with
            | none =>
              rw [List.head?_eq_none_iff] at e
              exact absurd e (TL.numL_ne _)
            | some c =>
              rw [e] at hh
              exact hh
      rw [decide_eq_false this, Bool.false_and]
  unfold countB
  rw [decide_eq_true h1, decide_eq_true hl, h0, hd]
  rfl
/-! ### tokens and parts -/
inductive Tk | ch (c : Nat) | ho (k : List Nat)
  deriving DecidableEq
def flat : List Tk → List Nat
  | [] => []
  | .ch c :: r => c :: flat r
  | .ho k :: r => 123 :: (k ++ 125 :: flat r)
theorem flat_app : ∀ a b : List Tk, flat (a ++ b) = flat a ++ flat b
  | [], _ => rfl
  | .ch c :: r, b => by show c :: flat (r ++ b) = c :: (flat r ++ flat b); rw [flat_app r b]
  | .ho k :: r, b => by show 123 :: (k ++ 125 :: flat (r ++ b)) = 123 :: (k ++ 125 :: flat r) ++ flat b; rw [flat_app r b]; simp
/-- a part: a literal, or something else that is told by its tag -/
inductive Pc | say (l : List Nat) | oth (tag : Str) (xs : List V)
def Pc.vs : Pc → List V
  | .say l => [.str "say", .str (S l)]
  | .oth t xs => .str t :: xs
def Pc.ok : Pc → Prop
  | .say _ => True
  | .oth t xs => t ≠ "say" ∧ 1 ≤ xs.length ∧ xs.length ≤ 5
def hole (k : List Nat) : Pc := .oth "hole" [.str (S k)]
/-- the parts as they are read -/
def raw : List Nat → List Tk → List Pc
  | cur, [] => [.say cur]
  | cur, .ch c :: r => raw (cur ++ [c]) r
  | cur, .ho k :: r => .say cur :: hole k :: raw [] r
/-- one part more -/
def put (acc : List Pc) : Pc → List Pc
  | .oth t xs => acc ++ [.oth t xs]
  | .say l => if l = [] then acc else match acc.getLast? with
    | some (.say m) => acc.dropLast ++ [.say (m ++ l)]
    | _ => acc ++ [.say l]
def merge (ps : List Pc) : List Pc := ps.foldl put []
/-- parts in the heap -/
def PcsAt (H : Hp) : List V → List Pc → Prop := Paired fun v p => ∃ t, v = .ref t ∧ H t = some (.tup p.vs)
theorem PcsAt.same {H H' : Hp} (e : ∀ b ys, H b = some (.tup ys) → H' b = some (.tup ys)) {xs : List V} {ps : List Pc} (h : PcsAt H xs ps) : PcsAt H' xs ps :=
  Paired.mapP h fun _ _ ⟨t, a, b⟩ => ⟨t, a, e _ _ b⟩
theorem PcsAt.get {H : Hp} {xs : List V} {ps : List Pc} (h : PcsAt H xs ps) {i : Nat} {x : V} (hx : xs[i]? = some x) : ∃ p t, ps[i]? = some p ∧ x = .ref t ∧ H t = some (.tup p.vs) := by
  induction h generalizing i with
  | nil => simp at hx
  | @cons a b as bs hab r ih =>
    cases i with
    | zero =>
      obtain ⟨t, e1, e2⟩ := hab
      have e : a = x := Option.some.inj hx
      exact ⟨b, t, rfl, by rw [← e, e1], e2⟩
    | succ i => exact ih hx
theorem PcsAt.app {H : Hp} {xs ys : List V} {ps qs : List Pc} (h : PcsAt H xs ps) (h' : PcsAt H ys qs) : PcsAt H (xs ++ ys) (ps ++ qs) := by
  induction h with
  | nil => exact h'
  | cons hab r ih => exact .cons hab ih
theorem PcsAt.len {H : Hp} {xs : List V} {ps : List Pc} (h : PcsAt H xs ps) : xs.length = ps.length := Paired.length h
theorem PcsAt.one {H : Hp} {t : Addr} {p : Pc} (h : H t = some (.tup p.vs)) : PcsAt H [.ref t] [p] := .cons ⟨t, rfl, h⟩ .nil
theorem PcsAt.dropLast {H : Hp} {xs : List V} {ps : List Pc} (h : PcsAt H xs ps) : PcsAt H xs.dropLast ps.dropLast := by
  induction h with
  | nil => exact .nil
  | @cons a b as bs hab r ih =>
    cases r with
    | nil => exact .nil
    | cons h2 r2 => exact .cons hab ih
theorem merge_snoc (ps : List Pc) (p : Pc) : merge (ps ++ [p]) = put (merge ps) p := by
  unfold merge
  rw [List.foldl_append]
  rfl
/-! sizes -/
def szP : Pc → Nat | .say l => l.length | .oth _ _ => 0
def sz (ps : List Pc) : Nat := (ps.map szP).sum
theorem sz_app (a b : List Pc) : sz (a ++ b) = sz a + sz b := by
  unfold sz
  rw [List.map_append, List.sum_append]
theorem sz_one (p : Pc) : sz [p] = szP p := by
  unfold sz
  rw [List.map_cons, List.map_nil, List.sum_cons, List.sum_nil, Nat.add_zero]
theorem last_split {α : Type} {l : List α} {x : α} (h : l.getLast? = some x) : l = l.dropLast ++ [x] := by
  rcases List.eq_nil_or_concat l with rfl | ⟨r, y, rfl⟩
  · cases h
  · rw [List.concat_eq_append] at h ⊢
    rw [List.getLast?_append] at h
    have : y = x := Option.some.inj h
    rw [this, List.dropLast_append_of_ne_nil (by simp)]
    simp
theorem put_say_emp (acc : List Pc) : put acc (.say []) = acc := rfl
theorem put_say_say {acc : List Pc} {m l : List Nat} (hl : l ≠ []) (h : acc.getLast? = some (.say m)) : put acc (.say l) = acc.dropLast ++ [.say (m ++ l)] := by
  unfold put
  dsimp only
  rw [if_neg hl, h]
theorem put_say_new {acc : List Pc} {l : List Nat} (hl : l ≠ []) (h : ∀ m, acc.getLast? ≠ some (.say m)) : put acc (.say l) = acc ++ [.say l] := by
  unfold put
  dsimp only
  rw [if_neg hl]
  split
  · rename_i m e
    exact absurd e (h m)
  · rfl
theorem put_cases (acc : List Pc) (p : Pc) : (p = .say [] ∧ put acc p = acc) ∨ (∃ m l, l ≠ [] ∧ p = .say l ∧ acc.getLast? = some (.say m) ∧ put acc p = acc.dropLast ++ [.say (m ++ l)]) ∨ (p ≠ .say [] ∧ put acc p = acc ++ [p]) := by
  cases p with
  | oth t xs => exact .inr (.inr ⟨(fun z => nomatch z), rfl⟩)
  | say l =>
    by_cases hl : l = []
    · subst hl
      exact .inl ⟨rfl, rfl⟩
    · cases h : acc.getLast? with
      | none => exact .inr (.inr ⟨(fun z => hl (Pc.say.inj z)), put_say_new hl (by rw [h]; exact fun _ z => nomatch z)⟩)
      | some q =>
        cases q with
        | say m => exact .inr (.inl ⟨m, l, hl, rfl, rfl, put_say_say hl h⟩)
        | oth t xs => exact .inr (.inr ⟨(fun z => hl (Pc.say.inj z)), put_say_new hl (by rw [h]; exact fun _ z => nomatch z)⟩)
theorem sz_put (acc : List Pc) (p : Pc) : sz (put acc p) = sz acc + szP p := by
  rcases put_cases acc p with ⟨rfl, h⟩ | ⟨m, l, _, rfl, h1, h⟩ | ⟨_, h⟩
  · rw [h]
    rfl
  · rw [h, sz_app, sz_one]
    have e := congrArg sz (last_split h1)
    rw [sz_app, sz_one] at e
    rw [e]
    show _ + (m ++ l).length = _ + m.length + l.length
    rw [List.length_append]
    omega
  · rw [h, sz_app, sz_one]
theorem put_len (acc : List Pc) (p : Pc) : (put acc p).length ≤ acc.length + 1 := by
  rcases put_cases acc p with ⟨rfl, h⟩ | ⟨m, l, _, rfl, h1, h⟩ | ⟨_, h⟩
  · rw [h]
    omega
  · rw [h, List.length_append, List.length_dropLast]
    show acc.length - 1 + 1 ≤ _
    omega
  · rw [h, List.length_append]
    exact Nat.le_refl _
theorem merge_len (ps : List Pc) : (merge ps).length ≤ ps.length := by
  unfold merge
  have : ∀ (qs acc : List Pc), (qs.foldl put acc).length ≤ acc.length + qs.length := by
    intro qs
    induction qs with
    | nil => exact fun acc => Nat.le_refl _
    | cons q r ih =>
      intro acc
      have h1 := ih (put acc q)
      have h2 := put_len acc q
      rw [List.foldl_cons, List.length_cons]
      omega
  have := this ps []
  simpa using this
theorem sz_merge (ps : List Pc) : sz (merge ps) = sz ps := by
  unfold merge
  have : ∀ (qs acc : List Pc), sz (qs.foldl put acc) = sz acc + sz qs := by
    intro qs
    induction qs with
    | nil => exact fun acc => rfl
    | cons q r ih =>
      intro acc
      rw [List.foldl_cons, ih, sz_put, show q :: r = [q] ++ r from rfl, sz_app, sz_one]
      omega
  rw [this]
  show 0 + sz ps = sz ps
  omega
theorem sz_take (ps : List Pc) (i : Nat) : sz (ps.take i) ≤ sz ps := by
  have := congrArg sz (List.take_append_drop i ps)
  rw [sz_app] at this
  omega
theorem sz_get {ps : List Pc} {i : Nat} {p : Pc} (h : ps[i]? = some p) : sz (ps.take i) + szP p ≤ sz ps := by
  obtain ⟨hlt, he⟩ := List.getElem?_eq_some_iff.mp h
  have := sz_take ps (i + 1)
  rw [List.take_succ_eq_append_getElem hlt, he, sz_app, sz_one] at this
  exact this
theorem sz_last {ps : List Pc} {p : Pc} (h : ps.getLast? = some p) : szP p ≤ sz ps := by
  have e := congrArg sz (last_split h)
  rw [sz_app, sz_one] at e
  omega
theorem put_ok {acc : List Pc} {p : Pc} (ha : ∀ q ∈ acc, q.ok) (hp : p.ok) : ∀ q ∈ put acc p, q.ok := by
  rcases put_cases acc p with ⟨rfl, h⟩ | ⟨m, l, _, rfl, h1, h⟩ | ⟨_, h⟩
  · rw [h]
    exact ha
  · rw [h]
    intro q hq
    rcases List.mem_append.mp hq with hq | hq
    · exact ha q ((List.dropLast_sublist acc).subset hq)
    · rw [List.mem_singleton.mp hq]
      trivial
  · rw [h]
    intro q hq
    rcases List.mem_append.mp hq with hq | hq
    · exact ha q hq
    · rw [List.mem_singleton.mp hq]
      exact hp
theorem merge_ok {ps : List Pc} (h : ∀ q ∈ ps, q.ok) : ∀ q ∈ merge ps, q.ok := by
  unfold merge
  have : ∀ (qs acc : List Pc), (∀ q ∈ acc, q.ok) → (∀ q ∈ qs, q.ok) → ∀ q ∈ qs.foldl put acc, q.ok := by
    intro qs
    induction qs with
    | nil => exact fun acc h _ => h
    | cons q r ih => exact fun acc h1 h2 => ih _ (put_ok h1 (h2 q List.mem_cons_self)) fun x hx => h2 x (List.mem_cons_of_mem _ hx)
  exact this ps [] (fun _ z => nomatch z) h
theorem hole_ok (k : List Nat) : (hole k).ok := ⟨by decide +kernel, Nat.le_refl _, Nat.le_of_ble_eq_true rfl⟩
theorem raw_ok : ∀ (ts : List Tk) (cur : List Nat), ∀ q ∈ raw cur ts, q.ok
  | [], cur, q, h => by rw [List.mem_singleton.mp h]; trivial
  | .ch c :: r, cur, q, h => raw_ok r _ q h
  | .ho k :: r, cur, q, h => by
    rcases List.mem_cons.mp h with rfl | h
    · trivial
    · rcases List.mem_cons.mp h with rfl | h
      · exact hole_ok k
      · exact raw_ok r _ q h
theorem raw_len : ∀ (ts : List Tk) (cur : List Nat), (raw cur ts).length ≤ 2 * ts.length + 1
  | [], cur => Nat.le_refl _
  | .ch c :: r, cur => by
    have := raw_len r (cur ++ [c])
    show (raw (cur ++ [c]) r).length ≤ _
    rw [List.length_cons]
    omega
  | .ho k :: r, cur => by
    have := raw_len r []
    show (raw [] r).length + 1 + 1 ≤ _
    rw [List.length_cons]
    omega
theorem raw_sz : ∀ (ts : List Tk) (cur : List Nat), sz (raw cur ts) ≤ cur.length + (flat ts).length
  | [], cur => by
    show sz [.say cur] ≤ _
    rw [sz_one]
    exact Nat.le_add_right _ _
  | .ch c :: r, cur => by
    have := raw_sz r (cur ++ [c])
    rw [List.length_append] at this
    show sz (raw (cur ++ [c]) r) ≤ cur.length + ((flat r).length + 1)
    have e : [c].length = 1 := rfl
    omega
  | .ho k :: r, cur => by
    have := raw_sz r []
    show sz ([.say cur] ++ ([hole k] ++ raw [] r)) ≤ cur.length + (123 :: (k ++ 125 :: flat r)).length
    rw [sz_app, sz_app, sz_one, sz_one, List.length_cons, List.length_append, List.length_cons]
    show cur.length + (0 + sz (raw [] r)) ≤ _
    have e : ([] : List Nat).length = 0 := rfl
    omega
theorem flat_len : ∀ ts : List Tk, ts.length ≤ (flat ts).length
  | [] => Nat.le_refl _
  | .ch c :: r => by
    have := flat_len r
    show r.length + 1 ≤ (flat r).length + 1
    omega
  | .ho k :: r => by
    have := flat_len r
    show r.length + 1 ≤ (123 :: (k ++ 125 :: flat r)).length
    rw [List.length_cons, List.length_append, List.length_cons]
    omega
/-! the end of a list -/
theorem atI_last {α : Type} {xs : List α} {x : α} (h : xs.getLast? = some x) : atI xs (-1) = some x := by
  have e := last_split h
  have hl : 0 < xs.length := by
    cases xs with
    | nil => cases h
    | cons a r => simp
  have h2 : xs[xs.length - 1]? = some x := by rw [← List.getLast?_eq_getElem?]; exact h
  unfold atI
  have hix : ixN xs.length (-1) = some (xs.length - 1) := by
    unfold ixN
    rw [if_neg (by decide), if_pos (by omega)]
    congr 1
    omega
  rw [hix]
  exact h2
theorem ixN_last {n : Nat} (h : 0 < n) : ixN n (-1) = some (n - 1) := by
  unfold ixN
  rw [if_neg (by decide), if_pos (by omega)]
  congr 1
  omega
theorem atI_hd {α : Type} {x : α} {xs : List α} : atI (x :: xs) 0 = some x := atI_nat (j := 0) rfl
theorem atI_hd1 {α : Type} {x y : α} {xs : List α} : atI (x :: y :: xs) 1 = some y := atI_nat (j := 1) rfl
theorem set_last {α : Type} {xs : List α} {y : α} (h : xs ≠ []) : xs.set (xs.length - 1) y = xs.dropLast ++ [y] := by
  rcases List.eq_nil_or_concat xs with rfl | ⟨r, z, rfl⟩
  · exact absurd rfl h
  · rw [List.concat_eq_append, List.length_append, List.dropLast_append_of_ne_nil (by simp)]
    show (r ++ [z]).set (r.length + 1 - 1) y = _
    rw [Nat.add_sub_cancel, List.set_append_right _ _ (Nat.le_refl _), Nat.sub_self]
    simp
theorem PcsAt.last {H : Hp} {xs : List V} {ps : List Pc} (h : PcsAt H xs ps) {p : Pc} (hp : ps.getLast? = some p) : ∃ t, xs.getLast? = some (.ref t) ∧ H t = some (.tup p.vs) := by
  rw [List.getLast?_eq_getElem?] at hp
  have hl := h.len
  have hx : ps.length - 1 < xs.length := by
    have := (List.getElem?_eq_some_iff.mp hp).1
    omega
  obtain ⟨q, t, h1, h2, h3⟩ := h.get (List.getElem?_eq_getElem hx)
  rw [hp] at h1
  cases h1
  exact ⟨t, by rw [List.getLast?_eq_getElem?, hl, List.getElem?_eq_getElem hx, h2], h3⟩
end Tx

/-! Tc: the cells of a query: literals and holes with a key. -/
namespace Tc
open PySem L2 SX Tx
abbrev Cl := Sum (List Nat) Key
instance : LawfulBEq (Sum Int Str) where
  eq_of_beq {a b} h := by
    cases a with
    | inl i =>
      cases b with
      | inl j => exact congrArg Sum.inl (eq_of_beq (show (i == j) = true from h))
      | inr t => cases h
    | inr x =>
      cases b with
      | inl j => cases h
      | inr y => exact congrArg Sum.inr (eq_of_beq (show (x == y) = true from h))
  rfl {a} := by
    cases a with
    | inl i => exact beq_self_eq_true i
    | inr x => exact beq_self_eq_true x
def pc : Cl → Pc
  | .inl l => .say l
  | .inr k => .oth "hole" [kV k]
theorem pc_ok (c : Cl) : (pc c).ok := by
  cases c with
  | inl l => trivial
  | inr k => exact ⟨by decide +kernel, Nat.le_refl _, Nat.le_of_ble_eq_true rfl⟩
def putC (acc : List Cl) : Cl → List Cl
  | .inr k => acc ++ [.inr k]
  | .inl l => if l = [] then acc else match acc.getLast? with
    | some (.inl m) => acc.dropLast ++ [.inl (m ++ l)]
    | _ => acc ++ [.inl l]
def mergeC (cs : List Cl) : List Cl := cs.foldl putC []
theorem put_map (acc : List Cl) (c : Cl) : put (acc.map pc) (pc c) = (putC acc c).map pc := by
  cases c with
  | inr k =>
    show acc.map pc ++ [pc (.inr k)] = (acc ++ [(Sum.inr k : Cl)]).map pc
    rw [List.map_append]
    rfl
  | inl l =>
    unfold putC
    by_cases hl : l = []
    · subst hl
      rfl
    · dsimp only
      rw [if_neg hl]
      cases h : acc.getLast? with
      | none =>
        have : acc = [] := List.getLast?_eq_none_iff.mp h
        subst this
        exact put_say_new hl (fun _ z => nomatch z)
      | some x =>
        have hm : (acc.map pc).getLast? = some (pc x) := by rw [List.getLast?_map, h]; rfl
        cases x with
        | inl m =>
          refine (put_say_say hl hm).trans ?_
          rw [List.map_append, List.map_dropLast]
          rfl
        | inr k =>
          refine (put_say_new hl (fun m z => ?_)).trans ?_
          · rw [hm] at z
            cases z
          · rw [List.map_append]
            rfl
theorem merge_map (cs : List Cl) : merge (cs.map pc) = (mergeC cs).map pc := by
  unfold merge mergeC
  have : ∀ (cs acc : List Cl), (cs.map pc).foldl put (acc.map pc) = (cs.foldl putC acc).map pc := by
    intro cs
    induction cs with
    | nil => exact fun _ => rfl
    | cons c r ih =>
      intro acc
      rw [List.map_cons, List.foldl_cons, List.foldl_cons, put_map, ih]
  exact this cs []
def rawC : List Nat → List Tk → List Cl
  | cur, [] => [.inl cur]
  | cur, .ch c :: r => rawC (cur ++ [c]) r
  | cur, .ho k :: r => .inl cur :: .inr (.inr (S k)) :: rawC [] r
theorem raw_map : ∀ (ts : List Tk) (cur : List Nat), raw cur ts = (rawC cur ts).map pc
  | [], cur => rfl
  | .ch c :: r, cur => raw_map r _
  | .ho k :: r, cur => by
    show Pc.say cur :: hole k :: raw [] r = pc (.inl cur) :: pc (.inr (.inr (S k))) :: (rawC [] r).map pc
    rw [raw_map r []]
    rfl
/-- the cells that are read -/
def read (ts : List Tk) : List Cl := mergeC (rawC [] ts)
theorem read_map (ts : List Tk) : merge (raw [] ts) = (read ts).map pc := by rw [raw_map, merge_map]; rfl
/-- the keys of the holes -/
def keys (cs : List Cl) : List Key := cs.filterMap fun | .inl _ => none | .inr k => some k
theorem keys_app (a b : List Cl) : keys (a ++ b) = keys a ++ keys b := List.filterMap_append
theorem keys_putC (acc : List Cl) (c : Cl) : keys (putC acc c) = keys acc ++ keys [c] := by
  cases c with
  | inr k => exact keys_app _ _
  | inl l =>
    unfold putC
    dsimp only
    by_cases hl : l = []
    · rw [if_pos hl]
      exact (List.append_nil _).symm
    · rw [if_neg hl]
      cases h : acc.getLast? with
      | none => exact keys_app _ _
      | some x =>
        cases x with
        | inr k => exact keys_app _ _
        | inl m =>
          have e := congrArg keys (last_split h)
          rw [keys_app] at e
          show keys (acc.dropLast ++ [.inl (m ++ l)]) = _
          rw [keys_app, e, List.append_assoc]
          rfl
theorem keys_merge (cs : List Cl) : keys (mergeC cs) = keys cs := by
  unfold mergeC
  have : ∀ (cs acc : List Cl), keys (cs.foldl putC acc) = keys acc ++ keys cs := by
    intro cs
    induction cs with
    | nil => exact fun _ => (List.append_nil _).symm
    | cons c r ih =>
      intro acc
      rw [List.foldl_cons, ih, keys_putC, show c :: r = [c] ++ r from rfl, keys_app, List.append_assoc]
  rw [this]
  rfl
/-- the keys of a text's holes, as they stand -/
def holes (ts : List Tk) : List (List Nat) := ts.filterMap fun | .ch _ => none | .ho k => some k
theorem holes_app (a b : List Tk) : holes (a ++ b) = holes a ++ holes b := List.filterMap_append
theorem keys_raw : ∀ (ts : List Tk) (cur : List Nat), keys (rawC cur ts) = (holes ts).map fun k => .inr (S k)
  | [], cur => rfl
  | .ch c :: r, cur => keys_raw r _
  | .ho k :: r, cur => by
    show .inr (S k) :: keys (rawC [] r) = _
    rw [keys_raw r []]
    rfl
theorem keys_read (ts : List Tk) : keys (read ts) = (holes ts).map fun k => .inr (S k) := by
  unfold read
  rw [keys_merge, keys_raw]
theorem keys_sub {cs : List Cl} {k : Key} (h : .inr k ∈ cs) : k ∈ keys cs := List.mem_filterMap.mpr ⟨_, h, rfl⟩
/-! keys by manners -/
def toI : Key → Int
  | .inl i => i
  | .inr s => (intText? s).getD 0
/-- one cell keyed, n holes stand ahead of it -/
def key1 (m : Str) (n : Nat) : Cl → Cl
  | .inl l => .inl l
  | .inr k => .inr (if m = "name" then k else if m = "number" then .inl (toI k) else .inl (n : Int))
def keyC (m : Str) : Nat → List Cl → List Cl
  | _, [] => []
  | n, c :: r => key1 m n c :: keyC m (n + (keys [c]).length) r
theorem keyC_snoc (m : Str) : ∀ (cs : List Cl) (n : Nat) (c : Cl), keyC m n (cs ++ [c]) = keyC m n cs ++ [key1 m (n + (keys cs).length) c]
  | [], n, c => rfl
  | d :: r, n, c => by
    show key1 m n d :: keyC m _ (r ++ [c]) = key1 m n d :: keyC m _ r ++ [_]
    rw [keyC_snoc m r, show d :: r = [d] ++ r from rfl, keys_app, List.length_append, Nat.add_assoc]
    rfl
theorem keyC_len (m : Str) : ∀ (cs : List Cl) (n : Nat), (keyC m n cs).length = cs.length
  | [], _ => rfl
  | c :: r, n => by
    show (keyC m _ r).length + 1 = r.length + 1
    rw [keyC_len m r]
theorem keys_name : ∀ (cs : List Cl) (n : Nat), keyC "name" n cs = cs
  | [], _ => rfl
  | c :: r, n => by
    show key1 "name" n c :: keyC "name" _ r = c :: r
    rw [keys_name r]
    cases c <;> rfl
theorem keys_number {m : Str} (h1 : m ≠ "name") (h2 : m = "number") : ∀ (cs : List Cl) (n : Nat), keys (keyC m n cs) = (keys cs).map fun k => .inl (toI k)
  | [], _ => rfl
  | c :: r, n => by
    show keys ([key1 m n c] ++ keyC m _ r) = (keys ([c] ++ r)).map _
    rw [keys_app, keys_app, keys_number h1 h2 r, List.map_append]
    cases c with
    | inl l => rfl
    | inr k =>
      show [(if m = "name" then k else if m = "number" then .inl (toI k) else .inl (n : Int) : Key)] ++ _ = _
      rw [if_neg h1, if_pos h2]
      rfl
theorem keys_order {m : Str} (h1 : m ≠ "name") (h2 : m ≠ "number") : ∀ (cs : List Cl) (n : Nat), keys (keyC m n cs) = (List.range (keys cs).length).map fun i => (.inl ((n + i : Nat) : Int) : Key)
  | [], _ => rfl
  | c :: r, n => by
    show keys ([key1 m n c] ++ keyC m _ r) = (List.range (keys ([c] ++ r)).length).map _
    rw [keys_app, keys_app, keys_order h1 h2 r, List.length_append]
    cases c with
    | inl l =>
      show [] ++ (List.range (keys r).length).map (fun i => (Sum.inl ((n + 0 + i : Nat) : Int) : Key)) = (List.range (0 + (keys r).length)).map _
      rw [Nat.zero_add, List.nil_append]
      rfl
    | inr k =>
      show [(if m = "name" then k else if m = "number" then .inl (toI k) else .inl (n : Int) : Key)] ++ (List.range (keys r).length).map (fun i => (Sum.inl ((n + 1 + i : Nat) : Int) : Key)) = (List.range (1 + (keys r).length)).map _
      rw [if_neg h1, if_neg h2, Nat.add_comm 1, List.range_succ_eq_map, List.map_cons, List.map_map, List.cons_append, List.nil_append, Nat.add_zero]
      congr 1
      refine List.map_congr_left fun i _ => ?_
      show (Sum.inl ((n + 1 + i : Nat) : Int) : Key) = Sum.inl ((n + (i + 1) : Nat) : Int)
      rw [show n + 1 + i = n + (i + 1) by omega]
/-! each once -/
def add1 (acc : List Key) (k : Key) : List Key := if k ∈ acc then acc else acc ++ [k]
def uniq (ks : List Key) : List Key := ks.foldl add1 []
theorem uniq_snoc (ks : List Key) (k : Key) : uniq (ks ++ [k]) = add1 (uniq ks) k := by
  unfold uniq
  rw [List.foldl_append]
  rfl
theorem add1_mem {acc : List Key} {k x : Key} : x ∈ add1 acc k ↔ x ∈ acc ∨ x = k := by
  unfold add1
  split
  · rename_i h
    exact ⟨.inl, fun z => z.elim id fun e => e ▸ h⟩
  · rw [List.mem_append, List.mem_singleton]
theorem uniq_mem {ks : List Key} {x : Key} : x ∈ uniq ks ↔ x ∈ ks := by
  unfold uniq
  have : ∀ (ks acc : List Key), x ∈ ks.foldl add1 acc ↔ x ∈ acc ∨ x ∈ ks := by
    intro ks
    induction ks with
    | nil => exact fun acc => by simp
    | cons k r ih =>
      intro acc
      rw [List.foldl_cons, ih, add1_mem, List.mem_cons, or_assoc]
  rw [this]
  simp
theorem uniq_len (ks : List Key) : (uniq ks).length ≤ ks.length := by
  unfold uniq
  have : ∀ (ks acc : List Key), (ks.foldl add1 acc).length ≤ acc.length + ks.length := by
    intro ks
    induction ks with
    | nil => exact fun acc => Nat.le_refl _
    | cons k r ih =>
      intro acc
      have h1 := ih (add1 acc k)
      have h2 : (add1 acc k).length ≤ acc.length + 1 := by
        unfold add1
        split
        · omega
        · rw [List.length_append]
          exact Nat.le_refl _
      rw [List.foldl_cons, List.length_cons]
      omega
  have := this ks []
  simpa using this
theorem uniq_nodup (ks : List Key) : (uniq ks).Nodup := by
  unfold uniq
  have : ∀ (ks acc : List Key), acc.Nodup → (ks.foldl add1 acc).Nodup := by
    intro ks
    induction ks with
    | nil => exact fun acc h => h
    | cons k r ih =>
      intro acc h
      refine ih _ ?_
      unfold add1
      split
      · exact h
      · rename_i hk
        exact List.nodup_append.mpr ⟨h, (List.nodup_cons.mpr ⟨List.not_mem_nil, List.nodup_nil⟩), fun a ha b hb z => hk (by rw [List.mem_singleton] at hb; rw [← hb, ← z]; exact ha)⟩
  exact this ks [] List.nodup_nil
/-! keys as values -/
theorem eqV_kV (a b : Key) : eqV (kV a) (kV b) = decide (a = b) := by
  cases a with
  | inl i =>
    cases b with
    | inl j =>
      show (i == j) = _
      by_cases e : i = j
      · subst e; simp
      · rw [decide_eq_false (fun z => e (Sum.inl.inj z))]
        simpa using e
    | inr t =>
      rw [decide_eq_false (fun z => nomatch z)]
      rfl
  | inr s =>
    cases b with
    | inl j =>
      rw [decide_eq_false (fun z => nomatch z)]
      rfl
    | inr t =>
      show (s == t) = _
      by_cases e : s = t
      · subst e; simp
      · rw [decide_eq_false (fun z => e (Sum.inr.inj z))]
        simpa using e
theorem flat_kV (k : Key) : flatV (kV k) = true := by cases k <;> rfl
theorem inV_kV (k : Key) (ks : List Key) : inV (kV k) (ks.map kV) = decide (k ∈ ks) := by
  unfold inV
  induction ks with
  | nil => rfl
  | cons x r ih =>
    rw [List.map_cons, List.any_cons, ih, eqV_kV]
    by_cases e : x = k
    · subst e
      simp
    · rw [decide_eq_false e, Bool.false_or]
      exact decide_eq_decide.mpr (by rw [List.mem_cons]; exact ⟨.inr, fun z => z.resolve_left fun z => e z.symm⟩)
theorem all_flat (ks : List Key) : (ks.map kV).all flatV = true := List.all_eq_true.mpr fun x hx => by
  obtain ⟨k, _, rfl⟩ := List.mem_map.mp hx
  exact flat_kV k
theorem kV_inj {a b : Key} (h : kV a = kV b) : a = b := by
  cases a <;> cases b <;> first | (cases h; rfl) | cases h
/-! cells with their addresses -/
def isHole : Cl → Bool | .inl _ => false | .inr _ => true
def keyV : Cl → V | .inl _ => .non | .inr k => kV k
theorem pcs_pairs {H : Hp} : ∀ {cs : List Cl} {ys : List V}, PcsAt H ys (cs.map pc) → ∃ L : List (Addr × Cl), ys = L.map (fun q => V.ref q.1) ∧ L.map (·.2) = cs ∧ ∀ q ∈ L, H q.1 = some (.tup (pc q.2).vs)
  | [], ys, h => by
    cases h
    exact ⟨[], rfl, rfl, fun _ z => nomatch z⟩
  | c :: cs, ys, h => by
    cases h with
    | cons hab r =>
      obtain ⟨t, e1, e2⟩ := hab
      obtain ⟨L, h1, h2, h3⟩ := pcs_pairs r
      refine ⟨(t, c) :: L, by rw [e1, h1]; rfl, by rw [← h2]; rfl, fun q hq => ?_⟩
      rcases List.mem_cons.mp hq with rfl | hq
      · exact e2
      · exact h3 q hq
theorem filt_keys : ∀ L : List (Addr × Cl), (L.filter fun q => isHole q.2).map (fun q => keyV q.2) = (keys (L.map (·.2))).map kV
  | [] => rfl
  | (t, .inl l) :: L => filt_keys L
  | (t, .inr k) :: L => by
    show kV k :: (L.filter fun q => isHole q.2).map (fun q => keyV q.2) = kV k :: (keys (L.map (·.2))).map kV
    rw [filt_keys L]
theorem read_len (ts : List Tk) : (read ts).length ≤ 2 * ts.length + 1 := by
  have := merge_len (raw [] ts)
  rw [read_map, List.length_map] at this
  exact Nat.le_trans this (raw_len ts [])
end Tc

/-! Tw: readings for texts: dead statements, constants of the module, walks over a text, steps. -/
namespace Tw
open PySem PySem.Spec PyProof.Rows L2 SX Tx
section
variable {X : Cx}
theorem ps_dead {st : Stmt} : PS X st (fun _ _ _ => False) := ⟨fun _ _ _ _ _ _ h => h.elim⟩
theorem pe_dead {e : Expr} : PE X e (fun _ _ _ => False) := ⟨fun _ _ _ _ _ _ h => h.elim⟩
theorem pt_dead {e : Expr} : PT X e (fun _ _ _ => False) := ⟨fun _ _ _ _ _ _ h => h.elim⟩
theorem pe_globS {x : Str} {v : V} {pos : Pos} (hg : Gl X x) (hm : ∃ u, X.mg x = some u ∧ RelV v u) (hd : (x == ("__debug__" : Str)) = false := by decide) : PE X (.Name x pos) (tC v) := by
  obtain ⟨u, h, r⟩ := hm
  exact pe_glob hg h r hd
def rLenS : List V → Hp → VK → Prop := fun xs H Q => ∃ z, xs = [V.str z] ∧ z.length ≤ sizeLine ∧ Q (.int z.length) H
theorem cr_lenS : CallR X (.builtin "len") rLenS := call_len_str
def rOrd : List V → Hp → VK → Prop := fun xs H Q => ∃ x : Str, xs = [V.str x] ∧ x.length = 1 ∧ Q (.int (x.cps.getD 0 0 : Nat)) H
theorem cr_ord : CallR X (.builtin "ord") rOrd := call_ord
def rLeS : R2 := fun x y H Q => ∃ i j : Str, x = .str i ∧ y = .str j ∧ Q (.bl (!decide (j.cps.toList < i.cps.toList))) H
theorem op_leS : OpR X (compareOp .LtE) rLeS := op_le_str
def rInS : R2 := fun x y H Q => ∃ i j : Str, x = .str i ∧ y = .str j ∧ Q (.bl (!(Builtin.Str.occurrences j i 0 j.length 1).isEmpty)) H
theorem op_inS : OpR X (compareOp .In) rInS := op_in_str
def rNotInS : R2 := fun x y H Q => ∃ i j : Str, x = .str i ∧ y = .str j ∧ Q (.bl (!(!(Builtin.Str.occurrences j i 0 j.length 1).isEmpty))) H
theorem op_notInS : OpR X (compareOp .NotIn) rNotInS := op_notIn_str
def rRs : V → List V → Hp → VK → Prop := fun x xs H Q => ∃ a b : Str, x = .str a ∧ xs = [.str b] ∧ a.length ≤ sizeLine ∧ Q (.str (Txt.rstripChars a b)) H
theorem mt_rs : MtR X "str.rstrip" rRs := mt_rstripChars
def rF3 : V → List V → Hp → VK → Prop := fun x xs H Q => ∃ (a b : Str) (i : Int), x = .str a ∧ xs = [.str b, .int i] ∧ Q (.int (Txt.find3 a b i)) H
theorem mt_f3 : MtR X "str.find" rF3 := mt_find3
end
section
variable {σ σ' : L2.St} {H H' : Hp} {Q : VK} {K : PySem.W.Frag} {p : Addr} {te : TE} {l m a b : List Nat} {c d : Nat}
theorem len_ok (h : l.length < 100000) : (S l).length ≤ sizeLine := by
  rw [S_len, sizeLine_eq]
  omega
theorem c_lenS (h : l.length < 100000) (q : Q (.int (l.length : Nat)) H) : rLenS [.str (S l)] H Q := ⟨_, rfl, len_ok h, by rw [S_len]; exact q⟩
theorem c_ord (q : Q (.int (c : Nat)) H) : rOrd [.str (S [c])] H Q := ⟨_, rfl, rfl, q⟩
theorem c_ord' (q : Q (.int (c : Nat)) H) : rOrd [.str ⟨#[c]⟩] H Q := ⟨_, rfl, rfl, q⟩
theorem le_one (c d : Nat) : (!decide ((S [d]).cps.toList < (S [c]).cps.toList)) = decide (c ≤ d) := by
  have e : decide ((S [d]).cps.toList < (S [c]).cps.toList) = decide (d < c) := decide_eq_decide.mpr (iff_of_eq (one_lt d c))
  rw [e, ← decide_not]
  exact decide_eq_decide.mpr Nat.not_lt
theorem c_leS (q : Q (.bl (decide (c ≤ d))) H) : rLeS (.str (S [c])) (.str (S [d])) H Q := ⟨_, _, rfl, rfl, by rw [le_one]; exact q⟩
theorem c_inS (q : Q (.bl (decide (c ∈ l))) H) : rInS (.str (S [c])) (.str (S l)) H Q := ⟨_, _, rfl, rfl, by rw [in_one]; exact q⟩
theorem c_notInS (q : Q (.bl (!decide (c ∈ l))) H) : rNotInS (.str (S [c])) (.str (S l)) H Q := ⟨_, _, rfl, rfl, by rw [in_one]; exact q⟩
theorem c_leA (q : Q (.bl (decide (97 ≤ d))) H) : rLeS (.str "a") (.str (S [d])) H Q := by
  rw [show ("a" : Str) = S [97] by decide +kernel]
  exact c_leS q
theorem c_leZ (q : Q (.bl (decide (c ≤ 122))) H) : rLeS (.str (S [c])) (.str "z") H Q := by
  rw [show ("z" : Str) = S [122] by decide +kernel]
  exact c_leS q
theorem c_inDig (q : Q (.bl (dig c)) H) : rInS (.str (S [c])) (.str "0123456789") H Q := by
  rw [digits10_S]
  refine c_inS ?_
  rw [mem_digits10]
  exact q
theorem c_notInBr (q : Q (.bl (!decide (c = 123 ∨ c = 125))) H) : rNotInS (.str (S [c])) (.str "{}") H Q := by
  rw [show ("{}" : Str) = S [123, 125] by decide +kernel]
  refine c_notInS ?_
  rw [show decide (c ∈ [123, 125]) = decide (c = 123 ∨ c = 125) from decide_eq_decide.mpr (by simp)]
  exact q
theorem c_all {bs : List Bool} (h : H p = some (.lst (bs.map V.bl))) (q : Q (.bl (bs.all id)) H) : rAll K [V.ref p] H Q := ⟨p, bs, rfl, SqL.of h, q⟩
theorem all_map {f : Nat → Bool} (h : H p = some (.lst (l.map fun c => V.bl (f c)))) (q : Q (.bl (l.all f)) H) : rAll K [V.ref p] H Q :=
  c_all (bs := l.map f) (by rw [h, List.map_map]; rfl) (by rw [List.all_map]; exact q)
theorem c_rs (h : l.length < 100000) (q : Q (.str (S (stem l))) H) : rRs (.str (S l)) [.str "0123456789"] H Q := ⟨_, _, rfl, rfl, len_ok h, by rw [digits10_S, rstrip_digits]; exact q⟩
theorem c_ixS {i : Int} {n : Nat} (h : l.length < 100000) (hi : i = (n : Int)) (hc : l[n]? = some c) (q : Q (.str (S [c])) H) : rIxS (.str (S l)) (.int i) H Q := by
  subst hi
  exact ⟨_, _, c, rfl, rfl, len_ok h, atI_nat hc, q⟩
theorem c_slS {i j : Option Int} (h : l.length < 100000) (e : Txt.slice (S l) i j = S m) (q : Q (.str (S m)) H) : rSlS (.str (S l)) i j H Q := ⟨_, rfl, len_ok h, by rw [C8.cutS_slice, e]; exact q⟩
theorem c_addSS (h : a.length + b.length < 100000) (q : Q (.str (S (a ++ b))) H) : Es.rAddS (.str (S a)) (.str (S b)) H Q := ⟨_, _, rfl, rfl, by rw [S_len, S_len, sizeLine_eq]; omega, by rw [S_cat]; exact q⟩
def strLeaf (R : It → Hp → Prop) : VK := fun v H1 => ∃ x : Str, v = .str x ∧ R (Its x) H1
theorem w_iStr {ti : TE} {R : It → Hp → Prop} (h : ti σ H (strLeaf R)) : iStr ti σ H R := h
theorem c_iStr {R : It → Hp → Prop} {x : Str} (q : R (Its x) H) : strLeaf R (.str x) H := ⟨x, rfl, q⟩
theorem w_tyS {x : Str} {A : Prop} (q : A) : tyV K "str" (.str x) H ∧ A := ⟨rfl, q⟩
theorem br_nt {A B : Prop} (h : B) : if (!true) = true then A else B := h
theorem br_nf {A B : Prop} (h : A) : if (!false) = true then A else B := h
/-! isinstance of plain values -/
theorem isi_str {x : Str} {n : String} {r : Bool} (e : kitB "str" n = some r) (q : Q (.bl r) H) : rIsi K [.str x, .ty n] H Q := Eg.c_isi (.ty _) (.base (.str x)) (kit_ty e) q
end
/-- [F z for z in text] -/
theorem map_str {σ : L2.St} {H : Hp} {l : List Nat} {j : Nat} {ti te : TE} {F : Nat → V} {Q : VK} (hsz : l.length < 100000)
    (hi : ∀ R : VK, R (.str (S l)) H → ti σ H R)
    (elt : ∀ (H' : Hp) (z : Nat) (R : VK), Same H H' → z ∈ l → R (F z) H' → te ((wipe σ [j]).set j (some (.str (S [z])))) H' R)
    (done : ∀ (D : Addr) (H' : Hp), H D = none → Same H H' → H' D = some (.lst (l.map F)) → Q (.ref D) H') : tLc (iStr ti) (gName j) tYes te [j] σ H Q := by
  refine Eg.w_lc (w_iStr (hi _ (c_iStr ?_)))
  intro D hD
  refine lc_it (walk_str (z := S l)) (fun n H' => Same H H' ∧ H' D = some (.lst ((l.take n).map F))) ⟨Eg.same_new (Same.refl _) hD, upd_same⟩ (fun n H' _ h => trivial) ?_ ?_
  · rintro n x _ H1 hn ⟨s1, h2⟩ ⟨rfl, c, hc, rfl⟩
    have hc : l[n]? = some c := by simpa using hc
    obtain ⟨hlt, he⟩ := List.getElem?_eq_some_iff.mp hc
    refine Eg.w_gN (Eg.w_wipe ?_ (Eg.w_yes (iteT (elt H1 c _ s1 (List.mem_of_getElem? hc) ⟨_, h2, ?_, Eg.same_mut s1 hD, ?_⟩))))
    · show (((σ.set j none).set j (some (V.str (S [c])))).set j none) = σ.set j none
      rw [List.set_set, List.set_set]
    · rw [List.length_map, List.length_take, sizeLine_eq]
      omega
    · rw [upd_same, List.take_succ_eq_append_getElem hlt, he]
      simp
  · rintro H1 ⟨s1, h2⟩
    rw [show (S l).cps.size = l.length by simp, List.take_length] at h2
    exact done D H1 hD s1 h2
end Tw
/-! xs == [], whatever stands in xs -/
namespace Tw
open PySem PySem.Spec PyProof.Rows L2 SX Tx
def rEmp (neg : Bool) : R2 := fun x y H Q => ∃ (a b : Addr) (xs : List V), x = .ref a ∧ y = .ref b ∧ H a = some (.lst xs) ∧ H b = some (.lst []) ∧ Q (.bl (if neg then !xs.isEmpty else xs.isEmpty)) H
section
variable {X : Cx}
theorem lst_is {pins : List (Addr × Obj)} {σ : L2.St} {H : Hp} {s : Shared} {a : Addr} {xs : List V} (I : Inv X pins σ H s) (h : H a = some (.lst xs)) : ∃ its : Array Value, s.heap.IsList a its ∧ its.size = xs.length := by
  obtain ⟨its, n, m, r, h1⟩ := (show ObjOk X.prog X.w H s.heap a (.lst xs) from I.hok a _ h)
  exact ⟨_, ⟨_, h1, rfl, _, rfl⟩, by simpa using (Paired.length r).symm⟩
theorem op_neE (hu : X.A.units < cLine) : OpR X (compareOp .NotEq) (rEmp true) := by
  intro pins s σ H x y v u Q I rx ry h
  obtain ⟨a, b, xs, rfl, rfl, ha, hb, q⟩ := h
  cases (show v = Value.ref a from rx)
  cases (show u = Value.ref b from ry)
  obtain ⟨i1, l1, e1⟩ := lst_is I ha
  obtain ⟨i2, l2, e2⟩ := lst_is I hb
  cases xs with
  | nil =>
    refine SeqAt.RcNeAt.lists (e := fun _ => true) l1 l2 (by rw [e1, e2]) hu (fun j h1 _ => ?_) X.prog X.w _ _ (fin_bl I q ?_)
    · rw [e1] at h1
      exact absurd h1 (Nat.not_lt_zero _)
    · rw [e1]
      rfl
  | cons y ys =>
    exact SeqAt.RcNeAt.lists_lengths l1 l2 (by rw [e1, e2]; rfl) hu X.prog X.w _ _ (fin_bl I q rfl)
theorem op_eqE (hu : X.A.units < cLine) : OpR X (compareOp .Eq) (rEmp false) := by
  intro pins s σ H x y v u Q I rx ry h
  obtain ⟨a, b, xs, rfl, rfl, ha, hb, q⟩ := h
  cases (show v = Value.ref a from rx)
  cases (show u = Value.ref b from ry)
  obtain ⟨i1, l1, e1⟩ := lst_is I ha
  obtain ⟨i2, l2, e2⟩ := lst_is I hb
  cases xs with
  | nil =>
    refine SeqAt.RcAt.lists (e := fun _ => true) l1 l2 (by rw [e1, e2]) hu (fun j h1 _ => ?_) X.prog X.w _ _ (fin_bl I q ?_)
    · rw [e1] at h1
      exact absurd h1 (Nat.not_lt_zero _)
    · rw [e1]
      rfl
  | cons y ys =>
    exact SeqAt.RcAt.lists_lengths l1 l2 (by rw [e1, e2]; rfl) hu X.prog X.w _ _ (fin_bl I q rfl)
end
theorem c_neE {a b : Addr} {xs : List V} {H : Hp} {Q : VK} (ha : H a = some (.lst xs)) (hb : H b = some (.lst [])) (q : Q (.bl (!xs.isEmpty)) H) : rEmp true (.ref a) (.ref b) H Q := ⟨a, b, xs, rfl, rfl, ha, hb, q⟩
theorem c_eqE {a b : Addr} {xs : List V} {H : Hp} {Q : VK} (ha : H a = some (.lst xs)) (hb : H b = some (.lst [])) (q : Q (.bl xs.isEmpty) H) : rEmp false (.ref a) (.ref b) H Q := ⟨a, b, xs, rfl, rfl, ha, hb, q⟩
end Tw

/-! keys: in, sorted, dicts, int of a text -/
namespace Tw
open PySem PySem.Spec PyProof.Rows L2 SX Tx Tc
section
variable {X : Cx}
def rIntS : List V → Hp → VK → Prop := fun xs H Q => ∃ a n, xs = [V.str a] ∧ PySem.intText? a = some n ∧ a.length ≤ 640 ∧ Q (.int n) H
theorem cr_intS : CallR X (.type "int") rIntS := call_int_str
def rSortedIS (K : PySem.W.Frag) : List V → Hp → VK → Prop := fun xs H Q => rSorted K xs H Q ∨ rSortedS K xs H Q
theorem cr_sortedIS : CallR X (.builtin "sorted") (rSortedIS X.K) := by
  intro pins s σ H xs us Q I r h
  rcases h with h | h
  · exact cr_sorted pins s σ H xs us Q I r h
  · exact cr_sortedS pins s σ H xs us Q I r h
end
section
variable {H : Hp} {Q : VK} {K : PySem.W.Frag} {p : Addr} {k : Key} {ks : List Key} {kvs : List (Key × V)}
theorem c_in (h : H p = some (.lst (ks.map kV))) (q : Q (.bl (decide (k ∈ ks))) H) : rIn K false (kV k) (.ref p) H Q :=
  ⟨p, _, rfl, .inl (SqL.of h), flat_kV k, all_flat ks, by rw [inV_kV]; exact q⟩
theorem c_notIn (h : H p = some (.lst (ks.map kV))) (q : Q (.bl (!decide (k ∈ ks))) H) : rIn K true (kV k) (.ref p) H Q :=
  ⟨p, _, rfl, .inl (SqL.of h), flat_kV k, all_flat ks, by rw [inV_kV]; exact q⟩
theorem c_notInT (h : H p = some (.tup (ks.map kV))) (q : Q (.bl (!decide (k ∈ ks))) H) : rIn K true (kV k) (.ref p) H Q :=
  ⟨p, _, rfl, .inr (SqT.of h), flat_kV k, all_flat ks, by rw [inV_kV]; exact q⟩
theorem dgetK (h : Rd H p (.dK kvs)) : DGet H p (kV k) (valV kvs k) := .inl ⟨kvs, k, h, rfl, rfl⟩
end
end Tw

/-! Fm: f-strings with a width: {x:>3} of an int, {x:<12} and {x:>12} of texts. -/
namespace Fm
open PySem PySem.Spec PySem.W PyProof.Rows L2 SX
def padL (n : Nat) (l : List Nat) : List Nat := l ++ List.replicate (n - l.length) 32
def padR (n : Nat) (l : List Nat) : List Nat := List.replicate (n - l.length) 32 ++ l
section
variable {prog : Program} {w : World} {A : Around} {E : Value → Shared → Prop} {s : Shared}
open Builtin Builtin.Str Builtin.Int Builtin.Float
def fS (al n : Nat) : FormatSpec := { fill := 32, align := al, width := some n }
theorem pad_eq {l : List Nat} {n : Nat} {al : Nat} (h : al = 60 ∨ al = 62) : padded (strSub (S l) 0 (S l).length) (if (al == 62) = true then n - (strSub (S l) 0 (S l).length).length else if (al == 94) = true then (n - (strSub (S l) 0 (S l).length).length) / 2 else 0)
    ((n - (strSub (S l) 0 (S l).length).length) - (if (al == 62) = true then n - (strSub (S l) 0 (S l).length).length else if (al == 94) = true then (n - (strSub (S l) 0 (S l).length).length) / 2 else 0)) 32 = S (if al = 62 then padR n l else padL n l) := by
  have e : strSub (S l) 0 (S l).length = S l := by
    refine TL.ext_tl ?_
    rw [TL.tl_strSub]
    show (l.drop 0).take ((S l).length - 0) = l
    rw [List.drop_zero, Nat.sub_zero, S_len, List.take_length]
  rw [e, S_len]
  refine TL.ext_tl ?_
  show (Array.replicate _ 32 ++ l.toArray ++ Array.replicate _ 32).toList = _
  rw [Array.toList_append, Array.toList_append, Array.toList_replicate, Array.toList_replicate]
  rcases h with rfl | rfl
  · show List.replicate 0 32 ++ l ++ List.replicate (n - l.length - 0) 32 = l ++ List.replicate (n - l.length) 32
    rw [Nat.sub_zero]
    rfl
  · show List.replicate (n - l.length) 32 ++ l ++ List.replicate (n - l.length - (n - l.length)) 32 = List.replicate (n - l.length) 32 ++ l
    rw [Nat.sub_self, List.replicate_zero, List.append_nil]
theorem field_eq {l : List Nat} {n : Nat} {al : Nat} (h : al = 60 ∨ al = 62) : strField (S l) (fS al n) "str" = .ok (if n ≤ l.length then none else some (S (if al = 62 then padR n l else padL n l))) := by
  rw [← pad_eq h]
  have e1 : ((fS al n).align == 61) = false := by rcases h with rfl | rfl <;> rfl
  unfold strField
  simp only [fS, e1]
  by_cases hn : n ≤ l.length
  · simp [hn, S_len]
    rcases h with rfl | rfl <;> rfl
  · simp [hn, S_len]
    rcases h with rfl | rfl <;> rfl
theorem chk_eq {spec : Str} {l : List Nat} {n : Nat} {al : Nat} {p : Except String FormatSpec} (hp : p = .ok (fS al n)) (hal : al = 60 ∨ al = 62) (hn : n < 1000) (hback : (spec.cps.back? == some 0) = false) :
    (do
      let f ← p
      let f := if f.type.isNone && spec.cps.back? == some 0 then { f with type := some 0 } else f
      if tooLong (f.width.getD 0) then return none
      return some (← strField (S l) f "str")) = (.ok (some (if n ≤ l.length then none else some (S (if al = 62 then padR n l else padL n l)))) : Except String (Option (Option Str))) := by
  subst hp
  show (if tooLong ((if (true && spec.cps.back? == some 0) = true then _ else fS al n).width.getD 0) = true then _ else _) = _
  rw [hback, Bool.and_false]
  have ht : tooLong n = false := by
    unfold tooLong
    rw [sizeLine_eq]
    exact decide_eq_false (by omega)
  show (if tooLong n = true then _ else _) = _
  rw [ht]
  show (do let r ← strField (S l) (fS al n) "str"; pure (some r)) = _
  rw [field_eq hal]
  rfl
theorem g_str {l : List Nat} {t : Tok} {spec : Str} {al n : Nat} {y : List Nat} (hp : parseFormatSpec spec.cps.toList "str" 60 = .ok (fS al n)) (hal : al = 60 ∨ al = 62) (hn : n < 1000) (hl : l.length < 100000)
    (hne : (spec.length == 0) = false) (hasc : ((spec.cps.toList.drop 1).any (· ≥ 128) || (spec.cps.getD 0 0 ≥ 128 && !([60, 62, 61, 94] : List Nat).contains (spec.cps.getD 1 0))) = false) (hback : (spec.cps.back? == some 0) = false)
    (hy : y = if al = 62 then padR n l else padL n l) : ∀ u, Meets («str.__format__» ⟨[.str (S l) t, .str spec u], []⟩) (fun _ R s => ∀ t' k, R (.ok (.ret (.str (S y) t'))) { s with toks := k }) := by
  intro u
  apply KPc.meets_of
  intro prog w A E s Q hQ
  unfold Builtin.«str.__format__»
  refine wpAny_bind (wpAny_of_eq (a := (_, _, _)) rfl ?_)
  refine wpAny_bind (wpAny_of_eq (a := some _) rfl ?_)
  refine wpAny_ite ?_
  rw [if_neg (by rw [hne]; exact Bool.false_ne_true)]
  refine wpAny_ite ?_
  rw [if_neg (by rw [hasc]; exact Bool.false_ne_true)]
  refine wpAny_bind (KXf.cut_str ?_)
  dsimp only
  rw [chk_eq hp hal hn hback]
  subst hy
  by_cases h : n ≤ l.length
  · rw [if_pos h]
    refine wpAny_bind (wpAny_rule ?_)
    refine KXf.ret_same ?_ hQ
    congr 1
    unfold padR padL
    rw [Nat.sub_eq_zero_of_le h, List.replicate_zero, List.append_nil, List.nil_append]
    split <;> rfl
  · rw [if_neg h]
    refine KXf.ret_text rfl ?_ hQ
    rw [S_len, sizeLine_eq]
    unfold padR padL
    split <;> rw [List.length_append, List.length_replicate] <;> omega
def fI (n : Nat) : FormatSpec := { fill := 32, align := 62, width := some n }
theorem g_int {a : Int} {t : Tok} {spec : Str} {n : Nat} {f : FormatSpec} (hf : f = fI n) (hp : parseFormatSpec spec.cps.toList "int" 62 = .ok f) (hty : f.type.getD (if spec.cps.back? == some 0 then 0 else 100) = 100) (hw : n ≤ 100000)
    (hne : (spec.length == 0) = false) (hasc : ((spec.cps.toList.drop 1).any (· ≥ 128) || (spec.cps.getD 0 0 ≥ 128 && !([60, 62, 61, 94] : List Nat).contains (spec.cps.getD 1 0))) = false)
    (ha : a.natAbs.log2 < 1920) (hlen : (intSpecText (fI n) a).length ≤ sizeLine) : ∀ u, Meets («int.__format__» ⟨[.int a t, .str spec u], []⟩) (fun _ R s => ∀ t' k, R (.ok (.ret (.str (intSpecText (fI n) a) t'))) { s with toks := k }) := by
  intro u
  apply KPc.meets_of
  intro prog w A E s Q hQ
  unfold Builtin.«int.__format__»
  refine wpAny_bind (wpAny_of_eq (a := (_, _)) rfl ?_)
  refine wpAny_bind (wpAny_of_eq (a := _) rfl ?_)
  refine wpAny_ite ?_
  rw [if_neg (show ¬ (Value.str spec u == Value.none) = true from Bool.false_ne_true)]
  refine wpAny_bind (wpAny_typeNameOf (T := "str") (typeIs_str _ _ _) (by decide) fun _ => ?_)
  refine wpAny_bind (wpAny_of_eq (a := some _) rfl ?_)
  refine wpAny_ite ?_
  rw [if_neg (by rw [hne]; exact Bool.false_ne_true)]
  refine wpAny_ite ?_
  rw [if_neg (by rw [hasc]; exact Bool.false_ne_true)]
  refine wpAny_bind (wpAny_typeNameOfCut_int ?_)
  rw [hp]
  dsimp only
  rw [hty]
  refine wpAny_ite ?_
  rw [if_pos (by decide)]
  show wpAny _ _ (if _ then _ else _) _ _ _
  rw [if_neg (by rw [hf]; exact Bool.false_ne_true)]
  show wpAny _ _ (if _ then _ else _) _ _ _
  rw [if_neg (by rw [hf]; exact Bool.false_ne_true)]
  show wpAny _ _ (if _ then _ else _) _ _ _
  rw [if_neg (by decide)]
  refine wpAny_bind (wpAny_of_eq (PySem.overDigitLimit_small ha) ?_)
  show wpAny _ _ (if _ then _ else _) _ _ _
  rw [if_neg (by rw [hf]; exact (show ¬ n > 100000 by omega))]
  have e : ∀ X : Str, X = intSpecText (fI n) a → X.length ≤ sizeLine := fun X h => h ▸ hlen
  refine (fun h => KXf.ret_text h (e _ h) hQ) ?_
  subst hf
  with_unfolding_all rfl
theorem int_txt {k n : Nat} : intSpecText (fI n) (k : Int) = S (padR n (TL.numL k)) := by
  have hd : ((Nat.toDigits 10 k).map Char.toNat) = TL.numL k := by
    have h := text_ofNat k
    have h2 := num_S k
    exact S_inj (h.symm.trans h2)
  have hne : ((Nat.toDigits 10 k).map Char.toNat).isEmpty = false := by
    rw [hd]
    have := TL.numL_ne k
    cases h : TL.numL k with
    | nil => exact absurd h this
    | cons _ _ => rfl
  unfold intSpecText
  have e1 : ((Nat.toDigits 10 ((k : Int)).natAbs).map fun c => (if ((100 : Nat) == 88) = true then c.toUpper else c).toNat) = (Nat.toDigits 10 k).map Char.toNat := rfl
  rw [e1, show decide ((k : Int) < 0) = false from decide_eq_false (by omega)]
  unfold intField'
  simp only [fI, hne]
  rw [hd]
  refine TL.ext_tl ?_
  simp [TL.tl, padR]
end
section
variable {X : Cx} {σ : L2.St} {H : Hp} {Q : VK} {te : TE} {n : Nat}
/-- {i:>n} of a count -/
def fmIL (n : Nat) (Q : VK) : VK := fun x H1 => ∃ k : Nat, x = .int (k : Int) ∧ k < 1000000 ∧ Q (.str (S (padR n (TL.numL k)))) H1
def tFmI (n : Nat) (te : TE) : TE := fun σ H Q => te σ H (fmIL n Q)
theorem w_fmI (h : te σ H (fmIL n Q)) : tFmI n te σ H Q := h
theorem log20 {k : Nat} (h : k < 1000000) : ((k : Int)).natAbs.log2 < 1920 := by
  show k.log2 < 1920
  by_cases z : k = 0
  · rw [z]
    decide
  · exact (Nat.log2_lt z).mpr (Nat.lt_of_lt_of_le h (Nat.le_trans (show 1000000 ≤ 2 ^ 20 by decide) (Nat.pow_le_pow_right (by decide) (by decide))))
/-- {x:<n} or {x:>n} of a text -/
def fmSL (al n : Nat) (Q : VK) : VK := fun x H1 => ∃ l : List Nat, x = .str (S l) ∧ l.length < 100000 ∧ Q (.str (S (if al = 62 then padR n l else padL n l))) H1
def tFmS (al n : Nat) (te : TE) : TE := fun σ H Q => te σ H (fmSL al n Q)
theorem w_fmS {al : Nat} (h : te σ H (fmSL al n Q)) : tFmS al n te σ H Q := h
/-- what a spec must be -/
structure SpI (spec : Str) (n : Nat) : Prop where
  hp : Builtin.Float.parseFormatSpec spec.cps.toList "int" 62 = .ok (fI n)
  hty : (fI n).type.getD (if spec.cps.back? == some 0 then 0 else 100) = 100
  hne : (spec.length == 0) = false
  hasc : ((spec.cps.toList.drop 1).any (· ≥ 128) || (spec.cps.getD 0 0 ≥ 128 && !([60, 62, 61, 94] : List Nat).contains (spec.cps.getD 1 0))) = false
  hsz : spec.length ≤ sizeLine
  hn : n < 1000
structure SpS (spec : Str) (al n : Nat) : Prop where
  hp : Builtin.Float.parseFormatSpec spec.cps.toList "str" 60 = .ok (fS al n)
  hal : al = 60 ∨ al = 62
  hback : (spec.cps.back? == some 0) = false
  hne : (spec.length == 0) = false
  hasc : ((spec.cps.toList.drop 1).any (· ≥ 128) || (spec.cps.getD 0 0 ≥ 128 && !([60, 62, 61, 94] : List Nat).contains (spec.cps.getD 1 0))) = false
  hsz : spec.length ≤ sizeLine
  hn : n < 1000
theorem spI3 : SpI ">3" 3 := ⟨by kernel_rfl, by decide +kernel, by decide +kernel, by decide +kernel, by decide +kernel, by decide⟩
theorem spL12 : SpS "<12" 60 12 := ⟨by kernel_rfl, .inl rfl, by decide +kernel, by decide +kernel, by decide +kernel, by decide +kernel, by decide⟩
theorem spR12 : SpS ">12" 62 12 := ⟨by kernel_rfl, .inr rfl, by decide +kernel, by decide +kernel, by decide +kernel, by decide +kernel, by decide⟩
theorem pe_fmI {e sp : Expr} {spec : Str} {pos : Pos} (hs : SpI spec n) (he : PE X e te) (hp : PE X sp (tC (.str spec))) : PE X (.FormattedValue e (-1) (some sp) pos) (tFmI n te) := by
  refine ⟨fun pins s σ H Q I h => ?_⟩
  refine wpAny_FormattedValue_spec (thn (he.run pins s σ H _ I h) fun v s1 hv => ?_)
  obtain ⟨x, H1, I1, r1, k, rfl, hk, q⟩ := hv
  obtain ⟨t, rfl⟩ := r1
  refine thn (hp.run pins s1 σ H1 (fun v H2 => v = .str spec ∧ H2 = H1) I1 ⟨rfl, rfl⟩) fun v s2 hv => ?_
  obtain ⟨y, H2, I2, r2, rfl, rfl⟩ := hv
  obtain ⟨t2, rfl⟩ := r2
  refine ⟨spec, t2, rfl, ?_⟩
  refine KXf.field_int rfl hs.hne hs.hsz (fun u => g_int rfl hs.hp hs.hty (by have := hs.hn; omega) hs.hne hs.hasc (log20 hk) ?_ u) fun t' k' => ?_
  · rw [int_txt, S_len, sizeLine_eq]
    have := TL.numL_len (n := k) (k := 6) (by decide) hk
    have := hs.hn
    unfold padR
    rw [List.length_append, List.length_replicate]
    omega
  · rw [int_txt]
    exact ⟨.str _, H2, I2.tok _, ⟨_, rfl⟩, q⟩
theorem pe_fmS {e sp : Expr} {spec : Str} {pos : Pos} {al : Nat} (hs : SpS spec al n) (he : PE X e te) (hp : PE X sp (tC (.str spec))) : PE X (.FormattedValue e (-1) (some sp) pos) (tFmS al n te) := by
  refine ⟨fun pins s σ H Q I h => ?_⟩
  refine wpAny_FormattedValue_spec (thn (he.run pins s σ H _ I h) fun v s1 hv => ?_)
  obtain ⟨x, H1, I1, r1, l, rfl, hl, q⟩ := hv
  obtain ⟨t, rfl⟩ := r1
  refine thn (hp.run pins s1 σ H1 (fun v H2 => v = .str spec ∧ H2 = H1) I1 ⟨rfl, rfl⟩) fun v s2 hv => ?_
  obtain ⟨y, H2, I2, r2, rfl, rfl⟩ := hv
  obtain ⟨t2, rfl⟩ := r2
  refine ⟨spec, t2, rfl, ?_⟩
  exact KXf.field_str rfl rfl hs.hne hs.hsz (fun u => g_str hs.hp hs.hal hs.hn hl hs.hne hs.hasc hs.hback rfl u) fun t' k' => ⟨.str _, H2, I2.tok _, ⟨_, rfl⟩, q⟩
end
end Fm
/-! str(x) of an int or a text; sign * n -/
namespace Fm
open PySem PySem.Spec PySem.W PyProof.Rows L2 SX
def txV : V → List Nat
  | .int i => TL.tl (Str.ofString (toString i))
  | .str s => TL.tl s
  | _ => []
def TxOk : V → Prop
  | .int i => i.natAbs.log2 < 1920
  | .str _ => True
  | _ => False
theorem S_tl (s : Str) : S (TL.tl s) = s := TL.ext_tl rfl
section
variable {X : Cx} {H : Hp} {Q : VK}
def rStrA : List V → Hp → VK → Prop := fun xs H Q => ∃ v, xs = [v] ∧ TxOk v ∧ Q (.str (S (txV v))) H
theorem cr_strA : CallR X (.type "str") rStrA := by
  intro pins s σ H xs us Q I r h
  obtain ⟨v, rfl, hv, q⟩ := h
  cases v with
  | int i => exact call_str_int pins s σ H _ us Q I r ⟨i, rfl, hv, by rw [show S (txV (.int i)) = Str.ofString (toString i) from S_tl _] at q; exact q⟩
  | str a => exact SkE.call_str_str pins s σ H _ us Q I r ⟨a, rfl, by rw [show S (txV (.str a)) = a from S_tl _] at q; exact q⟩
  | _ => exact hv.elim
theorem c_strA {v : V} (hv : TxOk v) (q : Q (.str (S (txV v))) H) : rStrA [v] H Q := ⟨v, rfl, hv, q⟩
theorem txV_S {l : List Nat} : txV (.str (S l)) = l := rfl
theorem txV_num {k : Nat} : txV (.int (k : Int)) = TL.numL k := by
  show TL.tl (Str.ofString (toString (k : Int))) = _
  rw [num_S]
def rMulSp : R2 := fun x y H Q => ∃ (c : Nat) (n : Int), x = .str (S [c]) ∧ y = .int n ∧ 0 ≤ n ∧ n < 100000 ∧ Q (.str (S (List.replicate n.toNat c))) H
theorem fold_rep (c : Nat) : ∀ (m : Nat) (acc : Array Nat), (List.replicate m #[c]).foldl (· ++ ·) acc = acc ++ (List.replicate m c).toArray
  | 0, acc => by simp
  | m + 1, acc => by
    rw [List.replicate_succ, List.foldl_cons, fold_rep c m, List.replicate_succ]
    apply Array.toList_inj.mp
    simp
theorem op_mulS : OpR X (binaryOp .Mult) rMulSp := by
  intro pins s σ H x y v u Q I rx ry h
  obtain ⟨c, n, rfl, rfl, h0, h1, q⟩ := h
  obtain ⟨t, rfl⟩ := rx
  obtain ⟨t', rfl⟩ := ry
  refine P.mul_str (by rw [decide_eq_false (by omega), decide_eq_false (by omega)]; rfl) (fun _ _ => ?_) (fun _ _ => ?_) ?_
  · have : (S [c]).length = 1 := rfl
    rw [this]
    have : (2 ^ 63 - 1) / n ≥ 1 := Int.le_ediv_of_mul_le (by omega) (by omega)
    omega
  · have : (S [c]).length = 1 := rfl
    rw [this]
    unfold Builtin.Str.tooLong
    rw [sizeLine_eq]
    exact decide_eq_false (by omega)
  · split
    · rename_i hn
      have : n = 0 := by omega
      subst this
      exact ⟨by decide, .str Str.empty, H, I.tok _, ⟨_, rfl⟩, q⟩
    · split
      · rename_i h2
        have : n = 1 := by simpa [show (S [c]).length = 1 from rfl] using h2
        subst this
        exact ⟨.str (S [c]), H, I, ⟨t, rfl⟩, q⟩
      · rw [show (S [c]).cps = #[c] from rfl, fold_rep, show (#[] : Array Nat) ++ (List.replicate n.toNat c).toArray = (List.replicate n.toNat c).toArray by simp]
        refine ⟨?_, .str (S (List.replicate n.toNat c)), H, I.tok _, ⟨_, rfl⟩, q⟩
        show (List.replicate n.toNat c).toArray.size ≤ _
        rw [List.size_toArray, List.length_replicate, sizeLine_eq]
        omega
theorem c_mulS {c : Nat} {n : Int} (h0 : 0 ≤ n) (h1 : n < 100000) (q : Q (.str (S (List.replicate n.toNat c))) H) : rMulSp (.str (S [c])) (.int n) H Q := ⟨c, n, rfl, rfl, h0, h1, q⟩
end
/-! a line of three fields -/
def lineL (k : Nat) (l v : List Nat) : List Nat := padR 3 (TL.numL k) ++ 32 :: (padL 12 l ++ 32 :: padR 12 v)
section
variable {σ : L2.St} {H : Hp} {Q : VK} {ts : List TE} {te : TE}
theorem padR_len {n : Nat} {l : List Nat} : (padR n l).length ≤ n + l.length := by
  unfold padR
  rw [List.length_append, List.length_replicate]
  omega
theorem padL_len {n : Nat} {l : List Nat} : (padL n l).length ≤ n + l.length := by
  unfold padL
  rw [List.length_append, List.length_replicate]
  omega
theorem c_fmI {n k : Nat} (hk : k < 1000000) (q : Q (.str (S (padR n (TL.numL k)))) H) : fmIL n Q (.int (k : Int)) H := ⟨k, rfl, hk, q⟩
theorem c_fmL {n : Nat} {l : List Nat} (hl : l.length < 100000) (q : Q (.str (S (padL n l))) H) : fmSL 60 n Q (.str (S l)) H := ⟨l, rfl, hl, q⟩
theorem c_fmR {n : Nat} {l : List Nat} (hl : l.length < 100000) (q : Q (.str (S (padR n l))) H) : fmSL 62 n Q (.str (S l)) H := ⟨l, rfl, hl, q⟩
theorem js_start {R : Str → Hp → Prop} (h : tJs ts (S []) σ H R) : tJs ts Str.empty σ H R := h
theorem js_leafS {a b : List Nat} {R : Str → Hp → Prop} (hz : a.length + b.length < 100000) (q : tJs ts (S (a ++ b)) σ H R) : Es.jsL ts (S a) σ R (.str (S b)) H := by
  refine ⟨S b, rfl, ?_, ?_⟩
  · rw [strLen_append, S_len, S_len, sizeLine_eq]
    omega
  · rw [S_cat]
    exact q
theorem js_leafSp {a : List Nat} {R : Str → Hp → Prop} (hz : a.length < 90000) (q : tJs ts (S (a ++ [32])) σ H R) : Es.jsL ts (S a) σ R (.str " ") H := by
  rw [show (" " : Str) = S [32] by decide +kernel]
  exact js_leafS (by show a.length + 1 < _; omega) q
theorem lineL_eq {k : Nat} {l v : List Nat} : [] ++ padR 3 (TL.numL k) ++ [32] ++ padL 12 l ++ [32] ++ padR 12 v = lineL k l v := by
  unfold lineL
  simp
theorem lineL_len {k : Nat} {l v : List Nat} (hk : k < 1000000) : (lineL k l v).length ≤ 40 + l.length + v.length := by
  have h1 := padR_len (n := 3) (l := TL.numL k)
  have h2 := padL_len (n := 12) (l := l)
  have h3 := padR_len (n := 12) (l := v)
  have h4 := TL.numL_len (n := k) (k := 6) (by decide) hk
  unfold lineL
  rw [List.length_append, List.length_cons, List.length_append, List.length_cons]
  omega
end
end Fm

/-! Tl: comprehensions over dicts with int and text keys, over lists with a test, over enumerate. -/
namespace Tl
open PySem L2
section
variable {σ : L2.St} {H : Hp} {c : Addr} {kvs : List (Key × V)} {j : Nat} {te td : TE} {tt : TT} {Q : VK}
/-- behind a lock: what stood stands, new things are new -/
def LockAt (H : Hp) (c : Addr) (od : Obj) (kvs : List (Key × V)) (H' : Hp) : Prop := H' c = some (.frz od (.dK kvs)) ∧ ∀ b o, H b = some o → b ≠ c → H' b = some o
theorem LockAt.to {H H' H'' : Hp} {c : Addr} {od : Obj} {kvs : List (Key × V)} (h : LockAt H c od kvs H') (s : Same H' H'') : LockAt H c od kvs H'' := ⟨s _ _ h.1, fun b o e n => s _ _ (h.2 b o e n)⟩
theorem LockAt.open_ {H H' : Hp} {c : Addr} {od : Obj} {kvs : List (Key × V)} (h : LockAt H c od kvs H') (hc : H c = some (.dK kvs)) : Same H (upd H' c (.dK kvs)) := fun b o e => by
  by_cases hb : b = c
  · rw [hb, upd_same]
    rw [hb, hc] at e
    exact e
  · exact Eg.upd_mut hb (h.2 b o e hb)
/-- [F k v for k in d] -/
theorem map_keysK {F : Key → V → V} (hc : H c = some (.dK kvs)) (hsz : kvs.length < 100000)
    (hi : ∀ (H' : Hp) (R : VK), (∀ b o, H b = some o → b ≠ c → H' b = some o) → R (.ref c) H' → td σ H' R)
    (step : ∀ (od : Obj) (H' : Hp) (k : Key) (v : V) (R : VK), LockAt H c od kvs H' → (k, v) ∈ kvs → (∀ H'', Same H' H'' → R (F k v) H'') → te ((wipe σ [j]).set j (some (kV k))) H' R)
    (done : ∀ (D : Addr) (H' : Hp), H D = none → Same H H' → H' D = some (.lst (kvs.map fun y => F y.1 y.2)) → Q (.ref D) H') : tLockE (tLc (iKeys td) (gName j) tYes te [j]) σ H Q := by
  refine ⟨c, _, hc, trivial, fun od => ?_⟩
  refine Eg.w_lc (Eg.w_iK (hi _ _ (fun b o e n => Eg.upd_mut n e) (Eg.c_iKK upd_same ?_)))
  intro D hD
  have hDc : D ≠ c := fun e => by rw [e, upd_same] at hD; cases hD
  have hD0 : H D = none := by rw [upd_ne hDc] at hD; exact hD
  refine lc_it walk_keys (fun n H' => LockAt H c od kvs H' ∧ H' D = some (.lst ((kvs.take n).map fun y => F y.1 y.2))) ⟨⟨Eg.upd_old upd_same hD, fun b o e n => Eg.upd_old (Eg.upd_mut n e) hD⟩, upd_same⟩ (fun n H' _ h => h.1.1) ?_ ?_
  · rintro n y _ H1 hn ⟨h1, h2⟩ ⟨rfl, k, v, hk, rfl⟩
    obtain ⟨hlt, he⟩ := List.getElem?_eq_some_iff.mp hk
    refine Eg.w_gN (Eg.w_wipe ?_ (Eg.w_yes (iteT (step od _ k v _ h1 (List.mem_of_getElem? hk) fun H2 s2 => ⟨_, s2 _ _ h2, ?_, ?_, ?_⟩))))
    · show (((σ.set j none).set j (some (kV k))).set j none) = σ.set j none
      rw [List.set_set, List.set_set]
    · rw [List.length_map, List.length_take, sizeLine_eq]
      omega
    · have l2 := h1.to s2
      exact ⟨Eg.upd_mut hDc.symm l2.1, fun b o e n => Eg.upd_mut (ne_of_none e hD0) (l2.2 b o e n)⟩
    · rw [upd_same, List.take_succ_eq_append_getElem hlt, he]
      simp
  · rintro H1 ⟨h1, h2⟩
    rw [List.take_length] at h2
    exact ⟨h1.1, done D _ hD0 (h1.open_ hc) (Eg.upd_mut hDc h2)⟩
/-- [k for k in d if P k] -/
theorem filt_keysK {P : Key → Bool} (hj : j < σ.length) (hc : H c = some (.dK kvs)) (hsz : kvs.length < 100000)
    (hi : ∀ (H' : Hp) (R : VK), (∀ b o, H b = some o → b ≠ c → H' b = some o) → R (.ref c) H' → td σ H' R)
    (test : ∀ (od : Obj) (H' : Hp) (k : Key) (v : V) (R : Bool → Hp → Prop), LockAt H c od kvs H' → (k, v) ∈ kvs → R (P k) H' → tt ((wipe σ [j]).set j (some (kV k))) H' R)
    (done : ∀ (D : Addr) (H' : Hp), H D = none → Same H H' → H' D = some (.lst (((kvs.map (·.1)).filter P).map kV)) → Q (.ref D) H') : tLockE (tLc (iKeys td) (gName j) tt (tVar j) [j]) σ H Q := by
  refine ⟨c, _, hc, trivial, fun od => ?_⟩
  refine Eg.w_lc (Eg.w_iK (hi _ _ (fun b o e n => Eg.upd_mut n e) (Eg.c_iKK upd_same ?_)))
  intro D hD
  have hDc : D ≠ c := fun e => by rw [e, upd_same] at hD; cases hD
  have hD0 : H D = none := by rw [upd_ne hDc] at hD; exact hD
  refine lc_it walk_keys (fun n H' => LockAt H c od kvs H' ∧ H' D = some (.lst ((((kvs.take n).map (·.1)).filter P).map kV))) ⟨⟨Eg.upd_old upd_same hD, fun b o e n => Eg.upd_old (Eg.upd_mut n e) hD⟩, upd_same⟩ (fun n H' _ h => h.1.1) ?_ ?_
  · rintro n y _ H1 hn ⟨h1, h2⟩ ⟨rfl, k, v, hk, rfl⟩
    obtain ⟨hlt, he⟩ := List.getElem?_eq_some_iff.mp hk
    refine Eg.w_gN (Eg.w_wipe ?_ (test od _ k v _ h1 (List.mem_of_getElem? hk) ?_))
    · show (((σ.set j none).set j (some (kV k))).set j none) = σ.set j none
      rw [List.set_set, List.set_set]
    · have fl := List.length_filter_le P ((kvs.take n).map (·.1))
      rw [List.length_map, List.length_take] at fl
      have e1 : (kvs.take (n + 1)).map (·.1) = (kvs.take n).map (·.1) ++ [k] := by rw [List.take_succ_eq_append_getElem hlt, he, List.map_append]; rfl
      cases hp : P k with
      | true =>
        refine iteT (Eg.w_var (v := kV k) ?_ ⟨_, h2, ?_, ⟨Eg.upd_mut hDc.symm h1.1, fun b o e n => Eg.upd_mut (ne_of_none e hD0) (h1.2 b o e n)⟩, ?_⟩)
        · show ((σ.set j none).set j (some (kV k)))[j]? = _
          rw [List.getElem?_set_self (by rw [List.length_set]; exact hj)]
        · rw [List.length_map, sizeLine_eq]
          omega
        · rw [upd_same, e1, List.filter_append]
          simp [hp]
      | false =>
        refine iteF ⟨h1, ?_⟩
        rw [h2, e1, List.filter_append]
        simp [hp]
  · rintro H1 ⟨h1, h2⟩
    rw [List.take_length] at h2
    exact ⟨h1.1, done D _ hD0 (h1.open_ hc) (Eg.upd_mut hDc h2)⟩
theorem val_mem : ∀ {kvs : List (Key × V)} {k : Key} {v : V}, (kvs.map (·.1)).Nodup → (k, v) ∈ kvs → valV kvs k = some v
  | p :: r, k, v, nd, h => by
    have nd' := List.nodup_cons.mp nd
    by_cases e : p.1 = k
    · rw [valV_pos e]
      rcases List.mem_cons.mp h with h | h
      · rw [← h]
      · exact absurd (List.mem_map.mpr ⟨_, h, e.symm⟩) nd'.1
    · rw [valV_neg e]
      refine val_mem nd'.2 ((List.mem_cons.mp h).resolve_left fun z => e ?_)
      rw [← z]
theorem val_some {kvs : List (Key × V)} {k : Key} (h : k ∈ kvs.map (·.1)) : ∃ v, valV kvs k = some v := by
  induction kvs with
  | nil => cases h
  | cons p r ih =>
    by_cases e : p.1 = k
    · exact ⟨_, valV_pos e⟩
    · rw [valV_neg e]
      exact ih ((List.mem_cons.mp h).resolve_left fun z => e z.symm)
theorem putK_new {kvs : List (Key × V)} {k : Key} {v : V} (h : k ∉ kvs.map (·.1)) : putK kvs k v = kvs ++ [(k, v)] := by
  unfold putK
  have : (kvs.any fun p => decide (p.1 = k)) = false := by
    rw [← Bool.not_eq_true, List.any_eq_true]
    rintro ⟨p, hp, e⟩
    exact h (List.mem_map.mpr ⟨p, hp, of_decide_eq_true e⟩)
  first
    | rw [if_neg (by rw [this]; exact Bool.false_ne_true)]
    | simp [this]
theorem w_dc {wi : TI} {g : TG} {tk tv : TE} {vs : List Nat} (h : wi σ H fun J H1 => ∀ D, H1 D = none → ∃ W : Nat → Nat → Hp → Prop, (∃ m, W 0 m (upd H1 D (.dK []))) ∧ ∀ i m H, W i m H →
  (J.stop i H ∧ Q (.ref D) H) ∨ (J.go i H ∧ ∃ Nx : Hp → Prop, (∀ H', Nx H' → ∃ m', m' < m ∧ W (i + 1) m' H') ∧ ∀ x H', J.yld i H x H' → g x (wipe σ vs) H' fun σ2 H2 => wipe σ2 vs = wipe σ vs ∧ tt σ2 H2 fun b H3 =>
    if b = true then tk σ2 H3 fun y H4 => tv σ2 H4 fun z H5 => ∃ kvs k, y = kV k ∧ H5 D = some (.dK kvs) ∧ kvs.length < sizeLine ∧ Nx (upd H5 D (.dK (putK kvs k z))) else Nx H3)) : tDc wi g tt tk tv vs σ H Q := h
/-- a dict comprehension over a walk -/
theorem dc_it {J : It} {n : Nat} {G : Hp → Prop} {Y : Nat → Hp → V → Hp → Prop} (w : Walk J n G Y) {g : TG} {tt : TT} {tk tv : TE} {vs : List Nat} {σ : L2.St} {H1 : Hp} {D : Addr} {Qd : Hp → Prop} (Pv : Nat → Hp → Prop) (h0 : Pv 0 (upd H1 D (.dK []))) (hG : ∀ i H, i ≤ n → Pv i H → G H)
    (hs : ∀ i x H H', i < n → Pv i H → Y i H x H' → g x (wipe σ vs) H' fun σ2 H2 => wipe σ2 vs = wipe σ vs ∧ tt σ2 H2 fun b H3 =>
      if b = true then tk σ2 H3 fun y H4 => tv σ2 H4 fun z H5 => ∃ kvs k, y = kV k ∧ H5 D = some (.dK kvs) ∧ kvs.length < sizeLine ∧ Pv (i + 1) (upd H5 D (.dK (putK kvs k z))) else Pv (i + 1) H3) (hd : ∀ H, Pv n H → Qd H) :
    ∃ W : Nat → Nat → Hp → Prop, (∃ m, W 0 m (upd H1 D (.dK []))) ∧ ∀ i m H, W i m H →
      (J.stop i H ∧ Qd H) ∨ (J.go i H ∧ ∃ Nx : Hp → Prop, (∀ H', Nx H' → ∃ m', m' < m ∧ W (i + 1) m' H') ∧ ∀ x H', J.yld i H x H' → g x (wipe σ vs) H' fun σ2 H2 => wipe σ2 vs = wipe σ vs ∧ tt σ2 H2 fun b H3 =>
        if b = true then tk σ2 H3 fun y H4 => tv σ2 H4 fun z H5 => ∃ kvs k, y = kV k ∧ H5 D = some (.dK kvs) ∧ kvs.length < sizeLine ∧ Nx (upd H5 D (.dK (putK kvs k z))) else Nx H3) := by
  refine ⟨fun i m H => m = n - i ∧ i ≤ n ∧ Pv i H, ⟨n, by simp, Nat.zero_le _, h0⟩, ?_⟩
  rintro i m H ⟨rfl, hi, p⟩
  have q := hG i H hi p
  by_cases hlt : i < n
  · refine .inr ⟨w.goes i H hlt q, Pv (i + 1), fun H' p' => ⟨n - (i + 1), by omega, rfl, hlt, p'⟩, fun x H' y => hs i x H H' hlt p (w.yields i H x H' hlt q y)⟩
  · have e : i = n := by omega
    subst e
    exact .inl ⟨w.stops H q, hd H p⟩
/-- {k: d[k] for k in d} -/
theorem copyK {tv : TE} (hj : j < σ.length) (hc : H c = some (.dK kvs)) (hsz : kvs.length < 100000) (hnd : (kvs.map (·.1)).Nodup)
    (hi : ∀ (H' : Hp) (R : VK), (∀ b o, H b = some o → b ≠ c → H' b = some o) → R (.ref c) H' → td σ H' R)
    (val : ∀ (od : Obj) (H' : Hp) (k : Key) (v : V) (R : VK), LockAt H c od kvs H' → (k, v) ∈ kvs → R v H' → tv ((wipe σ [j]).set j (some (kV k))) H' R)
    (done : ∀ (D : Addr) (H' : Hp), H D = none → Same H H' → H' D = some (.dK kvs) → Q (.ref D) H') : tLockE (tDc (iKeys td) (gName j) tYes (tVar j) tv [j]) σ H Q := by
  refine ⟨c, _, hc, trivial, fun od => ?_⟩
  refine w_dc (Eg.w_iK (hi _ _ (fun b o e n => Eg.upd_mut n e) (Eg.c_iKK upd_same ?_)))
  intro D hD
  have hDc : D ≠ c := fun e => by rw [e, upd_same] at hD; cases hD
  have hD0 : H D = none := by rw [upd_ne hDc] at hD; exact hD
  refine dc_it walk_keys (fun n H' => LockAt H c od kvs H' ∧ H' D = some (.dK (kvs.take n))) ⟨⟨Eg.upd_old upd_same hD, fun b o e n => Eg.upd_old (Eg.upd_mut n e) hD⟩, upd_same⟩ (fun n H' _ h => h.1.1) ?_ ?_
  · rintro n y _ H1 hn ⟨h1, h2⟩ ⟨rfl, k, v, hk, rfl⟩
    obtain ⟨hlt, he⟩ := List.getElem?_eq_some_iff.mp hk
    refine Eg.w_gN (Eg.w_wipe ?_ (Eg.w_yes (iteT (Eg.w_var (v := kV k) ?_ (val od _ k v _ h1 (List.mem_of_getElem? hk) ⟨_, k, rfl, h2, ?_, ⟨Eg.upd_mut hDc.symm h1.1, fun b o e n => Eg.upd_mut (ne_of_none e hD0) (h1.2 b o e n)⟩, ?_⟩)))))
    · show (((σ.set j none).set j (some (kV k))).set j none) = σ.set j none
      rw [List.set_set, List.set_set]
    · show ((σ.set j none).set j (some (kV k)))[j]? = _
      rw [List.getElem?_set_self (by rw [List.length_set]; exact hj)]
    · rw [List.length_take, sizeLine_eq]
      omega
    · rw [upd_same, putK_new, List.take_succ_eq_append_getElem hlt, he]
      intro hm
      rw [List.map_take] at hm
      obtain ⟨i, hi'⟩ := List.mem_iff_getElem?.mp hm
      rw [List.getElem?_take] at hi'
      split at hi'
      · rename_i hin
        have e2 : (kvs.map (·.1))[n]? = some k := by rw [List.getElem?_map, hk]; rfl
        obtain ⟨l1, e1⟩ := List.getElem?_eq_some_iff.mp hi'
        obtain ⟨l2, e3⟩ := List.getElem?_eq_some_iff.mp e2
        exact List.pairwise_iff_getElem.mp hnd i n l1 l2 hin (e1.trans e3.symm)
      · cases hi'
  · rintro H1 ⟨h1, h2⟩
    rw [List.take_length] at h2
    exact ⟨h1.1, done D _ hD0 (h1.open_ hc) (Eg.upd_mut hDc h2)⟩
/-- numbered from f on -/
def numd (f : Int) : List V → List (Key × V)
  | [] => []
  | x :: r => (.inl f, x) :: numd (f + 1) r
theorem numd_snoc : ∀ (xs : List V) (f : Int) (x : V), numd f (xs ++ [x]) = numd f xs ++ [(.inl (f + xs.length), x)]
  | [], f, x => by
    show [((Sum.inl f : Key), x)] = [(.inl (f + 0), x)]
    rw [Int.add_zero]
  | y :: r, f, x => by
    show (.inl f, y) :: numd (f + 1) (r ++ [x]) = ((Sum.inl f : Key), y) :: numd (f + 1) r ++ [_]
    rw [numd_snoc r]
    show _ = (.inl f, y) :: (numd (f + 1) r ++ [(.inl (f + ((r.length + 1 : Nat) : Int)), x)])
    congr 4
    show (Sum.inl (f + 1 + (r.length : Int)) : Key) = Sum.inl (f + ((r.length + 1 : Nat) : Int))
    congr 1
    omega
theorem numd_len : ∀ (xs : List V) (f : Int), (numd f xs).length = xs.length
  | [], _ => rfl
  | x :: r, f => by
    show (numd (f + 1) r).length + 1 = r.length + 1
    rw [numd_len r]
theorem numd_keys : ∀ (xs : List V) (f : Int), (numd f xs).map (·.1) = (List.range xs.length).map fun i : Nat => (.inl (f + (i : Int)) : Key)
  | [], _ => rfl
  | x :: r, f => by
    show (Sum.inl f : Key) :: (numd (f + 1) r).map (·.1) = (List.range (r.length + 1)).map _
    rw [numd_keys r, List.range_succ_eq_map, List.map_cons, List.map_map]
    congr 1
    · show Sum.inl f = (Sum.inl (f + 0) : Key)
      rw [Int.add_zero]
    · refine List.map_congr_left fun i _ => ?_
      show (Sum.inl (f + 1 + (i : Int)) : Key) = Sum.inl (f + ((i + 1 : Nat) : Int))
      congr 1
      omega
theorem numd_nodup (xs : List V) (f : Int) : ((numd f xs).map (·.1)).Nodup := by
  rw [numd_keys]
  refine List.pairwise_map.mpr (List.nodup_range.imp ?_)
  intro a b h e
  have := Sum.inl.inj e
  omega
end
section
variable {σ : L2.St} {H : Hp} {K : PySem.W.Frag} {a : Addr} {j : Nat} {ti te : TE} {tt : TT} {Q : VK}
/-- [F p for p in xs if P p], xs a list of things that stand as they are -/
theorem fm_list {α : Type} {xs : List α} {G F : α → V} {P : α → Bool} (ha : H a = some (.lst (xs.map G))) (hsz : xs.length < 100000)
    (hi : ∀ R : VK, R (.ref a) H → ti σ H R)
    (test : ∀ (H' : Hp) (z : α) (R : Bool → Hp → Prop), Same H H' → z ∈ xs → (∀ H'', Same H' H'' → R (P z) H'') → tt ((wipe σ [j]).set j (some (G z))) H' R)
    (elt : ∀ (H' : Hp) (z : α) (R : VK), Same H H' → z ∈ xs → P z = true → (∀ H'', Same H' H'' → R (F z) H'') → te ((wipe σ [j]).set j (some (G z))) H' R)
    (done : ∀ (D : Addr) (H' : Hp), H D = none → Same H H' → H' D = some (.lst ((xs.filter P).map F)) → Q (.ref D) H') : tLc (iList K ti) (gName j) tt te [j] σ H Q := by
  refine Eg.w_lc (Eg.w_iL (hi _ (Eg.c_iL (SqL.of ha) ?_)))
  intro D hD
  refine lc_list (xs := xs.map G) (fun n H' => Same H H' ∧ H' D = some (.lst (((xs.take n).filter P).map F))) ⟨Eg.same_new (Same.refl _) hD, upd_same⟩ (fun n H' _ h => SqL.of (h.1 _ _ ha)) ?_ ?_
  · rintro n x H1 hx ⟨s1, h2⟩
    rw [List.getElem?_map] at hx
    obtain ⟨z, hz, rfl⟩ := Option.map_eq_some_iff.mp hx
    obtain ⟨hlt, he⟩ := List.getElem?_eq_some_iff.mp hz
    refine Eg.w_gN (Eg.w_wipe ?_ (test H1 z _ s1 (List.mem_of_getElem? hz) fun H2 s2 => ?_))
    · show (((σ.set j none).set j (some (G z))).set j none) = σ.set j none
      rw [List.set_set, List.set_set]
    · have fl := List.length_filter_le P (xs.take n)
      rw [List.length_take] at fl
      cases hp : P z with
      | true =>
        refine iteT (elt H2 z _ (s1.trans s2) (List.mem_of_getElem? hz) hp fun H3 s3 => ⟨_, s3 _ _ (s2 _ _ h2), ?_, Eg.same_mut ((s1.trans s2).trans s3) hD, ?_⟩)
        · rw [List.length_map, sizeLine_eq]
          omega
        · rw [upd_same, List.take_succ_eq_append_getElem hlt, he, List.filter_append]
          simp [hp]
      | false =>
        refine iteF ⟨s1.trans s2, ?_⟩
        rw [s2 _ _ h2, List.take_succ_eq_append_getElem hlt, he, List.filter_append]
        simp [hp]
  · rintro H1 ⟨s1, h2⟩
    rw [List.length_map, List.take_length] at h2
    exact done D H1 hD s1 h2
def enumLeaf (K : PySem.W.Frag) (R : It → Hp → Prop) (vs : List V) (H1 : Hp) : Prop := ∃ (a : Addr) (xs : List V), vs = [.ref a] ∧ SqL K H1 a xs ∧ R (Ite K a) H1
theorem w_iE {t : TA} {R : It → Hp → Prop} (h : t σ H (enumLeaf K R)) : iEnum K t σ H R := h
theorem c_iE {R : It → Hp → Prop} {xs : List V} (hs : SqL K H a xs) (q : R (Ite K a) H) : enumLeaf K R [.ref a] H := ⟨a, xs, rfl, hs, q⟩
end
end Tl

/-! Ls: list(text). -/
namespace PySem.Ls
open PySem PySem.W PySem.Calls PyProof.Rows PySem.Spec
section
variable {prog : Program} {w : World} {A : Around} {E : Value → Shared → Prop} {s : Shared} {x : Str} {t : Tok}
theorem hint_str {Q : Bool → Shared → Prop} (h : Q false s) : wpAny (model prog w) A (Builtin.List.listLengthHint (.str x t)) Q E s := by
  have hT : typeOf (.str x t) = pure (.type "str") := rfl
  unfold Builtin.List.listLengthHint
  refine wpAny_bind (wpAny_specialOf_val hT PySem.F.slot_str_len.lookup ?_)
  generalize hid : ("str.__len__" : String) = id0
  wp_delta
  rw [show splitId id0 = some ("str", "__len__") from by subst hid; decide +kernel]
  subst hid
  refine wpAny_bind (wpAny_isInstance_val (T := "str") (b := true) hT (by rw [isSubtype_type]; kernel_rfl) ?_)
  refine wpAny_ite_split (fun hab => absurd hab (by decide)) (fun _ => ?_)
  refine wpAny_ite_split (fun _ => ?_) (fun hab => absurd (by decide +kernel) hab)
  exact wpAny_pure h
theorem extend_str {R : Result → Shared → Prop} (hh : A.handled = none) (S : Addr) (res : Value) (c₀ : Nat) (hS : s.heap.get? S = some { cls := .type "list", data := .seq #[] c₀ })
    (hR : ∀ h' tk acc' c', (∀ b o, b ≠ S → s.heap.get? b = some o → h'.get? b = some o) → h'.get? S = some { cls := .type "list", dict := none, data := .seq acc' c', slots := #[] } → ItemsOf (SignAt x) acc' x.cps.size → R (.ok (.ret res)) { s with heap := h', toks := tk }) (hn : x.cps.size ≤ sizeLine) :
    wpAny (model prog w) A.in1 (Builtin.List.listExtendWith (.ref S) (.str x t) res)
      (fun fin s' => match fin with | .done f => R (.ok f) s' | .again c' => c'.quiet = true ∧ codeAny (model prog w) A c' R s') (fun e s' => R (.error e) s') s := by
  have hSI : S ≠ s.heap.objs.size := Nat.ne_of_lt (Heap.lt_size hS)
  have hSf : S ∉ [s.heap.objs.size] := by simp only [List.mem_cons, List.not_mem_nil, or_false]; exact hSI
  unfold Builtin.List.listExtendWith
  refine wpAny_bind (wpAny_of_eq (show typeOf (.str x t) = pure (.type "str") from rfl) ?_)
  have h1 : Builtin.List.listSameRef (.ref S) (.str x t) = false := rfl
  simp only [h1, show (Value.type "str" == Value.type "list") = false by decide, show (Value.type "str" == Value.type "tuple") = false by decide, Bool.or_false, Bool.false_eq_true, if_false]
  refine wpAny_bind (wpAny_pyIter_str fun oI St W0 st => ?_)
  have W := W0 A.in1 hh
  have key : ∀ (h : Heap) (c₁ tk : Nat), St 0 h → (∀ b o, b ≠ S → s.heap.get? b = some o → h.get? b = some o) →
      h.get? S = some { cls := .type "list", data := .seq #[] c₁ } → codeAny (model prog w) A (.builtin "list.extend.loop" ⟨[.ref S, .ref s.heap.objs.size, res], []⟩) R { s with heap := h, toks := tk } := by
    intro h c₁ tk hst hk hS₁
    refine codeAny_extend_loopS W.toS hn S hSf res x.cps.size 0 _ #[] c₁ rfl (Nat.zero_le _) hst hS₁ (ItemsOf.nil _) fun s' acc' c' hm hS' hacc => ?_
    rw [Moved.eq_with hm]
    refine hR s'.heap s'.toks acc' c' (fun b o hb e => hm.heap b o (fun hmem => ?_) (hk b o hb e)) hS' hacc
    rcases List.mem_cons.mp hmem with e' | hmem
    · exact hb e'
    · exact absurd (Heap.lt_size e) (by rw [List.mem_singleton.mp hmem]; exact Nat.lt_irrefl _)
  have hS₁ := Heap.get?_push_of_some oI hS
  refine wpAny_bind (wpAny_holding (hint_str ?_))
  refine wpAny_ite_split (fun _ => ?_) (fun _ => wpAny_pure ⟨plainId_quiet PySem.F.plain_extend_loop _, key _ c₀ _ st (fun b o _ e => Heap.get?_push_of_some _ e) hS₁⟩)
  refine wpAny_bind (wpAny_rule ?_)
  refine wpAny_bind ?_
  show wpAny _ _ (updateSeq S (·.push .none) >>= fun _ => updateSeq S (·.pop)) _ _ _
  refine wpAny_bind (wpAny_updateSeq hS₁ rfl ?_)
  have hS₂ := Heap.get?_update_self (Obj.mapSeq (·.push Value.none)) hS₁ rfl
  refine wpAny_updateSeq (hz := by seq_fits) hS₂ rfl ?_
  have hS₃ := Heap.get?_update_self (Obj.mapSeq (·.pop)) hS₂ rfl
  refine wpAny_pure ⟨plainId_quiet PySem.F.plain_extend_loop _, key _ _ _ ?_ (fun b o hb e => ?_) hS₃⟩
  · refine W.frame 0 _ _ st fun b hb o e => ?_
    have hbS : b ≠ S := fun h => hSf (h ▸ hb)
    exact (Heap.get?_update_other _ _ (Ne.symm hbS)).trans ((Heap.get?_update_other _ _ (Ne.symm hbS)).trans e)
  · exact (Heap.get?_update_other _ _ (Ne.symm hb)).trans ((Heap.get?_update_other _ _ (Ne.symm hb)).trans (Heap.get?_push_of_some _ e))
theorem init_str {R : Result → Shared → Prop} (hh : A.handled = none) (S : Addr) (hS : s.heap.get? S = some { cls := .type "list", data := .seq #[] })
    (hR : ∀ h' tk acc' c', (∀ b o, b ≠ S → s.heap.get? b = some o → h'.get? b = some o) → h'.get? S = some { cls := .type "list", dict := none, data := .seq acc' c', slots := #[] } → ItemsOf (SignAt x) acc' x.cps.size → R (.ok (.ret .none)) { s with heap := h', toks := tk }) (hn : x.cps.size ≤ sizeLine) :
    wpAny (model prog w) A.in1 (Builtin.«list.__init__» ⟨[.ref S, .str x t], []⟩)
      (fun fin s' => match fin with | .done f => R (.ok f) s' | .again c' => c'.quiet = true ∧ codeAny (model prog w) A c' R s') (fun e s' => R (.error e) s') s := by
  show wpAny _ _ (do let old ← Builtin.List.listItems (.ref S); Builtin.List.listUpdate (.ref S) (fun _ => #[]); letGo old.toList.reverse; Builtin.List.listExtendWith (.ref S) (.str x t) .none) _ _ s
  refine wpAny_bind ?_
  unfold Builtin.List.listItems
  refine wpAny_bind (wpAny_seqItems hS rfl (wpAny_pure ?_))
  show wpAny _ _ (updateSeq S (fun _ => #[]) >>= fun _ => letGo (#[] : Array Value).toList.reverse >>= fun _ => Builtin.List.listExtendWith (.ref S) (.str x t) .none) _ _ s
  refine wpAny_bind (wpAny_updateSeq hS rfl ?_)
  have hS₂ := Heap.get?_update_self (Obj.mapSeq (fun _ => (#[] : Array Value))) hS rfl
  have oth : ∀ b o, b ≠ S → s.heap.get? b = some o → (s.heap.update S (Obj.mapSeq (fun _ => (#[] : Array Value)))).get? b = some o :=
    fun b o hb e => (Heap.get?_update_other _ _ (Ne.symm hb)).trans e
  refine wpAny_bind (wpAny_letGo ?_)
  refine extend_str hh S .none _ hS₂ (fun h' tk acc' c' hk hS' hacc => ?_) hn
  exact hR h' tk acc' c' (fun b o hb e => hk b o hb (oth b o hb e)) hS' hacc
theorem call_str {Q : Value → Shared → Prop} (hh : A.handled = none) (hn : x.cps.size ≤ sizeLine)
    (hQ : ∀ h' tk acc' c', (∀ b o, s.heap.get? b = some o → h'.get? b = some o) → h'.get? s.heap.objs.size = some { cls := .type "list", dict := none, data := .seq acc' c', slots := #[] } → ItemsOf (SignAt x) acc' x.cps.size → Q (.ref s.heap.objs.size) { s with heap := h', toks := tk }) :
    wpAny (model prog w) A (call (.type "list") [.str x t]) Q E s := by
  refine callType_codes (Q₁ := fun obj s₁ => obj = .ref s.heap.objs.size ∧ s₁ = { s with heap := s.heap.push { cls := .type "list", data := .seq #[] } }) PySem.F.called_list (PySem.F.typeCall_list_1 _) PySem.F.entry_list_init
    (code_list_new _ ⟨rfl, rfl⟩) fun obj s₁ h₁ => ?_
  obtain ⟨rfl, rfl⟩ := h₁
  have hS : (s.heap.push { cls := .type "list", data := .seq #[] }).get? s.heap.objs.size = some { cls := .type "list", data := .seq #[] } := Heap.get?_push_size _ rfl
  refine ⟨⟨_, hS, rfl⟩, PySem.F.args_list_init_2 _ _, init_str (A := A.in1) hh _ hS (fun h' tk acc' c' hk hS' hacc => ?_) hn⟩
  exact ⟨rfl, hQ h' tk acc' c' (fun b o e => hk b o (Nat.ne_of_lt (Heap.lt_size e)) (Heap.get?_push_of_some _ e)) hS' hacc⟩
end
end PySem.Ls
namespace Tw
open PySem PySem.Spec PyProof.Rows L2 SX Tx
section
variable {X : Cx}
def rListS : List V → Hp → VK → Prop := fun xs H Q => ∃ l : List Nat, xs = [V.str (S l)] ∧ l.length < 100000 ∧ ∀ p, H p = none → Q (.ref p) (upd H p (.lst (l.map fun c => V.str (S [c]))))
theorem cr_listS (hc : X.calm = true) : CallR X (.type "list") rListS := by
  intro pins s σ H xs us Q I r q
  obtain ⟨l, ex, hl, q⟩ := q
  subst ex
  obtain ⟨u, eu, t, rx⟩ := vals1 r
  subst eu
  subst rx
  refine PySem.Ls.call_str (I.ok.hd hc) (by rw [sizeLine_eq]; simp; omega) fun h' tk acc c' hk hD hacc => ?_
  have hsz : acc.size = l.length := by rw [hacc.1]; simp
  have hv : Vals (l.map fun c => V.str (S [c])) acc.toList := by
    have key : ∀ (m : List Nat) (ws : List Value), ws.length = m.length → (∀ (j : Nat) (v : Value), ws[j]? = some v → ∃ (c : Nat) (u : PySem.Tok), m[j]? = some c ∧ v = Value.str ⟨#[c]⟩ u) → Vals (m.map fun c => V.str (S [c])) ws := by
      intro m
      induction m with
      | nil =>
        intro ws e _
        rw [List.eq_nil_of_length_eq_zero e]
        exact .nil
      | cons c m ih =>
        intro ws e h
        cases ws with
        | nil => cases e
        | cons v ws =>
          obtain ⟨c', u, h1, h2⟩ := h 0 v rfl
          cases h1
          exact .cons ⟨u, h2⟩ (ih ws (by simpa using e) fun j v hj => h (j + 1) v hj)
    refine key l acc.toList (by rw [Array.length_toList]; exact hsz) fun j v e => ?_
    obtain ⟨c, u, h1, h2⟩ := hacc.2 j v (by rw [← Array.getElem?_toList]; exact e)
    exact ⟨c, u, by simpa using h1, h2⟩
  refine ⟨.ref s.heap.objs.size, upd H s.heap.objs.size (.lst (l.map fun c => V.str (S [c]))), I.laid (t' := tk) hk (Nat.le_refl _)
    (show ObjOk X.prog X.w _ _ _ (.lst (l.map fun c => V.str (S [c]))) from ⟨by rw [List.length_map, sizeLine_eq]; omega, acc.toList, c', hv, by rw [Array.toArray_toList]; exact hD⟩), rfl, q _ (I.hok.fresh (Nat.le_refl _))⟩
end
end Tw

/-! Rp: data that repr shows, with sizes. -/
namespace Rp
open PySem PySem.Spec PyProof.Rows L2 SX
structure Ok (k N : Nat) (d : PyData) : Prop where
  sh : d.showable = true
  nd : d.hasDict = false
  dp : d.depth ≤ k
  ls : d.leavesShort 200 = true
  wt : d.weight ≤ N
theorem Ok.mono {k k' N N' : Nat} {d : PyData} (h : Ok k N d) (hk : k ≤ k') (hN : N ≤ N') : Ok k' N' d := ⟨h.sh, h.nd, Nat.le_trans h.dp hk, h.ls, Nat.le_trans h.wt hN⟩
theorem Ok.int {i : Int} (h : i.natAbs < 10 ^ 40) : Ok 0 200 (.int i) := by
  have h2 : i.natAbs < 2 ^ 134 := Nat.lt_of_lt_of_le h (by decide +kernel)
  have hl : i.natAbs.log2 < 134 := by
    by_cases z : i.natAbs = 0
    · rw [z]
      decide
    · exact (Nat.log2_lt z).mpr h2
  refine ⟨?_, rfl, Nat.le_refl _, ?_, ?_⟩
  · simp only [PyData.showable]
    exact decide_eq_true (by omega)
  · simp only [PyData.leavesShort, PyData.shown]
    refine decide_eq_true ?_
    show (Str.ofString (toString i)).length ≤ 200
    rw [PySem.ofString_length]
    exact Nat.le_trans (int_text_length_le10 (k := 40) (by decide) h) (by decide)
  · simp only [PyData.weight]
    split <;> omega
theorem Ok.str {l : List Nat} (h : ∀ c ∈ l, c < 16 ^ 8) : Ok 0 l.length (.str (S l)) := by
  refine ⟨rfl, rfl, Nat.le_refl _, ?_, ?_⟩
  · simp only [PyData.leavesShort, List.all_eq_true, decide_eq_true_eq]
    exact h
  · simp only [PyData.weight]
    show l.toArray.size ≤ _
    rw [List.size_toArray]
    exact Nat.le_refl _
theorem all_ok {k N : Nat} : ∀ {ds : List PyData}, (∀ d ∈ ds, Ok k N d) → PyData.showableAll ds = true ∧ PyData.hasDictAll ds = false ∧ PyData.depthAll ds ≤ k ∧ PyData.leavesShortAll 200 ds = true ∧ PyData.weightAll ds ≤ ds.length * (N + 1)
  | [], _ => ⟨by simp only [PyData.showableAll], by simp only [PyData.hasDictAll], by simp only [PyData.depthAll]; omega, by simp only [PyData.leavesShortAll], by simp only [PyData.weightAll]; omega⟩
  | d :: ds, h => by
    have h1 := h d List.mem_cons_self
    obtain ⟨a1, a2, a3, a4, a5⟩ := all_ok (ds := ds) fun x hx => h x (List.mem_cons_of_mem _ hx)
    have w := h1.wt
    have dp := h1.dp
    refine ⟨?_, ?_, ?_, ?_, ?_⟩
    · simp only [PyData.showableAll, h1.sh, a1, Bool.and_self]
    · simp only [PyData.hasDictAll, h1.nd, a2, Bool.or_self]
    · simp only [PyData.depthAll]
      omega
    · simp only [PyData.leavesShortAll, h1.ls, a4, Bool.and_self]
    · simp only [PyData.weightAll, List.length_cons, Nat.succ_mul]
      omega
theorem Ok.list {k N : Nat} {ds : List PyData} (h : ∀ d ∈ ds, Ok k N d) : Ok (k + 1) (ds.length * (N + 1)) (.list ds) := by
  obtain ⟨a1, a2, a3, a4, a5⟩ := all_ok h
  exact ⟨by simp only [PyData.showable]; exact a1, by simp only [PyData.hasDict]; exact a2, by simp only [PyData.depth]; omega, by simp only [PyData.leavesShort]; exact a4, by simp only [PyData.weight]; exact a5⟩
theorem Ok.tuple {k N : Nat} {ds : List PyData} (h : ∀ d ∈ ds, Ok k N d) : Ok (k + 1) (ds.length * (N + 1)) (.tuple ds) := by
  obtain ⟨a1, a2, a3, a4, a5⟩ := all_ok h
  exact ⟨by simp only [PyData.showable]; exact a1, by simp only [PyData.hasDict]; exact a2, by simp only [PyData.depth]; omega, by simp only [PyData.leavesShort]; exact a4, by simp only [PyData.weight]; exact a5⟩
theorem c_repr {K : PySem.W.Frag} {H : Hp} {a : Addr} {d : PyData} {Q : VK} {N : Nat} (hd : Dp K H (.ref a) d) (ok : Ok 60 N d) (hN : N ≤ 80000) (q : Q (.str d.shown) H) : Gd.rRepr K [V.ref a] H Q := by
  refine ⟨a, d, rfl, hd, ok.sh, ok.nd, Nat.le_trans ok.dp (by decide), ?_, q⟩
  have := PyData.shown_le 200 (by decide) d ok.ls
  have w := ok.wt
  rw [sizeLine_eq]
  omega
/-! keys -/
def dK : Key → PyData | .inl i => .int i | .inr s => .str s
def KeyS (k : Key) : Prop := (∃ i : Int, k = .inl i ∧ i.natAbs < 1000000) ∨ ∃ l : List Nat, k = .inr (S l) ∧ l.length ≤ 200 ∧ ∀ c ∈ l, c < 16 ^ 8
theorem KeyS.ok {k : Key} (h : KeyS k) : Ok 0 200 (dK k) := by
  rcases h with ⟨i, rfl, hi⟩ | ⟨l, rfl, hl, hc⟩
  · exact .int (Nat.lt_trans hi (by decide +kernel))
  · exact (Ok.str hc).mono (Nat.le_refl _) hl
theorem dp_key {K : PySem.W.Frag} {H : Hp} (k : Key) : Dp K H (kV k) (dK k) := by
  cases k with
  | inl i => exact .int i
  | inr s => exact .str s
theorem dp_keys {K : PySem.W.Frag} {H : Hp} : ∀ ks : List Key, DpAll K H (ks.map kV) (ks.map dK)
  | [] => .nil
  | k :: r => .cons (dp_key k) (dp_keys r)
theorem dp_keyL {K : PySem.W.Frag} {H : Hp} {a : Addr} {ks : List Key} (h : H a = some (.lst (ks.map kV))) : Dp K H (.ref a) (.list (ks.map dK)) := .lst (SqL.of h) (dp_keys ks)
theorem keys_ok {ks : List Key} (h : ∀ k ∈ ks, KeyS k) : Ok 1 (ks.length * 201) (.list (ks.map dK)) := by
  have := Ok.list (k := 0) (N := 200) (ds := ks.map dK) fun d hd => by
    obtain ⟨k, hk, rfl⟩ := List.mem_map.mp hd
    exact (h k hk).ok
  rw [List.length_map] at this
  exact this
end Rp

/-! Kq: plain facts for the keys of queries: each once, sorted, texts of picks. -/
namespace Kq
open PySem L2 SX Tx Tc
/-! sorted lists are one -/
theorem sorted_uniq {α : Type} {R : α → α → Prop} (anti : ∀ a b, R a b → R b a → a = b) : ∀ {l m : List α}, l.Perm m → l.Pairwise R → m.Pairwise R → l = m
  | [], m, p, _, _ => (List.nil_perm.mp p).symm
  | a :: l, [], p, _, _ => absurd p.length_eq (by simp)
  | a :: l, b :: m, p, h1, h2 => by
    have h1' := List.pairwise_cons.mp h1
    have h2' := List.pairwise_cons.mp h2
    have e : a = b := by
      rcases List.mem_cons.mp (p.mem_iff.mp List.mem_cons_self) with e | ha
      · exact e
      · rcases List.mem_cons.mp (p.mem_iff.mpr List.mem_cons_self) with e | hb
        · exact e.symm
        · exact anti _ _ (h1'.1 b hb) (h2'.1 a ha)
    subst e
    rw [sorted_uniq anti (List.Perm.cons_inv p) h1'.2 h2'.2]
def leS (a b : Str) : Prop := PySem.Spec.ltCps b.cps.toList a.cps.toList = false
theorem leS_iff {a b : Str} : leS a b ↔ ¬ b.cps.toList < a.cps.toList := by
  unfold leS
  rw [PyProof.Rows.ltCps_eq, decide_eq_false_iff_not]
theorem leS_anti (a b : Str) (h1 : leS a b) (h2 : leS b a) : a = b := by
  rw [leS_iff] at h1 h2
  have e : a.cps.toList = b.cps.toList := List.le_antisymm (List.not_lt.mp h1) (List.not_lt.mp h2)
  cases a with
  | mk x =>
    cases b with
    | mk y =>
      congr 1
      exact Array.toList_inj.mp e
theorem leS_trans {a b c : Str} (h1 : leS a b) (h2 : leS b c) : leS a c := by
  rw [leS_iff] at *
  exact List.not_lt.mpr (List.le_trans (List.not_lt.mp h1) (List.not_lt.mp h2))
theorem rising_pw : ∀ {r : List Str} {p : Str}, PyProof.Rows.risingS p r = true → (p :: r).Pairwise leS
  | [], p, _ => List.pairwise_cons.mpr ⟨fun _ z => (nomatch z), .nil⟩
  | x :: r, p, h => by
    have h' : (!PySem.Spec.ltCps x.cps.toList p.cps.toList && PyProof.Rows.risingS x r) = true := h
    rw [Bool.and_eq_true, Bool.not_eq_true'] at h'
    have ih := rising_pw h'.2
    refine List.pairwise_cons.mpr ⟨fun y hy => ?_, ih⟩
    rcases List.mem_cons.mp hy with rfl | hy
    · exact h'.1
    · exact leS_trans (show leS p x from h'.1) ((List.pairwise_cons.mp ih).1 y hy)
theorem sortedS_pw {l : List Str} (h : PyProof.Rows.sortedS l = true) : l.Pairwise leS := by
  cases l with
  | nil => exact .nil
  | cons x r => exact rising_pw h
theorem sortedS_uniq {l m : List Str} (p : l.Perm m) (h1 : PyProof.Rows.sortedS l = true) (h2 : PyProof.Rows.sortedS m = true) : l = m :=
  sorted_uniq leS_anti p (sortedS_pw h1) (sortedS_pw h2)
/-! each once -/
section
variable {α : Type} [DecidableEq α]
def addN (acc : List α) (n : α) : List α := if n ∈ acc then acc else acc ++ [n]
def uq (ns : List α) : List α := ns.foldl addN []
theorem uq_snoc (ns : List α) (n : α) : uq (ns ++ [n]) = addN (uq ns) n := by
  unfold uq
  rw [List.foldl_append]
  rfl
theorem addN_mem {acc : List α} {n x : α} : x ∈ addN acc n ↔ x ∈ acc ∨ x = n := by
  unfold addN
  split
  · rename_i h
    exact ⟨.inl, fun z => z.elim id fun e => e ▸ h⟩
  · rw [List.mem_append, List.mem_singleton]
theorem uq_mem {ns : List α} {x : α} : x ∈ uq ns ↔ x ∈ ns := by
  unfold uq
  have : ∀ (ks acc : List α), x ∈ ks.foldl addN acc ↔ x ∈ acc ∨ x ∈ ks := by
    intro ks
    induction ks with
    | nil => exact fun acc => by simp
    | cons k r ih =>
      intro acc
      rw [List.foldl_cons, ih, addN_mem, List.mem_cons, or_assoc]
  rw [this]
  simp
theorem uq_len (ns : List α) : (uq ns).length ≤ ns.length := by
  unfold uq
  have : ∀ (ks acc : List α), (ks.foldl addN acc).length ≤ acc.length + ks.length := by
    intro ks
    induction ks with
    | nil => exact fun acc => Nat.le_refl _
    | cons k r ih =>
      intro acc
      have h1 := ih (addN acc k)
      have h2 : (addN acc k).length ≤ acc.length + 1 := by
        unfold addN
        split
        · omega
        · rw [List.length_append]
          exact Nat.le_refl _
      rw [List.foldl_cons, List.length_cons]
      omega
  have := this ns []
  simpa using this
end
/-- keys that are told apart as the numbers are -/
theorem uniq_map {f : Nat → Key} : ∀ {ns : List Nat}, (∀ a ∈ ns, ∀ b ∈ ns, f a = f b → a = b) → uniq (ns.map f) = (uq ns).map f := by
  intro ns
  have : ∀ (ks acc : List Nat), (∀ a ∈ acc ++ ks, ∀ b ∈ acc ++ ks, f a = f b → a = b) → (ks.map f).foldl add1 (acc.map f) = (ks.foldl addN acc).map f := by
    intro ks
    induction ks with
    | nil => exact fun acc _ => rfl
    | cons k r ih =>
      intro acc h
      rw [List.map_cons, List.foldl_cons, List.foldl_cons]
      have e : add1 (acc.map f) (f k) = (addN acc k).map f := by
        unfold add1 addN
        by_cases hk : k ∈ acc
        · rw [if_pos hk, if_pos (List.mem_map.mpr ⟨k, hk, rfl⟩)]
        · rw [if_neg hk, if_neg, List.map_append]
          · rfl
          · intro hm
            obtain ⟨x, hx, e⟩ := List.mem_map.mp hm
            exact hk (h x (List.mem_append_left _ hx) k (List.mem_append_right _ List.mem_cons_self) e ▸ hx)
      rw [e]
      refine ih _ fun a ha b hb => h a ?_ b ?_
      · rcases List.mem_append.mp ha with ha | ha
        · rcases addN_mem.mp ha with ha | rfl
          · exact List.mem_append_left _ ha
          · exact List.mem_append_right _ List.mem_cons_self
        · exact List.mem_append_right _ (List.mem_cons_of_mem _ ha)
      · rcases List.mem_append.mp hb with hb | hb
        · rcases addN_mem.mp hb with hb | rfl
          · exact List.mem_append_left _ hb
          · exact List.mem_append_right _ List.mem_cons_self
        · exact List.mem_append_right _ (List.mem_cons_of_mem _ hb)
  intro h
  exact this ns [] (by rw [List.nil_append]; exact h)
theorem uniq_nodup_id {ks : List Key} (h : ks.Nodup) : uniq ks = ks := by
  unfold uniq
  have : ∀ (ks acc : List Key), (acc ++ ks).Nodup → ks.foldl add1 acc = acc ++ ks := by
    intro ks
    induction ks with
    | nil => exact fun acc _ => (List.append_nil _).symm
    | cons k r ih =>
      intro acc hn
      have hk : k ∉ acc := fun hm => (List.nodup_append.mp hn).2.2 k hm k List.mem_cons_self rfl
      rw [List.foldl_cons]
      have e : add1 acc k = acc ++ [k] := by
        unfold add1
        rw [if_neg hk]
      rw [e, ih _ (by rw [List.append_assoc]; exact hn), List.append_assoc]
      rfl
  exact this ks [] (by rw [List.nil_append]; exact h)
/-! texts of picks -/
def tks (f : Nat → List Nat) (ps : List (List Nat × Nat)) : List Tk := ps.flatMap fun p => p.1.map Tk.ch ++ [Tk.ho (f p.2)]
theorem flat_ch : ∀ l : List Nat, flat (l.map Tk.ch) = l
  | [] => rfl
  | c :: r => by
    show c :: flat (r.map Tk.ch) = c :: r
    rw [flat_ch r]
theorem holes_ch : ∀ l : List Nat, holes (l.map Tk.ch) = []
  | [] => rfl
  | c :: r => holes_ch r
theorem tks_snoc (f : Nat → List Nat) (ps : List (List Nat × Nat)) (p : List Nat × Nat) : tks f (ps ++ [p]) = tks f ps ++ (p.1.map Tk.ch ++ [Tk.ho (f p.2)]) := by
  unfold tks
  rw [List.flatMap_append, List.flatMap_cons, List.flatMap_nil, List.append_nil]
theorem flat_snoc (f : Nat → List Nat) (ps : List (List Nat × Nat)) (l : List Nat) (n : Nat) : flat (tks f (ps ++ [(l, n)])) = flat (tks f ps) ++ l ++ [123] ++ f n ++ [125] := by
  rw [tks_snoc, flat_app, flat_app, flat_ch]
  show flat (tks f ps) ++ (l ++ (123 :: (f n ++ [125]))) = _
  simp
theorem holes_tks (f : Nat → List Nat) : ∀ ps : List (List Nat × Nat), holes (tks f ps) = ps.map fun p => f p.2
  | [] => rfl
  | p :: r => by
    show holes ((p.1.map Tk.ch ++ [Tk.ho (f p.2)]) ++ tks f r) = f p.2 :: r.map _
    rw [holes_app, holes_app, holes_ch, holes_tks f r]
    rfl
theorem tks_mem {f : Nat → List Nat} {ps : List (List Nat × Nat)} {t : Tk} (h : t ∈ tks f ps) : (∃ p ∈ ps, ∃ c ∈ p.1, t = .ch c) ∨ ∃ p ∈ ps, t = .ho (f p.2) := by
  obtain ⟨p, hp, ht⟩ := List.mem_flatMap.mp h
  rcases List.mem_append.mp ht with ht | ht
  · obtain ⟨c, hc, rfl⟩ := List.mem_map.mp ht
    exact .inl ⟨p, hp, c, hc, rfl⟩
  · exact .inr ⟨p, hp, List.mem_singleton.mp ht⟩
end Kq

/-! Mk: o.m(a, .., k = v), own methods with keyword-only parameters; name = {..} with keys ints or texts on one line. -/
namespace Mk
open PySem PySem.Spec PyProof.Rows L2
/-- two values and one keyword -/
def g21 {α : Type} : List α → List α → List α
  | [a, b], [c] => [a, b, c]
  | _, _ => []
theorem g21_rel {vs : List V} {us : List Value} {zs : List V} {ws : List Value} (r : Vals vs us) (rz : Vals zs ws) : Vals (g21 vs zs) (g21 us ws) := by
  cases r with
  | nil => exact .nil
  | cons h1 r =>
    cases r with
    | nil => exact .nil
    | cons h2 r =>
      cases r with
      | nil =>
        cases rz with
        | nil => exact .nil
        | cons h3 rz =>
          cases rz with
          | nil => exact .cons h1 (.cons h2 (.cons h3 .nil))
          | cons h4 rz => exact .nil
      | cons h3 r => exact .nil
def methKLeaf (C : Addr) (m : Str) (sp : Sp) (gV : List V → List V → List V) (E : XK) (t tk : TA) (σ : L2.St) (Q : VK) (x : V) (H1 : Hp) : Prop := ∃ a dx fs, x = .ref a ∧ H1 a = some (.ins C dx fs) ∧ fs.lookup m = none ∧ t σ H1 fun vs H2 => tk σ H2 fun zs H3 => sp (gV (x :: vs) zs) H3 Q E
def tMethK (C : Addr) (m : Str) (sp : Sp) (gV : List V → List V → List V) (E : XK) (ta : TE) (t tk : TA) : TE := fun σ H Q => ta σ H (methKLeaf C m sp gV E t tk σ Q)
section
variable {X : Cx} {CX : CXT} {k : Nat} {f C : Addr} {fd : FuncData} {ps ks : List Str} {sp : Sp} {E : XK} {m : Str} {apos pos : Pos} {e o : Expr} {es : List Expr} {kws : List Keyword} {ta : TE} {t tk : TA} {g : List Value → List Value → List Value} {gV : List V → List V → List V}
theorem pe_methK {pl : Sem Bool} (he : PE X o ta) (c : Cls X.K C) (hm : Meth X.K C m f) (F : FnOk X.prog X.w X.K X.mg X.base CX k f fd ps sp) (hr : Room k X.A) (hb : KBinds X.K fd ps ks g gV) (hx : Passes CX X E) (ha : PA X (e :: es) t) (hkw : PK X kws tk)
    (hall : (backToKw pos (keywordEach kws X.env)).all (·.1.isSome) = true := by rfl) (hks : (backToKw pos (keywordEach kws X.env)).filterMap (·.1) = ks := by rfl)
    (hst : starEach (e :: es) X.env = (false, eval e X.env) :: starEach es X.env := by rfl) (hpl : ((backTo pos (starEach (e :: es) X.env)).any (·.1) || (backToKw pos (keywordEach kws X.env)).any (·.1.isNone)) = false := by rfl)
    (ht : eval (.Call (.Attribute o m apos) (e :: es) kws pos) X.env = (do
      let u ← eval o X.env
      standAt apos.atName
      let (g, first) ← holding [u] (getMethod u m pl)
      callWith pos g first (backTo pos (starEach (e :: es) X.env)) (backToKw pos (keywordEach kws X.env))) := by rfl) :
    PE X (.Call (.Attribute o m apos) (e :: es) kws pos) (tMethK C m sp gV E ta t tk) := by
  refine ⟨fun pins s σ H Q I q => PySem.W.methodCall_KW (pl := pl) (thn (he.run pins s σ H _ I q) fun u s1 ⟨y, H1, I1, ry, a, dx, fs, ey, ea, l, z⟩ => ?_) ht⟩
  subst ey
  cases ry
  refine getmeth_ok I1 ea c hm l (PySem.W.callWith_KW (first := [.ref a]) (h₀ := X.base) I.ok.mod.kin hm.kp hall (thn (ha.run pos pins s1 σ H1 _ I1 z) fun us s2 ⟨vs, H2, I2, r, y⟩ => ?_) hpl hst)
  refine thn (hkw.run pos pins s2 σ H2 _ I2 y) fun ws s3 ⟨zs, H3, I3, rz, q2⟩ => ⟨I3.kIn, ?_⟩
  rw [hks]
  exact run_fnk (us := .ref a :: us) (vs := .ref a :: vs) F hr hb hx I3 (.cons rfl r) rz q2
end
section
variable {σ : L2.St} {H : Hp} {Q : VK} {C p dx : Addr} {m : Str} {sp : Sp} {gV : List V → List V → List V} {E : XK} {ta : TE} {t tk : TA} {fs : List (Str × V)}
theorem w_methK (h : ta σ H (methKLeaf C m sp gV E t tk σ Q)) : tMethK C m sp gV E ta t tk σ H Q := h
theorem c_methK (h : H p = some (.ins C dx fs)) (hl : fs.lookup m = none) (q : t σ H fun vs H2 => tk σ H2 fun zs H3 => sp (gV (.ref p :: vs) zs) H3 Q E) : methKLeaf C m sp gV E t tk σ Q (.ref p) H := ⟨p, dx, fs, rfl, h, hl, q⟩
def propLeaf (C : Addr) (sp : Sp) (dvs : List V) (E : XK) (Q : VK) (x : V) (H1 : Hp) : Prop := ∃ a dx fs, x = .ref a ∧ H1 a = some (.ins C dx fs) ∧ sp (.ref a :: dvs) H1 Q E
theorem w_prop {dvs : List V} (h : ta σ H (propLeaf C sp dvs E Q)) : tProp C sp dvs E ta σ H Q := h
theorem c_prop {dvs : List V} (h : H p = some (.ins C dx fs)) (q : sp (.ref p :: dvs) H Q E) : propLeaf C sp dvs E Q (.ref p) H := ⟨p, dx, fs, rfl, h, q⟩
end
section
variable {X : Cx}
/-- name = {..} on one line, the name a local, keys ints or texts -/
theorem ps_setDcK {i : Nat} {y : Str} {py : Pos} {kx vx tg iter : Expr} {ifs : List Expr} {scope : Scope} {own : List (Str × Nat)} {pos spos : Pos} {wi : TI} {g : TG} {tt : TT} {tk tv : TE} (calm : X.calm = true) (nd : X.N.Nodup) (hy : X.N[i]? = some y) (hyl : X.env.scope.names.lookup y = some .local)
    (hsw : swapsWith (.DictComp kx vx [⟨tg, iter, ifs, 0⟩] scope pos) (some (.Name y py)) spos.line X.env = pure true) (hi : PI X tg iter wi) (ok : BlkOk X.N X.env.scope scope own)
    (hg : ∀ (s : Shared) (H : Hp) (C : Addr) (cl : List (Str × Addr)) (fp : List Addr), PG (X.blk s H scope (compEnvC scope cl C X.env) fp) tg g) (ht : ∀ (s : Shared) (H : Hp) (C : Addr) (cl : List (Str × Addr)) (fp : List Addr), PTs (X.blk s H scope (compEnvC scope cl C X.env) fp) ifs tt)
    (hk : ∀ (s : Shared) (H : Hp) (C : Addr) (cl : List (Str × Addr)) (fp : List Addr), PE (X.blk s H scope (compEnvC scope cl C X.env) fp) kx tk)
    (hv : ∀ (s : Shared) (H : Hp) (C : Addr) (cl : List (Str × Addr)) (fp : List Addr), PE (X.blk s H scope (compEnvC scope cl C X.env) fp) vx tv) (hs : ∀ x, foldedSetIterable iter X.env x = pure x := by intro _; rfl) :
    PS X (.Assign [.Name y py] (.DictComp kx vx [⟨tg, iter, ifs, 0⟩] scope pos) spos) (tAsg (tDc wi g tt tk tv (own.map (·.2))) (gName i)) := by
  refine ⟨fun pins s σ H D I h => ?_⟩
  rw [exec_Assign_Name_used _ _ _ _ hsw]
  refine wpAny_bind (wpAny_standAt (wpAny_bind ?_))
  show wpAny _ X.A (do let _ ← comprehension (.DictComp kx vx [⟨tg, iter, ifs, 0⟩] scope pos) scope X.env (firstIterPos [⟨tg, iter, ifs, 0⟩] pos) newDict false (eval iter X.env) (some (assign (.Name y py) X.env))) _ _ s
  have h : tDc wi g tt tk tv (own.map (·.2)) σ H (fun x H1 => gName i x σ H1 D.nx) := h
  refine wpAny_bind (thn (dc_core (Qf := fun _ s' => SP X pins D .next s') calm nd I hi ok hg ht hk hv hs h fun L C s' m H' I' q hn f => ?_) fun _ s' hq => wpAny_pure (wpAny_pure hq))
  show wpAny _ _ (assign (.Name y py) X.env (.ref L)) _ _ _
  refine wpAny_assign_Name (store_ok2 (v := V.ref L) I' nd hy (.inl hyl) rfl (fun s2 I2 ⟨a, sb, ha⟩ => ?_) (.inr hyl))
  obtain ⟨f0, f1, f2, f3, f4, f5⟩ := f
  have haC : C ≠ a := by
    rcases ha with z | z
    · rw [z]; exact f1
    · exact fun e => f4 y a z e.symm
  refine ⟨m, hn.sameBut sb haC, fun h3 sb3 => ?_⟩
  exact ⟨_, H', I2.turned (t' := s2.toks) (fun b o hb e => (sb3.2 b hb).trans e) f0 f1 f3 f4 f5, q⟩
end
/-! x.clear() of a list or a dict; tuple(xs) -/
def clrLeaf (K : PySem.W.Frag) (Q : VK) (x : V) (H1 : Hp) : Prop := ∃ a, x = .ref a ∧ ((∃ kvs, H1 a = some (.dK kvs) ∧ Q .non (upd H1 a (.dK []))) ∨ ∃ xs, H1 a = some (.lst xs) ∧ Q .non (upd H1 a (.lst [])))
def tClr (K : PySem.W.Frag) (to : TE) : TE := fun σ H Q => to σ H (clrLeaf K Q)
section
variable {X : Cx} {o : Expr} {to : TE} {apos cpos : Pos}
theorem pe_clearE (ho : PE X o to) (hbase : attributeBase o "clear" X.env (eval o X.env) = eval o X.env := by rfl) (hline : (apos.endLine == cpos.line) = true := by rfl) : PE X (.Call (.Attribute o "clear" apos) [] [] cpos) (tClr X.K to) := by
  refine ⟨fun pins s σ H Q I h => ?_⟩
  refine wpAny_Call_method0_late hbase hline (thn (ho.run pins s σ H _ I h) fun v s1 ⟨x, H1, I1, r1, a, ex, q⟩ => ?_)
  subst ex
  rcases q with ⟨kvs, e, q⟩ | ⟨xs, e, q⟩
  · obtain ⟨h1, h2⟩ := tyV_is (T := "dict") I1 r1 (show tyV X.K "dict" (.ref a) H1 from .inr (.inr (.inl ⟨rfl, .inl ⟨kvs, e⟩⟩)))
    exact ⟨"dict", "dict.clear", PySem.F.plainAttrs_dict, PySem.F.slot_dict_clear, PySem.F.type_dict_clear, h1, h2, Calls.callWith_builtin rfl (PySem.evalArgs_none (mtd_clear pins s1 σ H1 (.ref a) [] v [] Q I1 r1 .nil ⟨a, kvs, rfl, rfl, e, q⟩))⟩
  · obtain ⟨h1, h2⟩ := tyV_is (T := "list") I1 r1 (show tyV X.K "list" (.ref a) H1 from .inl ⟨rfl, xs, SqL.of e⟩)
    exact ⟨"list", "list.clear", PySem.F.plainAttrs_list, PySem.F.slot_list_clear, PySem.F.type_list_clear, h1, h2, Calls.callWith_builtin rfl (PySem.evalArgs_none (mt_clear pins s1 σ H1 (.ref a) [] v [] Q I1 r1 .nil ⟨a, xs, rfl, rfl, e, q⟩))⟩
end
section
variable {σ : L2.St} {H : Hp} {Q : VK} {K : PySem.W.Frag} {p : Addr} {xs : List V} {ta : TE}
theorem w_clr (h : ta σ H (clrLeaf K Q)) : tClr K ta σ H Q := h
theorem c_clrD {kvs : List (Key × V)} (h : H p = some (.dK kvs)) (q : Q .non (upd H p (.dK []))) : clrLeaf K Q (.ref p) H := ⟨p, rfl, .inl ⟨kvs, h, q⟩⟩
theorem c_clrL (h : H p = some (.lst xs)) (q : Q .non (upd H p (.lst []))) : clrLeaf K Q (.ref p) H := ⟨p, rfl, .inr ⟨xs, h, q⟩⟩
end
/-! x != y, both data (lists, tuples, ..) or both dicts of flat values that are alike -/
def rNeE (K : PySem.W.Frag) : R2 := fun x y H Q => rNeD K x y H Q ∨ rNeDA x y H Q
theorem op_neDE {X : Cx} (hu : X.A.units + 64 < cLine) : OpR X (compareOp .NotEq) (rNeE X.K) := by
  intro pins s σ H x y v u Q I rx ry h
  rcases h with h | h
  · exact op_neD hu pins s σ H x y v u Q I rx ry h
  · exact op_ne_dictA (Nat.lt_of_le_of_lt (Nat.le_add_right _ _) hu) pins s σ H x y v u Q I rx ry h
def rEqE (K : PySem.W.Frag) : R2 := fun x y H Q => rEqD K x y H Q ∨ rEqDA x y H Q
theorem op_eqDE {X : Cx} (hu : X.A.units + 64 < cLine) : OpR X (compareOp .Eq) (rEqE X.K) := by
  intro pins s σ H x y v u Q I rx ry h
  rcases h with h | h
  · exact op_eqD hu pins s σ H x y v u Q I rx ry h
  · exact op_eq_dictA (Nat.lt_of_le_of_lt (Nat.le_add_right _ _) hu) pins s σ H x y v u Q I rx ry h
theorem c_eqDA {H : Hp} {Q : VK} {a b : Addr} {ks : List (Key × V)} (h1 : H a = some (.dK ks)) (h2 : H b = some (.dK ks)) (hv : ∀ p ∈ ks, valV ks p.1 = some p.2 ∧ flatB p.2 = true) (q : Q (.bl true) H) : rEqDA (.ref a) (.ref b) H Q := ⟨a, b, ks, ks, rfl, rfl, h1, h2, rfl, hv, q⟩
theorem c_neDA {H : Hp} {Q : VK} {a b : Addr} {ks : List (Key × V)} (h1 : H a = some (.dK ks)) (h2 : H b = some (.dK ks)) (hv : ∀ p ∈ ks, valV ks p.1 = some p.2 ∧ flatB p.2 = true) (q : Q (.bl false) H) : rNeDA (.ref a) (.ref b) H Q := ⟨a, b, ks, ks, rfl, rfl, h1, h2, rfl, hv, q⟩
/-! len and list of a list, a tuple or a dict -/
def rLenE (K : PySem.W.Frag) : List V → Hp → VK → Prop := fun xs H Q => Eg.rLenQ K xs H Q ∨ ∃ a kvs, xs = [V.ref a] ∧ H a = some (.dK kvs) ∧ Q (.int (kvs.length : Nat)) H
theorem cr_lenE {X : Cx} : CallR X (.builtin "len") (rLenE X.K) := by
  intro pins s σ H xs us Q I r h
  rcases h with h | h
  · exact Eg.cr_len pins s σ H xs us Q I r h
  · exact call_lenD pins s σ H xs us Q I r h
def rListL (K : PySem.W.Frag) : List V → Hp → VK → Prop := fun xs H Q => ∃ p ys, xs = [V.ref p] ∧ (SqL K H p ys ∨ SqT K H p ys) ∧ ∀ l, H l = none → Q (.ref l) (upd H l (.lst ys))
def rListE (K : PySem.W.Frag) : List V → Hp → VK → Prop := fun xs H Q => rListL K xs H Q ∨ ∃ a kvs, xs = [V.ref a] ∧ H a = some (.dK kvs) ∧ ∀ p, H p = none → Q (.ref p) (upd H p (.lst (kvs.map fun kv => kV kv.1)))
theorem cr_listE {X : Cx} (hc : X.calm = true) : CallR X (.type "list") (rListE X.K) := by
  intro pins s σ H xs us Q I r h
  rcases h with h | ⟨a, kvs, e, h, q⟩
  · exact call_list_of pins s σ H xs us Q I r h
  · exact call_listD hc pins s σ H xs us Q I r ⟨a, kvs, e, .inl h, q⟩
section
variable {H : Hp} {Q : VK} {K : PySem.W.Frag} {p : Addr} {ys : List V} {kvs : List (Key × V)}
theorem c_lenL (h : H p = some (.lst ys)) (q : Q (.int (ys.length : Nat)) H) : rLenE K [V.ref p] H Q := .inl ⟨p, ys, rfl, .inl (SqL.of h), q⟩
theorem c_lenD (h : H p = some (.dK kvs)) (q : Q (.int (kvs.length : Nat)) H) : rLenE K [V.ref p] H Q := .inr ⟨p, kvs, rfl, h, q⟩
theorem c_listL (h : H p = some (.lst ys)) (q : ∀ l, H l = none → Q (.ref l) (upd H l (.lst ys))) : rListE K [V.ref p] H Q := .inl ⟨p, ys, rfl, .inl (SqL.of h), q⟩
theorem c_listT (h : H p = some (.tup ys)) (q : ∀ l, H l = none → Q (.ref l) (upd H l (.lst ys))) : rListE K [V.ref p] H Q := .inl ⟨p, ys, rfl, .inr (SqT.of h), q⟩
theorem c_listD (h : H p = some (.dK kvs)) (q : ∀ l, H l = none → Q (.ref l) (upd H l (.lst (kvs.map fun kv => kV kv.1)))) : rListE K [V.ref p] H Q := .inr ⟨p, kvs, rfl, h, q⟩
end
/-! displays of dicts, pair by pair -/
section
variable {σ : L2.St} {H : Hp} {tk tv : TE} {r : List (TE × TE)}
theorem w_pairC {R : List (V × V) → Hp → Prop} (h : tk σ H fun x H1 => tv σ H1 fun y H2 => tPairs r σ H2 fun ps H3 => R ((x, y) :: ps) H3) : tPairs ((tk, tv) :: r) σ H R := h
theorem w_pairN {R : List (V × V) → Hp → Prop} (h : R [] H) : tPairs [] σ H R := h
end
/-! repr of data, of None too -/
def rReprA (K : PySem.W.Frag) : List V → Hp → VK → Prop := fun xs H Q => Gd.rRepr K xs H Q ∨ (xs = [V.non] ∧ Q (.str "None") H)
theorem cr_reprA {X : Cx} (st : Gd.Still X.A) (hu : X.A.units + 70 < cLine) : CallR X (.builtin "repr") (rReprA X.K) := by
  intro pins s σ H xs us Q I r q
  rcases q with q | ⟨rfl, q⟩
  · exact Gd.cr_repr st hu pins s σ H xs us Q I r q
  · obtain ⟨u, rfl, ru⟩ := vals1 r
    cases ru
    exact PySem.P.repr_of_none ⟨.str "None", H, I.tok _, ⟨_, rfl⟩, q⟩
end Mk

local macro_rules | `(tactic| walk_at "blk") => `(tactic| first | exact rfl | dsimp only [L2.cxOf, L2.Cx.nox, L2.Cx.wish, L2.Cx.blk])
local macro_rules | `(tactic| walk_at "hp") => `(tactic| first
  | assumption
  | exact L2.upd_same
  | (refine Eg.upd_old ?_ (by assumption); walk_at "hp")
  | (refine Eg.upd_mut (by first | assumption | exact Ne.symm (by assumption)) ?_; walk_at "hp")
  | (refine Eg.frame_at (by assumption) (by first | assumption | exact Ne.symm (by assumption)) ?_; walk_at "hp")
  | ((refine (show L2.Same _ _ by assumption) _ _ ?_); walk_at "hp"))
local macro_rules | `(tactic| walk_at "sq") => `(tactic| first
  | assumption
  | exact L2.SqL.of (by walk_at "hp")
  | exact L2.SqT.of (by walk_at "hp"))
local macro_rules | `(tactic| walk_at "g0") => `(tactic| first
  | with_reducible refine Eg.w_seq ?_
  | (with_reducible show L2.Ends.nx _ _ _; with_reducible refine Eg.w_nx ?_)
  | with_reducible refine Eg.w_asg ?_
  | with_reducible refine Eg.w_gN ?_
  | with_reducible refine Eg.w_op ?_
  | with_reducible refine Eg.w_c ?_
  | ((with_reducible refine' Eg.w_var ?hv ?_); (case hv => exact rfl))
  | with_reducible refine Eg.w_cons ?_
  | with_reducible refine Eg.w_nil ?_
  | with_reducible refine Eg.w_rI0 ?_
  | ((with_reducible refine' Eg.w_rI ?hc ?_); (case hc => walk_at "cond"))
  | with_reducible refine Eg.w_rU ?_
  | with_reducible refine Eg.w_un ?_
  | ((with_reducible refine' Eg.w_ixL ?hs ?hv ?_); (case hs => walk_at "sq"); (case hv => walk_at "at"))
  | ((with_reducible refine' Eg.w_ixT ?hs ?hv ?_); (case hs => walk_at "sq"); (case hv => walk_at "at"))
  | with_reducible refine Eg.w_cb ?_
  | with_reducible refine Eg.w_call ?_
  | with_reducible refine Eg.w_ifS ?_
  | with_reducible refine Eg.w_test ?_
  | with_reducible refine Eg.w_B ?_
  | with_reducible refine Eg.w_bl ?_
  | with_reducible refine Eg.w_bl' ?_
  | with_reducible refine Eg.w_ret ?_
  | (with_reducible show L2.Ends.rt _ _ _; with_reducible refine Eg.w_rt ?_)
  | with_reducible refine Eg.w_next ?_
  | with_reducible refine Eg.w_drop ?_
  | with_reducible refine Eg.w_gSub ?_
  | ((with_reducible refine' Eg.w_setL ?hs ?hv ?_); (case hs => walk_at "hp"); (case hv => exact rfl))
  | with_reducible refine Eg.c_int ?_
  | with_reducible refine Eg.c_abs ?_
  | with_reducible refine Eg.c_min2 ?_
  | with_reducible refine Eg.c_max2 ?_
  | with_reducible refine Eg.c_isN ?_
  | with_reducible refine Eg.c_notN ?_
  | ((with_reducible refine' Eg.c_len ?hs ?_); (case hs => walk_at "sq"))
  | with_reducible refine Eg.w_dget ?_
  | with_reducible refine Eg.w_din ?_
  | with_reducible refine Eg.w_dnin ?_
  | with_reducible refine Eg.w_dput ?_
  | with_reducible refine Eg.w_dnewT ?_
  | with_reducible refine Eg.w_dnewK ?_
  | with_reducible refine Eg.w_iK ?_
  | ((with_reducible refine' Eg.w_eq ?hs ?_); (case hs => rfl))
  | ((with_reducible refine' Eg.w_ne ?hs ?_); (case hs => rfl))
  | with_reducible refine Es.w_ifSS ?_
  | with_reducible refine Eg.w_if ?_
  | with_reducible refine Eg.w_not ?_
  | with_reducible refine Eg.w_andV ?_
  | with_reducible refine Eg.w_orV ?_
  | with_reducible refine Eg.w_notV ?_
  | with_reducible refine Eg.w_chain ?_
  | with_reducible refine Eg.w_tup ?_
  | with_reducible refine Eg.w_lst ?_
  | ((with_reducible refine' Eg.w_sz ?hs ?_); (case hs => first | decide | (simp only [List.length_cons, List.length_nil]; omega)))
  | with_reducible refine Eg.w_bm ?_
  | with_reducible refine Eg.w_bm0 ?_
  | ((with_reducible refine' Eg.w_tyl ?hs ?_); (case hs => walk_at "sq"))
  | ((with_reducible refine' Eg.w_append ?hs ?hz ?_); (case hs => walk_at "hp"); (case hz => walk_at "size"))
  | with_reducible refine Eg.w_fld ?_
  | ((with_reducible refine' Eg.c_fld ?hs ?hc ?hn ?hl ?_); (case hs => walk_at "hp"); (case hc => assumption); (case hn => assumption); (case hl => walk_at "lk"))
  | with_reducible refine Eg.w_sl ?_
  | with_reducible refine Eg.w_sfld ?_
  | ((with_reducible refine' Eg.c_sfld ?hs ?hc ?hn ?hl ?_); (case hs => walk_at "hp"); (case hc => assumption); (case hn => assumption); (case hl => walk_at "few"))
  | with_reducible refine Eg.w_meth ?_
  | ((with_reducible refine' Eg.c_meth ?hs ?hl ?_); (case hs => walk_at "hp"); (case hl => walk_at "lk"))
  | with_reducible refine Eg.w_make ?_
  | with_reducible refine Eg.w_nopart ?_
  | with_reducible refine Eg.w_part ?_
  | with_reducible refine Eg.c_part ?_
  | ((with_reducible refine' Eg.w_gTup ?hs ?hn ?_); (case hs => walk_at "sq"); (case hn => exact rfl))
  | with_reducible refine Eg.w_gCons ?_
  | with_reducible refine Eg.w_gNil ?_
  | with_reducible refine Eg.w_for ?_
  | with_reducible refine Eg.w_iL ?_
  | with_reducible refine Eg.w_iR1 ?_
  | with_reducible refine Eg.w_iR2 ?_
  | ((with_reducible refine' Eg.c_iR2 ?hs ?_); (case hs => first | decide | (refine ⟨?_, ?_, ?_, ?_⟩ <;> omega)))
  | with_reducible refine Eg.w_iT ?_
  | ((with_reducible refine' Eg.c_iT ?hs ?_); (case hs => walk_at "sq"))
  | with_reducible refine Eg.w_iZ ?_
  | ((with_reducible refine' Eg.c_iZ ?hs ?hz ?_); (case hs => walk_at "sq"); (case hz => walk_at "sq"))
  | with_reducible refine Eg.w_lc ?_
  | with_reducible refine Eg.w_yes ?_
  | with_reducible refine Eg.w_par ?_
  | with_reducible refine Eg.c_par ?_
  | ((with_reducible show DTx.tDt _ _ _ _ _ _ _ _ _); unfold DTx.tDt)
  | ((with_reducible refine' Eg.w_wipe ?hs ?_); (case hs => exact rfl))
  | with_reducible refine L2.iteT ?_
  | with_reducible refine L2.iteF ?_
  | ((with_reducible show ∃ acc, _ = some (L2.HO.lst acc) ∧ acc.length < PySem.sizeLine ∧ _); (refine' ⟨_, ?hs, Nat.lt_of_lt_of_le (m := 100000) ?hz (by decide), ?_⟩); (case hs => walk_at "hp"); (case hz => walk_at "size"))
  | ((with_reducible refine' Eg.c_iR1 ?hs ?hz ?_); (case hs => first | decide | omega); (case hz => first | decide | omega))
  | ((with_reducible refine' Eg.c_iL ?hs ?_); (case hs => walk_at "sq"))
  | with_reducible refine Eg.w_disp1 ?_
  | ((with_reducible refine' Eg.c_dispI ?hs ?_); (case hs => walk_at "hp"))
  | with_reducible refine Eg.w_retN ?_
  | with_reducible refine Eg.w_brk ?_
  | with_reducible refine Eg.w_cont ?_
  | with_reducible refine Es.js_cons ?_
  | with_reducible refine Es.js_nil ?_
  | ((with_reducible refine' Es.js_leaf ?hz ?_); (case hz => walk_at "len"))
  | with_reducible refine Es.w_fmt ?_
  | ((with_reducible refine' Es.fm_str ?hz ?_); (case hz => walk_at "len"))
  | ((with_reducible refine' Es.fm_int ?hz ?_); (case hz => exact Fs.log_small (by first | assumption | omega)))
  | with_reducible refine Es.w_fmtD ?_
  | with_reducible refine Es.w_join ?_
  | ((with_reducible refine' Es.c_addS ?hz ?_); (case hz => walk_at "len"))
  | ((with_reducible refine' Es.c_strI ?hz ?_); (case hz => exact Fs.log_small (by first | assumption | omega)))
  | (with_reducible show L2.Ends.bk _ _ _; with_reducible refine Eg.w_bk ?_)
  | (with_reducible show L2.Ends.ct _ _ _; with_reducible refine Eg.w_ct ?_))
local macro_rules | `(tactic| walk_at "g2") => `(tactic| first
  | with_reducible refine Eg.w_seq ?_
  | (with_reducible show L2.Ends.nx _ _ _; with_reducible refine Eg.w_nx ?_)
  | with_reducible refine Eg.w_asg ?_
  | with_reducible refine Eg.w_gN ?_
  | with_reducible refine Eg.w_op ?_
  | with_reducible refine Eg.w_c ?_
  | ((with_reducible refine' Eg.w_var ?hv ?_); (case hv => exact rfl))
  | with_reducible refine Eg.w_cons ?_
  | with_reducible refine Eg.w_nil ?_
  | with_reducible refine Eg.w_rI0 ?_
  | ((with_reducible refine' Eg.w_rI ?hc ?_); (case hc => walk_at "cond"))
  | with_reducible refine Eg.w_rU ?_
  | with_reducible refine Eg.w_un ?_
  | ((with_reducible refine' Eg.w_ixL ?hs ?hv ?_); (case hs => walk_at "sq"); (case hv => walk_at "at"))
  | ((with_reducible refine' Eg.w_ixT ?hs ?hv ?_); (case hs => walk_at "sq"); (case hv => walk_at "at"))
  | with_reducible refine Eg.w_cb ?_
  | with_reducible refine Eg.w_call ?_
  | with_reducible refine Eg.w_ifS ?_
  | with_reducible refine Eg.w_test ?_
  | with_reducible refine Eg.w_B ?_
  | with_reducible refine Eg.w_bl ?_
  | with_reducible refine Eg.w_bl' ?_
  | with_reducible refine Eg.w_ret ?_
  | (with_reducible show L2.Ends.rt _ _ _; with_reducible refine Eg.w_rt ?_)
  | with_reducible refine Eg.w_next ?_
  | with_reducible refine Eg.w_drop ?_
  | with_reducible refine Eg.w_gSub ?_
  | ((with_reducible refine' Eg.w_setL ?hs ?hv ?_); (case hs => walk_at "hp"); (case hv => exact rfl))
  | with_reducible refine Eg.c_int ?_
  | with_reducible refine Eg.c_abs ?_
  | with_reducible refine Eg.c_min2 ?_
  | with_reducible refine Eg.c_max2 ?_
  | with_reducible refine Eg.c_isN ?_
  | with_reducible refine Eg.c_notN ?_
  | ((with_reducible refine' Eg.c_len ?hs ?_); (case hs => walk_at "sq"))
  | with_reducible refine Eg.w_dget ?_
  | with_reducible refine Eg.w_din ?_
  | with_reducible refine Eg.w_dnin ?_
  | with_reducible refine Eg.w_dput ?_
  | with_reducible refine Eg.w_dnewT ?_
  | with_reducible refine Eg.w_dnewK ?_
  | with_reducible refine Eg.w_iK ?_
  | ((with_reducible refine' Eg.w_eq ?hs ?_); (case hs => rfl))
  | ((with_reducible refine' Eg.w_ne ?hs ?_); (case hs => rfl))
  | with_reducible refine Es.w_ifSS ?_
  | with_reducible refine Eg.w_if ?_
  | with_reducible refine Eg.w_not ?_
  | with_reducible refine Eg.w_andV ?_
  | with_reducible refine Eg.w_orV ?_
  | with_reducible refine Eg.w_notV ?_
  | with_reducible refine Eg.w_chain ?_
  | with_reducible refine Eg.w_tup ?_
  | with_reducible refine Eg.w_lst ?_
  | ((with_reducible refine' Eg.w_sz ?hs ?_); (case hs => first | decide | (simp only [List.length_cons, List.length_nil]; omega)))
  | with_reducible refine Eg.w_bm ?_
  | with_reducible refine Eg.w_bm0 ?_
  | ((with_reducible refine' Eg.w_tyl ?hs ?_); (case hs => walk_at "sq"))
  | ((with_reducible refine' Eg.w_append ?hs ?hz ?_); (case hs => walk_at "hp"); (case hz => walk_at "size"))
  | with_reducible refine Eg.w_fld ?_
  | ((with_reducible refine' Eg.c_fld ?hs ?hc ?hn ?hl ?_); (case hs => walk_at "hp"); (case hc => assumption); (case hn => assumption); (case hl => walk_at "lk"))
  | with_reducible refine Eg.w_sl ?_
  | with_reducible refine Eg.w_sfld ?_
  | ((with_reducible refine' Eg.c_sfld ?hs ?hc ?hn ?hl ?_); (case hs => walk_at "hp"); (case hc => assumption); (case hn => assumption); (case hl => walk_at "few"))
  | with_reducible refine Eg.w_meth ?_
  | ((with_reducible refine' Eg.c_meth ?hs ?hl ?_); (case hs => walk_at "hp"); (case hl => walk_at "lk"))
  | with_reducible refine Eg.w_make ?_
  | with_reducible refine Eg.w_nopart ?_
  | with_reducible refine Eg.w_part ?_
  | with_reducible refine Eg.c_part ?_
  | ((with_reducible refine' Eg.w_gTup ?hs ?hn ?_); (case hs => walk_at "sq"); (case hn => exact rfl))
  | with_reducible refine Eg.w_gCons ?_
  | with_reducible refine Eg.w_gNil ?_
  | with_reducible refine Eg.w_for ?_
  | with_reducible refine Eg.w_iL ?_
  | with_reducible refine Eg.w_iR1 ?_
  | with_reducible refine Eg.w_iR2 ?_
  | ((with_reducible refine' Eg.c_iR2 ?hs ?_); (case hs => first | decide | (refine ⟨?_, ?_, ?_, ?_⟩ <;> omega)))
  | with_reducible refine Eg.w_iT ?_
  | ((with_reducible refine' Eg.c_iT ?hs ?_); (case hs => walk_at "sq"))
  | with_reducible refine Eg.w_iZ ?_
  | ((with_reducible refine' Eg.c_iZ ?hs ?hz ?_); (case hs => walk_at "sq"); (case hz => walk_at "sq"))
  | with_reducible refine Eg.w_yes ?_
  | with_reducible refine Eg.w_par ?_
  | with_reducible refine Eg.c_par ?_
  | ((with_reducible show DTx.tDt _ _ _ _ _ _ _ _ _); unfold DTx.tDt)
  | ((with_reducible refine' Eg.w_wipe ?hs ?_); (case hs => exact rfl))
  | with_reducible refine L2.iteT ?_
  | with_reducible refine L2.iteF ?_
  | ((with_reducible show ∃ acc, _ = some (L2.HO.lst acc) ∧ acc.length < PySem.sizeLine ∧ _); (refine' ⟨_, ?hs, Nat.lt_of_lt_of_le (m := 100000) ?hz (by decide), ?_⟩); (case hs => walk_at "hp"); (case hz => walk_at "size"))
  | ((with_reducible refine' Eg.c_iR1 ?hs ?hz ?_); (case hs => first | decide | omega); (case hz => first | decide | omega))
  | ((with_reducible refine' Eg.c_iL ?hs ?_); (case hs => walk_at "sq"))
  | with_reducible refine Eg.w_disp1 ?_
  | ((with_reducible refine' Eg.c_dispI ?hs ?_); (case hs => walk_at "hp"))
  | with_reducible refine Eg.w_retN ?_
  | with_reducible refine Eg.w_brk ?_
  | with_reducible refine Eg.w_cont ?_
  | with_reducible refine Es.js_cons ?_
  | with_reducible refine Es.js_nil ?_
  | ((with_reducible refine' Es.js_leaf ?hz ?_); (case hz => walk_at "len"))
  | with_reducible refine Es.w_fmt ?_
  | ((with_reducible refine' Es.fm_str ?hz ?_); (case hz => walk_at "len"))
  | ((with_reducible refine' Es.fm_int ?hz ?_); (case hz => exact Fs.log_small (by first | assumption | omega)))
  | with_reducible refine Es.w_fmtD ?_
  | with_reducible refine Es.w_join ?_
  | ((with_reducible refine' Es.c_addS ?hz ?_); (case hz => walk_at "len"))
  | ((with_reducible refine' Es.c_strI ?hz ?_); (case hz => exact Fs.log_small (by first | assumption | omega)))
  | (with_reducible show L2.Ends.bk _ _ _; with_reducible refine Eg.w_bk ?_)
  | (with_reducible show L2.Ends.ct _ _ _; with_reducible refine Eg.w_ct ?_))
local macro_rules | `(tactic| walk_at "at") => `(tactic| first | exact rfl | assumption)
local macro_rules | `(tactic| walk_at "size") => `(tactic| first | decide | omega | (simp only [List.length_append, List.length_map, List.length_cons, List.length_nil]; omega))
local macro_rules | `(tactic| walk_at "cond") => `(tactic| first | assumption | decide | exact ⟨by decide, by decide⟩ | exact .inl ⟨by omega, by omega⟩ | exact .inr ⟨by omega, by omega⟩ | exact ⟨by omega, by omega⟩ | exact ⟨by omega, by omega, by omega⟩ | (show (0 : Int) < _; omega))
local macro_rules | `(tactic| walk_at "g1") => `(tactic| first | walk_at "g0" | with_reducible refine Eg.w_and ?_ | with_reducible refine Eg.w_or ?_)
local macro_rules | `(tactic| walk_at "go") => `(tactic| repeat walk_at "g1")
local macro_rules | `(tactic| walk_at "gp") => `(tactic| repeat walk_at "g0")
local macro_rules | `(tactic| walk_at "lk") => `(tactic| first | assumption | exact rfl | decide +kernel)
local macro_rules | `(tactic| walk_at "few") => `(tactic| first | decide | exact (show 1 < 1000 by decide) | exact (show 2 < 1000 by decide) | exact (show 3 < 1000 by decide) | exact (show 4 < 1000 by decide) | exact (show 5 < 1000 by decide))
local macro_rules | `(tactic| walk_at "g3") => `(tactic| first | walk_at "g2" | with_reducible refine Eg.w_and ?_ | with_reducible refine Eg.w_or ?_)
local macro_rules | `(tactic| walk_at "gw") => `(tactic| repeat walk_at "g3")
local macro_rules | `(tactic| walk_at "len") => `(tactic| first | assumption | (simp only [PySem.strLen_append, PySem.sizeLine_eq, Fs.sp1, Fs.sp3, Fs.emp0, Fs.sg1, Fs.tI]; omega))

local macro_rules | `(tactic| walk_at "tx") => `(tactic| first
  | ((with_reducible refine' Tw.c_lenS ?hz ?_); (case hz => first | assumption | omega))
  | with_reducible refine Tw.c_ord ?_
  | with_reducible refine Tw.c_leS ?_
  | with_reducible refine Tw.c_leA ?_
  | with_reducible refine Tw.c_leZ ?_
  | with_reducible refine Tw.c_inDig ?_
  | with_reducible refine Tw.c_notInBr ?_
  | with_reducible refine Tw.c_inS ?_
  | with_reducible refine Tw.c_notInS ?_
  | ((with_reducible refine' Tw.c_rs ?hz ?_); (case hz => first | assumption | omega))
  | with_reducible refine Tw.w_iStr ?_
  | with_reducible refine Tw.w_tyS ?_
  | with_reducible refine Tw.c_iStr ?_
  | ((with_reducible refine' Tw.c_addSS ?hz ?_); (case hz => first | assumption | omega | (simp only [List.length_append, List.length_cons, List.length_nil]; omega)))
  | ((with_reducible refine' Tw.c_neE ?hs ?hn ?_); (case hs => walk_at "hp"); (case hn => walk_at "hp"))
  | ((with_reducible refine' Tw.c_eqE ?hs ?hn ?_); (case hs => walk_at "hp"); (case hn => walk_at "hp"))
  | with_reducible refine Tw.br_nt ?_
  | with_reducible refine Tw.br_nf ?_
  | ((with_reducible refine' Tw.isi_str ?hz ?_); (case hz => exact rfl)))
local macro_rules | `(tactic| walk_at "at") => `(tactic| first | exact Tx.atI_hd | exact Tx.atI_hd1 | exact Tx.atI_last (by assumption))
local macro_rules | `(tactic| walk_at "g0") => `(tactic| walk_at "tx")
local macro_rules | `(tactic| walk_at "g2") => `(tactic| walk_at "tx")

namespace LW
open PySem L2 SX Tx
def top (i : Nat) : Stmt := PySem.Challenge.pw_ownholes_k77_pages.main.body.getD i (.Pass ⟨0, 0, 0, 0⟩)
abbrev s_is_word : Stmt := top 14
abbrev N_is_word : List Str := ["thing", "sign"]
theorem sc_is_word : FnScope N_is_word ["thing"] (defScope s_is_word) := ⟨rfl, rfl, rfl, by decide +kernel, rfl, by decide +kernel, by decide +kernel⟩
abbrev s_is_count : Stmt := top 15
abbrev N_is_count : List Str := ["text", "sign"]
theorem sc_is_count : FnScope N_is_count ["text"] (defScope s_is_count) := ⟨rfl, rfl, rfl, by decide +kernel, rfl, by decide +kernel, by decide +kernel⟩
abbrev s_is_label : Stmt := top 16
abbrev N_is_label : List Str := ["thing", "word"]
theorem sc_is_label : FnScope N_is_label ["thing"] (defScope s_is_label) := ⟨rfl, rfl, rfl, by decide +kernel, rfl, by decide +kernel, by decide +kernel⟩
abbrev s_is_value : Stmt := top 17
abbrev N_is_value : List Str := ["thing"]
theorem sc_is_value : FnScope N_is_value ["thing"] (defScope s_is_value) := ⟨rfl, rfl, rfl, by decide +kernel, rfl, by decide +kernel, by decide +kernel⟩
abbrev s_is_literal : Stmt := top 19
abbrev N_is_literal : List Str := ["sign"]
theorem sc_is_literal : FnScope N_is_literal ["sign"] (defScope s_is_literal) := ⟨rfl, rfl, rfl, by decide +kernel, rfl, by decide +kernel, by decide +kernel⟩
abbrev s_is_key : Stmt := top 20
abbrev N_is_key : List Str := ["key", "kind"]
theorem sc_is_key : FnScope N_is_key ["key", "kind"] (defScope s_is_key) := ⟨rfl, rfl, rfl, by decide +kernel, rfl, by decide +kernel, by decide +kernel⟩
abbrev s_read_parts : Stmt := top 21
abbrev N_read_parts : List Str := ["text", "kind", "parts", "at", "begin", "end", "key"]
theorem sc_read_parts : FnScope N_read_parts ["text", "kind"] (defScope s_read_parts) := ⟨rfl, rfl, rfl, by decide +kernel, rfl, by decide +kernel, by decide +kernel⟩
abbrev s_merged : Stmt := top 22
abbrev N_merged : List Str := ["parts", "found", "part"]
theorem sc_merged : FnScope N_merged ["parts"] (defScope s_merged) := ⟨rfl, rfl, rfl, by decide +kernel, rfl, by decide +kernel, by decide +kernel⟩
abbrev s_check_manner : Stmt := top 25
abbrev N_check_manner : List Str := ["manner"]
theorem sc_check_manner : FnScope N_check_manner ["manner"] (defScope s_check_manner) := ⟨rfl, rfl, rfl, by decide +kernel, rfl, by decide +kernel, by decide +kernel⟩
abbrev s_keyed : Stmt := top 26
abbrev N_keyed : List Str := ["manner", "parts", "found", "many", "part"]
theorem sc_keyed : FnScope N_keyed ["manner", "parts"] (defScope s_keyed) := ⟨rfl, rfl, rfl, by decide +kernel, rfl, by decide +kernel, by decide +kernel⟩
abbrev s_table_of : Stmt := top 27
abbrev N_table_of : List Str := ["manner", "row", "at", "value", "first", "label"]
theorem sc_table_of : FnScope N_table_of ["manner", "row"] (defScope s_table_of) := ⟨rfl, rfl, rfl, by decide +kernel, rfl, by decide +kernel, by decide +kernel⟩
abbrev s_keys_of : Stmt := top 28
abbrev N_keys_of : List Str := ["cells", "found", "part"]
theorem sc_keys_of : FnScope N_keys_of ["cells"] (defScope s_keys_of) := ⟨rfl, rfl, rfl, by decide +kernel, rfl, by decide +kernel, by decide +kernel⟩
abbrev s_Query_init : Stmt := inClass (top 24) 1
abbrev N_Query_init : List Str := ["self", "manner", "text", "row", "held", "at", "key", "part"]
theorem sc_Query_init : FnScope N_Query_init ["self", "manner", "text", "row"] (defScope s_Query_init) := ⟨rfl, rfl, rfl, by decide +kernel, rfl, by decide +kernel, by decide +kernel⟩
abbrev s_page : Stmt := top 32
abbrev N_page : List Str := ["query", "found", "part", "key", "hole", "shown", "at"]
theorem sc_page : FnScope N_page ["query"] (defScope s_page) := ⟨rfl, rfl, rfl, by decide +kernel, rfl, by decide +kernel, by decide +kernel⟩
abbrev s_l_bag : Stmt := top 34
abbrev N_l_bag : List Str := ["_law_script", "_law_at", "_law_cell", "_law_mixed", "_law_k", "_law_each"]
theorem sc_l_bag : FnScope N_l_bag ["_law_script", "_law_at"] (defScope s_l_bag) := ⟨rfl, rfl, rfl, by decide +kernel, rfl, by decide +kernel, by decide +kernel⟩
abbrev s_l_take : Stmt := top 35
abbrev N_l_take : List Str := ["_law_bag_here", "_law_many", "_law_digit"]
theorem sc_l_take : FnScope N_l_take ["_law_bag_here", "_law_many"] (defScope s_l_take) := ⟨rfl, rfl, rfl, by decide +kernel, rfl, by decide +kernel, by decide +kernel⟩
abbrev s_l_of : Stmt := top 36
abbrev N_l_of : List Str := ["_law_bag_here", "_law_some"]
theorem sc_l_of : FnScope N_l_of ["_law_bag_here", "_law_some"] (defScope s_l_of) := ⟨rfl, rfl, rfl, by decide +kernel, rfl, by decide +kernel, by decide +kernel⟩
abbrev s_l_wide : Stmt := top 37
abbrev N_l_wide : List Str := ["_law_bag_here", "_law_many", "_law_found", "_law_k"]
theorem sc_l_wide : FnScope N_l_wide ["_law_bag_here", "_law_many"] (defScope s_l_wide) := ⟨rfl, rfl, rfl, by decide +kernel, rfl, by decide +kernel, by decide +kernel⟩
abbrev s_l_value : Stmt := top 38
abbrev N_l_value : List Str := ["_law_bag_here", "_law_way", "_law_found", "_law_k"]
theorem sc_l_value : FnScope N_l_value ["_law_bag_here"] (defScope s_l_value) := ⟨rfl, rfl, rfl, by decide +kernel, rfl, by decide +kernel, by decide +kernel⟩
abbrev s_l_labels : Stmt := top 39
abbrev N_l_labels : List Str := ["_law_bag_here", "_law_many", "_law_left_here", "_law_found", "_law_stem", "_law_is_ahead", "_law_k", "_law_sign", "_law_term", "_law_number"]
theorem sc_l_labels : FnScope N_l_labels ["_law_bag_here", "_law_many"] (defScope s_l_labels) := ⟨rfl, rfl, rfl, by decide +kernel, rfl, by decide +kernel, by decide +kernel⟩
abbrev s_l_left : Stmt := top 40
abbrev N_l_left : List Str := ["_law_text", "_law_width"]
theorem sc_l_left : FnScope N_l_left ["_law_text", "_law_width"] (defScope s_l_left) := ⟨rfl, rfl, rfl, by decide +kernel, rfl, by decide +kernel, by decide +kernel⟩
abbrev s_l_right : Stmt := top 41
abbrev N_l_right : List Str := ["_law_text", "_law_width"]
theorem sc_l_right : FnScope N_l_right ["_law_text", "_law_width"] (defScope s_l_right) := ⟨rfl, rfl, rfl, by decide +kernel, rfl, by decide +kernel, by decide +kernel⟩
abbrev s_law : Stmt := top 42
abbrev N_law : List Str := ["_law_script", "_law_at", "_law_bag_here", "_law_k", "_law_values", "_law_labels_here", "_law_manner", "_law_text", "_law_row", "_law_due", "_law_table", "_law_pick", "_law_hole", "_law_shown", "_law_query", "_law_turn", "_law_told"]
theorem sc_law : FnScope N_law ["_law_script"] (defScope s_law) := ⟨rfl, rfl, rfl, by decide +kernel, rfl, by decide +kernel, by decide +kernel⟩
structure Ad where
  a_is_word : Addr
  d_is_word : FuncData
  a_is_count : Addr
  d_is_count : FuncData
  a_is_label : Addr
  d_is_label : FuncData
  a_is_value : Addr
  d_is_value : FuncData
  a_is_literal : Addr
  d_is_literal : FuncData
  a_is_key : Addr
  d_is_key : FuncData
  a_read_parts : Addr
  d_read_parts : FuncData
  a_merged : Addr
  d_merged : FuncData
  a_check_manner : Addr
  d_check_manner : FuncData
  a_keyed : Addr
  d_keyed : FuncData
  a_table_of : Addr
  d_table_of : FuncData
  a_keys_of : Addr
  d_keys_of : FuncData
  a_Query_init : Addr
  d_Query_init : FuncData
  a_page : Addr
  d_page : FuncData
  a_l_bag : Addr
  d_l_bag : FuncData
  a_l_take : Addr
  d_l_take : FuncData
  a_l_of : Addr
  d_l_of : FuncData
  a_l_wide : Addr
  d_l_wide : FuncData
  a_l_value : Addr
  d_l_value : FuncData
  a_l_labels : Addr
  d_l_labels : FuncData
  a_l_left : Addr
  d_l_left : FuncData
  a_l_right : Addr
  d_l_right : FuncData
  a_law : Addr
  d_law : FuncData
  c_Query : Addr
structure Txt (K : PySem.W.Frag) (mg : Str → Option Value) (Z : Ad) : Prop where
  F_is_word : Fun K "is_word" "is_word" s_is_word Z.a_is_word Z.d_is_word
  b_is_word : Binds K Z.d_is_word ["thing"] []
  g_is_word : mg "is_word" = some (.ref Z.a_is_word)
  F_is_count : Fun K "is_count" "is_count" s_is_count Z.a_is_count Z.d_is_count
  b_is_count : Binds K Z.d_is_count ["text"] []
  g_is_count : mg "is_count" = some (.ref Z.a_is_count)
  F_is_label : Fun K "is_label" "is_label" s_is_label Z.a_is_label Z.d_is_label
  b_is_label : Binds K Z.d_is_label ["thing"] []
  g_is_label : mg "is_label" = some (.ref Z.a_is_label)
  F_is_value : Fun K "is_value" "is_value" s_is_value Z.a_is_value Z.d_is_value
  b_is_value : Binds K Z.d_is_value ["thing"] []
  g_is_value : mg "is_value" = some (.ref Z.a_is_value)
  F_is_literal : Fun K "is_literal" "is_literal" s_is_literal Z.a_is_literal Z.d_is_literal
  b_is_literal : Binds K Z.d_is_literal ["sign"] []
  g_is_literal : mg "is_literal" = some (.ref Z.a_is_literal)
  F_is_key : Fun K "is_key" "is_key" s_is_key Z.a_is_key Z.d_is_key
  b_is_key : Binds K Z.d_is_key ["key", "kind"] []
  g_is_key : mg "is_key" = some (.ref Z.a_is_key)
  F_read_parts : Fun K "read_parts" "read_parts" s_read_parts Z.a_read_parts Z.d_read_parts
  b_read_parts : Binds K Z.d_read_parts ["text", "kind"] []
  g_read_parts : mg "read_parts" = some (.ref Z.a_read_parts)
  F_merged : Fun K "merged" "merged" s_merged Z.a_merged Z.d_merged
  b_merged : Binds K Z.d_merged ["parts"] []
  g_merged : mg "merged" = some (.ref Z.a_merged)
  F_check_manner : Fun K "check_manner" "check_manner" s_check_manner Z.a_check_manner Z.d_check_manner
  b_check_manner : Binds K Z.d_check_manner ["manner"] []
  g_check_manner : mg "check_manner" = some (.ref Z.a_check_manner)
  F_keyed : Fun K "keyed" "keyed" s_keyed Z.a_keyed Z.d_keyed
  b_keyed : Binds K Z.d_keyed ["manner", "parts"] []
  g_keyed : mg "keyed" = some (.ref Z.a_keyed)
  F_table_of : Fun K "table_of" "table_of" s_table_of Z.a_table_of Z.d_table_of
  b_table_of : Binds K Z.d_table_of ["manner", "row"] []
  g_table_of : mg "table_of" = some (.ref Z.a_table_of)
  F_keys_of : Fun K "keys_of" "keys_of" s_keys_of Z.a_keys_of Z.d_keys_of
  b_keys_of : Binds K Z.d_keys_of ["cells"] []
  g_keys_of : mg "keys_of" = some (.ref Z.a_keys_of)
  F_Query_init : Fun K "__init__" "Query.__init__" s_Query_init Z.a_Query_init Z.d_Query_init
  b_Query_init : Binds K Z.d_Query_init ["self", "manner", "text", "row"] []
  m_Query_init : Meth K Z.c_Query "__init__" Z.a_Query_init
  F_page : Fun K "page" "page" s_page Z.a_page Z.d_page
  b_page : Binds K Z.d_page ["query"] []
  g_page : mg "page" = some (.ref Z.a_page)
  F_l_bag : Fun K "_law_bag" "_law_bag" s_l_bag Z.a_l_bag Z.d_l_bag
  b_l_bag : Binds K Z.d_l_bag ["_law_script", "_law_at"] []
  g_l_bag : mg "_law_bag" = some (.ref Z.a_l_bag)
  F_l_take : Fun K "_law_take" "_law_take" s_l_take Z.a_l_take Z.d_l_take
  b_l_take : Binds K Z.d_l_take ["_law_bag_here", "_law_many"] []
  g_l_take : mg "_law_take" = some (.ref Z.a_l_take)
  F_l_of : Fun K "_law_of" "_law_of" s_l_of Z.a_l_of Z.d_l_of
  b_l_of : Binds K Z.d_l_of ["_law_bag_here", "_law_some"] []
  g_l_of : mg "_law_of" = some (.ref Z.a_l_of)
  F_l_wide : Fun K "_law_wide" "_law_wide" s_l_wide Z.a_l_wide Z.d_l_wide
  b_l_wide : Binds K Z.d_l_wide ["_law_bag_here", "_law_many"] []
  g_l_wide : mg "_law_wide" = some (.ref Z.a_l_wide)
  F_l_value : Fun K "_law_value" "_law_value" s_l_value Z.a_l_value Z.d_l_value
  b_l_value : Binds K Z.d_l_value ["_law_bag_here"] []
  g_l_value : mg "_law_value" = some (.ref Z.a_l_value)
  F_l_labels : Fun K "_law_labels" "_law_labels" s_l_labels Z.a_l_labels Z.d_l_labels
  b_l_labels : Binds K Z.d_l_labels ["_law_bag_here", "_law_many"] []
  g_l_labels : mg "_law_labels" = some (.ref Z.a_l_labels)
  F_l_left : Fun K "_law_left" "_law_left" s_l_left Z.a_l_left Z.d_l_left
  b_l_left : Binds K Z.d_l_left ["_law_text", "_law_width"] []
  g_l_left : mg "_law_left" = some (.ref Z.a_l_left)
  F_l_right : Fun K "_law_right" "_law_right" s_l_right Z.a_l_right Z.d_l_right
  b_l_right : Binds K Z.d_l_right ["_law_text", "_law_width"] []
  g_l_right : mg "_law_right" = some (.ref Z.a_l_right)
  F_law : Fun K "law" "law" s_law Z.a_law Z.d_law
  b_law : Binds K Z.d_law ["_law_script"] []
  g_law : mg "law" = some (.ref Z.a_law)
  cl_Query : Cls K Z.c_Query
  g_Query : mg "Query" = some (.ref Z.c_Query)
  mk_Query : Mk K Z.c_Query Z.a_Query_init
  n_Query_cells : NoAttr K Z.c_Query "cells"
  n_Query_assigned : NoAttr K Z.c_Query "assigned"
  n_Query_manner : NoAttr K Z.c_Query "manner"
  n_Query_text : NoAttr K Z.c_Query "text"
  u_abs : mg "abs" = none
  u_all : mg "all" = none
  u_bool : mg "bool" = none
  u_dict : mg "dict" = none
  u_enumerate : mg "enumerate" = none
  u_int : mg "int" = none
  u_isinstance : mg "isinstance" = none
  u_len : mg "len" = none
  u_list : mg "list" = none
  u_max : mg "max" = none
  u_min : mg "min" = none
  u_ord : mg "ord" = none
  u_range : mg "range" = none
  u_repr : mg "repr" = none
  u_str : mg "str" = none
  u_tuple : mg "tuple" = none
  g_DIGITS : ∃ u, mg "DIGITS" = some u ∧ RelV (.str "0123456789") u
  g_MOST_DIGITS : ∃ u, mg "MOST_DIGITS" = some u ∧ RelV (.int 6) u
  g_MOST_VALUE : ∃ u, mg "MOST_VALUE" = some u ∧ RelV (.int 10000000000000000000000000000000000000000) u
  g_MOST_WORD : ∃ u, mg "MOST_WORD" = some u ∧ RelV (.int 8) u

/-! words, counts, labels, values, signs -/
def sp_is_word : Sp := fun vs H Q _ => ∃ l : List Nat, vs = [.str (S l)] ∧ l.length < 100000 ∧ ∀ H', Same H H' → Q (.bl (wordB l)) H'
def sp_is_count : Sp := fun vs H Q _ => ∃ l : List Nat, vs = [.str (S l)] ∧ l.length < 100000 ∧ ∀ H', Same H H' → Q (.bl (countB l)) H'
def sp_is_label : Sp := fun vs H Q _ => ∃ l : List Nat, vs = [.str (S l)] ∧ l.length < 100000 ∧ ∀ H', Same H H' → Q (.bl (labelB l)) H'
def most : Int := 10000000000000000000000000000000000000000
/-- a value of a hole -/
inductive IsVal : V → Prop
  | int (i : Int) : (if i < 0 then -i else i) < most → IsVal (.int i)
  | str (l : List Nat) : IsVal (.str (S l))
def sp_is_value : Sp := fun vs H Q _ => ∃ v, vs = [v] ∧ IsVal v ∧ Q (.bl true) H
def sp_is_literal : Sp := fun vs H Q _ => ∃ c : Nat, vs = [.str (S [c])] ∧ Q (.bl (litB c)) H
/-- may stand in a text of this kind -/
def keyB (kind : Str) (k : List Nat) : Bool := if decide (kind = "order") = true then decide (k = []) else if decide (kind = "number") = true then !decide (k = [48]) && countB k else labelB k || (decide (kind = "template") && decide (k = []))
def sp_is_key : Sp := fun vs H Q _ => ∃ (k : List Nat) (kind : Str), vs = [.str (S k), .str kind] ∧ k.length < 100000 ∧ ∀ H', Same H H' → Q (.bl (keyB kind k)) H'
theorem str_emp (l : List Nat) : decide (V.str (S l) = V.str "") = decide (l = []) := by
  rw [show ("" : Str) = S [] by decide +kernel, str_eqS]
theorem str_one (l : List Nat) : decide (V.str (S l) = V.str "0") = decide (l = [48]) := by
  rw [show ("0" : Str) = S [48] by decide +kernel, str_eqS]
section
variable {P : Program} {w : World} {K : PySem.W.Frag} {mg : Str → Option Value} {base : Heap} {Z : Ad}
theorem all_id {l : List Nat} {f : Nat → Bool} : (l.map f).all id = l.all f := by
  rw [List.all_map]
  rfl
theorem ok_is_word (T : Txt K mg Z) : FnOk P w K mg base CX0 1 Z.a_is_word Z.d_is_word ["thing"] sp_is_word := by
  refine T.F_is_word.ok sc_is_word (fun vs H Q E h => ?_) (fun cdv A outer s H vs Q E hr h => ?_)
  · obtain ⟨l, rfl, _⟩ := h
    rfl
  · obtain ⟨l, rfl, hl, q⟩ := h
    have nd := sc_is_word.nd
    refine ⟨_, (pss_cons (ps_if (PW.pt (pw_or (pt_not (pt_val (pe_callB call_isi (by rfl) T.u_isinstance (by decide +kernel) (pa_cons (pv 0) (pa_cons (pe_bltn (v := .ty "str") (u := .type "str") (by rfl) T.u_str (by decide +kernel) rfl) pa_nil))))) (pw_or1 (pt_not (pt_chain op_le op_le pe_int (pe_callB Tw.cr_lenS (by rfl) T.u_len (by decide +kernel) (pa_cons (pv 0) pa_nil)) (Tw.pe_globS (by rfl) T.g_MOST_WORD))))))
  (pss_one (ps_ret pe_bl))
  pss_nil)
  (pss_one (ps_ret (pe_callB (cr_all rfl) (by rfl) T.u_all (by decide +kernel) (pa_cons (pe_lc (own := [("sign", 1)]) rfl nd (pi_str (pv 0)) (blkOk_by (N := N_is_word) (sc := defScope s_is_word) (by decide +kernel)) (fun _ _ _ _ _ => (pg_name (i := 1) nd rfl (Or.inl rfl))) (fun _ _ _ _ _ => pts_nil) (fun _ _ _ _ _ => (Eg.peE (pe_chain Tw.op_leS Tw.op_leS pe_str (pv 1) pe_str) (by walk_at "blk")))) pa_nil))))), ?_⟩
    refine Eg.w_sig (σ := [some (.str (S l)), none]) rfl ?_
    walk_at "go"
    have wl : wordB l = (decide ((1 : Int) ≤ (l.length : Nat)) && decide (((l.length : Nat) : Int) ≤ 8) && l.all low) := by
      unfold wordB
      congr 2
      · exact decide_eq_decide.mpr (by omega)
      · exact decide_eq_decide.mpr (by omega)
    rw [wl] at q
    by_cases h1 : (1 : Int) ≤ (l.length : Nat)
    · rw [decide_eq_true h1] at q ⊢
      walk_at "go"
      by_cases h2 : ((l.length : Nat) : Int) ≤ 8
      · rw [decide_eq_true h2] at q ⊢
        walk_at "gw"
        refine Tw.map_str (F := fun c => .bl (low c)) hl (fun R h => Eg.w_var rfl h) (fun H' z R s1 hz h => ?_) (fun D H1 hD s1 h1 => ?_)
        · unfold low at h
          walk_at "go"
          refine Eg.br (fun e => ?_) (fun e => ?_)
          · rw [e, Bool.true_and] at h
            walk_at "go"
            exact h
          · rw [e] at h
            walk_at "go"
            exact h
        · walk_at "go"
          refine Tw.all_map h1 ?_
          walk_at "go"
          exact q H1 s1
      · rw [decide_eq_false h2] at q ⊢
        walk_at "go"
        exact q H (Same.refl H)
    · rw [decide_eq_false h1] at q ⊢
      walk_at "go"
      exact q H (Same.refl H)
theorem ok_is_count (T : Txt K mg Z) : FnOk P w K mg base CX0 1 Z.a_is_count Z.d_is_count ["text"] sp_is_count := by
  refine T.F_is_count.ok sc_is_count (fun vs H Q E h => ?_) (fun cdv A outer s H vs Q E hr h => ?_)
  · obtain ⟨l, rfl, _⟩ := h
    rfl
  · obtain ⟨l, rfl, hl, q⟩ := h
    have nd := sc_is_count.nd
    refine ⟨_, (pss_cons (ps_if (PW.pt (pw_or (pt_not (pt_chain op_le op_le pe_int (pe_callB Tw.cr_lenS (by rfl) T.u_len (by decide +kernel) (pa_cons (pv 0) pa_nil)) (Tw.pe_globS (by rfl) T.g_MOST_DIGITS))) (pw_or1 (PW.pt (pw_and (pt_cmpR op_eq (pe_ix ix_str (pv 0) pe_int (fun _ _ => rfl)) pe_str (nomark _)) (pw_and1 (pt_cmpR op_ne (pv 0) pe_str (nomark _))))))))
  (pss_one (ps_ret pe_bl))
  pss_nil)
  (pss_one (ps_ret (pe_callB (cr_all rfl) (by rfl) T.u_all (by decide +kernel) (pa_cons (pe_lc (own := [("sign", 1)]) rfl nd (pi_str (pv 0)) (blkOk_by (N := N_is_count) (sc := defScope s_is_count) (by decide +kernel)) (fun _ _ _ _ _ => (pg_name (i := 1) nd rfl (Or.inl rfl))) (fun _ _ _ _ _ => pts_nil) (fun _ _ _ _ _ => (Eg.peE (pe_cmpR Tw.op_inS (pv 1) (Tw.pe_globS (by rfl) T.g_DIGITS) (by rfl)) (by walk_at "blk")))) pa_nil))))), ?_⟩
    refine Eg.w_sig (σ := [some (.str (S l)), none]) rfl ?_
    walk_at "go"
    have wl : countB l = (decide ((1 : Int) ≤ (l.length : Nat)) && decide (((l.length : Nat) : Int) ≤ 6) && !(decide (l.head? = some 48) && decide (l ≠ [48])) && l.all dig) := by
      unfold countB
      congr 3
      · exact decide_eq_decide.mpr (by omega)
      · exact decide_eq_decide.mpr (by omega)
    rw [wl] at q
    by_cases h1 : (1 : Int) ≤ (l.length : Nat)
    · rw [decide_eq_true h1] at q ⊢
      walk_at "go"
      by_cases h2 : ((l.length : Nat) : Int) ≤ 6
      · rw [decide_eq_true h2] at q ⊢
        walk_at "go"
        cases l with
        | nil => exact absurd h1 (by decide)
        | cons c r =>
          refine Tw.c_ixS hl (n := 0) rfl rfl ?_
          walk_at "go"
          rw [str_one]
          have hc : decide ((c :: r).head? = some 48) = decide ([c] = [48]) := by
            refine decide_eq_decide.mpr ?_
            simp
          rw [hc] at q
          refine Eg.br (fun e => ?_) (fun e => ?_)
          · rw [e] at q
            walk_at "go"
            rw [str_one]
            by_cases e2 : c :: r = [48]
            · rw [decide_eq_false (show ¬ c :: r ≠ [48] from fun z => z e2)] at q
              rw [decide_eq_true e2]
              walk_at "gw"
              refine Tw.map_str (F := fun c => .bl (dig c)) hl (fun R h => Eg.w_var rfl h) (fun H' z R s1 hz h => ?_) (fun D H1 hD s1 h1 => ?_)
              · walk_at "go"
                exact h
              · walk_at "go"
                refine Tw.all_map h1 ?_
                walk_at "go"
                exact q H1 s1
            · rw [decide_eq_true (show c :: r ≠ [48] from e2)] at q
              rw [decide_eq_false e2]
              walk_at "go"
              exact q H (Same.refl H)
          · rw [e] at q
            walk_at "gw"
            refine Tw.map_str (F := fun c => .bl (dig c)) hl (fun R h => Eg.w_var rfl h) (fun H' z R s1 hz h => ?_) (fun D H1 hD s1 h1 => ?_)
            · walk_at "go"
              exact h
            · walk_at "go"
              refine Tw.all_map h1 ?_
              walk_at "go"
              exact q H1 s1
      · rw [decide_eq_false h2] at q ⊢
        walk_at "go"
        exact q H (Same.refl H)
    · rw [decide_eq_false h1] at q ⊢
      walk_at "go"
      exact q H (Same.refl H)
theorem ok_is_label (T : Txt K mg Z) : FnOk P w K mg base CX0 2 Z.a_is_label Z.d_is_label ["thing"] sp_is_label := by
  refine T.F_is_label.ok sc_is_label (fun vs H Q E h => ?_) (fun cdv A outer s H vs Q E hr h => ?_)
  · obtain ⟨l, rfl, _⟩ := h
    rfl
  · obtain ⟨l, rfl, hl, q⟩ := h
    have nd := sc_is_label.nd
    refine ⟨_, (pss_cons (ps_if (pt_not (pt_val (pe_callB call_isi (by rfl) T.u_isinstance (by decide +kernel) (pa_cons (pv 0) (pa_cons (pe_bltn (v := .ty "str") (u := .type "str") (by rfl) T.u_str (by decide +kernel) rfl) pa_nil)))))
  (pss_one (ps_ret pe_bl))
  pss_nil)
  (pss_cons (ps_set (i := 1) nd rfl (Or.inl rfl) (pe_bm PySem.F.plainAttrs_str PySem.F.slot_str_rstrip PySem.F.type_str_rstrip Tw.mt_rs (pv 0) (pa_cons (Tw.pe_globS (by rfl) T.g_DIGITS) pa_nil)))
  (pss_one (ps_ret (pe_and (pe_call (ok_is_word T) (hr.mono (by decide)) (by rfl) T.g_is_word T.F_is_word.kp T.b_is_word .nil pass0 (pa_cons (pv 1) pa_nil)) (pe_one (pe_or (pe_cmpR op_eq (pv 1) (pv 0) (nomark _)) (pe_one (pe_call (ok_is_count T) (hr.mono (by decide)) (by rfl) T.g_is_count T.F_is_count.kp T.b_is_count .nil pass0 (pa_cons (pe_slice sl_str (pv 0) (po_some (pe_callB Tw.cr_lenS (by rfl) T.u_len (by decide +kernel) (pa_cons (pv 1) pa_nil))) po_none) pa_nil)))))))))), ?_⟩
    refine Eg.w_sig (σ := [some (.str (S l)), none]) rfl ?_
    obtain ⟨d, hd, _⟩ := stem_app l
    have hsl : (stem l).length < 100000 := by
      have := congrArg List.length hd
      rw [List.length_append] at this
      omega
    walk_at "go"
    refine ⟨_, rfl, hsl, fun H1 s1 => ?_⟩
    unfold labelB at q
    walk_at "go"
    refine Eg.br (fun e => ?_) (fun e => ?_)
    · rw [e, Bool.true_and] at q
      walk_at "go"
      rw [str_eqS]
      refine Eg.br (fun e => ?_) (fun e => ?_)
      · rw [e] at q
        walk_at "go"
        exact q H1 s1
      · rw [e] at q
        walk_at "go"
        refine Tw.c_slS (m := l.drop (stem l).length) hl (by rw [slice_from (by omega)]; rfl) ?_
        walk_at "go"
        refine ⟨_, rfl, by rw [List.length_drop]; omega, fun H2 s2 => ?_⟩
        walk_at "go"
        exact q H2 (s1.trans s2)
    · rw [e] at q
      walk_at "go"
      exact q H1 s1
theorem ok_is_value (T : Txt K mg Z) : FnOk P w K mg base CX0 1 Z.a_is_value Z.d_is_value ["thing"] sp_is_value := by
  refine T.F_is_value.ok sc_is_value (fun vs H Q E h => ?_) (fun cdv A outer s H vs Q E hr h => ?_)
  · obtain ⟨v, rfl, _⟩ := h
    rfl
  · obtain ⟨v, rfl, hv, q⟩ := h
    have nd := sc_is_value.nd
    refine ⟨_, (pss_cons (ps_if (pt_val (pe_callB call_isi (by rfl) T.u_isinstance (by decide +kernel) (pa_cons (pv 0) (pa_cons (pe_bltn (v := .ty "str") (u := .type "str") (by rfl) T.u_str (by decide +kernel) rfl) pa_nil))))
  (pss_one (ps_ret pe_bl))
  pss_nil)
  (pss_one (ps_ret (pe_and (pe_callB call_isi (by rfl) T.u_isinstance (by decide +kernel) (pa_cons (pv 0) (pa_cons (pe_bltn (v := .ty "int") (u := .type "int") (by rfl) T.u_int (by decide +kernel) rfl) pa_nil))) (pe_and (pe_not (pe_callB call_isi (by rfl) T.u_isinstance (by decide +kernel) (pa_cons (pv 0) (pa_cons (pe_bltn (v := .ty "bool") (u := .type "bool") (by rfl) T.u_bool (by decide +kernel) rfl) pa_nil)))) (pe_one (pe_cmpR op_lt (pe_callB Eg.cr_abs (by rfl) T.u_abs (by decide +kernel) (pa_cons (pv 0) pa_nil)) (Tw.pe_globS (by rfl) T.g_MOST_VALUE) (nomark _)))))))), ?_⟩
    refine Eg.w_sig (σ := [some v]) rfl ?_
    walk_at "go"
    cases hv with
    | str l =>
      walk_at "go"
      exact q
    | int i hi =>
      refine Eg.c_isi (.ty _) (.base (.int i)) (kit_ty (b := "str") (r := false) (by decide +kernel)) ?_
      walk_at "go"
      refine Eg.c_isi (.ty _) (.base (.int i)) (kit_ty (b := "int") (r := true) (by decide +kernel)) ?_
      walk_at "go"
      refine Eg.c_isi (.ty _) (.base (.int i)) (kit_ty (b := "bool") (r := false) (by decide +kernel)) ?_
      walk_at "go"
      unfold most at hi
      rw [decide_eq_true hi]
      exact q
theorem ok_is_literal (T : Txt K mg Z) : FnOk P w K mg base CX0 1 Z.a_is_literal Z.d_is_literal ["sign"] sp_is_literal := by
  refine T.F_is_literal.ok sc_is_literal (fun vs H Q E h => ?_) (fun cdv A outer s H vs Q E hr h => ?_)
  · obtain ⟨c, rfl, _⟩ := h
    rfl
  · obtain ⟨c, rfl, q⟩ := h
    have nd := sc_is_literal.nd
    refine ⟨_, (pss_one (ps_ret (pe_and (pe_chain op_le op_le pe_int (pe_callB Tw.cr_ord (by rfl) T.u_ord (by decide +kernel) (pa_cons (pv 0) pa_nil)) pe_int) (pe_and (pe_cmpR op_ne (pe_callB Tw.cr_ord (by rfl) T.u_ord (by decide +kernel) (pa_cons (pv 0) pa_nil)) pe_int (nomark _)) (pe_one (pe_cmpR Tw.op_notInS (pv 0) pe_str (by rfl))))))), ?_⟩
    refine Eg.w_sig (σ := [some (.str (S [c]))]) rfl ?_
    have e : litB c = (decide ((32 : Int) ≤ (c : Nat)) && decide (((c : Nat) : Int) ≤ 126) && !decide (V.int (c : Nat) = V.int 37) && !decide (c = 123 ∨ c = 125)) := by
      unfold litB
      rw [Eg.int_eq]
      simp only [← Bool.decide_and, ← decide_not]
      refine decide_eq_decide.mpr ?_
      omega
    rw [e] at q
    walk_at "go"
    refine Eg.br (fun e => ?_) (fun e => ?_)
    · rw [e] at q
      walk_at "go"
      refine Eg.br (fun e => ?_) (fun e => ?_)
      · rw [e] at q
        walk_at "go"
        refine Eg.br (fun e => ?_) (fun e => ?_)
        · rw [e] at q
          walk_at "go"
          exact q
        · rw [e] at q
          walk_at "go"
          exact q
      · rw [e] at q
        walk_at "go"
        exact q
    · rw [e] at q
      walk_at "go"
      exact q
theorem ok_is_key (T : Txt K mg Z) : FnOk P w K mg base CX0 3 Z.a_is_key Z.d_is_key ["key", "kind"] sp_is_key := by
  refine T.F_is_key.ok sc_is_key (fun vs H Q E h => ?_) (fun cdv A outer s H vs Q E hr h => ?_)
  · obtain ⟨k, kind, rfl, _⟩ := h
    rfl
  · obtain ⟨k, kind, rfl, hk, q⟩ := h
    have nd := sc_is_key.nd
    refine ⟨_, (pss_cons (ps_if (pt_cmpR op_eq (pv 1) pe_str (nomark _))
  (pss_one (ps_ret (pe_cmpR op_eq (pv 0) pe_str (nomark _))))
  pss_nil)
  (pss_cons (ps_if (pt_cmpR op_eq (pv 1) pe_str (nomark _))
  (pss_one (ps_ret (pe_and (pe_cmpR op_ne (pv 0) pe_str (nomark _)) (pe_one (pe_call (ok_is_count T) (hr.mono (by decide)) (by rfl) T.g_is_count T.F_is_count.kp T.b_is_count .nil pass0 (pa_cons (pv 0) pa_nil))))))
  pss_nil)
  (pss_one (ps_ret (pe_or (pe_call (ok_is_label T) (hr.mono (by decide)) (by rfl) T.g_is_label T.F_is_label.kp T.b_is_label .nil pass0 (pa_cons (pv 0) pa_nil)) (pe_one (pe_and (pe_cmpR op_eq (pv 1) pe_str (nomark _)) (pe_one (pe_cmpR op_eq (pv 0) pe_str (nomark _)))))))))), ?_⟩
    refine Eg.w_sig (σ := [some (.str (S k)), some (.str kind)]) rfl ?_
    unfold keyB at q
    walk_at "go"
    rw [Eg.str_eq]
    refine Eg.br (fun e => ?_) (fun e => ?_)
    · rw [e, if_pos rfl] at q
      walk_at "go"
      rw [str_emp]
      exact q H (Same.refl H)
    · rw [e, if_neg Bool.false_ne_true] at q
      walk_at "go"
      rw [Eg.str_eq]
      refine Eg.br (fun e => ?_) (fun e => ?_)
      · rw [e, if_pos rfl] at q
        walk_at "go"
        rw [str_one]
        refine Eg.br (fun e => ?_) (fun e => ?_)
        · rw [e, Bool.true_and] at q
          walk_at "go"
          refine ⟨_, rfl, hk, fun H1 s1 => ?_⟩
          exact q H1 s1
        · rw [e] at q
          walk_at "go"
          exact q H (Same.refl H)
      · rw [e, if_neg Bool.false_ne_true] at q
        walk_at "go"
        refine ⟨_, rfl, hk, fun H1 s1 => ?_⟩
        walk_at "go"
        refine Eg.br (fun e => ?_) (fun e => ?_)
        · rw [e] at q
          walk_at "go"
          exact q H1 s1
        · rw [e, Bool.false_or] at q
          walk_at "go"
          rw [Eg.str_eq]
          refine Eg.br (fun e => ?_) (fun e => ?_)
          · rw [e, Bool.true_and] at q
            walk_at "go"
            rw [str_emp]
            exact q H1 s1
          · rw [e] at q
            walk_at "go"
            exact q H1 s1
end
end LW

namespace LW
open PySem L2 SX Tx
/-! the parts of a text -/
def sp_merged : Sp := fun vs H Q _ => ∃ (a : Addr) (xs : List V) (ps : List Pc), vs = [.ref a] ∧ H a = some (.lst xs) ∧ PcsAt H xs ps ∧ (∀ p ∈ ps, p.ok) ∧ ps.length < 90000 ∧ sz ps < 50000 ∧
  ∀ (p : Addr) (ys : List V) (H' : Hp), H p = none → H' p = some (.lst ys) → PcsAt H' ys (merge ps) → Same H H' → Q (.ref p) H'
section
variable {P : Program} {w : World} {K : PySem.W.Frag} {mg : Str → Option Value} {base : Heap} {Z : Ad}
set_option maxHeartbeats 1000000 in
theorem ok_merged (T : Txt K mg Z) : FnOk P w K mg base CX0 1 Z.a_merged Z.d_merged ["parts"] sp_merged := by
  refine T.F_merged.ok sc_merged (fun vs H Q E h => ?_) (fun cdv A outer s H vs Q E hr h => ?_)
  · obtain ⟨a, xs, ps, rfl, _⟩ := h
    rfl
  · obtain ⟨a, xs, ps, rfl, ha, px, pok, pl, pz, q⟩ := h
    have nd := sc_merged.nd
    have hu := hu_of hr
    refine ⟨_, (pss_cons (ps_set (i := 1) nd rfl (Or.inl rfl) (pe_lst pa_nil))
  (pss_cons (ps_for PassesOwn.never rfl (pi_list (pv 0)) (pg_name (i := 2) nd rfl (Or.inl rfl))
  (pss_one (ps_if (pt_cmpR op_ne (pe_ix ix_tup (pv 2) pe_int (fun _ _ => rfl)) pe_str (nomark _))
  (pss_one (ps_expr (pe_bm PySem.F.plainAttrs_list PySem.F.slot_list_append PySem.F.type_list_append mt_append (pv 1) (pa_cons (pv 2) pa_nil))))
  (pss_one (ps_if (PW.pt (pw_and (pt_cmpR op_ne (pe_ix ix_tup (pv 2) pe_int (fun _ _ => rfl)) pe_str (nomark _)) (pw_and (pt_cmpR (Tw.op_neE (Nat.lt_of_succ_lt hu)) (pv 1) (pe_lst pa_nil) (nomark _)) (pw_and1 (pt_cmpR op_eq (pe_ix ix_tup (pe_ix ix_list (pv 1) (pe_un un_neg pe_int) (fun _ _ => rfl)) pe_int (fun _ _ => rfl)) pe_str (nomark _))))))
  (pss_one (ps_asg (pe_tup (pa_cons pe_str (pa_cons (pe_op Es.op_addS (pe_ix ix_tup (pe_ix ix_list (pv 1) (pe_un un_neg pe_int) (fun _ _ => rfl)) pe_int (fun _ _ => rfl)) (pe_ix ix_tup (pv 2) pe_int (fun _ _ => rfl))) pa_nil))) (pg_sub (pv 1) (pe_un un_neg pe_int) set_list)))
  (pss_one (ps_if (pt_cmpR op_ne (pe_ix ix_tup (pv 2) pe_int (fun _ _ => rfl)) pe_str (nomark _))
  (pss_one (ps_expr (pe_bm PySem.F.plainAttrs_list PySem.F.slot_list_append PySem.F.type_list_append mt_append (pv 1) (pa_cons (pv 2) pa_nil))))
  pss_nil)))))))
  (pss_one (ps_ret (pv 1))))), ?_⟩
    refine Eg.w_sig (σ := [some (.ref a), none, none]) rfl ?_
    walk_at "go"
    intro f hf
    walk_at "go"
    have len := px.len
    have hfa : f ≠ a := (ne_of_none ha hf).symm
    refine for_list (xs := xs) (fun j σ' H' => ∃ (v2 : Option V) (ys : List V), σ' = [some (.ref a), some (.ref f), v2] ∧ H' f = some (.lst ys) ∧ PcsAt H' ys (merge (ps.take j)) ∧ Same H H') ⟨none, [], rfl, upd_same, .nil, fun c o e => Eg.upd_old e hf⟩ ?_ ?_ ?_
    · rintro j _ H1 _ ⟨v2, ys, rfl, _, _, s1⟩
      exact SqL.of (s1 _ _ ha)
    · rintro j x _ H1 hx ⟨v2, ys, rfl, h1f, py, s1⟩
      obtain ⟨p, t, hp, rfl, ht0⟩ := px.get hx
      have ht := s1 _ _ ht0
      have hpo := pok p (List.mem_of_getElem? hp)
      obtain ⟨hlt, he⟩ := List.getElem?_eq_some_iff.mp hp
      have tk : ps.take (j + 1) = ps.take j ++ [p] := by rw [List.take_succ_eq_append_getElem hlt, he]
      have szz := sz_get hp
      have yl := py.len
      have ml := merge_len (ps.take j)
      rw [List.length_take] at ml
      have fresh : ∀ c o, H c = some o → c ≠ f := fun c o e => ne_of_none e hf
      cases p with
      | oth tg zs =>
        have ht : H1 t = some (.tup (.str tg :: zs)) := ht
        have hne : decide (V.str tg = V.str "say") = false := decide_eq_false fun z => hpo.1 (V.str.inj z)
        walk_at "go"
        rw [hne]
        walk_at "go"
        refine ⟨_, _, rfl, upd_same, ?_, fun c o e => Eg.upd_mut (fresh c o e) (s1 c o e)⟩
        rw [tk, merge_snoc]
        have tf : t ≠ f := ne_of ht h1f (fun z => nomatch z)
        exact PcsAt.app (py.same fun b ys e => Eg.upd_mut (ne_of e h1f (fun z => nomatch z)) e) (PcsAt.one (p := .oth tg zs) (Eg.upd_mut tf ht))
      | say l =>
        have ht : H1 t = some (.tup [.str "say", .str (S l)]) := ht
        have hne : decide (V.str "say" = V.str "say") = true := decide_eq_true rfl
        have tf : t ≠ f := ne_of ht h1f (fun z => nomatch z)
        have szl : l.length ≤ sz ps := Nat.le_trans (Nat.le_add_left _ _) szz
        walk_at "go"
        rw [hne]
        walk_at "go"
        rw [str_emp]
        by_cases hl : l = []
        · rw [decide_eq_true hl]
          walk_at "go"
          rw [str_emp, decide_eq_true hl]
          walk_at "go"
          subst hl
          refine ⟨_, _, rfl, h1f, ?_, s1⟩
          rw [tk, merge_snoc]
          exact py
        · rw [decide_eq_false hl]
          walk_at "go"
          intro n0 hn0
          have s2 : Same H1 (upd H1 n0 (.lst [])) := fun b o e => Eg.upd_old e hn0
          have h2n : upd H1 n0 (.lst []) n0 = some (.lst []) := upd_same
          have hn0f : n0 ≠ f := (ne_of_none h1f hn0).symm
          generalize upd H1 n0 (.lst []) = H2 at s2 h2n ⊢
          have h2f := s2 _ _ h1f
          have h2t := s2 _ _ ht
          have py2 := py.same fun b ys e => s2 _ _ e
          have s02 := s1.trans s2
          clear s1 s2 py ht h1f hn0
          walk_at "go"
          have fin : (∀ m, (merge (ps.take j)).getLast? ≠ some (.say m)) → ∃ (v2 : Option V) (ys' : List V), [some (V.ref a), some (V.ref f), some (V.ref t)] = [some (V.ref a), some (V.ref f), v2] ∧ upd H2 f (.lst (ys ++ [V.ref t])) f = some (.lst ys') ∧ PcsAt (upd H2 f (.lst (ys ++ [V.ref t]))) ys' (merge (ps.take (j + 1))) ∧ Same H (upd H2 f (.lst (ys ++ [V.ref t]))) := fun hno => by
            refine ⟨_, _, rfl, upd_same, ?_, fun c o e => Eg.upd_mut (fresh c o e) (s02 c o e)⟩
            rw [tk, merge_snoc, put_say_new hl hno]
            exact PcsAt.app (py2.same fun b ys e => Eg.upd_mut (ne_of e h2f (fun z => nomatch z)) e) (PcsAt.one (p := .say l) (Eg.upd_mut tf h2t))
          cases hlast : (merge (ps.take j)).getLast? with
          | none =>
            have hno : ∀ m, (merge (ps.take j)).getLast? ≠ some (.say m) := by rw [hlast]; exact fun _ z => nomatch z
            have me : merge (ps.take j) = [] := List.getLast?_eq_none_iff.mp hlast
            have ye : ys = [] := List.eq_nil_of_length_eq_zero (by rw [yl, me]; rfl)
            rw [show ys.isEmpty = true by rw [ye]; rfl]
            walk_at "go"
            rw [str_emp, decide_eq_false hl]
            walk_at "go"
            exact fin hno
          | some q0 =>
            obtain ⟨t0, hl0, ht0⟩ := py2.last hlast
            have yne : ys ≠ [] := fun z => by rw [z] at hl0; cases hl0
            rw [show ys.isEmpty = false by cases ys with | nil => exact absurd rfl yne | cons _ _ => rfl]
            have pos : 0 < ys.length := List.length_pos_iff.mpr yne
            have mok := merge_ok (ps := ps.take j) (fun z hz => pok z (List.mem_of_mem_take hz)) q0 (List.mem_of_getLast? hlast)
            cases q0 with
            | oth tg zs =>
              have ht0 : H2 t0 = some (.tup (.str tg :: zs)) := ht0
              have hne : decide (V.str tg = V.str "say") = false := decide_eq_false fun z => mok.1 (V.str.inj z)
              walk_at "go"
              rw [hne]
              walk_at "go"
              rw [str_emp, decide_eq_false hl]
              walk_at "go"
              exact fin (by rw [hlast]; exact fun _ z => nomatch z)
            | say m =>
              have ht0 : H2 t0 = some (.tup [.str "say", .str (S m)]) := ht0
              have hm : m.length ≤ sz (ps.take j) := by
                have := sz_last hlast
                rw [sz_merge] at this
                exact this
              walk_at "go"
              rw [hne]
              walk_at "go"
              intro t1 ht1
              walk_at "go"
              have h3f : upd H2 t1 (.tup [.str "say", .str (S (m ++ l))]) f = some (.lst ys) := Eg.upd_old h2f ht1
              have h3t : upd H2 t1 (.tup [.str "say", .str (S (m ++ l))]) t1 = some (.tup [.str "say", .str (S (m ++ l))]) := upd_same
              have py3 := py2.same fun b zs e => (Eg.upd_old e ht1 : upd H2 t1 (.tup [.str "say", .str (S (m ++ l))]) b = _)
              have s03 : Same H (upd H2 t1 (.tup [.str "say", .str (S (m ++ l))])) := fun c o e => Eg.upd_old (s02 c o e) ht1
              generalize upd H2 t1 (.tup [.str "say", .str (S (m ++ l))]) = H3 at h3f h3t py3 s03 ⊢
              have t1f : t1 ≠ f := ne_of h3t h3f (fun z => nomatch z)
              refine Eg.w_setL h3f (ixN_last pos) ?_
              walk_at "go"
              refine ⟨_, _, rfl, upd_same, ?_, fun c o e => Eg.upd_mut (fresh c o e) (s03 c o e)⟩
              rw [tk, merge_snoc, put_say_say hl hlast, set_last yne]
              exact PcsAt.app (py3.dropLast.same fun b ys e => Eg.upd_mut (ne_of e h3f (fun z => nomatch z)) e) (PcsAt.one (p := .say (m ++ l)) (Eg.upd_mut t1f h3t))
    · rintro _ H1 ⟨v2, ys, rfl, h1f, py, s1⟩
      rw [len, List.take_length] at py
      walk_at "go"
      exact q f ys H1 hf h1f py s1
/-- a token that may be read -/
def RdOk (kind : Str) : Tk → Prop
  | .ch c => litB c = true
  | .ho k => kind ≠ "literal" ∧ 125 ∉ k ∧ keyB kind k = true
def sp_read_parts : Sp := fun vs H Q _ => ∃ (ts : List Tk) (kind : Str), vs = [.str (S (flat ts)), .str kind] ∧ (flat ts).length < 40000 ∧ (∀ t ∈ ts, RdOk kind t) ∧
  ∀ (p : Addr) (ys : List V) (H' : Hp), H p = none → H' p = some (.lst ys) → PcsAt H' ys (merge (raw [] ts)) → Same H H' → Q (.ref p) H'
theorem lit_ne {c : Nat} (h : litB c = true) : decide (V.str (S [c]) = V.str "{") = false := by
  rw [show ("{" : Str) = S [123] by decide +kernel, str_eqS]
  refine decide_eq_false fun z => ?_
  have : c = 123 := by simpa using z
  subst this
  revert h
  decide
set_option maxHeartbeats 1000000 in
theorem ok_read_parts (T : Txt K mg Z) : FnOk P w K mg base CX0 4 Z.a_read_parts Z.d_read_parts ["text", "kind"] sp_read_parts := by
  refine T.F_read_parts.ok sc_read_parts (fun vs H Q E h => ?_) (fun cdv A outer s H vs Q E hr h => ?_)
  · obtain ⟨ts, kind, rfl, _⟩ := h
    rfl
  · obtain ⟨ts, kind, rfl, hl, hok, q⟩ := h
    have nd := sc_read_parts.nd
    refine ⟨_, (pss_cons (ps_if (pt_not (pt_val (pe_callB call_isi (by rfl) T.u_isinstance (by decide +kernel) (pa_cons (pv 0) (pa_cons (pe_bltn (v := .ty "str") (u := .type "str") (by rfl) T.u_str (by decide +kernel) rfl) pa_nil)))))
  (pss_one Tw.ps_dead)
  pss_nil)
  (pss_cons (ps_set (i := 2) nd rfl (Or.inl rfl) (pe_lst pa_nil))
  (pss_cons (ps_set (i := 3) nd rfl (Or.inl rfl) pe_int)
  (pss_cons (ps_set (i := 4) nd rfl (Or.inl rfl) pe_int)
  (pss_cons (ps_while PassesOwn.never (pt_cmpR op_lt (pv 3) (pe_callB Tw.cr_lenS (by rfl) T.u_len (by decide +kernel) (pa_cons (pv 0) pa_nil)) (nomark _))
  (pss_one (ps_if (PW.pt (pw_and (pt_cmpR op_eq (pe_ix ix_str (pv 0) (pv 3) (fun _ _ => rfl)) pe_str (nomark _)) (pw_and1 (pt_cmpR op_ne (pv 1) pe_str (nomark _)))))
  (pss_cons (ps_set (i := 5) nd rfl (Or.inl rfl) (pe_bm PySem.F.plainAttrs_str PySem.F.slot_str_find PySem.F.type_str_find Tw.mt_f3 (pv 0) (pa_cons pe_str (pa_cons (pv 3) pa_nil))))
  (C8.pss_cut (ps_set (i := 6) nd rfl (Or.inl rfl) (pe_ifExp (pt_cmpR op_gt (pv 5) (pv 3) (nomark _)) (pe_slice sl_str (pv 0) (po_some (pe_op op_add (pv 3) pe_int)) (po_some (pv 5))) pe_str))
  (pss_cons (ps_if (pt_not (pt_val (pe_call (ok_is_key T) (hr.mono (by decide)) (by rfl) T.g_is_key T.F_is_key.kp T.b_is_key .nil pass0 (pa_cons (pv 6) (pa_cons (pv 1) pa_nil)))))
  (pss_one Tw.ps_dead)
  pss_nil)
  (pss_cons (ps_expr (pe_bm PySem.F.plainAttrs_list PySem.F.slot_list_append PySem.F.type_list_append mt_append (pv 2) (pa_cons (pe_tup (pa_cons pe_str (pa_cons (pe_slice sl_str (pv 0) (po_some (pv 4)) (po_some (pv 3))) pa_nil))) pa_nil)))
  (pss_cons (ps_expr (pe_bm PySem.F.plainAttrs_list PySem.F.slot_list_append PySem.F.type_list_append mt_append (pv 2) (pa_cons (pe_tup (pa_cons pe_str (pa_cons (pv 6) pa_nil))) pa_nil)))
  (pss_cons (ps_set (i := 3) nd rfl (Or.inl rfl) (pe_op op_add (pv 5) pe_int))
  (pss_one (ps_set (i := 4) nd rfl (Or.inl rfl) (pv 3)))))))))
  (pss_one (ps_if (pt_val (pe_call (ok_is_literal T) (hr.mono (by decide)) (by rfl) T.g_is_literal T.F_is_literal.kp T.b_is_literal .nil pass0 (pa_cons (pe_ix ix_str (pv 0) (pv 3) (fun _ _ => rfl)) pa_nil)))
  (pss_one (ps_set (i := 3) nd rfl (Or.inl rfl) (pe_op op_add (pv 3) pe_int)))
  (pss_one Tw.ps_dead))))))
  (pss_cons (ps_expr (pe_bm PySem.F.plainAttrs_list PySem.F.slot_list_append PySem.F.type_list_append mt_append (pv 2) (pa_cons (pe_tup (pa_cons pe_str (pa_cons (pe_slice sl_str (pv 0) (po_some (pv 4)) po_none) pa_nil))) pa_nil)))
  (pss_one (ps_ret (pe_call (ok_merged T) (hr.mono (by decide)) (by rfl) T.g_merged T.F_merged.kp T.b_merged .nil pass0 (pa_cons (pv 2) pa_nil)))))))))), ?_⟩
    refine Eg.w_sig (σ := [some (.str (S (flat ts))), some (.str kind), none, none, none, none, none]) rfl ?_
    have hl1 : (flat ts).length < 100000 := by omega
    walk_at "go"
    intro f hf
    walk_at "go"
    have fresh : ∀ c o, H c = some o → c ≠ f := fun c o e => ne_of_none e hf
    refine ⟨fun m σ' H' => ∃ (v5 v6 : Option V) (pre cur : List Nat) (rest : List Tk) (ys : List V) (ps : List Pc), m = rest.length ∧ σ' = [some (.str (S (flat ts))), some (.str kind), some (.ref f), some (.int ((pre.length + cur.length : Nat) : Int)), some (.int (pre.length : Nat)), v5, v6] ∧ flat ts = pre ++ (cur ++ flat rest) ∧ (∀ t ∈ rest, RdOk kind t) ∧ H' f = some (.lst ys) ∧ PcsAt H' ys ps ∧ raw [] ts = ps ++ raw cur rest ∧ Same H H',
      ⟨_, none, none, [], [], ts, [], [], rfl, rfl, rfl, hok, upd_same, .nil, rfl, fun c o e => Eg.upd_old e hf⟩, ?_⟩
    rintro m _ H1 ⟨v5, v6, pre, cur, rest, ys, ps, rfl, rfl, hfl, hro, h1f, py, hraw, s1⟩
    have len := congrArg List.length hfl
    rw [List.length_append, List.length_append] at len
    have rl := raw_len ts []
    have fl := flat_len ts
    have yl := py.len
    have pl := congrArg List.length hraw
    rw [List.length_append] at pl
    cases rest with
    | nil =>
      have e0 : (flat []).length = 0 := rfl
      have len2 : (flat ts).length = pre.length + cur.length := by omega
      have sl : Txt.slice (S (flat ts)) (some ((pre.length : Nat) : Int)) none = S cur := by
        rw [hfl]
        show Txt.slice (S (pre ++ (cur ++ []))) _ _ = _
        rw [List.append_nil]
        exact from_app pre cur rfl
      have rz := raw_sz ts []
      have e1 : ([] : List Nat).length = 0 := rfl
      walk_at "go"
      refine Eg.brDF (by omega) ?_
      walk_at "go"
      refine Tw.c_slS hl1 sl ?_
      walk_at "go"
      intro t1 ht1
      walk_at "go"
      have h2f : upd H1 t1 (.tup [.str "say", .str (S cur)]) f = some (.lst ys) := Eg.upd_old h1f ht1
      have h2t : upd H1 t1 (.tup [.str "say", .str (S cur)]) t1 = some (.tup (Pc.say cur).vs) := upd_same
      have py2 := py.same fun b zs e => (Eg.upd_old e ht1 : upd H1 t1 (.tup [.str "say", .str (S cur)]) b = _)
      have s02 : Same H (upd H1 t1 (.tup [.str "say", .str (S cur)])) := fun c o e => Eg.upd_old (s1 c o e) ht1
      generalize upd H1 t1 (.tup [.str "say", .str (S cur)]) = H2 at h2f h2t py2 s02 ⊢
      have t1f : t1 ≠ f := ne_of h2t h2f (fun z => nomatch z)
      walk_at "go"
      refine ⟨f, _, ps ++ [.say cur], rfl, upd_same, PcsAt.app (py2.same fun b zs e => Eg.upd_mut (ne_of e h2f (fun z => nomatch z)) e) (PcsAt.one (Eg.upd_mut t1f h2t)), ?_, ?_, ?_, fun p zs H3 hp h3p pz s3 => ?_⟩
      · rw [← show raw cur [] = [Pc.say cur] from rfl, ← hraw]
        exact raw_ok ts []
      · rw [← show raw cur [] = [Pc.say cur] from rfl, ← hraw]
        omega
      · rw [← show raw cur [] = [Pc.say cur] from rfl, ← hraw]
        omega
      · walk_at "go"
        rw [← show raw cur [] = [Pc.say cur] from rfl, ← hraw] at pz
        refine q p zs H3 ?_ h3p pz fun c o e => s3 _ _ (Eg.upd_mut (fresh c o e) (s02 c o e))
        cases z : H p with
        | none => rfl
        | some o =>
          rw [Eg.upd_mut (fresh p o z) (s02 p o z)] at hp
          cases hp
    | cons t rest =>
      have rt := hro t List.mem_cons_self
      have rr : ∀ t ∈ rest, RdOk kind t := fun z hz => hro z (List.mem_cons_of_mem _ hz)
      cases t with
      | ch c =>
        have rt : litB c = true := rt
        have hat : (flat ts)[pre.length + cur.length]? = some c := by
          rw [hfl, ← List.append_assoc, List.getElem?_append_right (by rw [List.length_append]; exact Nat.le_refl _), List.length_append, Nat.sub_self]
          rfl
        have ef : flat (.ch c :: rest) = c :: flat rest := rfl
        rw [ef, List.length_cons] at len
        walk_at "go"
        refine Eg.brDT (by omega) ?_
        refine ⟨fun σ' H' => ∃ m', m' < (Tk.ch c :: rest).length ∧ _, fun σ' H' h => h, ?_⟩
        walk_at "go"
        refine Tw.c_ixS hl1 rfl hat ?_
        walk_at "go"
        rw [lit_ne rt]
        walk_at "go"
        refine Tw.c_ixS hl1 rfl hat ?_
        walk_at "go"
        refine ⟨c, rfl, ?_⟩
        rw [rt]
        walk_at "go"
        refine ⟨rest.length, Nat.lt_succ_self _, v5, v6, pre, cur ++ [c], rest, ys, ps, rfl, ?_, ?_, rr, h1f, py, hraw, s1⟩
        · rw [List.length_append]
          rfl
        · rw [hfl, ef]
          simp
      | ho k =>
        obtain ⟨hk1, hk2, hk3⟩ := rt
        have ef : flat (.ho k :: rest) = 123 :: (k ++ 125 :: flat rest) := rfl
        rw [ef, List.length_cons, List.length_append, List.length_cons] at len
        have hat : (flat ts)[pre.length + cur.length]? = some 123 := by
          rw [hfl, ← List.append_assoc, List.getElem?_append_right (by rw [List.length_append]; exact Nat.le_refl _), List.length_append, Nat.sub_self]
          rfl
        have kn : decide (V.str kind = V.str "literal") = false := decide_eq_false fun z => hk1 (V.str.inj z)
        have br : decide (V.str (S [123]) = V.str "{") = true := by
          rw [show ("{" : Str) = S [123] by decide +kernel, decide_eq_true rfl]
        have fd : Txt.find3 (S (flat ts)) (S [125]) ((pre.length + cur.length : Nat) : Int) = ((pre.length + cur.length + (k.length + 1) : Nat) : Int) := by
          have := find_mid (pre ++ cur) (123 :: k) (flat rest) 125 (i := ((pre.length + cur.length : Nat) : Int)) (by rw [List.length_append]) (fun z => by
            rcases List.mem_cons.mp z with z | z
            · exact absurd z (by decide)
            · exact hk2 z)
          rw [List.length_append, List.length_cons] at this
          rw [← this, hfl, ef]
          simp
        have s1k : Txt.slice (S (flat ts)) (some (((pre.length + cur.length : Nat) : Int) + 1)) (some ((pre.length + cur.length + (k.length + 1) : Nat) : Int)) = S k := by
          have := slice_mid (pre ++ cur ++ [123]) k (125 :: flat rest) (i := ((pre.length + cur.length : Nat) : Int) + 1) (j := ((pre.length + cur.length + (k.length + 1) : Nat) : Int)) (by rw [List.length_append, List.length_append]; rfl) (by rw [List.length_append, List.length_append]; simp; omega)
          rw [← this, hfl, ef]
          simp
        have s2k : Txt.slice (S (flat ts)) (some ((pre.length : Nat) : Int)) (some ((pre.length + cur.length : Nat) : Int)) = S cur := by
          rw [hfl]
          exact slice_mid pre cur _ rfl rfl
        walk_at "go"
        refine Eg.brDT (by omega) ?_
        refine ⟨fun σ' H' => ∃ m', m' < (Tk.ho k :: rest).length ∧ _, fun σ' H' h => h, ?_⟩
        walk_at "go"
        refine Tw.c_ixS hl1 rfl hat ?_
        walk_at "go"
        rw [br]
        walk_at "go"
        rw [kn]
        walk_at "go"
        refine ⟨_, _, _, rfl, rfl, ?_⟩
        rw [show ("}" : Str) = S [125] by decide +kernel, fd]
        walk_at "go"
        refine ⟨fun σ' H' => σ' = [some (.str (S (flat ts))), some (.str kind), some (.ref f), some (.int ((pre.length + cur.length : Nat) : Int)), some (.int (pre.length : Nat)), some (.int ((pre.length + cur.length + (k.length + 1) : Nat) : Int)), some (.str (S k))] ∧ H1 = H', ?_, ?_⟩
        · walk_at "go"
          refine Eg.brDT (by omega) ?_
          walk_at "go"
          refine Tw.c_slS hl1 s1k ?_
          walk_at "go"
          exact ⟨rfl, rfl⟩
        rintro _ _ ⟨rfl, rfl⟩
        walk_at "go"
        refine ⟨k, kind, rfl, by omega, fun H2 s2 => ?_⟩
        rw [hk3]
        have s02 := s1.trans s2
        have h2f := s2 _ _ h1f
        have py2 := py.same fun b zs e => s2 _ _ e
        clear s1 s2 h1f py H1
        walk_at "go"
        refine Tw.c_slS hl1 s2k ?_
        walk_at "go"
        intro t1 ht1
        walk_at "go"
        have h3f : upd H2 t1 (.tup [.str "say", .str (S cur)]) f = some (.lst ys) := Eg.upd_old h2f ht1
        have h3t : upd H2 t1 (.tup [.str "say", .str (S cur)]) t1 = some (.tup (Pc.say cur).vs) := upd_same
        have py3 := py2.same fun b zs e => (Eg.upd_old e ht1 : upd H2 t1 (.tup [.str "say", .str (S cur)]) b = _)
        have s03 : Same H (upd H2 t1 (.tup [.str "say", .str (S cur)])) := fun c o e => Eg.upd_old (s02 c o e) ht1
        generalize upd H2 t1 (.tup [.str "say", .str (S cur)]) = H3 at h3f h3t py3 s03 ⊢
        have t1f : t1 ≠ f := ne_of h3t h3f (fun z => nomatch z)
        clear h2f py2 s02 ht1 H2
        walk_at "go"
        intro t2 ht2
        have py4 := PcsAt.app (py3.same fun b zs e => (Eg.upd_mut (ne_of e h3f (fun z => nomatch z)) e : upd H3 f (.lst (ys ++ [.ref t1])) b = _)) (PcsAt.one (p := .say cur) (Eg.upd_mut t1f h3t))
        have s04 : Same H (upd H3 f (.lst (ys ++ [.ref t1]))) := fun c o e => Eg.upd_mut (fresh c o e) (s03 c o e)
        have h4f : upd H3 f (.lst (ys ++ [.ref t1])) f = some (.lst (ys ++ [.ref t1])) := upd_same
        generalize upd H3 f (.lst (ys ++ [.ref t1])) = H4 at ht2 py4 s04 h4f ⊢
        have py5 := py4.same fun b zs e => (Eg.upd_old e ht2 : upd H4 t2 (.tup [.str "hole", .str (S k)]) b = _)
        have s05 : Same H (upd H4 t2 (.tup [.str "hole", .str (S k)])) := fun c o e => Eg.upd_old (s04 c o e) ht2
        have h5f : upd H4 t2 (.tup [.str "hole", .str (S k)]) f = some (.lst (ys ++ [.ref t1])) := Eg.upd_old h4f ht2
        have h5t : upd H4 t2 (.tup [.str "hole", .str (S k)]) t2 = some (.tup (hole k).vs) := upd_same
        generalize upd H4 t2 (.tup [.str "hole", .str (S k)]) = H5 at py5 s05 h5f h5t ⊢
        have t2f : t2 ≠ f := ne_of h5t h5f (fun z => nomatch z)
        clear py4 s04 h4f ht2 py3 h3f h3t s03
        walk_at "go"
        refine ⟨rest.length, Nat.lt_succ_self _, some (.int ((pre.length + cur.length + (k.length + 1) : Nat) : Int)), some (.str (S k)), pre ++ cur ++ (123 :: (k ++ [125])), [], rest, _, ps ++ [.say cur] ++ [hole k], rfl, ?_, ?_, rr, upd_same, PcsAt.app (py5.same fun b zs e => Eg.upd_mut (ne_of e h5f (fun z => nomatch z)) e) (PcsAt.one (Eg.upd_mut t2f h5t)), ?_, fun c o e => Eg.upd_mut (fresh c o e) (s05 c o e)⟩
        · have e1 : ((pre.length + cur.length + (k.length + 1) : Nat) : Int) + 1 = (((pre ++ cur ++ (123 :: (k ++ [125]))).length : Nat) : Int) := by
            simp only [List.length_append, List.length_cons, List.length_nil]
            omega
          rw [e1]
          rfl
        · rw [hfl, ef]
          simp
        · rw [hraw]
          show ps ++ (.say cur :: hole k :: raw [] rest) = _
          simp
end
end LW

namespace LW
open PySem L2 SX Tx Tc Tl
/-! queries -/
def Mn (m : Str) : Prop := m = "order" ∨ m = "number" ∨ m = "name"
def sp_check_manner : Sp := fun vs H Q _ => ∃ m : Str, vs = [.str m] ∧ Mn m ∧ ∀ H', Same H H' → Q .non H'
/-- keys as they are read -/
def KeyTxt (m : Str) (cs : List Cl) : Prop := ∀ k ∈ keys cs, ∃ s : Str, k = .inr s ∧ (m = "number" → ∃ n, intText? s = some n ∧ s.length ≤ 640)
def sp_keyed : Sp := fun vs H Q _ => ∃ (a : Addr) (xs : List V) (cs : List Cl) (m : Str), vs = [.str m, .ref a] ∧ Mn m ∧ H a = some (.lst xs) ∧ PcsAt H xs (cs.map pc) ∧ cs.length < 90000 ∧ KeyTxt m cs ∧
  ∀ (p : Addr) (ys : List V) (H' : Hp), H p = none → H' p = some (.lst ys) → PcsAt H' ys ((keyC m 0 cs).map pc) → Same H H' → Q (.ref p) H'
def sp_keys_of : Sp := fun vs H Q _ => ∃ (a : Addr) (xs : List V) (cs : List Cl), vs = [.ref a] ∧ H a = some (.lst xs) ∧ PcsAt H xs (cs.map pc) ∧ cs.length < 90000 ∧
  ∀ (p : Addr) (H' : Hp), H p = none → H' p = some (.lst ((uniq (keys cs)).map kV)) → Same H H' → Q (.ref p) H'
theorem mn3 {m : Str} (h : Mn m) : (Sum.inr m : Key) ∈ [(.inr "order" : Key), .inr "number", .inr "name"] := by
  rcases h with rfl | rfl | rfl <;> decide +kernel
theorem d_on : decide (V.str "order" = V.str "name") = false := by decide +kernel
theorem d_nn : decide (V.str "number" = V.str "name") = false := by decide +kernel
theorem d_oN : decide (V.str "order" = V.str "number") = false := by decide +kernel
theorem d_hs : decide (V.str "hole" = V.str "say") = false := by decide +kernel
theorem d_sh : decide (V.str "say" = V.str "hole") = false := by decide +kernel
theorem o_name : ("order" : Str) ≠ "name" := by decide +kernel
theorem o_number : ("order" : Str) ≠ "number" := by decide +kernel
theorem n_name : ("number" : Str) ≠ "name" := by decide +kernel
section
variable {P : Program} {w : World} {K : PySem.W.Frag} {mg : Str → Option Value} {base : Heap} {Z : Ad}
theorem ok_check_manner (T : Txt K mg Z) : FnOk P w K mg base CX0 1 Z.a_check_manner Z.d_check_manner ["manner"] sp_check_manner := by
  refine T.F_check_manner.ok sc_check_manner (fun vs H Q E h => ?_) (fun cdv A outer s H vs Q E hr h => ?_)
  · obtain ⟨m, rfl, _⟩ := h
    rfl
  · obtain ⟨m, rfl, hm, q⟩ := h
    refine ⟨_, (pss_one (ps_if (PW.pt (pw_or (pt_not (pt_val (pe_callB call_isi (by rfl) T.u_isinstance (by decide +kernel) (pa_cons (pv 0) (pa_cons (pe_bltn (v := .ty "str") (u := .type "str") (by rfl) T.u_str (by decide +kernel) rfl) pa_nil))))) (pw_or1 (pt_cmpR op_notIn_seq (pv 0) (pe_tup (pa_cons pe_str (pa_cons pe_str (pa_cons pe_str pa_nil)))) (by rfl)))))
  (pss_one Tw.ps_dead)
  pss_nil)), ?_⟩
    refine Eg.w_sig (σ := [some (.str m)]) rfl ?_
    walk_at "go"
    intro t ht
    refine Tw.c_notInT (k := .inr m) (ks := [.inr "order", .inr "number", .inr "name"]) upd_same ?_
    rw [decide_eq_true (mn3 hm)]
    walk_at "go"
    exact q _ (fun c o e => Eg.upd_old e ht)
set_option maxHeartbeats 1000000 in
theorem ok_keyed (T : Txt K mg Z) : FnOk P w K mg base CX0 1 Z.a_keyed Z.d_keyed ["manner", "parts"] sp_keyed := by
  refine T.F_keyed.ok sc_keyed (fun vs H Q E h => ?_) (fun cdv A outer s H vs Q E hr h => ?_)
  · obtain ⟨a, xs, cs, m, rfl, _⟩ := h
    rfl
  · obtain ⟨a, xs, cs, m, rfl, hm, ha, px, cl, hk, q⟩ := h
    have nd := sc_keyed.nd
    refine ⟨_, (pss_cons (ps_set (i := 2) nd rfl (Or.inl rfl) (pe_lst pa_nil))
  (pss_cons (ps_set (i := 3) nd rfl (Or.inl rfl) pe_int)
  (pss_cons (ps_for PassesOwn.never rfl (pi_list (pv 1)) (pg_name (i := 4) nd rfl (Or.inl rfl))
  (pss_one (ps_if (PW.pt (pw_or (pt_cmpR op_eq (pe_ix ix_tup (pv 4) pe_int (fun _ _ => rfl)) pe_str (nomark _)) (pw_or1 (pt_cmpR op_eq (pv 0) pe_str (nomark _)))))
  (pss_one (ps_expr (pe_bm PySem.F.plainAttrs_list PySem.F.slot_list_append PySem.F.type_list_append mt_append (pv 2) (pa_cons (pv 4) pa_nil))))
  (pss_one (ps_if (pt_cmpR op_eq (pv 0) pe_str (nomark _))
  (pss_one (ps_expr (pe_bm PySem.F.plainAttrs_list PySem.F.slot_list_append PySem.F.type_list_append mt_append (pv 2) (pa_cons (pe_tup (pa_cons pe_str (pa_cons (pe_callTy Tw.cr_intS (by rfl) T.u_int (by decide +kernel) (pa_cons (pe_ix ix_tup (pv 4) pe_int (fun _ _ => rfl)) pa_nil)) pa_nil))) pa_nil))))
  (pss_cons (ps_expr (pe_bm PySem.F.plainAttrs_list PySem.F.slot_list_append PySem.F.type_list_append mt_append (pv 2) (pa_cons (pe_tup (pa_cons pe_str (pa_cons (pv 3) pa_nil))) pa_nil)))
  (pss_one (ps_set (i := 3) nd rfl (Or.inl rfl) (pe_op op_add (pv 3) pe_int)))))))))
  (pss_one (ps_ret (pv 2)))))), ?_⟩
    refine Eg.w_sig (σ := [some (.str m), some (.ref a), none, none, none]) rfl ?_
    walk_at "go"
    intro f hf
    walk_at "go"
    have len := px.len
    rw [List.length_map] at len
    have fresh : ∀ c o, H c = some o → c ≠ f := fun c o e => ne_of_none e hf
    have hfa : f ≠ a := (fresh _ _ ha).symm
    refine for_list (xs := xs) (fun j σ' H' => ∃ (v4 : Option V) (i : Int) (ys : List V), σ' = [some (.str m), some (.ref a), some (.ref f), some (.int i), v4] ∧ (m = "order" → i = ((keys (cs.take j)).length : Nat)) ∧ H' f = some (.lst ys) ∧ PcsAt H' ys ((keyC m 0 (cs.take j)).map pc) ∧ Same H H') ⟨none, 0, [], rfl, fun _ => rfl, upd_same, .nil, fun c o e => Eg.upd_old e hf⟩ ?_ ?_ ?_
    · rintro j _ H1 _ ⟨v4, i, ys, rfl, _, _, _, s1⟩
      exact SqL.of (s1 _ _ ha)
    · rintro j x _ H1 hx ⟨v4, i, ys, rfl, hi, h1f, py, s1⟩
      obtain ⟨p, t, hp, rfl, ht0⟩ := px.get hx
      rw [List.getElem?_map] at hp
      obtain ⟨c, hc, rfl⟩ := Option.map_eq_some_iff.mp hp
      have ht := s1 _ _ ht0
      obtain ⟨hlt, he⟩ := List.getElem?_eq_some_iff.mp hc
      have tk : cs.take (j + 1) = cs.take j ++ [c] := by rw [List.take_succ_eq_append_getElem hlt, he]
      have yl := py.len
      rw [List.length_map, keyC_len, List.length_take] at yl
      have tf : t ≠ f := ne_of ht h1f (fun z => nomatch z)
      have same : key1 m (0 + (keys (cs.take j)).length) c = c → (∃ (v4 : Option V) (i' : Int) (ys' : List V), [some (V.str m), some (V.ref a), some (V.ref f), some (V.int i), some (V.ref t)] = [some (V.str m), some (V.ref a), some (V.ref f), some (V.int i'), v4] ∧ (m = "order" → i' = ((keys (cs.take (j + 1))).length : Nat)) ∧ upd H1 f (.lst (ys ++ [V.ref t])) f = some (.lst ys') ∧ PcsAt (upd H1 f (.lst (ys ++ [V.ref t]))) ys' ((keyC m 0 (cs.take (j + 1))).map pc) ∧ Same H (upd H1 f (.lst (ys ++ [V.ref t])))) ∨ ¬ (m = "order" → keys [c] = []) := fun hs => by
        by_cases hz : m = "order" → keys [c] = []
        · refine .inl ⟨_, _, _, rfl, fun z => ?_, upd_same, ?_, fun c o e => Eg.upd_mut (fresh c o e) (s1 c o e)⟩
          · rw [tk, keys_app, hz z, List.append_nil]
            exact hi z
          · rw [tk, keyC_snoc, hs, List.map_append]
            exact PcsAt.app (py.same fun b ys e => Eg.upd_mut (ne_of e h1f (fun z => nomatch z)) e) (PcsAt.one (p := pc c) (Eg.upd_mut tf ht))
        · exact .inr hz
      cases c with
      | inl l =>
        have ht : H1 t = some (.tup [.str "say", .str (S l)]) := ht
        walk_at "go"
        rw [decide_eq_true (rfl : V.str "say" = V.str "say")]
        walk_at "go"
        exact (same rfl).resolve_right fun z => z fun _ => rfl
      | inr k =>
        have ht : H1 t = some (.tup [.str "hole", kV k]) := ht
        walk_at "go"
        rw [d_hs]
        walk_at "go"
        have newt : ∀ (x : V), key1 m (0 + (keys (cs.take j)).length) (.inr k) = .inr (if m = "name" then k else if m = "number" then .inl (toI k) else .inl (((0 + (keys (cs.take j)).length : Nat) : Nat) : Int)) := fun _ => rfl
        have app : ∀ (t2 : Addr) (i2 : Int), H1 t2 = none → pc (key1 m (0 + (keys (cs.take j)).length) (.inr k)) = .oth "hole" [.int i2] → ∀ i' : Int, (m = "order" → i' = ((keys (cs.take (j + 1))).length : Nat)) →
            ∃ (v4 : Option V) (i0 : Int) (ys' : List V), [some (V.str m), some (V.ref a), some (V.ref f), some (V.int i'), some (V.ref t)] = [some (V.str m), some (V.ref a), some (V.ref f), some (V.int i0), v4] ∧ (m = "order" → i0 = ((keys (cs.take (j + 1))).length : Nat)) ∧ upd (upd H1 t2 (.tup [.str "hole", .int i2])) f (.lst (ys ++ [V.ref t2])) f = some (.lst ys') ∧ PcsAt (upd (upd H1 t2 (.tup [.str "hole", .int i2])) f (.lst (ys ++ [V.ref t2]))) ys' ((keyC m 0 (cs.take (j + 1))).map pc) ∧ Same H (upd (upd H1 t2 (.tup [.str "hole", .int i2])) f (.lst (ys ++ [V.ref t2]))) := fun t2 i2 h2 e i' hi' => by
          have t2f : t2 ≠ f := (ne_of_none h1f h2).symm
          refine ⟨_, _, _, rfl, hi', upd_same, ?_, fun c o e => Eg.upd_mut (fresh c o e) (Eg.upd_old (s1 c o e) h2)⟩
          rw [tk, keyC_snoc, List.map_append, List.map_cons, List.map_nil, e]
          refine PcsAt.app ((py.same fun b zs e => (Eg.upd_old e h2 : upd H1 t2 (.tup [.str "hole", .int i2]) b = _)).same fun b zs e => Eg.upd_mut (ne_of e (Eg.upd_old h1f h2) (fun z => nomatch z)) e) (PcsAt.one (p := .oth "hole" [.int i2]) (Eg.upd_mut t2f upd_same))
        rcases hm with rfl | rfl | rfl
        · rw [d_on]
          walk_at "go"
          rw [d_oN]
          walk_at "go"
          intro t2 ht2
          have h2f : upd H1 t2 (.tup [.str "hole", .int i]) f = some (.lst ys) := Eg.upd_old h1f ht2
          walk_at "go"
          refine app t2 i ht2 ?_ (i + 1) fun _ => ?_
          · show Pc.oth "hole" [kV (if ("order" : Str) = "name" then k else if ("order" : Str) = "number" then .inl (toI k) else .inl (((0 + (keys (cs.take j)).length : Nat) : Nat) : Int))] = _
            rw [if_neg o_name, if_neg o_number, hi rfl, Nat.zero_add]
            rfl
          · rw [tk, keys_app, List.length_append, hi rfl]
            rfl
        · rw [d_nn]
          walk_at "go"
          rw [decide_eq_true (rfl : V.str "number" = V.str "number")]
          walk_at "go"
          obtain ⟨s, rfl, hs⟩ := hk k (keys_sub (List.mem_of_getElem? hc))
          obtain ⟨n, hn, hl⟩ := hs rfl
          refine ⟨s, n, rfl, hn, hl, ?_⟩
          walk_at "go"
          intro t2 ht2
          have h2f : upd H1 t2 (.tup [.str "hole", .int n]) f = some (.lst ys) := Eg.upd_old h1f ht2
          walk_at "go"
          refine app t2 n ht2 ?_ i fun z => absurd z.symm o_number
          show Pc.oth "hole" [kV (if ("number" : Str) = "name" then (.inr s : Key) else if ("number" : Str) = "number" then .inl (toI (.inr s)) else .inl (((0 + (keys (cs.take j)).length : Nat) : Nat) : Int))] = _
          rw [if_neg n_name, if_pos rfl]
          show Pc.oth "hole" [.int ((intText? s).getD 0)] = _
          rw [hn]
          rfl
        · rw [decide_eq_true (rfl : V.str "name" = V.str "name")]
          walk_at "go"
          refine (same ?_).resolve_right fun z => z fun e => absurd e.symm o_name
          show (Sum.inr (if ("name" : Str) = "name" then k else _) : Cl) = _
          rw [if_pos rfl]
    · rintro _ H1 ⟨v4, i, ys, rfl, _, h1f, py, s1⟩
      rw [len, List.take_length] at py
      walk_at "go"
      exact q f ys H1 hf h1f py s1
set_option maxHeartbeats 1000000 in
theorem ok_keys_of (T : Txt K mg Z) : FnOk P w K mg base CX0 1 Z.a_keys_of Z.d_keys_of ["cells"] sp_keys_of := by
  refine T.F_keys_of.ok sc_keys_of (fun vs H Q E h => ?_) (fun cdv A outer s H vs Q E hr h => ?_)
  · obtain ⟨a, xs, cs, rfl, _⟩ := h
    rfl
  · obtain ⟨a, xs, cs, rfl, ha, px, cl, q⟩ := h
    have nd := sc_keys_of.nd
    refine ⟨_, (pss_cons (ps_set (i := 1) nd rfl (Or.inl rfl) (pe_lst pa_nil))
  (pss_cons (ps_for PassesOwn.never rfl (pi_list (pv 0)) (pg_name (i := 2) nd rfl (Or.inl rfl))
  (pss_one (ps_if (PW.pt (pw_and (pt_cmpR op_eq (pe_ix ix_tup (pv 2) pe_int (fun _ _ => rfl)) pe_str (nomark _)) (pw_and1 (pt_cmpR op_notIn_seq (pe_ix ix_tup (pv 2) pe_int (fun _ _ => rfl)) (pv 1) (by rfl)))))
  (pss_one (ps_expr (pe_bm PySem.F.plainAttrs_list PySem.F.slot_list_append PySem.F.type_list_append mt_append (pv 1) (pa_cons (pe_ix ix_tup (pv 2) pe_int (fun _ _ => rfl)) pa_nil))))
  pss_nil)))
  (pss_one (ps_ret (pv 1))))), ?_⟩
    refine Eg.w_sig (σ := [some (.ref a), none, none]) rfl ?_
    walk_at "go"
    intro f hf
    walk_at "go"
    have len := px.len
    rw [List.length_map] at len
    have fresh : ∀ c o, H c = some o → c ≠ f := fun c o e => ne_of_none e hf
    refine for_list (xs := xs) (fun j σ' H' => ∃ (v2 : Option V), σ' = [some (.ref a), some (.ref f), v2] ∧ H' f = some (.lst ((uniq (keys (cs.take j))).map kV)) ∧ Same H H') ⟨none, rfl, upd_same, fun c o e => Eg.upd_old e hf⟩ ?_ ?_ ?_
    · rintro j _ H1 _ ⟨v2, rfl, _, s1⟩
      exact SqL.of (s1 _ _ ha)
    · rintro j x _ H1 hx ⟨v2, rfl, h1f, s1⟩
      obtain ⟨p, t, hp, rfl, ht0⟩ := px.get hx
      rw [List.getElem?_map] at hp
      obtain ⟨c, hc, rfl⟩ := Option.map_eq_some_iff.mp hp
      have ht := s1 _ _ ht0
      obtain ⟨hlt, he⟩ := List.getElem?_eq_some_iff.mp hc
      have tk : cs.take (j + 1) = cs.take j ++ [c] := by rw [List.take_succ_eq_append_getElem hlt, he]
      have ul := uniq_len (keys (cs.take j))
      have kl : (keys (cs.take j)).length ≤ (cs.take j).length := List.length_filterMap_le _ _
      rw [List.length_take] at kl
      cases c with
      | inl l =>
        have ht : H1 t = some (.tup [.str "say", .str (S l)]) := ht
        walk_at "go"
        rw [d_sh]
        walk_at "go"
        refine ⟨_, rfl, ?_, s1⟩
        rw [tk, keys_app]
        show _ = some (HO.lst ((uniq (keys (cs.take j) ++ [])).map kV))
        rw [List.append_nil]
        exact h1f
      | inr k =>
        have ht : H1 t = some (.tup [.str "hole", kV k]) := ht
        walk_at "go"
        rw [decide_eq_true (rfl : V.str "hole" = V.str "hole")]
        walk_at "go"
        refine Tw.c_notIn h1f ?_
        have us : uniq (keys (cs.take (j + 1))) = add1 (uniq (keys (cs.take j))) k := by
          rw [tk, keys_app]
          exact uniq_snoc _ _
        by_cases hm : k ∈ uniq (keys (cs.take j))
        · rw [decide_eq_true hm]
          walk_at "go"
          refine ⟨_, rfl, ?_, s1⟩
          rw [us]
          unfold add1
          rw [if_pos hm]
          exact h1f
        · rw [decide_eq_false hm]
          walk_at "go"
          refine ⟨_, rfl, ?_, fun c o e => Eg.upd_mut (fresh c o e) (s1 c o e)⟩
          rw [upd_same, us]
          unfold add1
          rw [if_neg hm, List.map_append]
          rfl
    · rintro _ H1 ⟨v2, rfl, h1f, s1⟩
      rw [len, List.take_length] at h1f
      walk_at "go"
      exact q f H1 hf h1f s1
end
end LW

namespace LW
open PySem L2 SX Tx Tc Tl
/-- a row of values, as a table -/
def RowAt (H : Hp) (m : Str) (r : Addr) (kvs : List (Key × V)) : Prop :=
  (m = "name" ∧ H r = some (.dK kvs) ∧ (kvs.map (·.1)).Nodup ∧ ∀ y ∈ kvs, (∃ l, y.1 = .inr (S l) ∧ labelB l = true ∧ l.length < 100000) ∧ IsVal y.2) ∨
  (m ≠ "name" ∧ ∃ xs : List V, H r = some (.lst xs) ∧ (∀ x ∈ xs, IsVal x) ∧ kvs = numd (if m = "number" then 1 else 0) xs)
def sp_table_of : Sp := fun vs H Q _ => ∃ (m : Str) (r : Addr) (kvs : List (Key × V)), vs = [.str m, .ref r] ∧ Mn m ∧ RowAt H m r kvs ∧ kvs.length < 1000 ∧
  ∀ (d : Addr) (H' : Hp), H d = none → H' d = some (.dK kvs) → Same H H' → Q (.ref d) H'
section
variable {P : Program} {w : World} {K : PySem.W.Frag} {mg : Str → Option Value} {base : Heap} {Z : Ad}
set_option maxHeartbeats 1000000 in
theorem ok_table_of (T : Txt K mg Z) : FnOk P w K mg base CX0 3 Z.a_table_of Z.d_table_of ["manner", "row"] sp_table_of := by
  refine T.F_table_of.ok sc_table_of (fun vs H Q E h => ?_) (fun cdv A outer s H vs Q E hr h => ?_)
  · obtain ⟨m, r, kvs, rfl, _⟩ := h
    rfl
  · obtain ⟨m, r, kvs, rfl, hm, hrow, hl, q⟩ := h
    have nd := sc_table_of.nd
    have hu := hu_of hr
    refine ⟨_, (pss_cons (ps_if (pt_cmpR op_eq (pv 0) pe_str (nomark _))
  (pss_cons (ps_if (pt_not (pt_val (pe_callB call_isi (by rfl) T.u_isinstance (by decide +kernel) (pa_cons (pv 1) (pa_cons (pe_bltn (v := .ty "dict") (u := .type "dict") (by rfl) T.u_dict (by decide +kernel) rfl) pa_nil)))))
  (pss_one Tw.ps_dead)
  pss_nil)
  (pss_cons (ps_if (pt_not (pt_val (pe_callB (cr_all rfl) (by rfl) T.u_all (by decide +kernel) (pa_cons (pe_lock (pe_lc (own := [("label", 5)]) rfl nd (pi_keys (pv 1)) (blkOk_by (N := N_table_of) (sc := defScope s_table_of) (by decide +kernel)) (fun _ _ _ _ _ => (pg_name (i := 5) nd rfl (Or.inl rfl))) (fun _ _ _ _ _ => pts_nil) (fun _ _ _ _ _ => (Eg.peE (pe_and (pe_call (ok_is_label T) (hr.mono (by decide)) (by rfl) T.g_is_label T.F_is_label.kp T.b_is_label .nil pass0 (pa_cons (pv 5) pa_nil)) (pe_one (pe_call (ok_is_value T) (hr.mono (by decide)) (by rfl) T.g_is_value T.F_is_value.kp T.b_is_value .nil pass0 (pa_cons (pe_dget hu (pv 1) (pv 5) (fun _ _ => rfl)) pa_nil)))) (by walk_at "blk"))))) pa_nil))))
  (pss_one Tw.ps_dead)
  pss_nil)
  (pss_one (ps_ret (pe_lock (pe_dc (own := [("label", 5)]) rfl nd (pi_keys (pv 1)) (blkOk_by (N := N_table_of) (sc := defScope s_table_of) (by decide +kernel)) (fun _ _ _ _ _ => (pg_name (i := 5) nd rfl (Or.inl rfl))) (fun _ _ _ _ _ => pts_nil) (fun _ _ _ _ _ => (Eg.peE (pv 5) (by walk_at "blk"))) (fun _ _ _ _ _ => (Eg.peE (pe_dget hu (pv 1) (pv 5) (fun _ _ => rfl)) (by walk_at "blk")))))))))
  pss_nil)
  (pss_cons (ps_if (pt_not (pt_val (pe_callB call_isiT (by rfl) T.u_isinstance (by decide +kernel) (pa_cons (pv 1) (pa_cons (pe_tup (pa_cons (pe_bltn (v := .ty "list") (u := .type "list") (by rfl) T.u_list (by decide +kernel) rfl) (pa_cons (pe_bltn (v := .ty "tuple") (u := .type "tuple") (by rfl) T.u_tuple (by decide +kernel) rfl) pa_nil))) pa_nil)))))
  (pss_one Tw.ps_dead)
  pss_nil)
  (pss_cons (ps_for PassesOwn.never rfl (pi_enum (by rfl) T.u_enumerate (pa_cons (pv 1) pa_nil)) (pg_tup (by rfl) (pgs_cons (pg_name (i := 2) nd rfl (Or.inl rfl)) (pgs_cons (pg_name (i := 3) nd rfl (Or.inl rfl)) pgs_nil)))
  (pss_one (ps_if (pt_not (pt_val (pe_call (ok_is_value T) (hr.mono (by decide)) (by rfl) T.g_is_value T.F_is_value.kp T.b_is_value .nil pass0 (pa_cons (pv 3) pa_nil))))
  (pss_one Tw.ps_dead)
  pss_nil)))
  (C8.pss_cut (ps_set (i := 4) nd rfl (Or.inr rfl) (pe_ifExp (pt_cmpR op_eq (pv 0) pe_str (nomark _)) pe_int pe_int))
  (pss_one (ps_ret (pe_dc (own := [("at", 2), ("value", 3)]) rfl nd (pi_enum (by rfl) T.u_enumerate (pa_cons (pv 1) pa_nil)) (blkOk_by (N := N_table_of) (sc := defScope s_table_of) (by decide +kernel)) (fun _ _ _ _ _ => (Eg.pgE (t' := gTup K 2 (gCons (gName 2) (gCons (gName 3) gNil))) (pg_tup (by rfl) (pgs_cons (pg_name (i := 2) nd rfl (Or.inl rfl)) (pgs_cons (pg_name (i := 3) nd rfl (Or.inl rfl)) pgs_nil))) rfl)) (fun _ _ _ _ _ => pts_nil) (fun _ _ _ _ _ => (Eg.peE (pe_op op_add (pv 4) (pv 2)) (by walk_at "blk"))) (fun _ _ _ _ _ => (Eg.peE (pv 3) (by walk_at "blk")))))))))), ?_⟩
    refine Eg.w_sig (σ := [some (.str m), some (.ref r), none, none, none, none]) rfl ?_
    walk_at "go"
    rcases hrow with ⟨rfl, h0r, hnd, hok⟩ | ⟨hne, xs, h0r, hok, rfl⟩
    · rw [decide_eq_true (rfl : V.str "name" = V.str "name")]
      walk_at "go"
      refine Eg.c_isi (.ty _) (.base (.dK h0r)) (kit_ty (b := "dict") (r := true) (by decide +kernel)) ?_
      walk_at "gw"
      refine map_keysK (F := fun _ _ => .bl true) h0r (by omega) (fun H' R _ h => Eg.w_var rfl h) (fun od H' k v R hL hm h => ?_) (fun D H1 hD s1 h1 => ?_)
      · obtain ⟨⟨l, e, hl1, hl2⟩, hv⟩ := hok _ hm
        have e : k = .inr (S l) := e
        subst e
        walk_at "go"
        refine ⟨l, rfl, hl2, fun H2 s2 => ?_⟩
        rw [hl1]
        walk_at "go"
        have dg := Tw.dgetK (k := .inr (S l)) (.inr ⟨od, (hL.to s2).1⟩)
        rw [val_mem hnd hm] at dg
        refine ⟨r, v, rfl, dg, ?_⟩
        walk_at "go"
        exact ⟨v, rfl, hv, h H2 s2⟩
      · walk_at "go"
        refine Tw.c_all (bs := kvs.map fun _ => true) (by rw [h1, List.map_map]; rfl) ?_
        rw [show (kvs.map fun _ => true).all id = true by rw [List.all_map, List.all_eq_true]; exact fun _ _ => rfl]
        walk_at "go"
        have h1r := s1 _ _ h0r
        refine copyK (show 5 < 6 by decide) h1r (by omega) hnd (fun H' R _ h => Eg.w_var rfl h) (fun od H' k v R hL hm h => ?_) (fun D H2 hD2 s2 h2 => ?_)
        · walk_at "go"
          have dg := Tw.dgetK (k := k) (.inr ⟨od, hL.1⟩)
          rw [val_mem hnd hm] at dg
          exact ⟨r, v, rfl, dg, h⟩
        · walk_at "go"
          exact q D H2 (s1.free hD2) h2 (s1.trans s2)
    · have d : decide (V.str m = V.str "name") = false := decide_eq_false fun z => hne (V.str.inj z)
      rw [d]
      walk_at "go"
      intro tp htp
      have h1r : upd H tp (.tup [.ty "list", .ty "tuple"]) r = some (.lst xs) := Eg.upd_old h0r htp
      have h1t : upd H tp (.tup [.ty "list", .ty "tuple"]) tp = some (.tup [.ty "list", .ty "tuple"]) := upd_same
      have s01 : Same H (upd H tp (.tup [.ty "list", .ty "tuple"])) := fun c o e => Eg.upd_old e htp
      generalize upd H tp (.tup [.ty "list", .ty "tuple"]) = H1 at h1r h1t s01 ⊢
      refine ⟨.ref r, tp, _, _, _, true, rfl, h1t, .cons (.ty _) (.cons (.ty _) .nil), .base (.lst h1r), rfl, ?_⟩
      walk_at "go"
      refine w_iE ?_
      walk_at "go"
      refine c_iE (SqL.of h1r) ?_
      have xl : xs.length < 1000 := by rw [numd_len] at hl; exact hl
      refine for_it (walk_enum (xs := xs)) (fun i σ' H' => ∃ v2 v3, σ' = [some (.str m), some (.ref r), v2, v3, none, none] ∧ Same H1 H') ⟨none, none, rfl, Same.refl _⟩ ?_ ?_ ?_
      · rintro i _ H2 _ ⟨v2, v3, rfl, s2⟩
        exact SqL.of (s2 _ _ h1r)
      · rintro i x _ H2 _ _ ⟨v2, v3, rfl, s2⟩ ⟨tt, y, z, rfl, htt, rfl, hy, hz⟩
        have hok' := hok z (List.mem_of_getElem? hz)
        have h3t : upd H2 tt (.tup [y, z]) tt = some (.tup [y, z]) := upd_same
        walk_at "go"
        refine ⟨z, rfl, hok', ?_⟩
        walk_at "go"
        exact ⟨_, _, rfl, fun c o e => Eg.upd_old (s2 c o e) htt⟩
      rintro _ H2 ⟨v2, v3, rfl, s2⟩
      walk_at "go"
      refine ⟨fun σ' H' => σ' = [some (.str m), some (.ref r), v2, v3, some (.int (if m = "number" then 1 else 0)), none] ∧ H2 = H', ?_, ?_⟩
      · walk_at "go"
        by_cases e : m = "number"
        · rw [decide_eq_true (show V.str m = V.str "number" by rw [e]), if_pos e]
          walk_at "go"
          exact ⟨rfl, rfl⟩
        · rw [decide_eq_false (show ¬ V.str m = V.str "number" from fun z => e (V.str.inj z)), if_neg e]
          walk_at "go"
          exact ⟨rfl, rfl⟩
      rintro _ _ ⟨rfl, rfl⟩
      generalize (if m = "number" then (1 : Int) else 0) = f at q ⊢
      walk_at "go"
      refine w_dc (w_iE ?_)
      walk_at "go"
      have h2r := s2 _ _ h1r
      refine c_iE (SqL.of h2r) ?_
      intro D hD
      refine dc_it (walk_enum (xs := xs)) (fun i H' => Same H2 H' ∧ H' D = some (.dK (numd f (xs.take i)))) ⟨Eg.same_new (Same.refl _) hD, upd_same⟩ (fun i H' _ h => SqL.of (h.1 _ _ h2r)) ?_ ?_
      · rintro i x H3 _ hi ⟨s3, h3⟩ ⟨tt, y, z, rfl, htt, rfl, hy, hz⟩
        cases hy
        have h4t : upd H3 tt (.tup [.int (i : Nat), z]) tt = some (.tup [.int (i : Nat), z]) := upd_same
        have h4D : upd H3 tt (.tup [.int (i : Nat), z]) D = some (.dK (numd f (xs.take i))) := Eg.upd_old h3 htt
        have s4 : Same H2 (upd H3 tt (.tup [.int (i : Nat), z])) := fun c o e => Eg.upd_old (s3 c o e) htt
        generalize upd H3 tt (.tup [.int (i : Nat), z]) = H4 at h4t h4D s4 ⊢
        walk_at "go"
        refine ⟨_, .inl (f + (i : Nat)), rfl, h4D, ?_, Eg.same_mut s4 hD, ?_⟩
        · rw [numd_len, List.length_take, sizeLine_eq]
          omega
        · obtain ⟨hlt, he⟩ := List.getElem?_eq_some_iff.mp hz
          rw [upd_same, putK_new, List.take_succ_eq_append_getElem hlt, he, numd_snoc, List.length_take, Nat.min_eq_left (Nat.le_of_lt hlt)]
          rw [numd_keys, List.length_take, Nat.min_eq_left (Nat.le_of_lt hlt)]
          intro hmem
          obtain ⟨j, hj, e⟩ := List.mem_map.mp hmem
          have := List.mem_range.mp hj
          have := Sum.inl.inj e
          omega
      · rintro H3 ⟨s3, h3⟩
        rw [List.take_length] at h3
        walk_at "go"
        exact q D H3 ((s01.trans s2).free hD) h3 ((s01.trans s2).trans s3)
end
end LW

namespace LW
open PySem L2 SX Tx Tc Tl
def fldsQ (ca da : Addr) (m t : Str) : List (Str × V) := [("cells", .ref ca), ("assigned", .ref da), ("manner", .str m), ("text", .str t)]
theorem flds_q (ca da : Addr) (m t : Str) : putF "text" (.str t) (putF "manner" (.str m) (putF "assigned" (.ref da) (putF "cells" (.ref ca) []))) = fldsQ ca da m t := by
  unfold fldsQ putF
  first | rfl | decide +kernel
theorem lk_cells (ca da : Addr) (m t : Str) : (fldsQ ca da m t).lookup ("cells" : Str) = some (V.ref ca) := by rfl
theorem lk_assigned (ca da : Addr) (m t : Str) : (fldsQ ca da m t).lookup ("assigned" : Str) = some (V.ref da) := by rfl
theorem RowAt.to {H H' : Hp} {m : Str} {r : Addr} {kvs : List (Key × V)} (h : RowAt H m r kvs) (e : H' r = H r) : RowAt H' m r kvs := by
  rcases h with ⟨h1, h2, h3⟩ | ⟨h1, xs, h2, h3⟩
  · exact .inl ⟨h1, e.trans h2, h3⟩
  · exact .inr ⟨h1, xs, e.trans h2, h3⟩
theorem RowAt.ob {H : Hp} {m : Str} {r : Addr} {kvs : List (Key × V)} (h : RowAt H m r kvs) : ∃ o, H r = some o ∧ ∀ C dx fs, o ≠ .ins C dx fs := by
  rcases h with ⟨_, h2, _⟩ | ⟨_, xs, h2, _⟩
  · exact ⟨_, h2, fun _ _ _ z => nomatch z⟩
  · exact ⟨_, h2, fun _ _ _ z => nomatch z⟩
/-- a query -/
def QAt (C : Addr) (H : Hp) (q : Addr) (m : Str) (cs : List Cl) (kvs : List (Key × V)) (t : Str) : Prop := ∃ (dx ca da : Addr) (ys : List V), H q = some (.ins C dx (fldsQ ca da m t)) ∧ H ca = some (.lst ys) ∧ PcsAt H ys (cs.map pc) ∧ H da = some (.dK kvs)
theorem QAt.keep {C : Addr} {H H' : Hp} {q : Addr} {m t : Str} {cs : List Cl} {kvs : List (Key × V)} (h : QAt C H q m cs kvs t) (s : Same H H') : QAt C H' q m cs kvs t := by
  obtain ⟨dx, ca, da, ys, h1, h2, h3, h4⟩ := h
  exact ⟨dx, ca, da, ys, s _ _ h1, s _ _ h2, h3.same fun b ys e => s _ _ e, s _ _ h4⟩
/-- the cells of a text by a manner -/
def cellsOf (m : Str) (ts : List Tk) : List Cl := keyC m 0 (read ts)
def sp_Query_init (C : Addr) : Sp := fun vs H Q _ => ∃ (q dx r : Addr) (m : Str) (ts : List Tk) (kvs : List (Key × V)), vs = [.ref q, .str m, .str (S (flat ts)), .ref r] ∧ H q = some (.ins C dx []) ∧ Mn m ∧ (flat ts).length < 40000 ∧ (∀ t ∈ ts, RdOk m t) ∧
  RowAt H m r kvs ∧ kvs.length < 1000 ∧ (∀ k ∈ keys (cellsOf m ts), k ∈ kvs.map (·.1)) ∧ (m = "order" → kvs.length ≤ (keys (cellsOf m ts)).length) ∧
  ∀ H', QAt C H' q m (cellsOf m ts) kvs (S (flat ts)) → (∀ b o, H b = some o → b ≠ q → H' b = some o) → Q .non H'
def sp_Query_used (C : Addr) : Sp := fun vs H Q _ => ∃ (q : Addr) (m : Str) (cs : List Cl) (kvs : List (Key × V)) (t : Str), vs = [.ref q] ∧ QAt C H q m cs kvs t ∧ cs.length < 90000 ∧
  ∀ (p : Addr) (H' : Hp), H p = none → H' p = some (.lst ((uniq (keys cs)).map kV)) → Same H H' → Q (.ref p) H'
/-- in order: ints or texts -/
def SortedK (us : List Key) : Prop := (∃ ns : List Int, us = ns.map Sum.inl ∧ ns.Pairwise (· ≤ ·)) ∨ ∃ zs : List Str, us = zs.map Sum.inr ∧ PyProof.Rows.sortedS zs = true
def sp_Query_unused (C : Addr) : Sp := fun vs H Q _ => ∃ (q : Addr) (m : Str) (cs : List Cl) (kvs : List (Key × V)) (t : Str), vs = [.ref q] ∧ QAt C H q m cs kvs t ∧ cs.length < 90000 ∧ kvs.length < 64 ∧
  ((∃ ns : List Int, kvs.map (·.1) = ns.map Sum.inl) ∨ ∃ zs : List Str, kvs.map (·.1) = zs.map Sum.inr) ∧
  ∀ (p : Addr) (us : List Key) (H' : Hp), H p = none → us.Perm ((kvs.map (·.1)).filter fun k => !decide (k ∈ keys cs)) → SortedK us → H' p = some (.lst (us.map kV)) → Same H H' → Q (.ref p) H'
/-- what is read by a manner has keys that its reader takes -/
theorem keyTxt_of {m : Str} (hm : Mn m) {ts : List Tk} (h : ∀ t ∈ ts, RdOk m t) : KeyTxt m (read ts) := fun k hk => by
  rw [keys_read] at hk
  obtain ⟨l, hl, rfl⟩ := List.mem_map.mp hk
  refine ⟨S l, rfl, fun e => ?_⟩
  subst e
  obtain ⟨t, ht, e⟩ := List.mem_filterMap.mp hl
  cases t with
  | ch c => cases e
  | ho k =>
    cases e
    have hk := (h _ ht).2.2
    unfold keyB at hk
    rw [if_neg (show ¬ decide (("number" : Str) = "order") = true by decide +kernel), if_pos (show decide (("number" : Str) = "number") = true by decide +kernel), Bool.and_eq_true] at hk
    have hc := hk.2
    unfold countB at hc
    simp only [Bool.and_eq_true, decide_eq_true_eq] at hc
    have hd : l.all (fun c => decide (48 ≤ c) && decide (c ≤ 57)) = true := hc.2
    exact ⟨_, int_S hd (fun z => by have := hc.1.1.1; rw [z] at this; exact absurd this (by decide)) (by have := hc.1.1.2; omega), by rw [S_len]; have := hc.1.1.2; omega⟩
section
variable {P : Program} {w : World} {K : PySem.W.Frag} {mg : Str → Option Value} {base : Heap} {Z : Ad}
set_option maxHeartbeats 1000000 in
theorem ok_Query_init (T : Txt K mg Z) : FnOk P w K mg base CX0 5 Z.a_Query_init Z.d_Query_init ["self", "manner", "text", "row"] (sp_Query_init Z.c_Query) := by
  refine T.F_Query_init.ok sc_Query_init (fun vs H Q E h => ?_) (fun cdv A outer s H vs Q E hr h => ?_)
  · obtain ⟨q, dx, r, m, ts, kvs, rfl, _⟩ := h
    rfl
  · obtain ⟨qa, dx, r, m, ts, kvs, rfl, hq, hm, hl, hok, hrow, hkl, hin, hord, q⟩ := h
    have nd := sc_Query_init.nd
    have hu := hu_of hr
    have cQ := T.cl_Query
    have n1 := T.n_Query_cells
    have n2 := T.n_Query_assigned
    have n3 := T.n_Query_manner
    have n4 := T.n_Query_text
    refine ⟨_, (pss_cons (ps_expr (pe_call (ok_check_manner T) (hr.mono (by decide)) (by rfl) T.g_check_manner T.F_check_manner.kp T.b_check_manner .nil pass0 (pa_cons (pv 1) pa_nil)))
  (pss_cons (ps_fld (pv 0) (pe_call (ok_keyed T) (hr.mono (by decide)) (by rfl) T.g_keyed T.F_keyed.kp T.b_keyed .nil pass0 (pa_cons (pv 1) (pa_cons (pe_call (ok_read_parts T) (hr.mono (by decide)) (by rfl) T.g_read_parts T.F_read_parts.kp T.b_read_parts .nil pass0 (pa_cons (pv 2) (pa_cons (pv 1) pa_nil))) pa_nil))) rfl)
  (pss_cons (ps_fld (pv 0) (pe_call (ok_table_of T) (hr.mono (by decide)) (by rfl) T.g_table_of T.F_table_of.kp T.b_table_of .nil pass0 (pa_cons (pv 1) (pa_cons (pv 3) pa_nil))) rfl)
  (pss_cons (ps_fld (pv 0) (pv 1) rfl)
  (pss_cons (ps_fld (pv 0) (pv 2) rfl)
  (pss_cons (ps_setLc (i := 4) (own := [("part", 7)]) rfl nd rfl rfl (sw_true rfl rfl rfl (by decide +kernel)) (pi_list (pe_fld (pv 0) rfl)) (blkOk_by (N := N_Query_init) (sc := defScope s_Query_init) (by decide +kernel)) (fun _ _ _ _ _ => (pg_name (i := 7) nd rfl (Or.inl rfl))) (fun _ _ _ _ _ => (Eg.ptsE (pts_one (pt_cmpR op_eq (pe_ix ix_tup (pv 7) pe_int (fun _ _ => rfl)) pe_str (nomark _))) (by walk_at "blk"))) (fun _ _ _ _ _ => (Eg.peE (pe_ix ix_tup (pv 7) pe_int (fun _ _ => rfl)) (by walk_at "blk"))))
  (pss_cons (ps_for PassesOwn.never rfl (pi_enum (by rfl) T.u_enumerate (pa_cons (pv 4) pa_nil)) (pg_tup (by rfl) (pgs_cons (pg_name (i := 5) nd rfl (Or.inl rfl)) (pgs_cons (pg_name (i := 6) nd rfl (Or.inl rfl)) pgs_nil)))
  (pss_one (ps_if (pt_cmp (pc_dnotin hu (pv 6) (pe_fld (pv 0) rfl)))
  (pss_one Tw.ps_dead)
  pss_nil)))
  (pss_one (ps_if (PW.pt (pw_and (pt_cmpR op_eq (pv 1) pe_str (nomark _)) (pw_and1 (pt_cmpR op_gt (pe_callB call_lenD (by rfl) T.u_len (by decide +kernel) (pa_cons (pe_fld (pv 0) rfl) pa_nil)) (pe_callB Eg.cr_len (by rfl) T.u_len (by decide +kernel) (pa_cons (pv 4) pa_nil)) (nomark _)))))
  (pss_one Tw.ps_dead)
  pss_nil))))))))), ?_⟩
    refine Eg.w_sig (σ := [some (.ref qa), some (.str m), some (.str (S (flat ts))), some (.ref r), none, none, none, none]) rfl ?_
    walk_at "go"
    refine ⟨m, rfl, hm, fun H1 s1 => ?_⟩
    walk_at "go"
    refine ⟨ts, m, rfl, hl, hok, fun p xs H2 hp2 h2p px2 s2 => ?_⟩
    walk_at "go"
    rw [read_map] at px2
    have rlen := read_len ts
    have flen := flat_len ts
    refine ⟨p, xs, read ts, m, rfl, hm, h2p, px2, by omega, keyTxt_of hm hok, fun ca ys H3 hca h3c py3 s3 => ?_⟩
    have s03 : Same H H3 := (s1.trans s2).trans s3
    have h0ca : H ca = none := (s1.trans s2).free hca
    clear s1 s2 s3 px2 h2p hp2 hca
    have h3q := s03 _ _ hq
    have caq : ca ≠ qa := (ne_of_none hq h0ca).symm
    walk_at "go"
    obtain ⟨ro, hro, hrn⟩ := hrow.ob
    have rq : r ≠ qa := fun z => by rw [z, hq] at hro; exact hrn _ _ _ (Option.some.inj hro).symm
    have s34 : ∀ (o1 : HO) (b : Addr) (o : HO), H b = some o → b ≠ qa → upd H3 qa o1 b = some o := fun o1 b o e n => Eg.upd_mut n (s03 _ _ e)
    refine ⟨m, r, kvs, rfl, hm, hrow.to ((s34 _ r ro hro rq).trans hro.symm), hkl, fun da H5 hda h5d s5 => ?_⟩
    have h5q := s5 _ _ (upd_same (H := H3) (a := qa) (o := .ins Z.c_Query dx (putF "cells" (V.ref ca) [])))
    have h5c := s5 _ _ (Eg.upd_mut (o1 := .ins Z.c_Query dx (putF "cells" (V.ref ca) [])) caq h3c)
    have py5 := py3.same fun b zs e => s5 _ _ (Eg.upd_mut (o1 := .ins Z.c_Query dx (putF "cells" (V.ref ca) [])) (ne_of e h3q (fun z => nomatch z)) e)
    have daq : da ≠ qa := fun z => by rw [z, upd_same] at hda; cases hda
    have k05 : ∀ b o, H b = some o → b ≠ qa → H5 b = some o := fun b o e n => s5 _ _ (s34 _ b o e n)
    clear s5 hda s34 h3c py3
    walk_at "gw"
    rw [flds_q]
    have h6q : upd (upd (upd H5 qa (.ins Z.c_Query dx (putF "assigned" (V.ref da) (putF "cells" (V.ref ca) [])))) qa (.ins Z.c_Query dx (putF "manner" (V.str m) (putF "assigned" (V.ref da) (putF "cells" (V.ref ca) []))))) qa (.ins Z.c_Query dx (fldsQ ca da m (S (flat ts)))) qa = some (.ins Z.c_Query dx (fldsQ ca da m (S (flat ts)))) := upd_same
    have k56 : ∀ b o, H5 b = some o → b ≠ qa → upd (upd (upd H5 qa (.ins Z.c_Query dx (putF "assigned" (V.ref da) (putF "cells" (V.ref ca) [])))) qa (.ins Z.c_Query dx (putF "manner" (V.str m) (putF "assigned" (V.ref da) (putF "cells" (V.ref ca) []))))) qa (.ins Z.c_Query dx (fldsQ ca da m (S (flat ts)))) b = some o := fun b o e n => Eg.upd_mut n (Eg.upd_mut n (Eg.upd_mut n e))
    generalize upd (upd (upd H5 qa (.ins Z.c_Query dx (putF "assigned" (V.ref da) (putF "cells" (V.ref ca) [])))) qa (.ins Z.c_Query dx (putF "manner" (V.str m) (putF "assigned" (V.ref da) (putF "cells" (V.ref ca) []))))) qa (.ins Z.c_Query dx (fldsQ ca da m (S (flat ts)))) = H6 at h6q k56 ⊢
    have h6c := k56 _ _ h5c caq
    have h6d := k56 _ _ h5d daq
    have py6 := py5.same fun b zs e => k56 _ _ e (ne_of e h5q (fun z => nomatch z))
    have k06 : ∀ b o, H b = some o → b ≠ qa → H6 b = some o := fun b o e n => k56 _ _ (k05 b o e n) n
    clear h5q h5c py5 k05 h5d k56 h3q s03 H5 H3
    have fin : ∀ H', Same H6 H' → Q .non H' := fun H' s' => q H' ⟨dx, ca, da, ys, s' _ _ h6q, s' _ _ h6c, py6.same fun b zs e => s' _ _ e, s' _ _ h6d⟩ fun b o e n => s' _ _ (k06 b o e n)
    have yl := py6.len
    rw [List.length_map, keyC_len] at yl
    obtain ⟨L, hL1, hL2, hL3⟩ := pcs_pairs py6
    have lk1 := lk_cells ca da m (S (flat ts))
    have lk2 := lk_assigned ca da m (S (flat ts))
    refine fm_list (xs := L) (G := fun q => .ref q.1) (F := fun q => keyV q.2) (P := fun q => isHole q.2) (by rw [h6c, hL1]) (by have := congrArg List.length hL2; rw [List.length_map] at this; rw [this]; show (keyC m 0 (read ts)).length < _; rw [keyC_len]; omega) (fun R h => ?_) (fun H' z R s' hz h => ?_) (fun H' z R s' hz hp h => ?_) (fun D H7 hD s7 h7 => ?_)
    · walk_at "go"
      exact h
    · obtain ⟨t, c⟩ := z
      have ht := s' _ _ (hL3 _ hz)
      cases c with
      | inl l =>
        have ht : H' t = some (.tup [.str "say", .str (S l)]) := ht
        walk_at "go"
        rw [d_sh]
        exact h _ (Same.refl _)
      | inr k =>
        have ht : H' t = some (.tup [.str "hole", kV k]) := ht
        walk_at "go"
        rw [decide_eq_true (rfl : V.str "hole" = V.str "hole")]
        exact h _ (Same.refl _)
    · obtain ⟨t, c⟩ := z
      have ht := s' _ _ (hL3 _ hz)
      cases c with
      | inl l => cases hp
      | inr k =>
        have ht : H' t = some (.tup [.str "hole", kV k]) := ht
        walk_at "go"
        exact h _ (Same.refl _)
    rw [filt_keys, hL2] at h7
    have h7 : H7 D = some (.lst ((keys (cellsOf m ts)).map kV)) := h7
    have kl : (keys (cellsOf m ts)).length ≤ (cellsOf m ts).length := List.length_filterMap_le _ _
    have cl : (cellsOf m ts).length = (read ts).length := keyC_len _ _ _
    walk_at "go"
    refine w_iE ?_
    walk_at "go"
    refine c_iE (SqL.of h7) ?_
    refine for_it (walk_enum (xs := (keys (cellsOf m ts)).map kV)) (fun i σ' H' => ∃ v5 v6, σ' = [some (.ref qa), some (.str m), some (.str (S (flat ts))), some (.ref r), some (.ref D), v5, v6, none] ∧ Same H7 H') ⟨none, none, rfl, Same.refl _⟩ ?_ ?_ ?_
    · rintro i _ H8 _ ⟨v5, v6, rfl, s8⟩
      exact SqL.of (s8 _ _ h7)
    · rintro i x _ H8 _ _ ⟨v5, v6, rfl, s8⟩ ⟨tt, y, z, rfl, htt, rfl, hy, hz⟩
      have hz : ((keys (cellsOf m ts)).map kV)[i]? = some z := hz
      rw [List.getElem?_map] at hz
      obtain ⟨k, hk, rfl⟩ := Option.map_eq_some_iff.mp hz
      obtain ⟨v, hv⟩ := val_some (hin k (List.mem_of_getElem? hk))
      have h9t : upd H8 tt (.tup [y, kV k]) tt = some (.tup [y, kV k]) := upd_same
      have s9 : Same H7 (upd H8 tt (.tup [y, kV k])) := fun c o e => Eg.upd_old (s8 c o e) htt
      have h9q := s9 _ _ (s7 _ _ h6q)
      have dg := Tw.dgetK (k := k) (.inl (s9 _ _ (s7 _ _ h6d)))
      rw [hv] at dg
      generalize upd H8 tt (.tup [y, kV k]) = H9 at h9t s9 h9q dg ⊢
      walk_at "go"
      refine Eg.c_dnin dg ?_
      walk_at "go"
      refine Eg.brF rfl ?_
      walk_at "go"
      exact ⟨_, _, rfl, s9⟩
    rintro _ H8 ⟨v5, v6, rfl, s8⟩
    have h8q := s8 _ _ (s7 _ _ h6q)
    have h8d := s8 _ _ (s7 _ _ h6d)
    have h8D := s8 _ _ h7
    walk_at "go"
    by_cases e : m = "order"
    · rw [decide_eq_true (show V.str m = V.str "order" by rw [e])]
      walk_at "go"
      refine ⟨da, kvs, rfl, h8d, ?_⟩
      walk_at "go"
      have ho := hord e
      refine Eg.brDF (by rw [List.length_map]; omega) ?_
      walk_at "go"
      exact fin H8 (s7.trans s8)
    · rw [decide_eq_false (show ¬ V.str m = V.str "order" from fun z => e (V.str.inj z))]
      walk_at "go"
      exact fin H8 (s7.trans s8)
end
end LW

namespace LW
open PySem L2 SX Tx
/-! what a law of texts draws from -/
def BagB (H : Hp) (a : Addr) : Prop := ∃ d m : Int, H a = some (.lst [.int d, .int m]) ∧ 0 ≤ d ∧ 0 ≤ m ∧ m < 2147483648
theorem BagB.ob {H : Hp} {a : Addr} (h : BagB H a) : ∃ xs, H a = some (.lst xs) := let ⟨_, _, e, _⟩ := h; ⟨_, e⟩
theorem BagB.to {H H' : Hp} {a : Addr} (h : BagB H a) (e : H' a = H a) : BagB H' a := let ⟨d, m, h1, h2⟩ := h; ⟨d, m, e.trans h1, h2⟩
theorem BagB.keep {H H' : Hp} {a : Addr} (h : BagB H a) (s : Same H H') : BagB H' a := let ⟨d, m, h1, h2⟩ := h; ⟨d, m, s _ _ h1, h2⟩
/-- all but the bag stands -/
def KeptB (b : Addr) (H H' : Hp) : Prop := ∀ c o, H c = some o → c ≠ b → H' c = some o
theorem KeptB.trans {b : Addr} {H H' H'' : Hp} (h : KeptB b H H') (h' : KeptB b H' H'') : KeptB b H H'' := fun c o e n => h' c o (h c o e n) n
theorem KeptB.of {b : Addr} {H H' : Hp} (h : Same H H') : KeptB b H H' := fun c o e _ => h c o e
theorem KeptB.fr {b : Addr} {H H' : Hp} (h : ∀ c, c ≠ b → H' c = H c) : KeptB b H H' := fun c o e n => (h c n).trans e
def sp_l_bag (K : PySem.W.Frag) : Sp := fun vs H Q _ => ∃ (a : Addr) (ns : List Int) (i : Int), vs = [.ref a, .int i] ∧ SqL K H a (ns.map V.int) ∧ ns.length ≤ 63 ∧ 0 ≤ i ∧ i < 100 ∧
  ∀ (b : Addr) (H' : Hp), H b = none → BagB H' b → Same H H' → Q (.ref b) H'
def sp_l_take : Sp := fun vs H Q _ => ∃ (a : Addr) (n : Int), vs = [.ref a, .int n] ∧ BagB H a ∧ 0 < n ∧ n < 1073741824 ∧
  ∀ (r : Int) (H' : Hp), 0 ≤ r → r < n → BagB H' a → (∀ b, b ≠ a → H' b = H b) → Q (.int r) H'
def sp_l_of : Sp := fun vs H Q _ => ∃ (a b : Addr) (xs : List V), vs = [.ref a, .ref b] ∧ BagB H a ∧ H b = some (.lst xs) ∧ 0 < xs.length ∧ xs.length < 1000 ∧ b ≠ a ∧
  ∀ (v : V) (H' : Hp), v ∈ xs → BagB H' a → (∀ c, c ≠ a → H' c = H c) → Q v H'
def sp_l_wide : Sp := fun vs H Q _ => ∃ (a : Addr) (n : Int), vs = [.ref a, .int n] ∧ BagB H a ∧ 0 < n ∧
  ∀ (r : Int) (H' : Hp), 0 ≤ r → r < n → BagB H' a → KeptB a H H' → Q (.int r) H'
/-- a drawn value -/
inductive DV : V → Prop
  | int (i : Int) : (if i < 0 then -i else i) < most → DV (.int i)
  | str (l : List Nat) : l.length ≤ 12 → (∀ c ∈ l, 32 ≤ c ∧ c ≤ 126) → DV (.str (S l))
theorem DV.val {v : V} (h : DV v) : IsVal v := by
  cases h with
  | int i hi => exact .int i hi
  | str l _ _ => exact .str l
def sp_l_value : Sp := fun vs H Q _ => ∃ a : Addr, vs = [.ref a] ∧ BagB H a ∧ ∀ (v : V) (H' : Hp), DV v → BagB H' a → KeptB a H H' → Q v H'
def sp_l_literal : Sp := fun vs H Q _ => ∃ (a : Addr) (n : Int), vs = [.ref a, .int n] ∧ BagB H a ∧ 0 ≤ n ∧ n < 100 ∧
  ∀ (l : List Nat) (H' : Hp), l.all litB = true → (l.length : Int) ≤ n → BagB H' a → KeptB a H H' → Q (.str (S l)) H'
def sp_l_labels : Sp := fun vs H Q _ => ∃ (a : Addr) (n : Nat), vs = [.ref a, .int (n : Int)] ∧ BagB H a ∧ n ≤ 26 ∧
  ∀ (p : Addr) (ls : List (List Nat)) (H' : Hp), H p = none → H' p = some (.lst (ls.map fun l => V.str (S l))) → ls.length = n → ls.Nodup → (∀ l ∈ ls, labelB l = true ∧ l.length ≤ 14) → BagB H' a → KeptB a H H' → Q (.ref p) H'
section
variable {P : Program} {w : World} {K : PySem.W.Frag} {mg : Str → Option Value} {base : Heap} {Z : Ad}
theorem atI_lt {ns : List Int} {i : Int} (h0 : 0 ≤ i) (h1 : i < (ns.length : Int)) : ∃ z, atI (ns.map V.int) i = some (V.int z) := by
  obtain ⟨j, rfl⟩ := Int.eq_ofNat_of_zero_le h0
  have hj : j < ns.length := by omega
  refine ⟨ns[j], atI_nat ?_⟩
  rw [List.getElem?_map, List.getElem?_eq_getElem hj]
  rfl
theorem cut_ints (ns : List Int) : ∃ ms : List Int, cutV (ns.map V.int) none (some 60) = ms.map V.int ∧ ms.length ≤ ns.length := by
  unfold cutV
  refine ⟨(ns.drop _).take _, by rw [← List.map_drop, ← List.map_take, List.length_map], ?_⟩
  rw [List.length_take, List.length_drop]
  omega
theorem ok_l_bag (T : Txt K mg Z) : FnOk P w K mg base CX0 1 Z.a_l_bag Z.d_l_bag ["_law_script", "_law_at"] (sp_l_bag K) := by
  refine T.F_l_bag.ok sc_l_bag (fun vs H Q E h => ?_) (fun cdv A outer s H vs Q E hr h => ?_)
  · obtain ⟨a, ns, i, rfl, _⟩ := h
    rfl
  · obtain ⟨a, ns, i, rfl, hS, hnl, h0, h1, q⟩ := h
    have nd := sc_l_bag.nd
    refine ⟨_, (C8.pss_cut (ps_set (i := 2) nd rfl (Or.inl rfl) (pe_ifExp (pt_cmpR op_lt (pv 1) (pe_callB Eg.cr_len (by rfl) T.u_len (by decide +kernel) (pa_cons (pv 0) pa_nil)) (nomark _)) (pe_ix ix_list (pv 0) (pv 1) (fun _ _ => rfl)) pe_int))
  (pss_cons (ps_set (i := 3) nd rfl (Or.inl rfl) (pe_op op_add (pe_op op_mul pe_int (pv 1)) pe_int))
  (pss_cons (ps_for PassesOwn.never rfl (pi_enum (by rfl) T.u_enumerate (pa_cons (pe_slice sl_list (pv 0) po_none (po_some pe_int)) pa_nil)) (pg_tup (by rfl) (pgs_cons (pg_name (i := 4) nd rfl (Or.inl rfl)) (pgs_cons (pg_name (i := 5) nd rfl (Or.inl rfl)) pgs_nil)))
  (pss_one (ps_set (i := 3) nd rfl (Or.inl rfl) (pe_op op_mod (pe_callTy Eg.cr_int (by rfl) T.u_int (by decide +kernel) (pa_cons (pe_op op_add (pe_op op_add (pe_op op_mul (pv 3) pe_int) (pe_op op_mod (pe_callTy Eg.cr_int (by rfl) T.u_int (by decide +kernel) (pa_cons (pv 5) pa_nil)) pe_int)) (pe_op op_mul pe_int (pv 4))) pa_nil)) pe_int))))
  (pss_one (ps_ret (pe_lst (pa_cons (pe_ifExp (pt_cmpR op_ge (pe_callB Eg.cr_abs (by rfl) T.u_abs (by decide +kernel) (pa_cons (pv 2) pa_nil)) (pe_op op_pow pe_int pe_int) (nomark _)) (pe_callB Eg.cr_abs (by rfl) T.u_abs (by decide +kernel) (pa_cons (pv 2) pa_nil)) pe_int) (pa_cons (pv 3) pa_nil)))))))), ?_⟩
    refine Eg.w_sig (σ := [some (.ref a), some (.int i), none, none, none, none]) rfl ?_
    refine ⟨fun σ' H' => ∃ z : Int, σ' = [some (.ref a), some (.int i), some (.int z), none, none, none] ∧ H = H', ?_, ?_⟩
    · walk_at "go"
      refine Eg.brD (fun h => ?_) (fun h => ?_)
      · obtain ⟨z, hz⟩ := atI_lt h0 (by simpa using h)
        walk_at "go"
        exact ⟨z, rfl, rfl⟩
      · walk_at "go"
        exact ⟨0, rfl, rfl⟩
    rintro _ _ ⟨z, rfl, rfl⟩
    walk_at "go"
    refine Tl.w_iE ?_
    walk_at "go"
    refine ⟨a, ns.map V.int, rfl, hS, fun p hp => ?_⟩
    obtain ⟨ms, em, ml⟩ := cut_ints ns
    rw [em]
    have h1p : upd H p (.lst (ms.map V.int)) p = some (.lst (ms.map V.int)) := upd_same
    have s1 : Same H (upd H p (.lst (ms.map V.int))) := fun c o e => Eg.upd_old e hp
    generalize upd H p (.lst (ms.map V.int)) = H1 at h1p s1 ⊢
    walk_at "go"
    refine Tl.c_iE (SqL.of h1p) ?_
    refine for_it (walk_enum (xs := ms.map V.int)) (fun j σ' H' => ∃ (m : Int) (v4 v5 : Option V), σ' = [some (.ref a), some (.int i), some (.int z), some (.int m), v4, v5] ∧ 0 ≤ m ∧ m < 2147483648 ∧ Same H1 H') ⟨7919 * i + 4241, none, none, rfl, by omega, by omega, Same.refl _⟩ ?_ ?_ ?_
    · rintro j _ H2 _ ⟨m, v4, v5, rfl, _, _, s2⟩
      exact SqL.of (s2 _ _ h1p)
    · rintro j x _ H2 _ hj ⟨m, v4, v5, rfl, m0, m1, s2⟩ ⟨tt, y, e, rfl, htt, rfl, hy, he⟩
      cases hy
      have he : (ms.map V.int)[j]? = some e := he
      rw [List.getElem?_map] at he
      obtain ⟨n, hn, rfl⟩ := Option.map_eq_some_iff.mp he
      have h3t : upd H2 tt (.tup [.int (j : Nat), .int n]) tt = some (.tup [.int (j : Nat), .int n]) := upd_same
      have s3 : Same H1 (upd H2 tt (.tup [.int (j : Nat), .int n])) := fun c o e => Eg.upd_old (s2 c o e) htt
      generalize upd H2 tt (.tup [.int (j : Nat), .int n]) = H3 at h3t s3 ⊢
      walk_at "go"
      exact ⟨_, _, _, rfl, by omega, by omega, s3⟩
    rintro _ H2 ⟨m, v4, v5, rfl, m0, m1, s2⟩
    walk_at "go"
    refine Eg.brD (fun h => ?_) (fun h => ?_)
    · walk_at "go"
      intro b hb
      walk_at "go"
      exact q b _ ((s1.trans s2).free hb) ⟨_, m, upd_same, by split <;> omega, m0, m1⟩ fun c o e => Eg.upd_old ((s1.trans s2) c o e) hb
    · walk_at "go"
      intro b hb
      walk_at "go"
      exact q b _ ((s1.trans s2).free hb) ⟨0, m, upd_same, by decide, m0, m1⟩ fun c o e => Eg.upd_old ((s1.trans s2) c o e) hb
theorem ok_l_take (T : Txt K mg Z) : FnOk P w K mg base CX0 1 Z.a_l_take Z.d_l_take ["_law_bag_here", "_law_many"] sp_l_take := by
  refine T.F_l_take.ok sc_l_take (fun vs H Q E h => ?_) (fun cdv A outer s H vs Q E hr h => ?_)
  · obtain ⟨a, n, rfl, _⟩ := h
    rfl
  · obtain ⟨a, n, rfl, ⟨d, m, ha, hd, hm, hm2⟩, hn, hn2, q⟩ := h
    have nd := sc_l_take.nd
    refine ⟨_, (pss_cons (ps_if (pt_cmpR op_gt (pe_ix ix_list (pv 0) pe_int (fun _ _ => rfl)) pe_int (nomark _))
  (pss_cons (ps_set (i := 2) nd rfl (Or.inl rfl) (pe_op op_mod (pe_callTy Eg.cr_int (by rfl) T.u_int (by decide +kernel) (pa_cons (pe_ix ix_list (pv 0) pe_int (fun _ _ => rfl)) pa_nil)) (pv 1)))
  (pss_cons (ps_asg (pe_op op_fdiv (pe_ix ix_list (pv 0) pe_int (fun _ _ => rfl)) (pv 1)) (pg_sub (pv 0) pe_int set_list))
  (pss_one (ps_ret (pv 2)))))
  pss_nil)
  (pss_cons (ps_asg (pe_op op_mod (pe_callTy Eg.cr_int (by rfl) T.u_int (by decide +kernel) (pa_cons (pe_op op_add (pe_op op_mul (pe_ix ix_list (pv 0) pe_int (fun _ _ => rfl)) pe_int) pe_int) pa_nil)) pe_int) (pg_sub (pv 0) pe_int set_list))
  (pss_one (ps_ret (pe_op op_mod (pe_op op_fdiv (pe_op op_mod (pe_callTy Eg.cr_int (by rfl) T.u_int (by decide +kernel) (pa_cons (pe_op op_mul (pe_op op_fdiv (pe_ix ix_list (pv 0) pe_int (fun _ _ => rfl)) pe_int) pe_int) pa_nil)) pe_int) pe_int) (pv 1)))))), ?_⟩
    refine Eg.w_sig (σ := [some (.ref a), some (.int n), none]) rfl ?_
    walk_at "go"
    refine Eg.brD (fun h => ?_) (fun h => ?_)
    · walk_at "go"
      refine q _ _ (Int.emod_nonneg _ (by omega)) (Int.emod_lt_of_pos _ hn) ⟨_, m, upd_same, Int.ediv_nonneg hd (by omega), hm, hm2⟩ fun b hb => ?_
      rw [upd_ne hb]
    · walk_at "go"
      refine q _ _ (Int.emod_nonneg _ (by omega)) (Int.emod_lt_of_pos _ hn) ⟨d, _, upd_same, hd, by omega, by omega⟩ fun b hb => ?_
      rw [upd_ne hb]
theorem ok_l_of (T : Txt K mg Z) : FnOk P w K mg base CX0 2 Z.a_l_of Z.d_l_of ["_law_bag_here", "_law_some"] sp_l_of := by
  refine T.F_l_of.ok sc_l_of (fun vs H Q E h => ?_) (fun cdv A outer s H vs Q E hr h => ?_)
  · obtain ⟨a, b, xs, rfl, _⟩ := h
    rfl
  · obtain ⟨a, b, xs, rfl, hb, hs, h0, h1, hne, q⟩ := h
    refine ⟨_, (pss_one (ps_ret (pe_ix ix_list (pv 1) (pe_call (ok_l_take T) (hr.mono (by decide)) (by rfl) T.g_l_take T.F_l_take.kp T.b_l_take .nil pass0 (pa_cons (pv 0) (pa_cons (pe_callB Eg.cr_len (by rfl) T.u_len (by decide +kernel) (pa_cons (pv 1) pa_nil)) pa_nil))) (fun _ _ => rfl)))), ?_⟩
    refine Eg.w_sig (σ := [some (.ref a), some (.ref b)]) rfl ?_
    walk_at "go"
    refine ⟨a, _, rfl, hb, by omega, by omega, fun r H' r0 r1 hb' fr => ?_⟩
    obtain ⟨j, rfl⟩ := Int.eq_ofNat_of_zero_le r0
    have hj : j < xs.length := by omega
    have hv : atI xs (j : Int) = some xs[j] := atI_nat (List.getElem?_eq_getElem hj)
    have hs' : H' b = some (.lst xs) := (fr b hne).trans hs
    walk_at "go"
    exact q _ H' (List.getElem_mem hj) hb' fr
theorem ok_l_wide (T : Txt K mg Z) : FnOk P w K mg base CX0 2 Z.a_l_wide Z.d_l_wide ["_law_bag_here", "_law_many"] sp_l_wide := by
  refine T.F_l_wide.ok sc_l_wide (fun vs H Q E h => ?_) (fun cdv A outer s H vs Q E hr h => ?_)
  · obtain ⟨a, n, rfl, _⟩ := h
    rfl
  · obtain ⟨a, n, rfl, hb, hn, q⟩ := h
    have nd := sc_l_wide.nd
    refine ⟨_, (pss_cons (ps_set (i := 2) nd rfl (Or.inl rfl) pe_int)
  (pss_cons (ps_for PassesOwn.never rfl (pi_range1 (by rfl) T.u_range (pa_cons pe_int pa_nil)) (pg_name (i := 3) nd rfl (Or.inl rfl))
  (pss_one (ps_set (i := 2) nd rfl (Or.inl rfl) (pe_op op_add (pe_op op_mul (pv 2) pe_int) (pe_call (ok_l_take T) (hr.mono (by decide)) (by rfl) T.g_l_take T.F_l_take.kp T.b_l_take .nil pass0 (pa_cons (pv 0) (pa_cons pe_int pa_nil)))))))
  (pss_one (ps_ret (pe_op op_mod (pe_callTy Eg.cr_int (by rfl) T.u_int (by decide +kernel) (pa_cons (pv 2) pa_nil)) (pv 1)))))), ?_⟩
    refine Eg.w_sig (σ := [some (.ref a), some (.int n), none, none]) rfl ?_
    walk_at "go"
    refine for_range (lo := 0) (fun i σ' H' => ∃ (f : Int) (v3 : Option V), σ' = [some (.ref a), some (.int n), some (.int f), v3] ∧ BagB H' a ∧ KeptB a H H') ⟨0, none, rfl, hb, fun c o e _ => e⟩ ?_ ?_
    · rintro i _ H1 hi ⟨f, v3, rfl, hb1, k1⟩
      walk_at "go"
      refine ⟨a, _, rfl, hb1, by decide, by decide, fun r H2 r0 r1 hb2 f2 => ?_⟩
      walk_at "go"
      exact ⟨_, _, rfl, hb2, k1.trans (.fr f2)⟩
    · rintro _ H1 ⟨f, v3, rfl, hb1, k1⟩
      walk_at "go"
      exact q _ H1 (Int.emod_nonneg _ (by omega)) (Int.emod_lt_of_pos _ hn) hb1 k1
def valL : List (List Nat) := [[97], [49], [48], [123, 125], [123, 97, 125], [32], [120], [63]]
theorem valL_eq : ([.str "a", .str "1", .str "0", .str "{}", .str "{a}", .str " ", .str "x", .str "?"] : List V) = valL.map fun l => V.str (S l) := by decide +kernel
theorem valL_ok : ∀ l ∈ valL, l.length ≤ 3 ∧ ∀ c ∈ l, 32 ≤ c ∧ c ≤ 126 := by decide
theorem ok_l_value (T : Txt K mg Z) : FnOk P w K mg base CX0 3 Z.a_l_value Z.d_l_value ["_law_bag_here"] sp_l_value := by
  refine T.F_l_value.ok sc_l_value (fun vs H Q E h => ?_) (fun cdv A outer s H vs Q E hr h => ?_)
  · obtain ⟨a, rfl, _⟩ := h
    rfl
  · obtain ⟨a, rfl, hb, q⟩ := h
    have nd := sc_l_value.nd
    refine ⟨_, (pss_cons (ps_set (i := 1) nd rfl (Or.inl rfl) (pe_call (ok_l_take T) (hr.mono (by decide)) (by rfl) T.g_l_take T.F_l_take.kp T.b_l_take .nil pass0 (pa_cons (pv 0) (pa_cons pe_int pa_nil))))
  (pss_cons (ps_if (pt_cmpR op_eq (pv 1) pe_int (nomark _))
  (pss_one (ps_ret (pe_op op_sub (pe_call (ok_l_take T) (hr.mono (by decide)) (by rfl) T.g_l_take T.F_l_take.kp T.b_l_take .nil pass0 (pa_cons (pv 0) (pa_cons pe_int pa_nil))) pe_int)))
  pss_nil)
  (pss_cons (ps_if (pt_cmpR op_eq (pv 1) pe_int (nomark _))
  (pss_one (ps_ret (pe_op op_mul (pe_call (ok_l_wide T) (hr.mono (by decide)) (by rfl) T.g_l_wide T.F_l_wide.kp T.b_l_wide .nil pass0 (pa_cons (pv 0) (pa_cons (pe_op op_pow pe_int pe_int) pa_nil))) (pe_call (ok_l_of T) (hr.mono (by decide)) (by rfl) T.g_l_of T.F_l_of.kp T.b_l_of .nil pass0 (pa_cons (pv 0) (pa_cons (pe_lst (pa_cons pe_int (pa_cons (pe_un un_neg pe_int) pa_nil))) pa_nil))))))
  pss_nil)
  (pss_cons (ps_set (i := 2) nd rfl (Or.inl rfl) pe_str)
  (pss_cons (ps_for PassesOwn.never rfl (pi_range1 (by rfl) T.u_range (pa_cons (pe_call (ok_l_take T) (hr.mono (by decide)) (by rfl) T.g_l_take T.F_l_take.kp T.b_l_take .nil pass0 (pa_cons (pv 0) (pa_cons pe_int pa_nil))) pa_nil)) (pg_name (i := 3) nd rfl (Or.inl rfl))
  (pss_one (ps_set (i := 2) nd rfl (Or.inl rfl) (pe_op Es.op_addS (pv 2) (pe_call (ok_l_of T) (hr.mono (by decide)) (by rfl) T.g_l_of T.F_l_of.kp T.b_l_of .nil pass0 (pa_cons (pv 0) (pa_cons (pe_lst (pa_cons pe_str (pa_cons pe_str (pa_cons pe_str (pa_cons pe_str (pa_cons pe_str (pa_cons pe_str (pa_cons pe_str (pa_cons pe_str pa_nil))))))))) pa_nil)))))))
  (pss_one (ps_ret (pv 2)))))))), ?_⟩
    refine Eg.w_sig (σ := [some (.ref a), none, none, none]) rfl ?_
    walk_at "go"
    refine ⟨a, _, rfl, hb, by decide, by decide, fun r H1 r0 r1 hb1 f1 => ?_⟩
    have k1 : KeptB a H H1 := .fr f1
    walk_at "go"
    rw [Eg.int_eq]
    refine Eg.brD (fun e => ?_) (fun e => ?_)
    · walk_at "go"
      refine ⟨a, _, rfl, hb1, by decide, by decide, fun r2 H2 r20 r21 hb2 f2 => ?_⟩
      walk_at "go"
      exact q _ H2 (.int _ (by unfold most; split <;> omega)) hb2 (k1.trans (.fr f2))
    walk_at "go"
    rw [Eg.int_eq]
    refine Eg.brD (fun e => ?_) (fun e => ?_)
    · walk_at "go"
      have e40 : (10 : Int) ^ Int.toNat 40 = most := by decide +kernel
      refine ⟨a, _, rfl, hb1, by rw [e40]; decide +kernel, fun r2 H2 r20 r21 hb2 k2' => ?_⟩
      rw [e40] at r21
      have k2 := k1.trans k2'
      walk_at "go"
      intro o ho
      obtain ⟨bs, eb⟩ := hb2.ob
      have hoa : o ≠ a := (ne_of_none eb ho).symm
      have s3 : Same H2 (upd H2 o (.lst [V.int 1, V.int (-1)])) := fun c o' e => Eg.upd_old e ho
      have h3 : upd H2 o (.lst [V.int 1, V.int (-1)]) o = some (.lst [V.int 1, V.int (-1)]) := upd_same
      generalize upd H2 o (.lst [V.int 1, V.int (-1)]) = H3 at s3 h3 ⊢
      walk_at "go"
      refine ⟨a, o, _, rfl, hb2.keep s3, h3, (show 0 < 2 by decide), (show 2 < 1000 by decide), hoa, fun v H4 hv hb4 f4 => ?_⟩
      have k4 := (k2.trans (.of s3)).trans (.fr f4)
      obtain ⟨z, rfl, hz⟩ : ∃ z : Int, v = .int z ∧ (z = 1 ∨ z = -1) := by
        rcases List.mem_cons.mp hv with rfl | hv
        · exact ⟨1, rfl, .inl rfl⟩
        · rcases List.mem_cons.mp hv with rfl | hv
          · exact ⟨-1, rfl, .inr rfl⟩
          · cases hv
      have cm : CMul r2 z := .inr (by rcases hz with rfl | rfl <;> decide)
      walk_at "go"
      refine q _ H4 (.int _ ?_) hb4 k4
      rcases hz with rfl | rfl
      · rw [Int.mul_one]
        split <;> omega
      · rw [show r2 * -1 = -r2 by omega]
        split <;> omega
    walk_at "go"
    refine ⟨a, _, rfl, hb1, by decide, by decide, fun r2 H2 r20 r21 hb2 f2 => ?_⟩
    have k2 := k1.trans (.fr f2)
    walk_at "go"
    have emp : ("" : Str) = S [] := by decide +kernel
    rw [emp]
    refine for_range (lo := 0) (fun i σ' H' => ∃ (l : List Nat) (v3 : Option V), σ' = [some (.ref a), some (.int r), some (.str (S l)), v3] ∧ l.length ≤ 3 * i ∧ (∀ c ∈ l, 32 ≤ c ∧ c ≤ 126) ∧ BagB H' a ∧ KeptB a H H') ⟨[], none, rfl, Nat.zero_le _, (fun _ z => nomatch z), hb2, k2⟩ ?_ ?_
    · rintro i _ H3 hi ⟨l, v3, rfl, ll, lc, hb3, k3⟩
      have i4 : i < 4 := by omega
      walk_at "go"
      intro o ho
      obtain ⟨bs, eb⟩ := hb3.ob
      have hoa : o ≠ a := (ne_of_none eb ho).symm
      rw [valL_eq]
      have s4 : Same H3 (upd H3 o (.lst (valL.map fun l => V.str (S l)))) := fun c o' e => Eg.upd_old e ho
      have h4 : upd H3 o (.lst (valL.map fun l => V.str (S l))) o = some (.lst (valL.map fun l => V.str (S l))) := upd_same
      generalize upd H3 o (.lst (valL.map fun l => V.str (S l))) = H4 at s4 h4 ⊢
      walk_at "go"
      refine ⟨a, o, _, rfl, hb3.keep s4, h4, (show 0 < 8 by decide), (show 8 < 1000 by decide), hoa, fun v H5 hv hb5 f5 => ?_⟩
      obtain ⟨m, hm, rfl⟩ := List.mem_map.mp hv
      obtain ⟨ml, mc⟩ := valL_ok m hm
      walk_at "go"
      refine ⟨_, _, rfl, by rw [List.length_append]; omega, fun c hc => ?_, hb5, (k3.trans (.of s4)).trans (.fr f5)⟩
      rcases List.mem_append.mp hc with hc | hc
      · exact lc c hc
      · exact mc c hc
    · rintro _ H3 ⟨l, v3, rfl, ll, lc, hb3, k3⟩
      walk_at "go"
      exact q _ H3 (.str l (by omega) lc) hb3 k3
def signL : List Nat := [32, 33, 35, 36, 38, 39, 40, 41, 42, 43, 44, 45, 46, 47, 48, 49, 50, 51, 52, 53, 54, 55, 56, 57, 58, 59, 60, 61, 62, 63, 64, 91, 93, 94, 95, 124, 126, 65, 66, 67, 68, 69, 70, 71, 72, 73, 74, 75, 76, 77, 78, 79, 80, 81, 82, 83, 84, 85, 86, 87, 88, 89, 90, 97, 98, 99, 100, 101, 102, 103, 104, 105, 106, 107, 108, 109, 110, 111, 112, 113, 114, 115, 116, 117, 118, 119, 120, 121, 122]
theorem signL_eq : (" !#$&'()*+,-./0123456789:;<=>?\x40[]^_|~ABCDEFGHIJKLMNOPQRSTUVWXYZabcdefghijklmnopqrstuvwxyz" : Str) = S signL := by decide +kernel
def signA : List Nat := signL ++ [92, 34, 96]
theorem signA_ok : ∀ c ∈ signA, litB c = true := by decide
theorem sign3 : ([.str "\\", .str "\"", .str "`"] : List V) = ([92, 34, 96] : List Nat).map fun c => V.str (S [c]) := by decide +kernel
/-! labels -/
theorem map_erase {α β : Type} (f : α → β) : ∀ (l : List α) (j : Nat), (l.map f).eraseIdx j = (l.eraseIdx j).map f
  | [], _ => rfl
  | _ :: _, 0 => rfl
  | x :: r, j + 1 => by
    show f x :: (r.map f).eraseIdx j = f x :: (r.eraseIdx j).map f
    rw [map_erase f r j]
def letL : List Nat := [97, 98, 99, 100, 101, 102, 103, 104, 105, 106, 107, 108, 109, 110, 111, 112, 113, 114, 115, 116, 117, 118, 119, 120, 121, 122]
theorem letL_eq : ("abcdefghijklmnopqrstuvwxyz" : Str) = S letL := by decide +kernel
theorem letL_low : ∀ c ∈ letL, low c = true := by decide
theorem letL_nd : letL.Nodup := by decide
theorem st4_eq : ([.str "a", .str "z", .str "p", .str "m"] : List V) = ([97, 122, 112, 109] : List Nat).map fun c => V.str (S [c]) := by decide +kernel
theorem st4_low : ∀ c ∈ ([97, 122, 112, 109] : List Nat), low c = true := by decide
def wordOf (ahead : Bool) (st : List Nat) (c : Nat) : List Nat := if ahead = true then [c] ++ st else st ++ [c]
theorem wordOf_len {b : Bool} {st : List Nat} {c : Nat} : (wordOf b st c).length = st.length + 1 := by
  unfold wordOf
  split
  · rw [List.length_append, Nat.add_comm]
    rfl
  · rw [List.length_append]
    rfl
theorem wordOf_low {b : Bool} {st : List Nat} {c : Nat} (h : st.all low = true) (hc : low c = true) : (wordOf b st c).all low = true := by
  unfold wordOf
  split <;> rw [List.all_append, h, List.all_cons, hc] <;> rfl
theorem wordOf_inj {b : Bool} {st : List Nat} {c d : Nat} (h : wordOf b st c = wordOf b st d) : c = d := by
  unfold wordOf at h
  split at h
  · exact (List.cons.inj h).1
  · have := List.append_cancel_left h
    exact (List.cons.inj this).1
theorem wordOf_word {b : Bool} {st : List Nat} {c : Nat} (h : st.all low = true) (hc : low c = true) (hl : st.length ≤ 7) : wordB (wordOf b st c) = true := by
  unfold wordB
  rw [wordOf_low h hc, wordOf_len, decide_eq_true (by omega), decide_eq_true (by omega)]
  rfl
theorem stem_word {w d : List Nat} (hw : w.all low = true) (hd : d.all dig = true) : stem (w ++ d) = w :=
  stem_of (fun c hc => low_nodig (List.all_eq_true.mp hw c (List.mem_of_getLast? hc))) hd
theorem nodup_of_map {α β : Type} {f : α → β} {l : List α} (h : (l.map f).Nodup) : l.Nodup := (List.pairwise_map.mp h).imp fun hab e => hab (by rw [e])
set_option maxHeartbeats 1000000 in
theorem ok_l_labels (T : Txt K mg Z) : FnOk P w K mg base CX0 3 Z.a_l_labels Z.d_l_labels ["_law_bag_here", "_law_many"] sp_l_labels := by
  refine T.F_l_labels.ok sc_l_labels (fun vs H Q E h => ?_) (fun cdv A outer s H vs Q E hr h => ?_)
  · obtain ⟨a, n, rfl, _⟩ := h
    rfl
  · obtain ⟨a, n, rfl, hb, hn, q⟩ := h
    have nd := sc_l_labels.nd
    refine ⟨_, (pss_cons (ps_par (i := 2) (j := 3) (by rfl) nd rfl rfl (by decide) rfl rfl (pa_cons (pe_callTy (Tw.cr_listS rfl) (by rfl) T.u_list (by decide +kernel) (pa_cons pe_str pa_nil)) (pa_cons (pe_lst pa_nil) pa_nil)) (by rfl))
  (pss_cons (ps_par (i := 4) (j := 5) (by rfl) nd rfl rfl (by decide) rfl rfl (pa_cons pe_str (pa_cons (pe_cmpR op_eq (pe_call (ok_l_take T) (hr.mono (by decide)) (by rfl) T.g_l_take T.F_l_take.kp T.b_l_take .nil pass0 (pa_cons (pv 0) (pa_cons pe_int pa_nil))) pe_int (nomark _)) pa_nil)) (by rfl))
  (pss_cons (ps_for PassesOwn.never rfl (pi_range1 (by rfl) T.u_range (pa_cons (pe_call (ok_l_take T) (hr.mono (by decide)) (by rfl) T.g_l_take T.F_l_take.kp T.b_l_take .nil pass0 (pa_cons (pv 0) (pa_cons pe_int pa_nil))) pa_nil)) (pg_name (i := 6) nd rfl (Or.inl rfl))
  (pss_one (ps_set (i := 4) nd rfl (Or.inl rfl) (pe_op Es.op_addS (pv 4) (pe_call (ok_l_of T) (hr.mono (by decide)) (by rfl) T.g_l_of T.F_l_of.kp T.b_l_of .nil pass0 (pa_cons (pv 0) (pa_cons (pe_lst (pa_cons pe_str (pa_cons pe_str (pa_cons pe_str (pa_cons pe_str pa_nil))))) pa_nil)))))))
  (pss_cons (ps_for PassesOwn.never rfl (pi_range1 (by rfl) T.u_range (pa_cons (pv 1) pa_nil)) (pg_name (i := 6) nd rfl (Or.inl rfl))
  (pss_cons (ps_set (i := 7) nd rfl (Or.inl rfl) (pe_bm PySem.F.plainAttrs_list PySem.F.slot_list_pop PySem.F.type_list_pop mt_popAt (pv 2) (pa_cons (pe_call (ok_l_take T) (hr.mono (by decide)) (by rfl) T.g_l_take T.F_l_take.kp T.b_l_take .nil pass0 (pa_cons (pv 0) (pa_cons (pe_callB Eg.cr_len (by rfl) T.u_len (by decide +kernel) (pa_cons (pv 2) pa_nil)) pa_nil))) pa_nil)))
  (C8.pss_cut (ps_set (i := 8) nd rfl (Or.inl rfl) (pe_ifExp (pt_val (pv 5)) (pe_op Es.op_addS (pv 7) (pv 4)) (pe_op Es.op_addS (pv 4) (pv 7))))
  (pss_cons (ps_set (i := 9) nd rfl (Or.inl rfl) (pe_ix ix_list (pe_lst (pa_cons pe_int (pa_cons pe_int (pa_cons pe_int (pa_cons pe_int (pa_cons pe_int (pa_cons (pe_call (ok_l_take T) (hr.mono (by decide)) (by rfl) T.g_l_take T.F_l_take.kp T.b_l_take .nil pass0 (pa_cons (pv 0) (pa_cons pe_int pa_nil))) pa_nil))))))) (pe_call (ok_l_take T) (hr.mono (by decide)) (by rfl) T.g_l_take T.F_l_take.kp T.b_l_take .nil pass0 (pa_cons (pv 0) (pa_cons pe_int pa_nil))) (fun _ _ => rfl)))
  (pss_one (ps_expr (pe_bm PySem.F.plainAttrs_list PySem.F.slot_list_append PySem.F.type_list_append mt_append (pv 3) (pa_cons (pe_ifExp (pt_cmpR op_eq (pe_call (ok_l_take T) (hr.mono (by decide)) (by rfl) T.g_l_take T.F_l_take.kp T.b_l_take .nil pass0 (pa_cons (pv 0) (pa_cons pe_int pa_nil))) pe_int (nomark _)) (pe_op Es.op_addS (pv 8) (pe_callTy Es.cr_strI (by rfl) T.u_str (by decide +kernel) (pa_cons (pv 9) pa_nil))) (pv 8)) pa_nil))))))))
  (pss_one (ps_ret (pv 3))))))), ?_⟩
    refine Eg.w_sig (σ := [some (.ref a), some (.int (n : Int)), none, none, none, none, none, none, none, none]) rfl ?_
    obtain ⟨bs, eb⟩ := hb.ob
    walk_at "go"
    refine ⟨letL, by rw [letL_eq], by decide, fun L hL => ?_⟩
    have hLa : L ≠ a := (ne_of_none eb hL).symm
    have s1 : Same H (upd H L (.lst (letL.map fun c => V.str (S [c])))) := fun c o' e => Eg.upd_old e hL
    have h1 : upd H L (.lst (letL.map fun c => V.str (S [c]))) L = some (.lst (letL.map fun c => V.str (S [c]))) := upd_same
    generalize upd H L (.lst (letL.map fun c => V.str (S [c]))) = H1 at s1 h1 ⊢
    walk_at "go"
    intro F hF
    have hFa : F ≠ a := (ne_of_none (s1 _ _ eb) hF).symm
    have hFL : F ≠ L := (ne_of_none h1 hF).symm
    have h0F : H F = none := s1.free hF
    have s2 : Same H (upd H1 F (.lst [])) := fun c o' e => Eg.upd_old (s1 _ _ e) hF
    have h2F : upd H1 F (.lst []) F = some (.lst []) := upd_same
    have h2L : upd H1 F (.lst []) L = some (.lst (letL.map fun c => V.str (S [c]))) := Eg.upd_mut hFL.symm h1
    generalize upd H1 F (.lst []) = H2 at s2 h2F h2L ⊢
    walk_at "go"
    refine ⟨a, _, rfl, hb.keep s2, by decide, by decide, fun r H3 r0 r1 hb3 f3 => ?_⟩
    have k3 : KeptB a H H3 := (KeptB.of s2).trans (.fr f3)
    have h3F := (f3 F hFa).trans h2F
    have h3L := (f3 L hLa).trans h2L
    walk_at "go"
    rw [show ("" : Str) = S [] by decide +kernel]
    generalize decide (V.int r = V.int 0) = ah
    refine ⟨a, _, rfl, hb3, by decide, by decide, fun r2 H4 r20 r21 hb4 f4 => ?_⟩
    have k4 := k3.trans (.fr f4)
    have h4F := (f4 F hFa).trans h3F
    have h4L := (f4 L hLa).trans h3L
    walk_at "go"
    refine for_range (lo := 0) (fun i σ' H' => ∃ (st : List Nat) (v6 : Option V), σ' = [some (.ref a), some (.int (n : Int)), some (.ref L), some (.ref F), some (.str (S st)), some (.bl ah), v6, none, none, none] ∧ st.length = i ∧ st.all low = true ∧ H' F = some (.lst []) ∧ H' L = some (.lst (letL.map fun c => V.str (S [c]))) ∧ BagB H' a ∧ KeptB a H H') ⟨[], none, rfl, rfl, rfl, h4F, h4L, hb4, k4⟩ ?_ ?_
    · rintro i _ H5 hi ⟨st, v6, rfl, sl, slow, h5F, h5L, hb5, k5⟩
      have i7 : i < 7 := by omega
      walk_at "go"
      intro o ho
      rw [st4_eq]
      obtain ⟨bs5, eb5⟩ := hb5.ob
      have hoa : o ≠ a := (ne_of_none eb5 ho).symm
      have s6 : Same H5 (upd H5 o (.lst (([97, 122, 112, 109] : List Nat).map fun c => V.str (S [c])))) := fun c o' e => Eg.upd_old e ho
      have h6 : upd H5 o (.lst (([97, 122, 112, 109] : List Nat).map fun c => V.str (S [c]))) o = some (.lst (([97, 122, 112, 109] : List Nat).map fun c => V.str (S [c]))) := upd_same
      generalize upd H5 o (.lst (([97, 122, 112, 109] : List Nat).map fun c => V.str (S [c]))) = H6 at s6 h6 ⊢
      walk_at "go"
      refine ⟨a, o, _, rfl, hb5.keep s6, h6, (show 0 < 4 by decide), (show 4 < 1000 by decide), hoa, fun v H7 hv hb7 f7 => ?_⟩
      obtain ⟨c, hc, rfl⟩ := List.mem_map.mp hv
      walk_at "go"
      refine ⟨_, _, rfl, by rw [List.length_append, sl]; rfl, ?_, (f7 F hFa).trans (s6 _ _ h5F), (f7 L hLa).trans (s6 _ _ h5L), hb7, (k5.trans (.of s6)).trans (.fr f7)⟩
      rw [List.all_append, slow, List.all_cons, st4_low c hc]
      rfl
    rintro _ H5 ⟨st, v6, rfl, sl, slow, h5F, h5L, hb5, k5⟩
    have sl7 : st.length ≤ 7 := by omega
    clear h4F h4L hb4 k4 h3F h3L hb3 k3 f4 f3 h2F h2L s2 h1 s1
    walk_at "go"
    refine for_range (lo := 0) (fun i σ' H' => ∃ (ss us : List Nat) (ls : List (List Nat)) (v6 v7 v8 v9 : Option V), σ' = [some (.ref a), some (.int (n : Int)), some (.ref L), some (.ref F), some (.str (S st)), some (.bl ah), v6, v7, v8, v9] ∧ H' L = some (.lst (ss.map fun c => V.str (S [c]))) ∧ H' F = some (.lst (ls.map fun l => V.str (S l))) ∧ (us ++ ss).Perm letL ∧ us.length = i ∧ ls.map stem = us.map (wordOf ah st) ∧ (∀ l ∈ ls, labelB l = true ∧ l.length ≤ 14) ∧ BagB H' a ∧ KeptB a H H') ⟨letL, [], [], v6, none, none, none, rfl, h5L, h5F, List.Perm.refl _, rfl, rfl, (fun _ z => nomatch z), hb5, k5⟩ ?_ ?_
    · rintro i _ H6 hi ⟨ss, us, ls, v6, v7, v8, v9, rfl, h6L, h6F, pm, ul, lst, lok, hb6, k6⟩
      have pl := pm.length_eq
      rw [List.length_append] at pl
      have l26 : letL.length = 26 := rfl
      have i26 : i < 26 := by omega
      have lsl : ls.length = us.length := by have := congrArg List.length lst; rw [List.length_map, List.length_map] at this; exact this
      walk_at "go"
      refine ⟨a, _, rfl, hb6, by rw [List.length_map]; omega, by rw [List.length_map]; omega, fun r3 H7 r30 r31 hb7 f7 => ?_⟩
      rw [List.length_map] at r31
      obtain ⟨j, rfl⟩ := Int.eq_ofNat_of_zero_le r30
      have hj : j < ss.length := by omega
      have h7L := (f7 L hLa).trans h6L
      have h7F := (f7 F hFa).trans h6F
      have k7 := k6.trans (.fr f7)
      have hcj : (ss.map fun c => V.str (S [c]))[j]? = some (.str (S [ss[j]])) := by rw [List.getElem?_map, List.getElem?_eq_getElem hj]; rfl
      walk_at "go"
      refine Eg.c_popAt h7L (by rw [List.length_map]; omega) rfl hcj ?_
      have h8F : upd H7 L (.lst ((ss.map fun c => V.str (S [c])).eraseIdx j)) F = some (.lst (ls.map fun l => V.str (S l))) := Eg.upd_mut hFL h7F
      have h8L : upd H7 L (.lst ((ss.map fun c => V.str (S [c])).eraseIdx j)) L = some (.lst ((ss.eraseIdx j).map fun c => V.str (S [c]))) := by rw [upd_same, map_erase]
      have h0L : H L = none := hL
      have k8 : KeptB a H (upd H7 L (.lst ((ss.map fun c => V.str (S [c])).eraseIdx j))) := fun c o e n => Eg.upd_mut (ne_of_none e h0L) (k7 c o e n)
      have hb8 : BagB (upd H7 L (.lst ((ss.map fun c => V.str (S [c])).eraseIdx j))) a := hb7.to (upd_ne hLa.symm)
      generalize upd H7 L (.lst ((ss.map fun c => V.str (S [c])).eraseIdx j)) = H8 at h8F h8L k8 hb8 ⊢
      have cm : ss[j] ∈ letL := pm.mem_iff.mp (List.mem_append_right _ (List.getElem_mem hj))
      have clow := letL_low _ cm
      have pm2 : ((us ++ [ss[j]]) ++ ss.eraseIdx j).Perm letL := by
        refine List.Perm.trans ?_ pm
        rw [List.append_assoc]
        exact (Sm.perm_erase (List.getElem?_eq_getElem hj)).append_left us
      generalize ss[j] = c at hcj cm clow pm2 ⊢
      clear h7L h7F k7 hb7 f7 hcj h6L h6F hb6 k6
      walk_at "go"
      refine ⟨fun σ' H' => σ' = [some (.ref a), some (.int (n : Int)), some (.ref L), some (.ref F), some (.str (S st)), some (.bl ah), some (.int (0 + (i : Int))), some (.str (S [c])), some (.str (S (wordOf ah st c))), v9] ∧ H8 = H', ?_, ?_⟩
      · unfold wordOf
        cases ah with
        | true =>
          walk_at "go"
          exact ⟨rfl, rfl⟩
        | false =>
          walk_at "go"
          exact ⟨rfl, rfl⟩
      rintro _ _ ⟨rfl, rfl⟩
      have hw := wordOf_word (b := ah) slow clow sl7
      have hwl : (wordOf ah st c).length ≤ 8 := by rw [wordOf_len]; omega
      have hwlow := wordOf_low (b := ah) slow clow
      generalize hW : wordOf ah st c = W at hw hwl hwlow ⊢
      walk_at "go"
      refine ⟨a, _, rfl, hb8, by decide, by decide, fun r4 H9 r40 r41 hb9 f9 => ?_⟩
      have k9 := k8.trans (.fr f9)
      have h9F := (f9 F hFa).trans h8F
      have h9L := (f9 L hLa).trans h8L
      walk_at "go"
      intro o ho
      obtain ⟨bs9, eb9⟩ := hb9.ob
      have hoa : o ≠ a := (ne_of_none eb9 ho).symm
      have s10 : Same H9 (upd H9 o (.lst [.int 0, .int 1, .int 2, .int 10, .int 999999, .int r4])) := fun c o' e => Eg.upd_old e ho
      have h10 : upd H9 o (.lst [.int 0, .int 1, .int 2, .int 10, .int 999999, .int r4]) o = some (.lst [.int 0, .int 1, .int 2, .int 10, .int 999999, .int r4]) := upd_same
      generalize upd H9 o (.lst [.int 0, .int 1, .int 2, .int 10, .int 999999, .int r4]) = H10 at s10 h10 ⊢
      walk_at "go"
      refine ⟨a, _, rfl, hb9.keep s10, by decide, by decide, fun r5 H11 r50 r51 hb11 f11 => ?_⟩
      have k11 := (k9.trans (.of s10)).trans (.fr f11)
      have h11F := (f11 F hFa).trans (s10 _ _ h9F)
      have h11L := (f11 L hLa).trans (s10 _ _ h9L)
      have h11o := (f11 o hoa).trans h10
      obtain ⟨num, hnum, hn0, hn1⟩ : ∃ num : Int, atI ([.int 0, .int 1, .int 2, .int 10, .int 999999, .int r4] : List V) r5 = some (.int num) ∧ 0 ≤ num ∧ num < 1000000 := by
        obtain ⟨j, rfl⟩ := Int.eq_ofNat_of_zero_le r50
        have : j = 0 ∨ j = 1 ∨ j = 2 ∨ j = 3 ∨ j = 4 ∨ j = 5 := by omega
        rcases this with rfl | rfl | rfl | rfl | rfl | rfl
        · exact ⟨0, atI_nat rfl, by decide, by decide⟩
        · exact ⟨1, atI_nat rfl, by decide, by decide⟩
        · exact ⟨2, atI_nat rfl, by decide, by decide⟩
        · exact ⟨10, atI_nat rfl, by decide, by decide⟩
        · exact ⟨999999, atI_nat rfl, by decide, by decide⟩
        · exact ⟨r4, atI_nat rfl, r40, r41⟩
      clear h9F h9L k9 s10 h10 hb9 f9 hb8 k8 h8F h8L
      walk_at "go"
      refine ⟨a, _, rfl, hb11, by decide, by decide, fun r6 H12 r60 r61 hb12 f12 => ?_⟩
      have k12 := k11.trans (.fr f12)
      have h12F := (f12 F hFa).trans h11F
      have h12L := (f12 L hLa).trans h11L
      obtain ⟨k, rfl⟩ := Int.eq_ofNat_of_zero_le hn0
      have hkl := TL.numL_len (n := k) (k := 6) (by decide) (show k < 10 ^ 6 by omega)
      have hkd : (TL.numL k).all dig = true := by
        have := count_num (n := k) (by omega)
        unfold countB at this
        rw [Bool.and_eq_true] at this
        exact this.2
      have stw : ∀ d : List Nat, d.all dig = true → (ls ++ [W ++ d]).map stem = (us ++ [c]).map (wordOf ah st) := fun d hd => by
        rw [List.map_append, List.map_append, lst, List.map_cons, List.map_cons, List.map_nil, List.map_nil, stem_word hwlow hd, hW]
      have lokw : ∀ d : List Nat, (d = [] ∨ countB d = true) → d.length ≤ 6 → ∀ l ∈ ls ++ [W ++ d], labelB l = true ∧ l.length ≤ 14 := fun d hd hl l hm => by
        rcases List.mem_append.mp hm with hm | hm
        · exact lok l hm
        · rw [List.mem_singleton.mp hm, List.length_append]
          exact ⟨label_of hw hd, by omega⟩
      walk_at "go"
      rw [Eg.int_eq]
      refine Eg.brD (fun e => ?_) (fun e => ?_)
      · walk_at "go"
        rw [num_S k]
        walk_at "go"
        refine ⟨_, us ++ [c], ls ++ [W ++ TL.numL k], _, _, _, _, rfl, Eg.upd_mut hFL.symm h12L, ?_, pm2, by rw [List.length_append, ul]; rfl, stw _ hkd, lokw _ (.inr (count_num (by omega))) hkl, hb12.to (upd_ne hFa.symm), fun c o e n => Eg.upd_mut (ne_of_none e h0F) (k12 c o e n)⟩
        rw [upd_same, List.map_append]
        rfl
      · walk_at "go"
        refine ⟨_, us ++ [c], ls ++ [W ++ []], _, _, _, _, rfl, Eg.upd_mut hFL.symm h12L, ?_, pm2, by rw [List.length_append, ul]; rfl, stw _ rfl, lokw _ (.inl rfl) (Nat.zero_le _), hb12.to (upd_ne hFa.symm), fun c o e n => Eg.upd_mut (ne_of_none e h0F) (k12 c o e n)⟩
        rw [upd_same, List.map_append, List.append_nil]
        rfl
    · rintro _ H6 ⟨ss, us, ls, v6, v7, v8, v9, rfl, h6L, h6F, pm, ul, lst, lok, hb6, k6⟩
      have lsl : ls.length = us.length := by have := congrArg List.length lst; rw [List.length_map, List.length_map] at this; exact this
      have und : us.Nodup := (List.nodup_append.mp (pm.nodup_iff.mpr letL_nd)).1
      walk_at "go"
      refine q F ls H6 h0F h6F (by omega) (nodup_of_map (f := stem) ?_) lok hb6 k6
      rw [lst]
      exact List.pairwise_map.mpr (und.imp fun hab e => hab (wordOf_inj e))
end
end LW

namespace LW
open PySem L2 SX Tx Tc Tl Fm
/-! a page of a query -/
def keyX (m : Str) (k : Key) : List Nat := if m = "order" then [] else txV (kV k)
def lineK (m : Str) (kvs : List (Key × V)) (p : Key × Nat) : List Nat := lineL p.2 (123 :: (keyX m p.1 ++ [125])) (txV ((valV kvs p.1).getD .non))
def pageL (m : Str) (kvs : List (Key × V)) (ks : List Key) : List (List Nat) := ks.zipIdx.map (lineK m kvs)
def txs (ls : List (List Nat)) : List V := ls.map fun l => V.str (S l)
theorem pageL_snoc (m : Str) (kvs : List (Key × V)) (ks : List Key) (k : Key) : pageL m kvs (ks ++ [k]) = pageL m kvs ks ++ [lineK m kvs (k, ks.length)] := by
  unfold pageL
  rw [List.zipIdx_append, List.map_append]
  simp
theorem pageL_len (m : Str) (kvs : List (Key × V)) (ks : List Key) : (pageL m kvs ks).length = ks.length := by
  unfold pageL
  rw [List.length_map, List.length_zipIdx]
def TxS (v : V) : Prop := TxOk v ∧ (txV v).length ≤ 1000
def sp_page (C : Addr) : Sp := fun vs H Q _ => ∃ (q : Addr) (m : Str) (cs : List Cl) (kvs : List (Key × V)) (t : Str), vs = [.ref q] ∧ QAt C H q m cs kvs t ∧ (keys cs).length < 1000 ∧ (∀ k ∈ keys cs, TxS (kV k) ∧ ∃ v, valV kvs k = some v ∧ TxS v) ∧
  ∀ (r : Addr) (H' : Hp), H r = none → H' r = some (.lst (txs (pageL m kvs (keys cs)))) → Same H H' → Q (.ref r) H'
theorem c_addO {H : Hp} {Q : VK} {l : List Nat} (h : l.length < 90000) (q : Q (.str (S (123 :: l))) H) : Es.rAddS (.str "{") (.str (S l)) H Q := by
  rw [show ("{" : Str) = S [123] by decide +kernel]
  exact Tw.c_addSS (by show 1 + l.length < _; omega) q
theorem c_addC {H : Hp} {Q : VK} {l : List Nat} (h : l.length < 90000) (q : Q (.str (S (l ++ [125]))) H) : Es.rAddS (.str (S l)) (.str "}") H Q := by
  rw [show ("}" : Str) = S [125] by decide +kernel]
  exact Tw.c_addSS (by show l.length + 1 < _; omega) q
local macro_rules | `(tactic| walk_at "tx") => `(tactic| first
  | ((with_reducible refine' c_addO ?hz ?_); (case hz => first | omega | (simp only [List.length_append, List.length_cons, List.length_nil]; omega)))
  | ((with_reducible refine' c_addC ?hz ?_); (case hz => first | omega | (simp only [List.length_append, List.length_cons, List.length_nil]; omega)))
  | with_reducible refine Ow.w_par3 ?_
  | ((with_reducible refine' c_strA ?hz ?_); (case hz => assumption))
  | with_reducible refine w_fmI ?_
  | with_reducible refine w_fmS ?_
  | with_reducible refine js_start ?_
  | ((with_reducible refine' c_fmI ?hz ?_); (case hz => omega))
  | ((with_reducible refine' c_fmL ?hz ?_); (case hz => first | omega | (simp only [List.length_append, List.length_cons, List.length_nil]; omega)))
  | ((with_reducible refine' c_fmR ?hz ?_); (case hz => first | omega | (simp only [List.length_append, List.length_cons, List.length_nil]; omega))))
theorem lk_manner (ca da : Addr) (m t : Str) : (fldsQ ca da m t).lookup ("manner" : Str) = some (V.str m) := by rfl
def sp_l_left : Sp := fun vs H Q _ => ∃ (l : List Nat) (n : Nat), vs = [.str (S l), .int (n : Int)] ∧ l.length < 50000 ∧ n < 1000 ∧ Q (.str (S (padL n l))) H
def sp_l_right : Sp := fun vs H Q _ => ∃ (l : List Nat) (n : Nat), vs = [.str (S l), .int (n : Int)] ∧ l.length < 50000 ∧ n < 1000 ∧ Q (.str (S (padR n l))) H
theorem c_spaces {H : Hp} {Q : VK} {l : List Nat} {n : Nat} (hn : n < 1000) (q : Q (.str (S (List.replicate (n - l.length) 32))) H) : rMulSp (.str " ") (.int (if (0 : Int) < (n : Int) - ((l.length : Nat) : Int) then (n : Int) - ((l.length : Nat) : Int) else 0)) H Q := by
  rw [show (" " : Str) = S [32] by decide +kernel]
  refine c_mulS (by split <;> omega) (by split <;> omega) ?_
  rw [show (if (0 : Int) < (n : Int) - ((l.length : Nat) : Int) then (n : Int) - ((l.length : Nat) : Int) else 0).toNat = n - l.length by split <;> omega]
  exact q
section
variable {P : Program} {w : World} {K : PySem.W.Frag} {mg : Str → Option Value} {base : Heap} {Z : Ad}
set_option maxHeartbeats 1000000 in
theorem ok_page (T : Txt K mg Z) : FnOk P w K mg base CX0 2 Z.a_page Z.d_page ["query"] (sp_page Z.c_Query) := by
  refine T.F_page.ok sc_page (fun vs H Q E h => ?_) (fun cdv A outer s H vs Q E hr h => ?_)
  · obtain ⟨q, m, cs, kvs, t, rfl, _⟩ := h
    rfl
  · obtain ⟨qa, m, cs, kvs, t, rfl, ⟨dx, ca, da, xs, hq, ha, px, hd⟩, kl, kok, q⟩ := h
    have nd := sc_page.nd
    have hu := hu_of hr
    have cQ := T.cl_Query
    have n1 := T.n_Query_cells
    have n2 := T.n_Query_assigned
    have n3 := T.n_Query_manner
    have lk1 := lk_cells ca da m t
    have lk2 := lk_assigned ca da m t
    have lk3 := lk_manner ca da m t
    refine ⟨_, (pss_cons (ps_set (i := 1) nd rfl (Or.inl rfl) (pe_lst pa_nil))
  (pss_cons (ps_for PassesOwn.never rfl (pi_list (pe_fld (pv 0) rfl)) (pg_name (i := 2) nd rfl (Or.inl rfl))
  (pss_one (ps_if (pt_cmpR op_eq (pe_ix ix_tup (pv 2) pe_int (fun _ _ => rfl)) pe_str (nomark _))
  (C8.pss_cut (ps_set (i := 3) nd rfl (Or.inl rfl) (pe_ifExp (pt_cmpR op_eq (pe_fld (pv 0) rfl) pe_str (nomark _)) pe_str (pe_callTy Fm.cr_strA (by rfl) T.u_str (by decide +kernel) (pa_cons (pe_ix ix_tup (pv 2) pe_int (fun _ _ => rfl)) pa_nil))))
  (pss_cons (ps_par3 (i := 4) (j := 5) (l := 6) rfl nd rfl rfl rfl (by decide) (by decide) (by decide) rfl rfl rfl (pa_cons (pe_op Es.op_addS (pe_op Es.op_addS pe_str (pv 3)) pe_str) (pa_cons (pe_callTy Fm.cr_strA (by rfl) T.u_str (by decide +kernel) (pa_cons (pe_dget hu (pe_fld (pv 0) rfl) (pe_ix ix_tup (pv 2) pe_int (fun _ _ => rfl)) (fun _ _ => rfl)) pa_nil)) (pa_cons (pe_callB Eg.cr_len (by rfl) T.u_len (by decide +kernel) (pa_cons (pv 1) pa_nil)) pa_nil))) (by rfl))
  (pss_one (ps_expr (pe_bm PySem.F.plainAttrs_list PySem.F.slot_list_append PySem.F.type_list_append mt_append (pv 1) (pa_cons (pe_joined (.cons (Fm.pe_fmI Fm.spI3 (pv 6) (pe_joined1 pe_str)) (.cons pe_str (.cons (Fm.pe_fmS Fm.spL12 (pv 4) (pe_joined1 pe_str)) (.cons pe_str (.cons (Fm.pe_fmS Fm.spR12 (pv 5) (pe_joined1 pe_str)) .nil)))))) pa_nil))))))
  pss_nil)))
  (pss_one (ps_ret (pv 1))))), ?_⟩
    refine Eg.w_sig (σ := [some (.ref qa), none, none, none, none, none, none]) rfl ?_
    walk_at "go"
    intro f hf
    have s0 : Same H (upd H f (.lst [])) := fun c o e => Eg.upd_old e hf
    have h0f : upd H f (.lst []) f = some (.lst []) := upd_same
    generalize upd H f (.lst []) = H0 at s0 h0f ⊢
    have h0q := s0 _ _ hq
    have h0a := s0 _ _ ha
    have fresh : ∀ c o, H c = some o → c ≠ f := fun c o e => ne_of_none e hf
    have len := px.len
    rw [List.length_map] at len
    walk_at "go"
    refine for_list (xs := xs) (fun j σ' H' => ∃ (v2 v3 v4 v5 v6 : Option V), σ' = [some (.ref qa), some (.ref f), v2, v3, v4, v5, v6] ∧ H' f = some (.lst (txs (pageL m kvs (keys (cs.take j))))) ∧ Same H H') ⟨none, none, none, none, none, rfl, h0f, s0⟩ ?_ ?_ ?_
    · rintro j _ H1 _ ⟨v2, v3, v4, v5, v6, rfl, _, s1⟩
      exact SqL.of (s1 _ _ ha)
    · rintro j x _ H1 hx ⟨v2, v3, v4, v5, v6, rfl, h1f, s1⟩
      obtain ⟨p, tt, hp, rfl, ht0⟩ := px.get hx
      rw [List.getElem?_map] at hp
      obtain ⟨c, hc, rfl⟩ := Option.map_eq_some_iff.mp hp
      have ht := s1 _ _ ht0
      have h1q := s1 _ _ hq
      have h1d := s1 _ _ hd
      obtain ⟨hlt, he⟩ := List.getElem?_eq_some_iff.mp hc
      have tk : cs.take (j + 1) = cs.take j ++ [c] := by rw [List.take_succ_eq_append_getElem hlt, he]
      cases c with
      | inl l =>
        have ht : H1 tt = some (.tup [.str "say", .str (S l)]) := ht
        walk_at "go"
        rw [d_sh]
        walk_at "go"
        refine ⟨_, _, _, _, _, rfl, ?_, s1⟩
        rw [tk, keys_app]
        show _ = some (HO.lst (txs (pageL m kvs (keys (cs.take j) ++ []))))
        rw [List.append_nil]
        exact h1f
      | inr k =>
        have ht : H1 tt = some (.tup [.str "hole", kV k]) := ht
        have km : k ∈ keys cs := by
          have : keys cs = keys (cs.take j) ++ keys (cs.drop j) := by rw [← keys_app, List.take_append_drop]
          rw [this]
          refine List.mem_append_right _ ?_
          rw [List.drop_eq_getElem_cons hlt, he]
          exact List.mem_cons_self
        have kn : (keys (cs.take j)).length < 1000 := by
          have : keys cs = keys (cs.take j) ++ keys (cs.drop j) := by rw [← keys_app, List.take_append_drop]
          rw [this, List.length_append] at kl
          omega
        obtain ⟨⟨k1, k2⟩, v, hv, v1, v2'⟩ := kok k km
        have dg : DGet H1 da (kV k) (some v) := hv ▸ Tw.dgetK (Rd.of h1d)
        have nk : keys (cs.take (j + 1)) = keys (cs.take j) ++ [k] := by
          rw [tk, keys_app]
          rfl
        walk_at "go"
        rw [decide_eq_true (rfl : V.str "hole" = V.str "hole")]
        walk_at "go"
        refine ⟨fun σ' H' => σ' = [some (.ref qa), some (.ref f), some (.ref tt), some (.str (S (keyX m k))), v4, v5, v6] ∧ H1 = H', ?_, ?_⟩
        · walk_at "go"
          by_cases e : m = "order"
          · rw [decide_eq_true (show V.str m = V.str "order" by rw [e])]
            walk_at "go"
            refine ⟨?_, rfl⟩
            unfold keyX
            rw [if_pos e]
            rfl
          · rw [decide_eq_false (show ¬ V.str m = V.str "order" from fun z => e (V.str.inj z))]
            walk_at "go"
            refine ⟨?_, rfl⟩
            unfold keyX
            rw [if_neg e]
            rfl
        rintro _ _ ⟨rfl, rfl⟩
        have kx : (keyX m k).length ≤ 1000 := by
          unfold keyX
          split
          · exact Nat.zero_le _
          · exact k2
        have tl : (txs (pageL m kvs (keys (cs.take j)))).length = (keys (cs.take j)).length := by
          unfold txs
          rw [List.length_map, pageL_len]
        have v2' : (txV v).length ≤ 1000 := v2'
        walk_at "go"
        refine ⟨da, v, rfl, dg, ?_⟩
        walk_at "go"
        refine ⟨_, _, _, rfl, ?_⟩
        walk_at "go"
        have nl := TL.numL_len (n := (txs (pageL m kvs (keys (cs.take j)))).length) (k := 6) (by decide) (by omega)
        have p1 := padR_len (n := 3) (l := TL.numL (txs (pageL m kvs (keys (cs.take j)))).length)
        have p2 := padL_len (n := 12) (l := 123 :: keyX m k ++ [125])
        have p3 := padR_len (n := 12) (l := txV v)
        have z0 : ([] : List Nat).length = 0 := rfl
        have z1 : ([32] : List Nat).length = 1 := rfl
        have z2 : (123 :: keyX m k ++ [125]).length = (keyX m k).length + 2 := by rw [List.length_append, List.length_cons]; rfl
        rw [z2] at p2
        refine js_leafS (by omega) ?_
        walk_at "go"
        refine js_leafSp (by simp only [List.length_append]; omega) ?_
        walk_at "go"
        refine js_leafS (by simp only [List.length_append]; omega) ?_
        walk_at "go"
        refine js_leafSp (by simp only [List.length_append]; omega) ?_
        walk_at "go"
        refine js_leafS (by simp only [List.length_append]; omega) ?_
        walk_at "go"
        refine ⟨_, _, _, _, _, rfl, ?_, fun c o e => Eg.upd_mut (fresh c o e) (s1 c o e)⟩
        rw [upd_same, nk, pageL_snoc, lineL_eq, tl]
        unfold txs lineK
        rw [List.map_append, hv]
        rfl
    · rintro _ H1 ⟨v2, v3, v4, v5, v6, rfl, h1f, s1⟩
      rw [len, List.take_length] at h1f
      walk_at "go"
      exact q f H1 hf h1f s1
theorem ok_l_left (T : Txt K mg Z) : FnOk P w K mg base CX0 1 Z.a_l_left Z.d_l_left ["_law_text", "_law_width"] sp_l_left := by
  refine T.F_l_left.ok sc_l_left (fun vs H Q E h => ?_) (fun cdv A outer s H vs Q E hr h => ?_)
  · obtain ⟨l, n, rfl, _⟩ := h
    rfl
  · obtain ⟨l, n, rfl, hl, hn, q⟩ := h
    refine ⟨_, (pss_one (ps_ret (pe_op Es.op_addS (pv 0) (pe_op Fm.op_mulS pe_str (pe_callB (Eg.cr_max2 rfl) (by rfl) T.u_max (by decide +kernel) (pa_cons pe_int (pa_cons (pe_op op_sub (pv 1) (pe_callB Tw.cr_lenS (by rfl) T.u_len (by decide +kernel) (pa_cons (pv 0) pa_nil))) pa_nil))))))), ?_⟩
    refine Eg.w_sig (σ := [some (.str (S l)), some (.int (n : Int))]) rfl ?_
    have hl2 : l.length < 100000 := by omega
    walk_at "go"
    refine c_spaces hn ?_
    exact Tw.c_addSS (by rw [List.length_replicate]; omega) q
theorem ok_l_right (T : Txt K mg Z) : FnOk P w K mg base CX0 1 Z.a_l_right Z.d_l_right ["_law_text", "_law_width"] sp_l_right := by
  refine T.F_l_right.ok sc_l_right (fun vs H Q E h => ?_) (fun cdv A outer s H vs Q E hr h => ?_)
  · obtain ⟨l, n, rfl, _⟩ := h
    rfl
  · obtain ⟨l, n, rfl, hl, hn, q⟩ := h
    refine ⟨_, (pss_one (ps_ret (pe_op Es.op_addS (pe_op Fm.op_mulS pe_str (pe_callB (Eg.cr_max2 rfl) (by rfl) T.u_max (by decide +kernel) (pa_cons pe_int (pa_cons (pe_op op_sub (pv 1) (pe_callB Tw.cr_lenS (by rfl) T.u_len (by decide +kernel) (pa_cons (pv 0) pa_nil))) pa_nil)))) (pv 0)))), ?_⟩
    refine Eg.w_sig (σ := [some (.str (S l)), some (.int (n : Int))]) rfl ?_
    have hl2 : l.length < 100000 := by omega
    walk_at "go"
    refine c_spaces hn ?_
    walk_at "go"
    exact Tw.c_addSS (by rw [List.length_replicate]; omega) q
end
end LW

namespace LW
open PySem L2 SX Tx Tc Tl Kq Rp Fm
/-! the page of a drawn query, plainly -/
theorem keyB_num {n : Nat} (h : n < 999999) : keyB "number" (TL.numL (n + 1)) = true := by
  unfold keyB
  rw [if_neg (show ¬ decide (("number" : Str) = "order") = true by decide +kernel), if_pos (show decide (("number" : Str) = "number") = true by decide +kernel), count_num (by omega), Bool.and_true, decide_eq_false]
  · rfl
  · intro e
    have e0 : TL.numL 0 = [48] := by rw [TL.numL_lt (by decide)]
    have := TL.numL_inj (e.trans e0.symm)
    omega
theorem label_no {l : List Nat} (h : labelB l = true) : ∀ c ∈ l, c ≠ 125 ∧ c < 16 ^ 8 := by
  obtain ⟨d, hd, hdd⟩ := stem_app l
  unfold labelB at h
  rw [Bool.and_eq_true] at h
  have hw := h.1
  unfold wordB at hw
  rw [Bool.and_eq_true] at hw
  intro c hc
  rw [hd] at hc
  rcases List.mem_append.mp hc with hc | hc
  · have := List.all_eq_true.mp hw.2 c hc
    unfold low at this
    simp only [Bool.and_eq_true, decide_eq_true_eq] at this
    exact ⟨by omega, Nat.lt_of_le_of_lt this.2 (by decide)⟩
  · have := List.all_eq_true.mp hdd c hc
    unfold dig at this
    simp only [Bool.and_eq_true, decide_eq_true_eq] at this
    exact ⟨by omega, Nat.lt_of_le_of_lt this.2 (by decide)⟩
theorem keyB_name {l : List Nat} (h : labelB l = true) : keyB "name" l = true := by
  unfold keyB
  rw [if_neg (show ¬ decide (("name" : Str) = "order") = true by decide +kernel), if_neg (show ¬ decide (("name" : Str) = "number") = true by decide +kernel), h, Bool.true_or]
theorem tks_len {f : Nat → List Nat} : ∀ {ps : List (List Nat × Nat)}, (∀ p ∈ ps, p.1.length ≤ 2 ∧ (f p.2).length ≤ 14) → (flat (tks f ps)).length ≤ 18 * ps.length
  | [], _ => Nat.zero_le _
  | p :: r, h => by
    have h1 := h p List.mem_cons_self
    have h2 := tks_len (ps := r) fun x hx => h x (List.mem_cons_of_mem _ hx)
    have e : flat (tks f (p :: r)) = p.1 ++ (123 :: (f p.2 ++ [125])) ++ flat (tks f r) := by
      show flat ((p.1.map Tk.ch ++ [Tk.ho (f p.2)]) ++ tks f r) = _
      rw [flat_app, flat_app, flat_ch]
      rfl
    rw [e, List.length_append, List.length_append, List.length_cons, List.length_append, List.length_cons]
    have : ([] : List Nat).length = 0 := rfl
    have : (p :: r).length = r.length + 1 := rfl
    omega
theorem cells_len (m : Str) (ts : List Tk) (h : (flat ts).length < 40000) : (cellsOf m ts).length < 90000 := by
  unfold cellsOf
  rw [keyC_len]
  have := read_len ts
  have := flat_len ts
  omega
abbrev Pk := List Nat × Nat
def keyG (m : Str) (ls : List (List Nat)) (n : Nat) : List Nat := if m = "order" then [] else if m = "number" then TL.numL (n + 1) else ls.getD n []
def dueP (m : Str) (ls : List (List Nat)) (vs : List V) (p : Pk × Nat) : List Nat := lineL p.2 (123 :: (keyG m ls p.1.2 ++ [125])) (txV (vs.getD p.1.2 .non))
def dueL (m : Str) (ls : List (List Nat)) (vs : List V) (ps : List Pk) : List (List Nat) := ps.zipIdx.map (dueP m ls vs)
theorem dueL_snoc (m : Str) (ls : List (List Nat)) (vs : List V) (ps : List Pk) (p : Pk) : dueL m ls vs (ps ++ [p]) = dueL m ls vs ps ++ [dueP m ls vs (p, ps.length)] := by
  unfold dueL
  rw [List.zipIdx_append, List.map_append]
  simp
theorem dueL_len (m : Str) (ls : List (List Nat)) (vs : List V) (ps : List Pk) : (dueL m ls vs ps).length = ps.length := by
  unfold dueL
  rw [List.length_map, List.length_zipIdx]
def keyP (m : Str) (ls : List (List Nat)) (p : Pk × Nat) : Key := if m = "order" then .inl (p.2 : Int) else if m = "number" then .inl ((p.1.2 : Int) + 1) else .inr (S (ls.getD p.1.2 []))
theorem zip_fst {α β : Type} (g : α → β) (l : List α) : l.zipIdx.map (fun p => g p.1) = l.map g := by
  refine List.ext_getElem (by rw [List.length_map, List.length_map, List.length_zipIdx]) fun i h1 h2 => ?_
  rw [List.getElem_map, List.getElem_map, List.getElem_zipIdx]
theorem keysG {m : Str} (hm : Mn m) (ls : List (List Nat)) {ps : List Pk} (h : ∀ p ∈ ps, p.2 < 1000) : keys (cellsOf m (tks (keyG m ls) ps)) = ps.zipIdx.map (keyP m ls) := by
  rcases hm with rfl | rfl | rfl
  · unfold cellsOf
    rw [keys_order o_name o_number, keys_read, List.length_map, holes_tks, List.length_map]
    refine List.ext_getElem (by rw [List.length_map, List.length_map, List.length_zipIdx, List.length_range]) fun i h1 h2 => ?_
    rw [List.getElem_map, List.getElem_map, List.getElem_zipIdx, List.getElem_range]
    unfold keyP
    rw [if_pos rfl]
  · unfold cellsOf
    rw [keys_number n_name rfl, keys_read, holes_tks, List.map_map, List.map_map]
    have e : ps.zipIdx.map (keyP "number" ls) = ps.map fun p : Pk => (.inl ((p.2 : Int) + 1) : Key) := by
      rw [← zip_fst (fun p : Pk => (.inl ((p.2 : Int) + 1) : Key))]
      refine List.map_congr_left fun p _ => ?_
      unfold keyP
      rw [if_neg fun z => o_number z.symm, if_pos rfl]
    rw [e]
    refine List.map_congr_left fun p hp => ?_
    have := h p hp
    show (Sum.inl (toI (.inr (S (keyG "number" ls p.2)))) : Key) = Sum.inl ((p.2 : Int) + 1)
    congr 1
    unfold keyG
    rw [if_neg fun z => o_number z.symm, if_pos rfl]
    show (intText? (S (TL.numL (p.2 + 1)))).getD 0 = _
    rw [← num_S (p.2 + 1), TL.int_num (Nat.le_trans (TL.numL_len (n := p.2 + 1) (k := 6) (by decide) (by omega)) (by decide))]
    rfl
  · unfold cellsOf
    rw [keys_name, keys_read, holes_tks, List.map_map]
    have e : ps.zipIdx.map (keyP "name" ls) = ps.map fun p : Pk => (.inr (S (ls.getD p.2 [])) : Key) := by
      rw [← zip_fst (fun p : Pk => (.inr (S (ls.getD p.2 [])) : Key))]
      refine List.map_congr_left fun p _ => ?_
      unfold keyP
      rw [if_neg fun z => o_name z.symm, if_neg fun z => n_name z.symm]
    rw [e]
    refine List.map_congr_left fun p hp => ?_
    show (Sum.inr (S (keyG "name" ls p.2)) : Key) = _
    unfold keyG
    rw [if_neg fun z => o_name z.symm, if_neg fun z => n_name z.symm]
theorem keyX_P {m : Str} (hm : Mn m) (ls : List (List Nat)) (p : Pk × Nat) : keyX m (keyP m ls p) = keyG m ls p.1.2 := by
  have a1 : ¬ ("number" : Str) = "order" := fun z => o_number z.symm
  have a2 : ¬ ("name" : Str) = "order" := fun z => o_name z.symm
  have a3 : ¬ ("name" : Str) = "number" := fun z => n_name z.symm
  unfold keyX keyP keyG
  rcases hm with rfl | rfl | rfl
  · rw [if_pos rfl, if_pos rfl]
  · simp only [if_neg a1, if_true]
    exact txV_num (k := p.1.2 + 1)
  · simp only [if_neg a2, if_neg a3]
    rfl
theorem page_due {m : Str} (hm : Mn m) {ls : List (List Nat)} {vs : List V} {ps : List Pk} {kvs : List (Key × V)} (h : ∀ p ∈ ps, p.2 < 1000) (hv : ∀ p ∈ ps.zipIdx, valV kvs (keyP m ls p) = some (vs.getD p.1.2 .non)) :
    pageL m kvs (keys (cellsOf m (tks (keyG m ls) ps))) = dueL m ls vs ps := by
  rw [keysG hm ls h]
  unfold pageL dueL
  refine List.ext_getElem (by simp only [List.length_map, List.length_zipIdx]) fun i h1 h2 => ?_
  rw [List.length_map, List.length_zipIdx, List.length_map, List.length_zipIdx] at h1
  rw [List.getElem_map, List.getElem_map, List.getElem_zipIdx, List.getElem_map, List.getElem_zipIdx]
  have := hv (ps[i], i) (by rw [List.mem_iff_getElem]; exact ⟨i, by rw [List.length_zipIdx]; exact h1, by rw [List.getElem_zipIdx, Nat.zero_add]⟩)
  unfold lineK dueP
  rw [Nat.zero_add]
  show lineL i (123 :: (keyX m (keyP m ls (ps[i], i)) ++ [125])) (txV ((valV kvs (keyP m ls (ps[i], i))).getD .non)) = _
  rw [this, keyX_P hm]
  rfl
theorem ofString_chars (x : String) : ∀ c ∈ (Str.ofString x).cps.toList, c < 16 ^ 8 := by
  rw [Str.ofString_eq_toList]
  intro c hc
  have hc : c ∈ x.toList.map Char.toNat := hc
  obtain ⟨d, _, rfl⟩ := List.mem_map.mp hc
  exact Nat.lt_of_lt_of_le d.val.toNat_lt (by decide)
theorem DV.txs {v : V} (h : DV v) : TxS v := by
  cases h with
  | int i hi =>
    have h0 : i.natAbs < 10 ^ 40 := by
      unfold most at hi
      have : (10 : Nat) ^ 40 = 10000000000000000000000000000000000000000 := by decide
      rw [this]
      split at hi <;> omega
    refine ⟨?_, ?_⟩
    · show i.natAbs.log2 < 1920
      have h2 : i.natAbs < 2 ^ 134 := Nat.lt_of_lt_of_le h0 (by decide +kernel)
      by_cases z : i.natAbs = 0
      · rw [z]
        decide
      · exact Nat.lt_of_lt_of_le ((Nat.log2_lt z).mpr h2) (by decide)
    · show (Str.ofString (toString i)).cps.toList.length ≤ 1000
      rw [Array.length_toList]
      show (Str.ofString (toString i)).length ≤ 1000
      rw [PySem.ofString_length]
      exact Nat.le_trans (int_text_length_le10 (k := 40) (by decide) h0) (by decide)
  | str l hl _ => exact ⟨trivial, by show l.length ≤ 1000; omega⟩
theorem DV.small {v : V} (h : DV v) : (txV v).length ≤ 60 := by
  cases h with
  | int i hi =>
    have h0 : i.natAbs < 10 ^ 40 := by
      unfold most at hi
      have : (10 : Nat) ^ 40 = 10000000000000000000000000000000000000000 := by decide
      rw [this]
      split at hi <;> omega
    show (Str.ofString (toString i)).cps.toList.length ≤ 60
    rw [Array.length_toList]
    show (Str.ofString (toString i)).length ≤ 60
    rw [PySem.ofString_length]
    exact Nat.le_trans (int_text_length_le10 (k := 40) (by decide) h0) (by decide)
  | str l hl _ => exact (by show l.length ≤ 60; omega)
theorem DV.chars {v : V} (h : DV v) : ∀ c ∈ txV v, c < 16 ^ 8 := by
  cases h with
  | int i hi => exact ofString_chars _
  | str l _ hc => exact fun c hc' => Nat.lt_of_le_of_lt (hc c hc').2 (by decide)
theorem dueP_chars {m : Str} {ls : List (List Nat)} {vs : List V} {p : Pk × Nat} (hg : ∀ c ∈ keyG m ls p.1.2, c < 16 ^ 8) (hv : ∀ c ∈ txV (vs.getD p.1.2 .non), c < 16 ^ 8) : ∀ c ∈ dueP m ls vs p, c < 16 ^ 8 := by
  intro c hc
  have n32 : (32 : Nat) < 16 ^ 8 := by decide
  have rep : ∀ n, c ∈ List.replicate n 32 → c < 16 ^ 8 := fun n h => by rw [(List.mem_replicate.mp h).2]; exact n32
  unfold dueP lineL padR padL at hc
  simp only [List.mem_append, List.mem_cons, List.not_mem_nil, or_false] at hc
  rcases hc with (h | h) | h | ((h | h | h) | h) | h | h | h
  · exact rep _ h
  · have := TL.numL_digits _ c h
    exact Nat.lt_of_le_of_lt this.2 (by decide)
  · rw [h]; exact n32
  · rw [h]; decide
  · exact hg c h
  · rw [h]; decide
  · exact rep _ h
  · rw [h]; exact n32
  · exact rep _ h
  · exact hv c h
theorem dueP_len {m : Str} {ls : List (List Nat)} {vs : List V} {p : Pk × Nat} (hi : p.2 < 1000000) (hg : (keyG m ls p.1.2).length ≤ 14) (hv : (txV (vs.getD p.1.2 .non)).length ≤ 60) : (dueP m ls vs p).length ≤ 116 := by
  unfold dueP
  have := lineL_len (k := p.2) (l := 123 :: (keyG m ls p.1.2 ++ [125])) (v := txV (vs.getD p.1.2 .non)) hi
  rw [List.length_cons, List.length_append] at this
  have : ([125] : List Nat).length = 1 := rfl
  omega
/-! the table by name -/
structure TabOk (ls : List (List Nat)) (vs : List V) (ps : List Pk) (kvs : List (Key × V)) : Prop where
  nd : (kvs.map (·.1)).Nodup
  at_ : ∀ y ∈ kvs, ∃ n, n < vs.length ∧ y = (.inr (S (ls.getD n [])), vs.getD n .non)
  has : ∀ p ∈ ps, valV kvs (.inr (S (ls.getD p.2 []))) = some (vs.getD p.2 .non)
  len : kvs.length ≤ ps.length
theorem put_mem {kvs : List (Key × V)} {k : Key} {v : V} {y : Key × V} (h : y ∈ putK kvs k v) : y ∈ kvs ∨ y = (k, v) := by
  unfold putK at h
  split at h
  · obtain ⟨z, hz, e⟩ := List.mem_map.mp h
    split at e
    · rename_i hk
      right
      rw [← e, hk]
    · left
      rw [← e]
      exact hz
  · rcases List.mem_append.mp h with h | h
    · exact .inl h
    · exact .inr (List.mem_singleton.mp h)
theorem put_keys {kvs : List (Key × V)} {k : Key} {v : V} (h : (kvs.map (·.1)).Nodup) : ((putK kvs k v).map (·.1)).Nodup := by
  unfold putK
  split
  · rw [List.map_map]
    have : (Prod.fst ∘ fun kv : Key × V => if kv.1 = k then (kv.1, v) else kv) = Prod.fst := by
      funext kv
      show (if kv.1 = k then (kv.1, v) else kv).1 = kv.1
      split <;> rfl
    rw [this]
    exact h
  · rename_i hk
    rw [List.map_append, List.nodup_append]
    refine ⟨h, List.pairwise_singleton _ _, fun a ha b hb e => hk ?_⟩
    have hb : b = k := List.mem_singleton.mp hb
    subst hb
    subst e
    obtain ⟨y, hy, e⟩ := List.mem_map.mp ha
    exact List.any_eq_true.mpr ⟨y, hy, decide_eq_true e⟩
theorem TabOk.put {ls : List (List Nat)} {vs : List V} {ps : List Pk} {kvs : List (Key × V)} (t : TabOk ls vs ps kvs) (l : List Nat) {n : Nat} (hn : n < vs.length) (inj : ∀ i j, i < vs.length → j < vs.length → ls.getD i [] = ls.getD j [] → i = j) (hp : ∀ p ∈ ps, p.2 < vs.length) :
    TabOk ls vs (ps ++ [(l, n)]) (putK kvs (.inr (S (ls.getD n []))) (vs.getD n .non)) where
  nd := put_keys t.nd
  at_ := fun y hy => by
    rcases put_mem hy with h | rfl
    · exact t.at_ y h
    · exact ⟨n, hn, rfl⟩
  has := fun p hpm => by
    rw [valV_put]
    rcases List.mem_append.mp hpm with h | h
    · by_cases e : (.inr (S (ls.getD p.2 [])) : Key) = .inr (S (ls.getD n []))
      · rw [if_pos e, inj _ _ (hp p h) hn (S_inj (Sum.inr.inj e))]
      · rw [if_neg e]
        exact t.has p h
    · rw [List.mem_singleton.mp h, if_pos rfl]
  len := by
    have := length_putK kvs (.inr (S (ls.getD n [])) : Key) (vs.getD n .non)
    have := t.len
    rw [List.length_append]
    show _ ≤ ps.length + 1
    omega
theorem TabOk.nil (ls : List (List Nat)) (vs : List V) : TabOk ls vs [] [] := ⟨.nil, fun _ z => (nomatch z), fun _ z => (nomatch z), Nat.le_refl _⟩
/-! what a drawn query must have -/
def kvsG (m : Str) (vs : List V) (ps : List Pk) (tab : List (Key × V)) : List (Key × V) := if m = "order" then numd 0 (ps.map fun p => vs.getD p.2 .non) else if m = "number" then numd 1 vs else tab
theorem valV_numd {f : Int} {xs : List V} {i : Nat} {v : V} (h : xs[i]? = some v) : valV (numd f xs) (.inl (f + (i : Int))) = some v := by
  refine val_mem (numd_nodup xs f) ?_
  induction xs generalizing f i with
  | nil => cases h
  | cons x r ih =>
    cases i with
    | zero =>
      cases h
      refine List.mem_cons.mpr (.inl ?_)
      show ((Sum.inl (f + 0) : Key), _) = (.inl f, _)
      rw [Int.add_zero]
    | succ j =>
      have := ih (f := f + 1) (i := j) h
      refine List.mem_cons_of_mem _ ?_
      rw [show f + ((j + 1 : Nat) : Int) = f + 1 + (j : Int) by omega]
      exact this
theorem kvsG_val {m : Str} (hm : Mn m) {ls : List (List Nat)} {vs : List V} {ps : List Pk} {tab : List (Key × V)} (t : TabOk ls vs ps tab) (h : ∀ p ∈ ps, p.2 < vs.length) : ∀ p ∈ ps.zipIdx, valV (kvsG m vs ps tab) (keyP m ls p) = some (vs.getD p.1.2 .non) := by
  intro p hp
  obtain ⟨i, hi, e⟩ := List.mem_iff_getElem.mp hp
  rw [List.length_zipIdx] at hi
  rw [List.getElem_zipIdx, Nat.zero_add] at e
  subst e
  have a1 : ¬ ("number" : Str) = "order" := fun z => o_number z.symm
  have a2 : ¬ ("name" : Str) = "order" := fun z => o_name z.symm
  have a3 : ¬ ("name" : Str) = "number" := fun z => n_name z.symm
  have hv : vs[ps[i].2]? = some (vs.getD ps[i].2 .non) := by
    have := h ps[i] (List.getElem_mem hi)
    rw [List.getD_eq_getElem?_getD, List.getElem?_eq_getElem this]
    rfl
  unfold kvsG keyP
  rcases hm with rfl | rfl | rfl
  · simp only [if_true]
    have := valV_numd (f := 0) (xs := ps.map fun p => vs.getD p.2 .non) (i := i) (v := vs.getD ps[i].2 .non) (by rw [List.getElem?_map, List.getElem?_eq_getElem hi]; rfl)
    rw [Int.zero_add] at this
    exact this
  · simp only [if_neg a1, if_true]
    have := valV_numd (f := 1) hv
    rw [Int.add_comm] at this
    exact this
  · simp only [if_neg a2, if_neg a3]
    exact t.has _ (List.getElem_mem hi)
theorem val_key {kvs : List (Key × V)} {k : Key} {v : V} (h : valV kvs k = some v) : k ∈ kvs.map (·.1) := by
  unfold valV at h
  obtain ⟨y, hy, _⟩ := Option.map_eq_some_iff.mp h
  have := List.find?_some hy
  exact List.mem_map.mpr ⟨y, List.mem_of_find?_eq_some hy, of_decide_eq_true this⟩
theorem keys_in {m : Str} (hm : Mn m) {ls : List (List Nat)} {vs : List V} {ps : List Pk} {tab : List (Key × V)} (t : TabOk ls vs ps tab) (h : ∀ p ∈ ps, p.2 < vs.length) (h2 : ∀ p ∈ ps, p.2 < 1000) :
    ∀ k ∈ keys (cellsOf m (tks (keyG m ls) ps)), ∃ p ∈ ps.zipIdx, k = keyP m ls p ∧ valV (kvsG m vs ps tab) k = some (vs.getD p.1.2 .non) := by
  intro k hk
  rw [keysG hm ls h2] at hk
  obtain ⟨p, hp, rfl⟩ := List.mem_map.mp hk
  exact ⟨p, hp, rfl, kvsG_val hm t h p hp⟩
theorem zip_mem {ps : List Pk} {p : Pk × Nat} (h : p ∈ ps.zipIdx) : p.1 ∈ ps ∧ p.2 < ps.length := by
  obtain ⟨i, hi, e⟩ := List.mem_iff_getElem.mp h
  rw [List.length_zipIdx] at hi
  rw [List.getElem_zipIdx, Nat.zero_add] at e
  subst e
  exact ⟨List.getElem_mem hi, hi⟩
theorem keyG_lab {ls : List (List Nat)} {n : Nat} (hl : ∀ l ∈ ls, labelB l = true ∧ l.length ≤ 14) (hn : n < ls.length) : labelB (ls.getD n []) = true ∧ (ls.getD n []).length ≤ 14 := by
  rw [List.getD_eq_getElem?_getD, List.getElem?_eq_getElem hn]
  exact hl _ (List.getElem_mem hn)
theorem keyG_len {m : Str} {ls : List (List Nat)} {n : Nat} (hl : ∀ l ∈ ls, labelB l = true ∧ l.length ≤ 14) (hn : n < ls.length) (hs : n < 1000) : (keyG m ls n).length ≤ 14 ∧ ∀ c ∈ keyG m ls n, c < 16 ^ 8 := by
  unfold keyG
  split
  · exact ⟨Nat.zero_le _, fun _ z => nomatch z⟩
  · split
    · refine ⟨Nat.le_trans (TL.numL_len (n := n + 1) (k := 6) (by decide) (by omega)) (by decide), fun c h => ?_⟩
      have := TL.numL_digits _ c h
      exact Nat.lt_of_le_of_lt this.2 (by decide)
    · have := keyG_lab hl hn
      exact ⟨this.2, fun c h => (label_no this.1 c h).2⟩
theorem rdG {m : Str} (hm : Mn m) {ls : List (List Nat)} {ps : List Pk} (hl : ∀ l ∈ ls, labelB l = true ∧ l.length ≤ 14) (hp : ∀ p ∈ ps, p.2 < ls.length ∧ p.2 < 1000 ∧ p.1.all litB = true) : ∀ t ∈ tks (keyG m ls) ps, RdOk m t := by
  intro t ht
  have a1 : ¬ ("number" : Str) = "order" := fun z => o_number z.symm
  have a2 : ¬ ("name" : Str) = "order" := fun z => o_name z.symm
  have a3 : ¬ ("name" : Str) = "number" := fun z => n_name z.symm
  rcases tks_mem ht with ⟨p, hpm, c, hc, rfl⟩ | ⟨p, hpm, rfl⟩
  · exact List.all_eq_true.mp (hp p hpm).2.2 c hc
  · obtain ⟨h1, h2, _⟩ := hp p hpm
    rcases hm with rfl | rfl | rfl
    · have e : keyG "order" ls p.2 = [] := by unfold keyG; rw [if_pos rfl]
      rw [e]
      exact ⟨by decide +kernel, List.not_mem_nil, by show keyB "order" [] = true; decide +kernel⟩
    · have e : keyG "number" ls p.2 = TL.numL (p.2 + 1) := by unfold keyG; rw [if_neg a1, if_pos rfl]
      rw [e]
      refine ⟨by decide +kernel, fun hm => ?_, keyB_num (by omega)⟩
      have := TL.numL_digits (p.2 + 1) 125 hm
      omega
    · have e : keyG "name" ls p.2 = ls.getD p.2 [] := by unfold keyG; rw [if_neg a2, if_neg a3]
      rw [e]
      have hlab := keyG_lab hl h1
      exact ⟨by decide +kernel, fun hm => (label_no hlab.1 _ hm).1 rfl, keyB_name hlab.1⟩
theorem kok {m : Str} (hm : Mn m) {ls : List (List Nat)} {vs : List V} {ps : List Pk} {tab : List (Key × V)} (t : TabOk ls vs ps tab) (h : ∀ p ∈ ps, p.2 < vs.length) (h2 : ∀ p ∈ ps, p.2 < 1000) (hpl : ps.length < 1000) (hll : ls.length = vs.length) (hl : ∀ l ∈ ls, labelB l = true ∧ l.length ≤ 14) (hd : ∀ v ∈ vs, DV v) :
    ∀ k ∈ keys (cellsOf m (tks (keyG m ls) ps)), TxS (kV k) ∧ ∃ v, valV (kvsG m vs ps tab) k = some v ∧ TxS v := by
  intro k hk
  obtain ⟨p, hp, rfl, hv⟩ := keys_in hm t h h2 k hk
  obtain ⟨p1, p2⟩ := zip_mem hp
  have pv := h _ p1
  have dv : DV (vs.getD p.1.2 .non) := by
    rw [List.getD_eq_getElem?_getD, List.getElem?_eq_getElem pv]
    exact hd _ (List.getElem_mem pv)
  refine ⟨?_, _, hv, dv.txs⟩
  have num : ∀ n : Nat, n < 100000 → TxS (.int (n : Int)) := fun n hn => by
    refine ⟨log20 (by omega), ?_⟩
    rw [txV_num]
    exact Nat.le_trans (TL.numL_len (n := n) (k := 6) (by decide) (by omega)) (by decide)
  unfold keyP
  split
  · exact num p.2 (by omega)
  · split
    · exact num (p.1.2 + 1) (by have := h2 _ p1; omega)
    · have := keyG_lab hl (n := p.1.2) (by omega)
      exact ⟨trivial, by show (ls.getD p.1.2 []).length ≤ 1000; omega⟩
theorem ordG {ls : List (List Nat)} {vs : List V} {ps : List Pk} {tab : List (Key × V)} {m : Str} (hm : Mn m) (h2 : ∀ p ∈ ps, p.2 < 1000) (e : m = "order") : (kvsG m vs ps tab).length ≤ (keys (cellsOf m (tks (keyG m ls) ps))).length := by
  rw [keysG hm ls h2, List.length_map, List.length_zipIdx]
  unfold kvsG
  rw [if_pos e, numd_len, List.length_map]
  exact Nat.le_refl _
theorem kvsG_len {vs : List V} {ps : List Pk} {tab : List (Key × V)} {ls : List (List Nat)} {m : Str} (t : TabOk ls vs ps tab) (h1 : ps.length < 1000) (h2 : vs.length < 1000) : (kvsG m vs ps tab).length < 1000 := by
  have := t.len
  unfold kvsG
  split
  · rw [numd_len, List.length_map]
    exact h1
  · split
    · rw [numd_len]
      exact h2
    · omega
theorem rowG {m : Str} (hm : Mn m) {H : Hp} {rw va ta : Addr} {ls : List (List Nat)} {vs : List V} {ps : List Pk} {tab : List (Key × V)} (t : TabOk ls vs ps tab) (hll : ls.length = vs.length) (hp : ∀ p ∈ ps, p.2 < vs.length) (hl : ∀ l ∈ ls, labelB l = true ∧ l.length ≤ 14) (hd : ∀ v ∈ vs, DV v)
    (h1 : H rw = some (.lst (ps.map fun p => vs.getD p.2 .non))) (h2 : H va = some (.lst vs)) (h3 : H ta = some (.dK tab)) : RowAt H m (if m = "order" then rw else if m = "number" then va else ta) (kvsG m vs ps tab) := by
  have a1 : ¬ ("number" : Str) = "order" := fun z => o_number z.symm
  have a2 : ¬ ("name" : Str) = "order" := fun z => o_name z.symm
  have a3 : ¬ ("name" : Str) = "number" := fun z => n_name z.symm
  have get : ∀ n, n < vs.length → DV (vs.getD n .non) := fun n hn => by
    rw [List.getD_eq_getElem?_getD, List.getElem?_eq_getElem hn]
    exact hd _ (List.getElem_mem hn)
  unfold kvsG
  rcases hm with rfl | rfl | rfl
  · simp only [if_true]
    refine .inr ⟨o_name, _, h1, fun x hx => ?_, by rw [if_neg o_number]⟩
    obtain ⟨p, hpm, rfl⟩ := List.mem_map.mp hx
    exact (get _ (hp p hpm)).val
  · simp only [if_neg a1, if_true]
    exact .inr ⟨n_name, vs, h2, fun x hx => (hd x hx).val, by rw [if_pos rfl]⟩
  · simp only [if_neg a2, if_neg a3]
    refine .inl ⟨rfl, h3, t.nd, fun y hy => ?_⟩
    obtain ⟨n, hn, rfl⟩ := t.at_ y hy
    have := keyG_lab hl (n := n) (by omega)
    exact ⟨⟨_, rfl, this.1, by omega⟩, (get n hn).val⟩
end LW

namespace LW
open PySem L2 SX Tx Tc Tl Kq Rp Fm
def sp_law (K : PySem.W.Frag) : Sp := fun vs H Q _ => ∃ (a : Addr) (ns : List Int), vs = [.ref a] ∧ SqL K H a (ns.map V.int) ∧ ns.length ≤ 63 ∧ ∀ H', Q (.bl true) H'
/-- a query made -/
theorem mk_query {C : Addr} {H : Hp} {Q : VK} {m t : Str} {r : Addr} {ts : List Tk} {kvs : List (Key × V)} (e : t = S (flat ts)) (hm : Mn m) (hl : (flat ts).length < 40000) (hok : ∀ t ∈ ts, RdOk m t) (hrow : RowAt H m r kvs) (hkl : kvs.length < 1000) (hin : ∀ k ∈ keys (cellsOf m ts), k ∈ kvs.map (·.1)) (hord : m = "order" → kvs.length ≤ (keys (cellsOf m ts)).length)
    (k : ∀ (x : Addr) (H' : Hp), QAt C H' x m (cellsOf m ts) kvs (S (flat ts)) → Same H H' → Q (.ref x) H') : Eg.makeLeaf C (sp_Query_init C) [] E0 Q [.str m, .str t, .ref r] H := by
  intro x dx hx hdx hne
  subst e
  have sx : Same H (upd (upd H dx (.own x)) x (.ins C dx [])) := fun c o e => Eg.upd_mut (ne_of_none e hx) (Eg.upd_old e hdx)
  have hr : upd (upd H dx (.own x)) x (.ins C dx []) r = H r := by
    obtain ⟨o, ho, _⟩ := hrow.ob
    exact (sx _ _ ho).trans ho.symm
  exact ⟨x, dx, r, m, ts, kvs, rfl, upd_same, hm, hl, hok, hrow.to hr, hkl, hin, hord, fun H' hq kp => ⟨rfl, k x H' hq fun c o e => kp c o (sx c o e) (ne_of_none e hx)⟩⟩
theorem BagB.ne {b : Addr} {H : Hp} (h : BagB H b) {D : Addr} (hD : H D = none) : D ≠ b := by
  obtain ⟨bs, eb⟩ := h.ob
  exact (ne_of_none eb hD).symm
theorem disp3 (a b c : V) : mergeK [] ([(.inr "order", a), (.inr "number", b), (.inr "name", c)] : List (Key × V)) = ([(.inr "order", a), (.inr "number", b), (.inr "name", c)] : List (Key × V)) := by rfl
theorem mn_of {v : V} (h : v ∈ [V.str "order", V.str "number", V.str "name"]) : ∃ m, v = .str m ∧ Mn m := by
  rcases List.mem_cons.mp h with rfl | h
  · exact ⟨_, rfl, .inl rfl⟩
  rcases List.mem_cons.mp h with rfl | h
  · exact ⟨_, rfl, .inr (.inl rfl)⟩
  · rw [List.mem_singleton.mp h]
    exact ⟨_, rfl, .inr (.inr rfl)⟩
theorem dispG {m : Str} (hm : Mn m) (ls : List (List Nat)) (n : Nat) : valV ([(.inr "order", .str (S [])), (.inr "number", .str (S (TL.numL (n + 1)))), (.inr "name", .str (S (ls.getD n [])))] : List (Key × V)) (.inr m) = some (.str (S (keyG m ls n))) := by
  rcases hm with rfl | rfl | rfl
  · rw [valV_pos rfl]
    unfold keyG
    rw [if_pos rfl]
  · rw [valV_neg (fun z => o_number (Sum.inr.inj z)), valV_pos rfl]
    unfold keyG
    rw [if_neg fun z => o_number z.symm, if_pos rfl]
  · rw [valV_neg (fun z => o_name (Sum.inr.inj z)), valV_neg (fun z => n_name (Sum.inr.inj z)), valV_pos rfl]
    unfold keyG
    rw [if_neg fun z => o_name z.symm, if_neg fun z => n_name z.symm]
theorem c_addSp {H : Hp} {Q : VK} {l : List Nat} (h : l.length < 90000) (q : Q (.str (S (l ++ [32]))) H) : Es.rAddS (.str (S l)) (.str " ") H Q := by
  rw [show (" " : Str) = S [32] by decide +kernel]
  exact Tw.c_addSS (by show l.length + 1 < _; omega) q
theorem dp_txs {K : PySem.W.Frag} {H : Hp} : ∀ ls : List (List Nat), DpAll K H (txs ls) (ls.map fun l => PyData.str (S l))
  | [] => .nil
  | l :: r => .cons (.str (S l)) (dp_txs r)
theorem due_ok {m : Str} {ls : List (List Nat)} {vs : List V} {ps : List Pk} (hpl : ps.length ≤ 114) (hp : ∀ p ∈ ps, p.2 < vs.length ∧ p.2 < 1000) (hll : ls.length = vs.length) (hl : ∀ l ∈ ls, labelB l = true ∧ l.length ≤ 14) (hd : ∀ v ∈ vs, DV v) : Ok 60 70000 (.list ((dueL m ls vs ps).map fun l => PyData.str (S l))) := by
  refine (Ok.list (k := 0) (N := 500) fun d hd' => ?_).mono (by decide) (by rw [List.length_map, dueL_len]; omega)
  obtain ⟨l, hl', rfl⟩ := List.mem_map.mp hd'
  unfold dueL at hl'
  obtain ⟨p, hpm, rfl⟩ := List.mem_map.mp hl'
  obtain ⟨p1, p2⟩ := zip_mem hpm
  obtain ⟨h1, h2⟩ := hp _ p1
  have kl := keyG_len (m := m) hl (n := p.1.2) (by omega) h2
  have dv : DV (vs.getD p.1.2 .non) := by
    rw [List.getD_eq_getElem?_getD, List.getElem?_eq_getElem h1]
    exact hd _ (List.getElem_mem h1)
  exact (Ok.str (dueP_chars kl.2 dv.chars)).mono (Nat.le_refl _) (Nat.le_trans (dueP_len (by omega) kl.1 dv.small) (by decide))
theorem slAB {r : Int} (h0 : 0 ≤ r) (h1 : r < 3) : ∃ l : List Nat, l.all litB = true ∧ l.length ≤ 2 ∧ ∀ {H : Hp} {Q : VK}, Q (.str (S l)) H → rSlS (.str "ab") none (some r) H Q := by
  rw [show ("ab" : Str) = S [97, 98] by decide +kernel]
  have : r = 0 ∨ r = 1 ∨ r = 2 := by omega
  rcases this with rfl | rfl | rfl
  · exact ⟨[], by decide, by decide, fun q => Tw.c_slS (by decide) (by decide +kernel) q⟩
  · exact ⟨[97], by decide, by decide, fun q => Tw.c_slS (by decide) (by decide +kernel) q⟩
  · exact ⟨[97, 98], by decide, by decide, fun q => Tw.c_slS (by decide) (by decide +kernel) q⟩
local macro_rules | `(tactic| walk_at "tx") => `(tactic| first
  | ((with_reducible refine' c_addO ?hz ?_); (case hz => first | omega | (simp only [List.length_append, List.length_cons, List.length_nil]; omega)))
  | ((with_reducible refine' c_addC ?hz ?_); (case hz => first | omega | (simp only [List.length_append, List.length_cons, List.length_nil]; omega)))
  | ((with_reducible refine' c_addSp ?hz ?_); (case hz => first | omega | (simp only [List.length_append, List.length_cons, List.length_nil]; omega)))
  | with_reducible refine Mk.w_pairC ?_
  | with_reducible refine Mk.w_pairN ?_
  | ((with_reducible refine' c_strA ?hz ?_); (case hz => first | assumption | exact log20 (by omega))))
section
variable {P : Program} {w : World} {K : PySem.W.Frag} {mg : Str → Option Value} {base : Heap} {Z : Ad}
set_option maxHeartbeats 8000000 in
theorem ok_law (T : Txt K mg Z) : Gd.FnG P w K mg base CX0 8 Z.a_law Z.d_law ["_law_script"] (sp_law K) := by
  refine Gd.Fun.okG T.F_law sc_law (fun vs H Q E h => ?_) (fun cdv A outer s H0 vs Q E hr stl h => ?_)
  · obtain ⟨a, ns, rfl, _⟩ := h
    rfl
  · obtain ⟨a, sc, rfl, hS, hlen, q⟩ := h
    have nd := sc_law.nd
    have hu := hu_of hr
    refine ⟨_, (pss_cons (ps_for PassesOwn.never rfl (pi_range1 (by rfl) T.u_range (pa_cons (pe_callB (Eg.cr_max2 rfl) (by rfl) T.u_max (by decide +kernel) (pa_cons pe_int (pa_cons (pe_callB (Eg.cr_min2 rfl) (by rfl) T.u_min (by decide +kernel) (pa_cons pe_int (pa_cons (pe_callB Eg.cr_len (by rfl) T.u_len (by decide +kernel) (pa_cons (pv 0) pa_nil)) pa_nil))) pa_nil))) pa_nil)) (pg_name (i := 1) nd rfl (Or.inl rfl))
  (pss_cons (ps_set (i := 2) nd rfl (Or.inr rfl) (pe_call (ok_l_bag T) (hr.mono (by decide)) (by rfl) T.g_l_bag T.F_l_bag.kp T.b_l_bag .nil pass0 (pa_cons (pv 0) (pa_cons (pv 1) pa_nil))))
  (pss_cons (ps_setLc (i := 4) (own := [("_law_k", 3)]) rfl nd rfl rfl (sw_true rfl rfl rfl (by decide +kernel)) (pi_range1 (by rfl) T.u_range (pa_cons (pe_op op_add pe_int (pe_call (ok_l_take T) (hr.mono (by decide)) (by rfl) T.g_l_take T.F_l_take.kp T.b_l_take .nil pass0 (pa_cons (pv 2) (pa_cons pe_int pa_nil)))) pa_nil)) (blkOk_by (N := N_law) (sc := defScope s_law) (by decide +kernel)) (fun _ _ _ _ _ => (pg_name (i := 3) nd rfl (Or.inl rfl))) (fun _ _ _ _ _ => pts_nil) (fun _ _ _ _ _ => (Eg.peE (pe_call (ok_l_value T) (hr.mono (by decide)) (by rfl) T.g_l_value T.F_l_value.kp T.b_l_value .nil pass0 (pa_cons (pv 2) pa_nil)) (by walk_at "blk"))))
  (pss_cons (ps_set (i := 5) nd rfl (Or.inl rfl) (pe_call (ok_l_labels T) (hr.mono (by decide)) (by rfl) T.g_l_labels T.F_l_labels.kp T.b_l_labels .nil pass0 (pa_cons (pv 2) (pa_cons (pe_callB Eg.cr_len (by rfl) T.u_len (by decide +kernel) (pa_cons (pv 4) pa_nil)) pa_nil))))
  (pss_one (ps_for PassesOwn.never rfl (pi_list (pe_lst (pa_cons pe_str (pa_cons pe_str (pa_cons pe_str pa_nil))))) (pg_name (i := 6) nd rfl (Or.inl rfl))
  (pss_cons (ps_asg (pe_tup (pa_cons pe_str (pa_cons (pe_lst pa_nil) (pa_cons (pe_lst pa_nil) (pa_cons pe_dnewK pa_nil))))) (pg_tup (by rfl) (pgs_cons (pg_name (i := 7) nd rfl (Or.inl rfl)) (pgs_cons (pg_name (i := 8) nd rfl (Or.inl rfl)) (pgs_cons (pg_name (i := 9) nd rfl (Or.inl rfl)) (pgs_cons (pg_name (i := 10) nd rfl (Or.inl rfl)) pgs_nil))))))
  (C8.pss_cut (ps_for PassesOwn.never rfl (pi_range1 (by rfl) T.u_range (pa_cons (pe_call (ok_l_of T) (hr.mono (by decide)) (by rfl) T.g_l_of T.F_l_of.kp T.b_l_of .nil pass0 (pa_cons (pv 2) (pa_cons (pe_lst (pa_cons (pe_call (ok_l_take T) (hr.mono (by decide)) (by rfl) T.g_l_take T.F_l_take.kp T.b_l_take .nil pass0 (pa_cons (pv 2) (pa_cons pe_int pa_nil))) (pa_cons (pe_call (ok_l_take T) (hr.mono (by decide)) (by rfl) T.g_l_take T.F_l_take.kp T.b_l_take .nil pass0 (pa_cons (pv 2) (pa_cons pe_int pa_nil))) (pa_cons (pe_op op_add pe_int (pe_call (ok_l_take T) (hr.mono (by decide)) (by rfl) T.g_l_take T.F_l_take.kp T.b_l_take .nil pass0 (pa_cons (pv 2) (pa_cons pe_int pa_nil)))) pa_nil)))) pa_nil))) pa_nil)) (pg_name (i := 3) nd rfl (Or.inl rfl))
  (pss_cons (ps_set (i := 11) nd rfl (Or.inl rfl) (pe_call (ok_l_take T) (hr.mono (by decide)) (by rfl) T.g_l_take T.F_l_take.kp T.b_l_take .nil pass0 (pa_cons (pv 2) (pa_cons (pe_callB Eg.cr_len (by rfl) T.u_len (by decide +kernel) (pa_cons (pv 4) pa_nil)) pa_nil))))
  (pss_cons (ps_set (i := 12) nd rfl (Or.inl rfl) (pe_op Es.op_addS (pe_op Es.op_addS pe_str (pe_dget hu (pe_disp (pps_cons pe_str pe_str (pps_cons pe_str (pe_callTy Es.cr_strI (by rfl) T.u_str (by decide +kernel) (pa_cons (pe_op op_add (pv 11) pe_int) pa_nil)) (pps_cons pe_str (pe_ix ix_list (pv 5) (pv 11) (fun _ _ => rfl)) pps_nil))) rfl rfl (fun z => nomatch z) (show 3 ≤ 15 by decide)) (pv 6) (fun _ _ => rfl))) pe_str))
  (pss_cons (ps_set (i := 7) nd rfl (Or.inl rfl) (pe_op Es.op_addS (pe_op Es.op_addS (pv 7) (pe_slice sl_str pe_str po_none (po_some (pe_call (ok_l_take T) (hr.mono (by decide)) (by rfl) T.g_l_take T.F_l_take.kp T.b_l_take .nil pass0 (pa_cons (pv 2) (pa_cons pe_int pa_nil)))))) (pv 12)))
  (pss_cons (ps_expr (pe_bm PySem.F.plainAttrs_list PySem.F.slot_list_append PySem.F.type_list_append mt_append (pv 8) (pa_cons (pe_ix ix_list (pv 4) (pv 11) (fun _ _ => rfl)) pa_nil)))
  (pss_cons (ps_dput hu (pv 10) (pe_ix ix_list (pv 5) (pv 11) (fun _ _ => rfl)) (pe_ix ix_list (pv 4) (pv 11) (fun _ _ => rfl)) rfl)
  (pss_cons (ps_set (i := 13) nd rfl (Or.inl rfl) (pe_op Es.op_addS (pe_op Es.op_addS (pe_op Es.op_addS (pe_call (ok_l_right T) (hr.mono (by decide)) (by rfl) T.g_l_right T.F_l_right.kp T.b_l_right .nil pass0 (pa_cons (pe_callTy Es.cr_strI (by rfl) T.u_str (by decide +kernel) (pa_cons (pv 3) pa_nil)) (pa_cons pe_int pa_nil))) pe_str) (pe_call (ok_l_left T) (hr.mono (by decide)) (by rfl) T.g_l_left T.F_l_left.kp T.b_l_left .nil pass0 (pa_cons (pv 12) (pa_cons pe_int pa_nil)))) pe_str))
  (pss_one (ps_expr (pe_bm PySem.F.plainAttrs_list PySem.F.slot_list_append PySem.F.type_list_append mt_append (pv 9) (pa_cons (pe_op Es.op_addS (pv 13) (pe_call (ok_l_right T) (hr.mono (by decide)) (by rfl) T.g_l_right T.F_l_right.kp T.b_l_right .nil pass0 (pa_cons (pe_callTy Fm.cr_strA (by rfl) T.u_str (by decide +kernel) (pa_cons (pe_ix ix_list (pv 4) (pv 11) (fun _ _ => rfl)) pa_nil)) (pa_cons pe_int pa_nil)))) pa_nil)))))))))))
  (C8.pss_cut (ps_set (i := 8) nd rfl (Or.inl rfl) (pe_ifExp (pt_cmpR op_eq (pv 6) pe_str (nomark _)) (pv 8) (pe_ifExp (pt_cmpR op_eq (pv 6) pe_str (nomark _)) (pv 4) (pv 10))))
  (pss_cons (ps_set (i := 14) nd rfl (Or.inl rfl) (pe_make T.mk_Query (ok_Query_init T) (hr.mono (by decide)) (by rfl) T.g_Query T.b_Query_init .nil pass0 (pa_cons (pv 6) (pa_cons (pv 7) (pa_cons (pv 8) pa_nil)))))
  (pss_one (ps_for PassesOwn.never rfl (pi_range1 (by rfl) T.u_range (pa_cons pe_int pa_nil)) (pg_name (i := 15) nd rfl (Or.inl rfl))
  (pss_cons (ps_set (i := 16) nd rfl (Or.inl rfl) (pe_call (ok_page T) (hr.mono (by decide)) (by rfl) T.g_page T.F_page.kp T.b_page .nil pass0 (pa_cons (pv 14) pa_nil)))
  (pss_cons (ps_if (pt_cmpR op_ne (pe_callB (Gd.cr_repr stl (Gd.u70 hr)) (by rfl) T.u_repr (by decide +kernel) (pa_cons (pv 16) pa_nil)) (pe_callB (Gd.cr_repr stl (Gd.u70 hr)) (by rfl) T.u_repr (by decide +kernel) (pa_cons (pv 9) pa_nil)) (nomark _))
  (pss_one (ps_ret pe_bl))
  pss_nil)
  (pss_one (ps_expr (pe_bm PySem.F.plainAttrs_list PySem.F.slot_list_append PySem.F.type_list_append mt_append (pv 16) (pa_cons pe_str pa_nil))))))))))))))))))
  (pss_one (ps_ret pe_bl))), ?_⟩
    refine Eg.w_sig (σ := [some (.ref a), none, none, none, none, none, none, none, none, none, none, none, none, none, none, none, none]) rfl ?_
    walk_at "go"
    refine for_range (lo := 0) (fun i σ' H' => ∃ v1 v2 v3 v4 v5 v6 v7 v8 v9 v10 v11 v12 v13 v14 v15 v16 : Option V, σ' = [some (.ref a), v1, v2, v3, v4, v5, v6, v7, v8, v9, v10, v11, v12, v13, v14, v15, v16] ∧ Same H0 H') ⟨_, _, _, _, _, _, _, _, _, _, _, _, _, _, _, _, rfl, Same.refl _⟩ ?_ ?_
    rotate_left
    · rintro _ H2 ⟨v1, v2, v3, v4, v5, v6, v7, v8, v9, v10, v11, v12, v13, v14, v15, v16, rfl, _⟩
      walk_at "go"
      exact q H2
    rintro i _ H1 hi ⟨v1, v2, v3, v4, v5, v6, v7, v8, v9, v10, v11, v12, v13, v14, v15, v16, rfl, s1⟩
    have hi4 : i < 4 := by
      split at hi <;> split at hi <;> omega
    walk_at "go"
    refine ⟨a, sc, 0 + (i : Int), rfl, s1.seq hS, hlen, by omega, by omega, fun b H2 hb0 hb2 s2 => ?_⟩
    have hnb : ∀ c o, H0 c = some o → c ≠ b := fun c o e => ne_of_none (s1 _ _ e) hb0
    have k2 : KeptB b H0 H2 := .of (s1.trans s2)
    clear s2 hb0
    walk_at "go"
    refine ⟨b, _, rfl, hb2, by decide, by decide, fun r H3 r0 r1 hb3 f3 => ?_⟩
    have k3 := k2.trans (.fr f3)
    obtain ⟨mn, hmn, mn1, mn13⟩ : ∃ mn : Nat, (1 + r : Int) = (mn : Int) ∧ 1 ≤ mn ∧ mn ≤ 13 := ⟨(1 + r).toNat, by omega, by omega, by omega⟩
    walk_at "go"
    rw [hmn]
    clear hb2 k2 f3 hmn r0 r1 H2
    intro D hD
    have hDb : D ≠ b := hb3.ne hD
    have hD3 : ∀ c o, H3 c = some o → c ≠ D := fun c o e => ne_of_none e hD
    refine lc_range (lo := 0) (n := mn) (fun j H' => ∃ xs : List V, H' D = some (.lst xs) ∧ xs.length = j ∧ (∀ x ∈ xs, DV x) ∧ BagB H' b ∧ KeptB b H3 H') ⟨[], upd_same, rfl, (fun _ z => nomatch z), hb3.to (upd_ne hDb.symm), fun c o e n => Eg.upd_old e hD⟩ ?_ ?_
    · rintro j H7 hj ⟨xs, h7D, xl, xok, hb7, k7⟩
      walk_at "go"
      refine ⟨b, rfl, hb7, fun v H8 hv hb8 k8 => ?_⟩
      have h8D := k8 _ _ h7D hDb
      walk_at "go"
      refine ⟨xs ++ [v], ?_, by rw [List.length_append, xl]; rfl, fun x hx => ?_, hb8.to (upd_ne hDb.symm), fun c o e n => Eg.upd_mut (hD3 c o e) (k8 _ _ (k7 c o e n) n)⟩
      · exact upd_same
      · rcases List.mem_append.mp hx with hx | hx
        · exact xok x hx
        · rw [List.mem_singleton.mp hx]
          exact hv
    rintro H7 ⟨vs, h7v, vl, vok, hb7, k7⟩
    have kk7 := k3.trans k7
    clear k3 k7 hb3 hD hD3 H3
    walk_at "go"
    refine ⟨b, mn, by rw [vl]; rfl, hb7, by omega, fun L ls H8 hL h8l lsl lsn lsok hb8 k8 => ?_⟩
    have h8v := k8 _ _ h7v hDb
    have hLb := hb7.ne hL
    have hLD : L ≠ D := (ne_of_none h7v hL).symm
    have kk8 := kk7.trans k8
    clear h7v hb7 kk7 k8 hL H7
    walk_at "go"
    intro o ho
    have ob : o ≠ b := hb8.ne ho
    have h9o : upd H8 o (.lst [.str "order", .str "number", .str "name"]) o = some (.lst [.str "order", .str "number", .str "name"]) := upd_same
    have s9 : Same H8 (upd H8 o (.lst [.str "order", .str "number", .str "name"])) := fun c o' e => Eg.upd_old e ho
    generalize upd H8 o (.lst [.str "order", .str "number", .str "name"]) = H9 at h9o s9 ⊢
    have h9v := s9 _ _ h8v
    have h9l := s9 _ _ h8l
    have hb9 := hb8.keep s9
    have kk9 := kk8.trans (.of s9)
    clear h8v h8l hb8 kk8 s9 ho H8
    walk_at "go"
    refine for_list (xs := [.str "order", .str "number", .str "name"]) (fun j σ' H' => ∃ v3 v6 v7 v8 v9 v10 v11 v12 v13 v14 v15 v16 : Option V, σ' = [some (.ref a), some (.int (0 + (i : Int))), some (.ref b), v3, some (.ref D), some (.ref L), v6, v7, v8, v9, v10, v11, v12, v13, v14, v15, v16] ∧ BagB H' b ∧ KeptB b H9 H') ⟨v3, v6, v7, v8, v9, v10, v11, v12, v13, v14, v15, v16, rfl, hb9, fun c o e _ => e⟩ ?_ ?_ ?_
    · rintro j _ H4 _ ⟨v3, v6, v7, v8, v9, v10, v11, v12, v13, v14, v15, v16, rfl, _, k4⟩
      exact SqL.of (k4 _ _ h9o ob)
    rotate_left
    · rintro _ H4 ⟨v3, v6, v7, v8, v9, v10, v11, v12, v13, v14, v15, v16, rfl, _, k4⟩
      walk_at "go"
      exact ⟨_, _, _, _, _, _, _, _, _, _, _, _, _, _, _, _, rfl, fun c o e => (kk9.trans k4) c o e (hnb c o e)⟩
    rintro j x0 _ H4 hx0 ⟨v3, v6, v7, v8, v9, v10, v11, v12, v13, v14, v15, v16, rfl, hb4, k4⟩
    obtain ⟨m, rfl, hm⟩ := mn_of (List.mem_of_getElem? hx0)
    clear hx0
    have h4v := k4 _ _ h9v hDb
    have h4l := k4 _ _ h9l hLb
    walk_at "go"
    intro R hR
    have nDR : D ≠ R := ne_of_none h4v hR
    have nLR : L ≠ R := ne_of_none h4l hR
    have h5R : upd H4 R (.lst []) R = some (.lst []) := upd_same
    have s5 : Same H4 (upd H4 R (.lst [])) := fun c o' e => Eg.upd_old e hR
    generalize upd H4 R (.lst []) = H5 at h5R s5 ⊢
    walk_at "go"
    intro U hU
    have h6U : upd H5 U (.lst []) U = some (.lst []) := upd_same
    have s6 : Same H5 (upd H5 U (.lst [])) := fun c o' e => Eg.upd_old e hU
    have h6R := s6 _ _ h5R
    have nRU : R ≠ U := ne_of_none h5R hU
    have hU4 : H4 U = none := s5.free hU
    have nDU : D ≠ U := ne_of_none h4v hU4
    have nLU : L ≠ U := ne_of_none h4l hU4
    generalize upd H5 U (.lst []) = H6 at h6U s6 h6R ⊢
    walk_at "go"
    intro Y hY
    have h7Y : upd H6 Y (.dK []) Y = some (.dK []) := upd_same
    have s7 : Same H6 (upd H6 Y (.dK [])) := fun c o' e => Eg.upd_old e hY
    have h7R := s7 _ _ h6R
    have h7U := s7 _ _ h6U
    have nRY : R ≠ Y := ne_of_none h6R hY
    have nUY : U ≠ Y := ne_of_none h6U hY
    have hY4 : H4 Y = none := s5.free (s6.free hY)
    have nDY : D ≠ Y := ne_of_none h4v hY4
    have nLY : L ≠ Y := ne_of_none h4l hY4
    generalize upd H6 Y (.dK []) = H7 at h7Y s7 h7R h7U ⊢
    walk_at "go"
    intro t2 ht2
    have h8t : upd H7 t2 (.tup [.str "", .ref R, .ref U, .ref Y]) t2 = some (.tup [.str "", .ref R, .ref U, .ref Y]) := upd_same
    have s8 : Same H7 (upd H7 t2 (.tup [.str "", .ref R, .ref U, .ref Y])) := fun c o' e => Eg.upd_old e ht2
    generalize upd H7 t2 (.tup [.str "", .ref R, .ref U, .ref Y]) = H8 at h8t s8 ⊢
    have h8R := s8 _ _ h7R
    have h8U := s8 _ _ h7U
    have h8Y := s8 _ _ h7Y
    have s48 := ((s5.trans s6).trans s7).trans s8
    have k8 : KeptB b H4 H8 := .of s48
    have hb8 := hb4.keep s48
    have hRb := hb4.ne hR
    have hUb := hb4.ne hU4
    have hYb := hb4.ne hY4
    walk_at "go"
    rw [show ("" : Str) = S [] by decide +kernel]
    clear h8t s8 ht2 s7 h7Y h7R h7U hY s6 h6U h6R hU s5 h5R s48 H7 H6 H5
    refine ⟨fun σ' H' => ∃ (v3 v11 v12 v13 : Option V) (ps : List Pk) (tab : List (Key × V)), σ' = [some (.ref a), some (.int (0 + (i : Int))), some (.ref b), v3, some (.ref D), some (.ref L), some (.str m), some (.str (S (flat (tks (keyG m ls) ps)))), some (.ref R), some (.ref U), some (.ref Y), v11, v12, v13, v14, v15, v16] ∧ ps.length ≤ 114 ∧ (∀ p ∈ ps, p.2 < mn ∧ p.1.all litB = true ∧ p.1.length ≤ 2) ∧ TabOk ls vs ps tab ∧ H' R = some (.lst (ps.map fun p => vs.getD p.2 .non)) ∧ H' U = some (.lst (txs (dueL m ls vs ps))) ∧ H' Y = some (.dK tab) ∧ BagB H' b ∧ KeptB b H4 H', ?_, ?_⟩
    · walk_at "go"
      refine ⟨b, _, rfl, hb8, by decide, by decide, fun r1 H9 r10 r11 hb9 f9 => ?_⟩
      walk_at "go"
      refine ⟨b, _, rfl, hb9, by decide, by decide, fun r2 H10 r20 r21 hb10 f10 => ?_⟩
      walk_at "go"
      refine ⟨b, _, rfl, hb10, by decide, by decide, fun r3 H11 r30 r31 hb11 f11 => ?_⟩
      walk_at "go"
      intro o2 ho2
      have o2b := hb11.ne ho2
      have s12 : Same H11 (upd H11 o2 (.lst [.int r1, .int r2, .int (95 + r3)])) := fun c o' e => Eg.upd_old e ho2
      have h12 : upd H11 o2 (.lst [.int r1, .int r2, .int (95 + r3)]) o2 = some (.lst [.int r1, .int r2, .int (95 + r3)]) := upd_same
      generalize upd H11 o2 (.lst [.int r1, .int r2, .int (95 + r3)]) = H12 at s12 h12 ⊢
      walk_at "go"
      refine ⟨b, o2, _, rfl, hb11.keep s12, h12, (show 0 < 3 by decide), (show 3 < 1000 by decide), o2b, fun v H13 hv hb13 f13 => ?_⟩
      obtain ⟨n, rfl, hn⟩ : ∃ n : Nat, v = .int (n : Int) ∧ n ≤ 114 := by
        rcases List.mem_cons.mp hv with rfl | hv
        · exact ⟨r1.toNat, by rw [Int.toNat_of_nonneg r10], by omega⟩
        rcases List.mem_cons.mp hv with rfl | hv
        · exact ⟨r2.toNat, by rw [Int.toNat_of_nonneg r20], by omega⟩
        · rw [List.mem_singleton.mp hv]
          exact ⟨(95 + r3).toNat, by rw [Int.toNat_of_nonneg (by omega)], by omega⟩
      have fr : ∀ c o, H8 c = some o → c ≠ b → H13 c = some o := fun c o e n => (f13 c n).trans (s12 _ _ ((f11 c n).trans ((f10 c n).trans ((f9 c n).trans e))))
      have h13R := fr _ _ h8R hRb
      have h13U := fr _ _ h8U hUb
      have h13Y := fr _ _ h8Y hYb
      have k13 : KeptB b H4 H13 := k8.trans fr
      clear hv fr f13 h12 s12 ho2 o2b hb11 f11 hb10 f10 hb9 f9 h8R h8U h8Y k8 hb8 r10 r11 r20 r21 r30 r31 H12 H11 H10 H9 H8
      walk_at "go"
      refine for_range (lo := 0) (fun j σ' H' => ∃ (v3 v11 v12 v13 : Option V) (ps : List Pk) (tab : List (Key × V)), σ' = [some (.ref a), some (.int (0 + (i : Int))), some (.ref b), v3, some (.ref D), some (.ref L), some (.str m), some (.str (S (flat (tks (keyG m ls) ps)))), some (.ref R), some (.ref U), some (.ref Y), v11, v12, v13, v14, v15, v16] ∧ ps.length = j ∧ (∀ p ∈ ps, p.2 < mn ∧ p.1.all litB = true ∧ p.1.length ≤ 2) ∧ TabOk ls vs ps tab ∧ H' R = some (.lst (ps.map fun p => vs.getD p.2 .non)) ∧ H' U = some (.lst (txs (dueL m ls vs ps))) ∧ H' Y = some (.dK tab) ∧ BagB H' b ∧ KeptB b H4 H') ⟨v3, v11, v12, v13, [], [], rfl, rfl, (fun _ z => nomatch z), .nil ls vs, h13R, h13U, h13Y, hb13, k13⟩ ?_ ?_
      rotate_left
      · rintro _ H14 ⟨v3, v11, v12, v13, ps, tab, rfl, pl, rest⟩
        walk_at "go"
        exact ⟨v3, v11, v12, v13, ps, tab, rfl, by omega, rest⟩
      clear h13R h13U h13Y hb13 k13 H13
      rintro jj _ H14 hj ⟨v3, v11, v12, v13, ps, tab, rfl, pl, pok, tok, h14R, h14U, h14Y, hb14, k14⟩
      have j114 : jj < 114 := by omega
      have h14v := k14 _ _ h4v hDb
      walk_at "go"
      refine ⟨b, _, rfl, hb14, by omega, by omega, fun r1 H15 r10 r11 hb15 f15 => ?_⟩
      obtain ⟨n1, rfl⟩ := Int.eq_ofNat_of_zero_le r10
      have n1m : n1 < mn := by omega
      have h15R := (f15 R hRb).trans h14R
      have h15U := (f15 U hUb).trans h14U
      have h15Y := (f15 Y hYb).trans h14Y
      have k15 := k14.trans (.fr f15)
      have h15v := k15 _ _ h4v hDb
      have h15l := k15 _ _ h4l hLb
      have hv : atI (ls.map fun l => V.str (S l)) ((n1 : Nat) : Int) = some (.str (S (ls.getD n1 []))) := by
        refine atI_nat ?_
        rw [List.getElem?_map, List.getD_eq_getElem?_getD, List.getElem?_eq_getElem (by omega)]
        rfl
      have hv2 : atI vs ((n1 : Nat) : Int) = some (vs.getD n1 .non) := by
        refine atI_nat ?_
        rw [List.getD_eq_getElem?_getD, List.getElem?_eq_getElem (by omega)]
        rfl
      clear h14R h14U h14Y h14v hb14 k14 f15 H14
      walk_at "go"
      intro dd hdd
      walk_at "go"
      rw [show Str.ofString (toString (((n1 : Nat) : Int) + 1)) = S (TL.numL (n1 + 1)) from num_S (n1 + 1)]
      refine ⟨upd_same, [(.inr "order", .str (S [])), (.inr "number", .str (S (TL.numL (n1 + 1)))), (.inr "name", .str (S (ls.getD n1 [])))], rfl, (show 3 ≤ 15 by decide), ?_⟩
      rw [disp3]
      have sD : Same H15 (upd (upd H15 dd (.dK [])) dd (.dK [(.inr "order", .str (S [])), (.inr "number", .str (S (TL.numL (n1 + 1)))), (.inr "name", .str (S (ls.getD n1 [])))])) := fun c o e => Eg.upd_mut (ne_of_none e hdd) (Eg.upd_old e hdd)
      have hDd : upd (upd H15 dd (.dK [])) dd (.dK [(.inr "order", .str (S [])), (.inr "number", .str (S (TL.numL (n1 + 1)))), (.inr "name", .str (S (ls.getD n1 [])))]) dd = some (.dK [(.inr "order", .str (S [])), (.inr "number", .str (S (TL.numL (n1 + 1)))), (.inr "name", .str (S (ls.getD n1 [])))]) := upd_same
      generalize upd (upd H15 dd (.dK [])) dd (.dK [(.inr "order", .str (S [])), (.inr "number", .str (S (TL.numL (n1 + 1)))), (.inr "name", .str (S (ls.getD n1 [])))]) = H16 at sD hDd ⊢
      have dg := Tw.dgetK (k := .inr m) (.inl hDd)
      rw [dispG hm] at dg
      have h16R := sD _ _ h15R
      have h16U := sD _ _ h15U
      have h16Y := sD _ _ h15Y
      have h16v := sD _ _ h15v
      have h16l := sD _ _ h15l
      have hb16 := hb15.keep sD
      have k16 := k15.trans (.of sD)
      have kfl := (keyG_len (m := m) (ls := ls) (n := n1) lsok (by omega) (by omega)).1
      clear h15R h15U h15Y h15v h15l hb15 k15
      walk_at "go"
      refine ⟨dd, _, rfl, dg, ?_⟩
      clear dg hDd sD hdd
      walk_at "go"
      refine ⟨b, _, rfl, hb16, by decide, by decide, fun r2 H17 r20 r21 hb17 f17 => ?_⟩
      have h17R := (f17 R hRb).trans h16R
      have h17U := (f17 U hUb).trans h16U
      have h17Y := (f17 Y hYb).trans h16Y
      have k17 := k16.trans (.fr f17)
      have h17v := (f17 D hDb).trans h16v
      have h17l := (f17 L hLb).trans h16l
      clear h16R h16U h16Y hb16 k16 f17 h16v h16l H16
      walk_at "go"
      obtain ⟨lit, lit1, lit2, cut⟩ := slAB r20 r21
      refine cut ?_
      clear cut r20 r21
      have fl := tks_len (f := keyG m ls) (ps := ps) fun p hp => ⟨(pok p hp).2.2, (keyG_len lsok (by have := (pok p hp).1; omega) (by have := (pok p hp).1; omega)).1⟩
      have rl : (ps.map fun p : Pk => vs.getD p.2 .non).length < 100000 := by rw [List.length_map]; omega
      walk_at "go"
      have tl := tok.len
      refine ⟨Y, _, rfl, .inl ⟨tab, .inr (S (ls.getD n1 [])), Eg.upd_mut nRY.symm h17Y, rfl, by rw [sizeLine_eq]; omega, rfl⟩, ?_⟩
      have h18R : upd (upd H17 R (.lst ((ps.map fun p => vs.getD p.2 .non) ++ [vs.getD n1 .non]))) Y (.dK (putK tab (.inr (S (ls.getD n1 []))) (vs.getD n1 .non))) R = some (.lst ((ps.map fun p => vs.getD p.2 .non) ++ [vs.getD n1 .non])) := Eg.upd_mut nRY upd_same
      have h18Y : upd (upd H17 R (.lst ((ps.map fun p => vs.getD p.2 .non) ++ [vs.getD n1 .non]))) Y (.dK (putK tab (.inr (S (ls.getD n1 []))) (vs.getD n1 .non))) Y = some (.dK (putK tab (.inr (S (ls.getD n1 []))) (vs.getD n1 .non))) := upd_same
      have h18U : upd (upd H17 R (.lst ((ps.map fun p => vs.getD p.2 .non) ++ [vs.getD n1 .non]))) Y (.dK (putK tab (.inr (S (ls.getD n1 []))) (vs.getD n1 .non))) U = some (.lst (txs (dueL m ls vs ps))) := Eg.upd_mut nUY (Eg.upd_mut nRU.symm h17U)
      have h18v : upd (upd H17 R (.lst ((ps.map fun p => vs.getD p.2 .non) ++ [vs.getD n1 .non]))) Y (.dK (putK tab (.inr (S (ls.getD n1 []))) (vs.getD n1 .non))) D = some (.lst vs) := Eg.upd_mut nDY (Eg.upd_mut nDR h17v)
      have hb18 : BagB (upd (upd H17 R (.lst ((ps.map fun p => vs.getD p.2 .non) ++ [vs.getD n1 .non]))) Y (.dK (putK tab (.inr (S (ls.getD n1 []))) (vs.getD n1 .non)))) b := (hb17.to (upd_ne hRb.symm)).to (upd_ne hYb.symm)
      have k18 : KeptB b H4 (upd (upd H17 R (.lst ((ps.map fun p => vs.getD p.2 .non) ++ [vs.getD n1 .non]))) Y (.dK (putK tab (.inr (S (ls.getD n1 []))) (vs.getD n1 .non)))) := fun c o e n => Eg.upd_mut (ne_of_none e hY4) (Eg.upd_mut (ne_of_none e hR) (k17 c o e n))
      generalize upd (upd H17 R (.lst ((ps.map fun p => vs.getD p.2 .non) ++ [vs.getD n1 .non]))) Y (.dK (putK tab (.inr (S (ls.getD n1 []))) (vs.getD n1 .non))) = H18 at h18R h18Y h18U h18v hb18 k18 ⊢
      clear h17R h17Y h17U h17v h17l hb17 k17 H17 hv
      have dv : DV (vs.getD n1 .non) := by
        rw [List.getD_eq_getElem?_getD, List.getElem?_eq_getElem (by omega)]
        exact vok _ (List.getElem_mem _)
      obtain ⟨dv1, dv2⟩ := dv.txs
      have nj := TL.numL_len (n := jj) (k := 6) (by decide) (by omega)
      have p1 := padR_len (n := 3) (l := TL.numL jj)
      have p2 := padL_len (n := 12) (l := 123 :: keyG m ls n1 ++ [125])
      have p3 := padR_len (n := 12) (l := txV (vs.getD n1 .non))
      have z2 : (123 :: keyG m ls n1 ++ [125]).length = (keyG m ls n1).length + 2 := by rw [List.length_append, List.length_cons]; rfl
      rw [z2] at p2
      have ul : (txs (dueL m ls vs ps)).length < 100000 := by
        unfold txs
        rw [List.length_map, dueL_len]
        omega
      walk_at "go"
      rw [show Str.ofString (toString (0 + (jj : Int))) = S (TL.numL jj) by rw [Int.zero_add]; exact num_S jj]
      refine ⟨TL.numL jj, 3, rfl, by omega, by decide, ?_⟩
      walk_at "go"
      refine ⟨123 :: keyG m ls n1 ++ [125], 12, rfl, by omega, by decide, ?_⟩
      walk_at "go"
      refine ⟨txV (vs.getD n1 .non), 12, rfl, by omega, by decide, ?_⟩
      walk_at "go"
      have inj : ∀ x y, x < vs.length → y < vs.length → ls.getD x [] = ls.getD y [] → x = y := fun x y hx hy e => by
        rw [List.getD_eq_getElem?_getD, List.getD_eq_getElem?_getD, List.getElem?_eq_getElem (by omega), List.getElem?_eq_getElem (by omega)] at e
        rcases Nat.lt_trichotomy x y with h | h | h
        · exact absurd e (List.pairwise_iff_getElem.mp lsn x y (by omega) (by omega) h)
        · exact h
        · exact absurd e.symm (List.pairwise_iff_getElem.mp lsn y x (by omega) (by omega) h)
      refine ⟨some (.int (0 + (jj : Int))), some (.int (n1 : Nat)), some (.str (S (123 :: keyG m ls n1 ++ [125]))), some (.str (S (padR 3 (TL.numL jj) ++ [32] ++ padL 12 (123 :: keyG m ls n1 ++ [125]) ++ [32]))), ps ++ [(lit, n1)], _, ?_, by rw [List.length_append, pl]; rfl, fun p hp => ?_, tok.put lit (by omega) inj fun p hp => by rw [vl]; exact (pok p hp).1, ?_, ?_, Eg.upd_mut nUY.symm h18Y, hb18.to (upd_ne hUb.symm), fun c o e n => Eg.upd_mut (ne_of_none e hU4) (k18 c o e n)⟩
      · rw [flat_snoc]
        have e : flat (tks (keyG m ls) ps) ++ lit ++ (123 :: keyG m ls n1 ++ [125]) = flat (tks (keyG m ls) ps) ++ lit ++ [123] ++ keyG m ls n1 ++ [125] := by simp
        rw [e]
        rfl
      · rcases List.mem_append.mp hp with hp | hp
        · exact pok p hp
        · rw [List.mem_singleton.mp hp]
          exact ⟨n1m, lit1, lit2⟩
      · rw [Eg.upd_mut nRU h18R, List.map_append]
        rfl
      · rw [upd_same, dueL_snoc]
        unfold txs
        rw [List.map_append, pl]
        have e : padR 3 (TL.numL jj) ++ [32] ++ padL 12 (123 :: keyG m ls n1 ++ [125]) ++ [32] ++ padR 12 (txV (vs.getD n1 .non)) = dueP m ls vs ((lit, n1), jj) := by
          unfold dueP
          rw [← lineL_eq]
          simp
        rw [e]
        rfl
    rintro _ H5 ⟨v3, v11, v12, v13, ps, tab, rfl, pl, pok, tok, h5R, h5U, h5Y, hb5, k5⟩
    walk_at "go"
    have h5v := k5 _ _ h4v hDb
    have pk : ∀ p ∈ ps, p.2 < vs.length := fun p hp => by rw [vl]; exact (pok p hp).1
    have pk2 : ∀ p ∈ ps, p.2 < 1000 := fun p hp => by have := (pok p hp).1; omega
    have lv : ls.length = vs.length := by rw [lsl, vl]
    refine ⟨fun σ' H' => σ' = [some (.ref a), some (.int (0 + (i : Int))), some (.ref b), v3, some (.ref D), some (.ref L), some (.str m), some (.str (S (flat (tks (keyG m ls) ps)))), some (.ref (if m = "order" then R else if m = "number" then D else Y)), some (.ref U), some (.ref Y), v11, v12, v13, v14, v15, v16] ∧ H5 = H', ?_, ?_⟩
    · walk_at "go"
      by_cases e1 : m = "order"
      · rw [decide_eq_true (show V.str m = V.str "order" by rw [e1]), if_pos e1]
        walk_at "go"
        exact ⟨rfl, rfl⟩
      · rw [decide_eq_false (show ¬ V.str m = V.str "order" from fun z => e1 (V.str.inj z)), if_neg e1]
        walk_at "go"
        by_cases e2 : m = "number"
        · rw [decide_eq_true (show V.str m = V.str "number" by rw [e2]), if_pos e2]
          walk_at "go"
          exact ⟨rfl, rfl⟩
        · rw [decide_eq_false (show ¬ V.str m = V.str "number" from fun z => e2 (V.str.inj z)), if_neg e2]
          walk_at "go"
          exact ⟨rfl, rfl⟩
    rintro _ _ ⟨rfl, rfl⟩
    walk_at "go"
    have fl := tks_len (f := keyG m ls) (ps := ps) fun p hp => ⟨(pok p hp).2.2, (keyG_len lsok (by have := (pok p hp).1; omega) (by have := (pok p hp).1; omega)).1⟩
    refine mk_query (ts := tks (keyG m ls) ps) (kvs := kvsG m vs ps tab) rfl hm (by omega) (rdG hm lsok fun p hp => ⟨by rw [lsl]; exact (pok p hp).1, pk2 p hp, (pok p hp).2.1⟩) (rowG hm tok lv pk lsok vok h5R h5v h5Y) (kvsG_len (ls := ls) tok (by omega) (by omega)) (fun k hk => ?_) (ordG hm pk2) fun x H6 hq s6 => ?_
    · obtain ⟨p, _, _, hv⟩ := keys_in hm tok pk pk2 k hk
      exact val_key hv
    have h6U := s6 _ _ h5U
    have hb6 := hb5.keep s6
    have k6 := k5.trans (.of s6)
    have kl : (keys (cellsOf m (tks (keyG m ls) ps))).length < 1000 := by
      rw [keysG hm ls pk2, List.length_map, List.length_zipIdx]
      omega
    have pd := page_due (kvs := kvsG m vs ps tab) hm pk2 (kvsG_val hm tok pk)
    have dok := due_ok (m := m) pl (fun p hp => ⟨pk p hp, pk2 p hp⟩) lv lsok vok
    have ul : (txs (dueL m ls vs ps)).length < 100000 := by
      unfold txs
      rw [List.length_map, dueL_len]
      omega
    clear h5v h5R h5Y h5U hb5 k5 s6
    walk_at "go"
    refine for_range (lo := 0) (fun _ σ' H' => ∃ v15 v16 : Option V, σ' = [some (.ref a), some (.int (0 + (i : Int))), some (.ref b), v3, some (.ref D), some (.ref L), some (.str m), some (.str (S (flat (tks (keyG m ls) ps)))), some (.ref (if m = "order" then R else if m = "number" then D else Y)), some (.ref U), some (.ref Y), v11, v12, v13, some (.ref x), v15, v16] ∧ Same H6 H') ⟨v15, v16, rfl, Same.refl _⟩ ?_ ?_
    rotate_left
    · rintro _ H7 ⟨v15, v16, rfl, s7⟩
      walk_at "go"
      exact ⟨_, _, _, _, _, _, _, _, _, _, _, _, rfl, hb6.keep s7, (k4.trans k6).trans (.of s7)⟩
    rintro _ _ H7 _ ⟨v15, v16, rfl, s7⟩
    walk_at "go"
    refine ⟨x, m, _, _, _, rfl, hq.keep s7, kl, kok hm tok pk pk2 (by omega) lv lsok vok, fun r H8 hr8 h8 s8 => ?_⟩
    rw [pd] at h8
    have h8U := s8 _ _ (s7 _ _ h6U)
    have hr6 : H6 r = none := s7.free hr8
    walk_at "go"
    refine c_repr (d := .list ((dueL m ls vs ps).map fun l => PyData.str (S l))) (.lst (SqL.of h8) (dp_txs _)) dok (by decide) ?_
    walk_at "go"
    refine c_repr (d := .list ((dueL m ls vs ps).map fun l => PyData.str (S l))) (.lst (SqL.of h8U) (dp_txs _)) dok (by decide) ?_
    walk_at "go"
    rw [decide_eq_true (rfl : V.str (PyData.list ((dueL m ls vs ps).map fun l => PyData.str (S l))).shown = V.str _)]
    walk_at "go"
    exact ⟨_, _, rfl, fun c o e => Eg.upd_mut (ne_of_none e hr6) (s8 _ _ (s7 _ _ e))⟩
end
end LW

namespace LW
open PySem L2
set_option maxHeartbeats 8000000 in
theorem all_mk {l : PySem.W.OpenLaw} {w : World} {K : PySem.W.Frag} {h : Heap} {mg : Str → Option Value} {fa f0 f1 f2 f3 f4 f5 f6 f7 f8 f9 f10 f11 f12 f13 f14 f15 f16 f17 f18 f19 f20 f21 f22 C0 : Addr} (X : K.In h) (G : h.Ns mainGlobals mg) (hfa : mg "law" = some (.ref fa))
    {od0 an0 : Option Addr} {sl0 : Array (Option Value)} {oc0 kV0 dc0 pm0 cd0 ct0 : Value}
    {od1 an1 : Option Addr} {sl1 : Array (Option Value)} {oc1 kV1 dc1 pm1 cd1 ct1 : Value}
    {od2 an2 : Option Addr} {sl2 : Array (Option Value)} {oc2 kV2 dc2 pm2 cd2 ct2 : Value}
    {od3 an3 : Option Addr} {sl3 : Array (Option Value)} {oc3 kV3 dc3 pm3 cd3 ct3 : Value}
    {od4 an4 : Option Addr} {sl4 : Array (Option Value)} {oc4 kV4 dc4 pm4 cd4 ct4 : Value}
    {od5 an5 : Option Addr} {sl5 : Array (Option Value)} {oc5 kV5 dc5 pm5 cd5 ct5 : Value}
    {od6 an6 : Option Addr} {sl6 : Array (Option Value)} {oc6 kV6 dc6 pm6 cd6 ct6 : Value}
    {od7 an7 : Option Addr} {sl7 : Array (Option Value)} {oc7 kV7 dc7 pm7 cd7 ct7 : Value}
    {od8 an8 : Option Addr} {sl8 : Array (Option Value)} {oc8 kV8 dc8 pm8 cd8 ct8 : Value}
    {od9 an9 : Option Addr} {sl9 : Array (Option Value)} {oc9 kV9 dc9 pm9 cd9 ct9 : Value}
    {od10 an10 : Option Addr} {sl10 : Array (Option Value)} {oc10 kV10 dc10 pm10 cd10 ct10 : Value}
    {od11 an11 : Option Addr} {sl11 : Array (Option Value)} {oc11 kV11 dc11 pm11 cd11 ct11 : Value}
    {od12 an12 : Option Addr} {sl12 : Array (Option Value)} {oc12 kV12 dc12 pm12 cd12 ct12 : Value}
    {od13 an13 : Option Addr} {sl13 : Array (Option Value)} {oc13 kV13 dc13 pm13 cd13 ct13 : Value}
    {od14 an14 : Option Addr} {sl14 : Array (Option Value)} {oc14 kV14 dc14 pm14 cd14 ct14 : Value}
    {od15 an15 : Option Addr} {sl15 : Array (Option Value)} {oc15 kV15 dc15 pm15 cd15 ct15 : Value}
    {od16 an16 : Option Addr} {sl16 : Array (Option Value)} {oc16 kV16 dc16 pm16 cd16 ct16 : Value}
    {od17 an17 : Option Addr} {sl17 : Array (Option Value)} {oc17 kV17 dc17 pm17 cd17 ct17 : Value}
    {od18 an18 : Option Addr} {sl18 : Array (Option Value)} {oc18 kV18 dc18 pm18 cd18 ct18 : Value}
    {od19 an19 : Option Addr} {sl19 : Array (Option Value)} {oc19 kV19 dc19 pm19 cd19 ct19 : Value}
    {od20 an20 : Option Addr} {sl20 : Array (Option Value)} {oc20 kV20 dc20 pm20 cd20 ct20 : Value}
    {od21 an21 : Option Addr} {sl21 : Array (Option Value)} {oc21 kV21 dc21 pm21 cd21 ct21 : Value}
    {od22 an22 : Option Addr} {sl22 : Array (Option Value)} {oc22 kV22 dc22 pm22 cd22 ct22 : Value}
    {tk_DIGITS tk_MOST_DIGITS tk_MOST_VALUE tk_MOST_WORD : PySem.Tok}
    (aC0 : PySem.W.nsIn K mainGlobals "Query" = some (some (.ref C0)))
    (a0 : PySem.W.nsIn K mainGlobals "is_word" = some (some (.ref f0)))
    (l0 : K.lookup f0 = some ⟨oc0, od0, .func (PySem.W.fnOf "is_word" "is_word" (defArgs s_is_word) (defBody s_is_word) (defScope s_is_word) .none kV0 dc0 pm0 an0 cd0 ct0), sl0⟩)
    (c0 : PySem.W.codeIn K cd0 "is_word" = true)
    (k0 : PySem.W.keepIn K (.ref f0) = true)
    (a1 : PySem.W.nsIn K mainGlobals "is_count" = some (some (.ref f1)))
    (l1 : K.lookup f1 = some ⟨oc1, od1, .func (PySem.W.fnOf "is_count" "is_count" (defArgs s_is_count) (defBody s_is_count) (defScope s_is_count) .none kV1 dc1 pm1 an1 cd1 ct1), sl1⟩)
    (c1 : PySem.W.codeIn K cd1 "is_count" = true)
    (k1 : PySem.W.keepIn K (.ref f1) = true)
    (a2 : PySem.W.nsIn K mainGlobals "is_label" = some (some (.ref f2)))
    (l2 : K.lookup f2 = some ⟨oc2, od2, .func (PySem.W.fnOf "is_label" "is_label" (defArgs s_is_label) (defBody s_is_label) (defScope s_is_label) .none kV2 dc2 pm2 an2 cd2 ct2), sl2⟩)
    (c2 : PySem.W.codeIn K cd2 "is_label" = true)
    (k2 : PySem.W.keepIn K (.ref f2) = true)
    (a3 : PySem.W.nsIn K mainGlobals "is_value" = some (some (.ref f3)))
    (l3 : K.lookup f3 = some ⟨oc3, od3, .func (PySem.W.fnOf "is_value" "is_value" (defArgs s_is_value) (defBody s_is_value) (defScope s_is_value) .none kV3 dc3 pm3 an3 cd3 ct3), sl3⟩)
    (c3 : PySem.W.codeIn K cd3 "is_value" = true)
    (k3 : PySem.W.keepIn K (.ref f3) = true)
    (a4 : PySem.W.nsIn K mainGlobals "is_literal" = some (some (.ref f4)))
    (l4 : K.lookup f4 = some ⟨oc4, od4, .func (PySem.W.fnOf "is_literal" "is_literal" (defArgs s_is_literal) (defBody s_is_literal) (defScope s_is_literal) .none kV4 dc4 pm4 an4 cd4 ct4), sl4⟩)
    (c4 : PySem.W.codeIn K cd4 "is_literal" = true)
    (k4 : PySem.W.keepIn K (.ref f4) = true)
    (a5 : PySem.W.nsIn K mainGlobals "is_key" = some (some (.ref f5)))
    (l5 : K.lookup f5 = some ⟨oc5, od5, .func (PySem.W.fnOf "is_key" "is_key" (defArgs s_is_key) (defBody s_is_key) (defScope s_is_key) .none kV5 dc5 pm5 an5 cd5 ct5), sl5⟩)
    (c5 : PySem.W.codeIn K cd5 "is_key" = true)
    (k5 : PySem.W.keepIn K (.ref f5) = true)
    (a6 : PySem.W.nsIn K mainGlobals "read_parts" = some (some (.ref f6)))
    (l6 : K.lookup f6 = some ⟨oc6, od6, .func (PySem.W.fnOf "read_parts" "read_parts" (defArgs s_read_parts) (defBody s_read_parts) (defScope s_read_parts) .none kV6 dc6 pm6 an6 cd6 ct6), sl6⟩)
    (c6 : PySem.W.codeIn K cd6 "read_parts" = true)
    (k6 : PySem.W.keepIn K (.ref f6) = true)
    (a7 : PySem.W.nsIn K mainGlobals "merged" = some (some (.ref f7)))
    (l7 : K.lookup f7 = some ⟨oc7, od7, .func (PySem.W.fnOf "merged" "merged" (defArgs s_merged) (defBody s_merged) (defScope s_merged) .none kV7 dc7 pm7 an7 cd7 ct7), sl7⟩)
    (c7 : PySem.W.codeIn K cd7 "merged" = true)
    (k7 : PySem.W.keepIn K (.ref f7) = true)
    (a8 : PySem.W.nsIn K mainGlobals "check_manner" = some (some (.ref f8)))
    (l8 : K.lookup f8 = some ⟨oc8, od8, .func (PySem.W.fnOf "check_manner" "check_manner" (defArgs s_check_manner) (defBody s_check_manner) (defScope s_check_manner) .none kV8 dc8 pm8 an8 cd8 ct8), sl8⟩)
    (c8 : PySem.W.codeIn K cd8 "check_manner" = true)
    (k8 : PySem.W.keepIn K (.ref f8) = true)
    (a9 : PySem.W.nsIn K mainGlobals "keyed" = some (some (.ref f9)))
    (l9 : K.lookup f9 = some ⟨oc9, od9, .func (PySem.W.fnOf "keyed" "keyed" (defArgs s_keyed) (defBody s_keyed) (defScope s_keyed) .none kV9 dc9 pm9 an9 cd9 ct9), sl9⟩)
    (c9 : PySem.W.codeIn K cd9 "keyed" = true)
    (k9 : PySem.W.keepIn K (.ref f9) = true)
    (a10 : PySem.W.nsIn K mainGlobals "table_of" = some (some (.ref f10)))
    (l10 : K.lookup f10 = some ⟨oc10, od10, .func (PySem.W.fnOf "table_of" "table_of" (defArgs s_table_of) (defBody s_table_of) (defScope s_table_of) .none kV10 dc10 pm10 an10 cd10 ct10), sl10⟩)
    (c10 : PySem.W.codeIn K cd10 "table_of" = true)
    (k10 : PySem.W.keepIn K (.ref f10) = true)
    (a11 : PySem.W.nsIn K mainGlobals "keys_of" = some (some (.ref f11)))
    (l11 : K.lookup f11 = some ⟨oc11, od11, .func (PySem.W.fnOf "keys_of" "keys_of" (defArgs s_keys_of) (defBody s_keys_of) (defScope s_keys_of) .none kV11 dc11 pm11 an11 cd11 ct11), sl11⟩)
    (c11 : PySem.W.codeIn K cd11 "keys_of" = true)
    (k11 : PySem.W.keepIn K (.ref f11) = true)
    (a12 : PySem.W.findIn K (.ref C0) "__init__" = some (some (.ref f12)))
    (i12 : PySem.W.isFn K (.ref f12) = true)
    (l12 : K.lookup f12 = some ⟨oc12, od12, .func (PySem.W.fnOf "__init__" "Query.__init__" (defArgs s_Query_init) (defBody s_Query_init) (defScope s_Query_init) .none kV12 dc12 pm12 an12 cd12 ct12), sl12⟩)
    (c12 : PySem.W.codeIn K cd12 "Query.__init__" = true)
    (k12 : PySem.W.keepIn K (.ref f12) = true)
    (a13 : PySem.W.nsIn K mainGlobals "page" = some (some (.ref f13)))
    (l13 : K.lookup f13 = some ⟨oc13, od13, .func (PySem.W.fnOf "page" "page" (defArgs s_page) (defBody s_page) (defScope s_page) .none kV13 dc13 pm13 an13 cd13 ct13), sl13⟩)
    (c13 : PySem.W.codeIn K cd13 "page" = true)
    (k13 : PySem.W.keepIn K (.ref f13) = true)
    (a14 : PySem.W.nsIn K mainGlobals "_law_bag" = some (some (.ref f14)))
    (l14 : K.lookup f14 = some ⟨oc14, od14, .func (PySem.W.fnOf "_law_bag" "_law_bag" (defArgs s_l_bag) (defBody s_l_bag) (defScope s_l_bag) .none kV14 dc14 pm14 an14 cd14 ct14), sl14⟩)
    (c14 : PySem.W.codeIn K cd14 "_law_bag" = true)
    (k14 : PySem.W.keepIn K (.ref f14) = true)
    (a15 : PySem.W.nsIn K mainGlobals "_law_take" = some (some (.ref f15)))
    (l15 : K.lookup f15 = some ⟨oc15, od15, .func (PySem.W.fnOf "_law_take" "_law_take" (defArgs s_l_take) (defBody s_l_take) (defScope s_l_take) .none kV15 dc15 pm15 an15 cd15 ct15), sl15⟩)
    (c15 : PySem.W.codeIn K cd15 "_law_take" = true)
    (k15 : PySem.W.keepIn K (.ref f15) = true)
    (a16 : PySem.W.nsIn K mainGlobals "_law_of" = some (some (.ref f16)))
    (l16 : K.lookup f16 = some ⟨oc16, od16, .func (PySem.W.fnOf "_law_of" "_law_of" (defArgs s_l_of) (defBody s_l_of) (defScope s_l_of) .none kV16 dc16 pm16 an16 cd16 ct16), sl16⟩)
    (c16 : PySem.W.codeIn K cd16 "_law_of" = true)
    (k16 : PySem.W.keepIn K (.ref f16) = true)
    (a17 : PySem.W.nsIn K mainGlobals "_law_wide" = some (some (.ref f17)))
    (l17 : K.lookup f17 = some ⟨oc17, od17, .func (PySem.W.fnOf "_law_wide" "_law_wide" (defArgs s_l_wide) (defBody s_l_wide) (defScope s_l_wide) .none kV17 dc17 pm17 an17 cd17 ct17), sl17⟩)
    (c17 : PySem.W.codeIn K cd17 "_law_wide" = true)
    (k17 : PySem.W.keepIn K (.ref f17) = true)
    (a18 : PySem.W.nsIn K mainGlobals "_law_value" = some (some (.ref f18)))
    (l18 : K.lookup f18 = some ⟨oc18, od18, .func (PySem.W.fnOf "_law_value" "_law_value" (defArgs s_l_value) (defBody s_l_value) (defScope s_l_value) .none kV18 dc18 pm18 an18 cd18 ct18), sl18⟩)
    (c18 : PySem.W.codeIn K cd18 "_law_value" = true)
    (k18 : PySem.W.keepIn K (.ref f18) = true)
    (a19 : PySem.W.nsIn K mainGlobals "_law_labels" = some (some (.ref f19)))
    (l19 : K.lookup f19 = some ⟨oc19, od19, .func (PySem.W.fnOf "_law_labels" "_law_labels" (defArgs s_l_labels) (defBody s_l_labels) (defScope s_l_labels) .none kV19 dc19 pm19 an19 cd19 ct19), sl19⟩)
    (c19 : PySem.W.codeIn K cd19 "_law_labels" = true)
    (k19 : PySem.W.keepIn K (.ref f19) = true)
    (a20 : PySem.W.nsIn K mainGlobals "_law_left" = some (some (.ref f20)))
    (l20 : K.lookup f20 = some ⟨oc20, od20, .func (PySem.W.fnOf "_law_left" "_law_left" (defArgs s_l_left) (defBody s_l_left) (defScope s_l_left) .none kV20 dc20 pm20 an20 cd20 ct20), sl20⟩)
    (c20 : PySem.W.codeIn K cd20 "_law_left" = true)
    (k20 : PySem.W.keepIn K (.ref f20) = true)
    (a21 : PySem.W.nsIn K mainGlobals "_law_right" = some (some (.ref f21)))
    (l21 : K.lookup f21 = some ⟨oc21, od21, .func (PySem.W.fnOf "_law_right" "_law_right" (defArgs s_l_right) (defBody s_l_right) (defScope s_l_right) .none kV21 dc21 pm21 an21 cd21 ct21), sl21⟩)
    (c21 : PySem.W.codeIn K cd21 "_law_right" = true)
    (k21 : PySem.W.keepIn K (.ref f21) = true)
    (a22 : PySem.W.nsIn K mainGlobals "law" = some (some (.ref f22)))
    (l22 : K.lookup f22 = some ⟨oc22, od22, .func (PySem.W.fnOf "law" "law" (defArgs s_law) (defBody s_law) (defScope s_law) .none kV22 dc22 pm22 an22 cd22 ct22), sl22⟩)
    (c22 : PySem.W.codeIn K cd22 "law" = true)
    (k22 : PySem.W.keepIn K (.ref f22) = true)
    (pg0 : PySem.W.plainGet K C0 Str.empty = true)
    (hd0 : PySem.W.hasDictIn K C0 = true)
    (po0 : PySem.W.plainOver K C0 = true)
    (sa0 : PySem.W.findIn K (.ref C0) "__setattr__" = some (some (.builtin "object.__setattr__")))
    (mk0 : PySem.W.makesIn K C0 = true)
    (kc0 : PySem.W.keepIn K (.ref C0) = true)
    (n0_0 : PySem.W.findIn K (.ref C0) "cells" = some none)
    (n0_1 : PySem.W.findIn K (.ref C0) "assigned" = some none)
    (n0_2 : PySem.W.findIn K (.ref C0) "manner" = some none)
    (n0_3 : PySem.W.findIn K (.ref C0) "text" = some none)
    (kst_DIGITS : PySem.W.nsIn K mainGlobals "DIGITS" = some (some (.str "0123456789" tk_DIGITS)))
    (kst_MOST_DIGITS : PySem.W.nsIn K mainGlobals "MOST_DIGITS" = some (some (.int 6 tk_MOST_DIGITS)))
    (kst_MOST_VALUE : PySem.W.nsIn K mainGlobals "MOST_VALUE" = some (some (.int 10000000000000000000000000000000000000000 tk_MOST_VALUE)))
    (kst_MOST_WORD : PySem.W.nsIn K mainGlobals "MOST_WORD" = some (some (.int 8 tk_MOST_WORD)))
    (z0 : PySem.W.nsIn K mainGlobals "abs" = some none)
    (z1 : PySem.W.nsIn K mainGlobals "all" = some none)
    (z2 : PySem.W.nsIn K mainGlobals "bool" = some none)
    (z3 : PySem.W.nsIn K mainGlobals "dict" = some none)
    (z4 : PySem.W.nsIn K mainGlobals "enumerate" = some none)
    (z5 : PySem.W.nsIn K mainGlobals "int" = some none)
    (z6 : PySem.W.nsIn K mainGlobals "isinstance" = some none)
    (z7 : PySem.W.nsIn K mainGlobals "len" = some none)
    (z8 : PySem.W.nsIn K mainGlobals "list" = some none)
    (z9 : PySem.W.nsIn K mainGlobals "max" = some none)
    (z10 : PySem.W.nsIn K mainGlobals "min" = some none)
    (z11 : PySem.W.nsIn K mainGlobals "ord" = some none)
    (z12 : PySem.W.nsIn K mainGlobals "range" = some none)
    (z13 : PySem.W.nsIn K mainGlobals "repr" = some none)
    (z14 : PySem.W.nsIn K mainGlobals "str" = some none)
    (z15 : PySem.W.nsIn K mainGlobals "tuple" = some none) :
    ∃ fd : FuncData, (∀ (s : Shared) (v : Value), BindsTo s fd ⟨[v], []⟩ [("_law_script", v)]) ∧ ∀ base : Heap, K.In base → base.Ns mainGlobals mg → Gd.FnG l.prog w K mg base CX0 8 fa fd ["_law_script"] (sp_law K) := by
  have e := hfa.symm.trans (PySem.W.mg_of X G a22)
  cases e
  have F0 := fun_mk (st := s_is_word) l0 c0 k0
  have F1 := fun_mk (st := s_is_count) l1 c1 k1
  have F2 := fun_mk (st := s_is_label) l2 c2 k2
  have F3 := fun_mk (st := s_is_value) l3 c3 k3
  have F4 := fun_mk (st := s_is_literal) l4 c4 k4
  have F5 := fun_mk (st := s_is_key) l5 c5 k5
  have F6 := fun_mk (st := s_read_parts) l6 c6 k6
  have F7 := fun_mk (st := s_merged) l7 c7 k7
  have F8 := fun_mk (st := s_check_manner) l8 c8 k8
  have F9 := fun_mk (st := s_keyed) l9 c9 k9
  have F10 := fun_mk (st := s_table_of) l10 c10 k10
  have F11 := fun_mk (st := s_keys_of) l11 c11 k11
  have F12 := fun_mk (st := s_Query_init) l12 c12 k12
  have F13 := fun_mk (st := s_page) l13 c13 k13
  have F14 := fun_mk (st := s_l_bag) l14 c14 k14
  have F15 := fun_mk (st := s_l_take) l15 c15 k15
  have F16 := fun_mk (st := s_l_of) l16 c16 k16
  have F17 := fun_mk (st := s_l_wide) l17 c17 k17
  have F18 := fun_mk (st := s_l_value) l18 c18 k18
  have F19 := fun_mk (st := s_l_labels) l19 c19 k19
  have F20 := fun_mk (st := s_l_left) l20 c20 k20
  have F21 := fun_mk (st := s_l_right) l21 c21 k21
  have F22 := fun_mk (st := s_law) l22 c22 k22
  have b0 := F0.binds (ps := ["thing"]) fun _ _ _ _ _ _ us hl => match us, hl with | [_], _ => rfl
  have b1 := F1.binds (ps := ["text"]) fun _ _ _ _ _ _ us hl => match us, hl with | [_], _ => rfl
  have b2 := F2.binds (ps := ["thing"]) fun _ _ _ _ _ _ us hl => match us, hl with | [_], _ => rfl
  have b3 := F3.binds (ps := ["thing"]) fun _ _ _ _ _ _ us hl => match us, hl with | [_], _ => rfl
  have b4 := F4.binds (ps := ["sign"]) fun _ _ _ _ _ _ us hl => match us, hl with | [_], _ => rfl
  have b5 := F5.binds (ps := ["key", "kind"]) fun _ _ _ _ _ _ us hl => match us, hl with | [_, _], _ => rfl
  have b6 := F6.binds (ps := ["text", "kind"]) fun _ _ _ _ _ _ us hl => match us, hl with | [_, _], _ => rfl
  have b7 := F7.binds (ps := ["parts"]) fun _ _ _ _ _ _ us hl => match us, hl with | [_], _ => rfl
  have b8 := F8.binds (ps := ["manner"]) fun _ _ _ _ _ _ us hl => match us, hl with | [_], _ => rfl
  have b9 := F9.binds (ps := ["manner", "parts"]) fun _ _ _ _ _ _ us hl => match us, hl with | [_, _], _ => rfl
  have b10 := F10.binds (ps := ["manner", "row"]) fun _ _ _ _ _ _ us hl => match us, hl with | [_, _], _ => rfl
  have b11 := F11.binds (ps := ["cells"]) fun _ _ _ _ _ _ us hl => match us, hl with | [_], _ => rfl
  have b12 := F12.binds (ps := ["self", "manner", "text", "row"]) fun _ _ _ _ _ _ us hl => match us, hl with | [_, _, _, _], _ => rfl
  have b13 := F13.binds (ps := ["query"]) fun _ _ _ _ _ _ us hl => match us, hl with | [_], _ => rfl
  have b14 := F14.binds (ps := ["_law_script", "_law_at"]) fun _ _ _ _ _ _ us hl => match us, hl with | [_, _], _ => rfl
  have b15 := F15.binds (ps := ["_law_bag_here", "_law_many"]) fun _ _ _ _ _ _ us hl => match us, hl with | [_, _], _ => rfl
  have b16 := F16.binds (ps := ["_law_bag_here", "_law_some"]) fun _ _ _ _ _ _ us hl => match us, hl with | [_, _], _ => rfl
  have b17 := F17.binds (ps := ["_law_bag_here", "_law_many"]) fun _ _ _ _ _ _ us hl => match us, hl with | [_, _], _ => rfl
  have b18 := F18.binds (ps := ["_law_bag_here"]) fun _ _ _ _ _ _ us hl => match us, hl with | [_], _ => rfl
  have b19 := F19.binds (ps := ["_law_bag_here", "_law_many"]) fun _ _ _ _ _ _ us hl => match us, hl with | [_, _], _ => rfl
  have b20 := F20.binds (ps := ["_law_text", "_law_width"]) fun _ _ _ _ _ _ us hl => match us, hl with | [_, _], _ => rfl
  have b21 := F21.binds (ps := ["_law_text", "_law_width"]) fun _ _ _ _ _ _ us hl => match us, hl with | [_, _], _ => rfl
  have b22 := F22.binds (ps := ["_law_script"]) fun _ _ _ _ _ _ us hl => match us, hl with | [_], _ => rfl
  have T : Txt K mg ⟨f0, PySem.W.fnOf "is_word" "is_word" (defArgs s_is_word) (defBody s_is_word) (defScope s_is_word) .none kV0 dc0 pm0 an0 cd0 ct0, f1, PySem.W.fnOf "is_count" "is_count" (defArgs s_is_count) (defBody s_is_count) (defScope s_is_count) .none kV1 dc1 pm1 an1 cd1 ct1, f2, PySem.W.fnOf "is_label" "is_label" (defArgs s_is_label) (defBody s_is_label) (defScope s_is_label) .none kV2 dc2 pm2 an2 cd2 ct2, f3, PySem.W.fnOf "is_value" "is_value" (defArgs s_is_value) (defBody s_is_value) (defScope s_is_value) .none kV3 dc3 pm3 an3 cd3 ct3, f4, PySem.W.fnOf "is_literal" "is_literal" (defArgs s_is_literal) (defBody s_is_literal) (defScope s_is_literal) .none kV4 dc4 pm4 an4 cd4 ct4, f5, PySem.W.fnOf "is_key" "is_key" (defArgs s_is_key) (defBody s_is_key) (defScope s_is_key) .none kV5 dc5 pm5 an5 cd5 ct5, f6, PySem.W.fnOf "read_parts" "read_parts" (defArgs s_read_parts) (defBody s_read_parts) (defScope s_read_parts) .none kV6 dc6 pm6 an6 cd6 ct6, f7, PySem.W.fnOf "merged" "merged" (defArgs s_merged) (defBody s_merged) (defScope s_merged) .none kV7 dc7 pm7 an7 cd7 ct7, f8, PySem.W.fnOf "check_manner" "check_manner" (defArgs s_check_manner) (defBody s_check_manner) (defScope s_check_manner) .none kV8 dc8 pm8 an8 cd8 ct8, f9, PySem.W.fnOf "keyed" "keyed" (defArgs s_keyed) (defBody s_keyed) (defScope s_keyed) .none kV9 dc9 pm9 an9 cd9 ct9, f10, PySem.W.fnOf "table_of" "table_of" (defArgs s_table_of) (defBody s_table_of) (defScope s_table_of) .none kV10 dc10 pm10 an10 cd10 ct10, f11, PySem.W.fnOf "keys_of" "keys_of" (defArgs s_keys_of) (defBody s_keys_of) (defScope s_keys_of) .none kV11 dc11 pm11 an11 cd11 ct11, f12, PySem.W.fnOf "__init__" "Query.__init__" (defArgs s_Query_init) (defBody s_Query_init) (defScope s_Query_init) .none kV12 dc12 pm12 an12 cd12 ct12, f13, PySem.W.fnOf "page" "page" (defArgs s_page) (defBody s_page) (defScope s_page) .none kV13 dc13 pm13 an13 cd13 ct13, f14, PySem.W.fnOf "_law_bag" "_law_bag" (defArgs s_l_bag) (defBody s_l_bag) (defScope s_l_bag) .none kV14 dc14 pm14 an14 cd14 ct14, f15, PySem.W.fnOf "_law_take" "_law_take" (defArgs s_l_take) (defBody s_l_take) (defScope s_l_take) .none kV15 dc15 pm15 an15 cd15 ct15, f16, PySem.W.fnOf "_law_of" "_law_of" (defArgs s_l_of) (defBody s_l_of) (defScope s_l_of) .none kV16 dc16 pm16 an16 cd16 ct16, f17, PySem.W.fnOf "_law_wide" "_law_wide" (defArgs s_l_wide) (defBody s_l_wide) (defScope s_l_wide) .none kV17 dc17 pm17 an17 cd17 ct17, f18, PySem.W.fnOf "_law_value" "_law_value" (defArgs s_l_value) (defBody s_l_value) (defScope s_l_value) .none kV18 dc18 pm18 an18 cd18 ct18, f19, PySem.W.fnOf "_law_labels" "_law_labels" (defArgs s_l_labels) (defBody s_l_labels) (defScope s_l_labels) .none kV19 dc19 pm19 an19 cd19 ct19, f20, PySem.W.fnOf "_law_left" "_law_left" (defArgs s_l_left) (defBody s_l_left) (defScope s_l_left) .none kV20 dc20 pm20 an20 cd20 ct20, f21, PySem.W.fnOf "_law_right" "_law_right" (defArgs s_l_right) (defBody s_l_right) (defScope s_l_right) .none kV21 dc21 pm21 an21 cd21 ct21, fa, PySem.W.fnOf "law" "law" (defArgs s_law) (defBody s_law) (defScope s_law) .none kV22 dc22 pm22 an22 cd22 ct22, C0⟩ := {
    F_is_word := F0,
    b_is_word := b0,
    g_is_word := PySem.W.mg_of X G a0,
    F_is_count := F1,
    b_is_count := b1,
    g_is_count := PySem.W.mg_of X G a1,
    F_is_label := F2,
    b_is_label := b2,
    g_is_label := PySem.W.mg_of X G a2,
    F_is_value := F3,
    b_is_value := b3,
    g_is_value := PySem.W.mg_of X G a3,
    F_is_literal := F4,
    b_is_literal := b4,
    g_is_literal := PySem.W.mg_of X G a4,
    F_is_key := F5,
    b_is_key := b5,
    g_is_key := PySem.W.mg_of X G a5,
    F_read_parts := F6,
    b_read_parts := b6,
    g_read_parts := PySem.W.mg_of X G a6,
    F_merged := F7,
    b_merged := b7,
    g_merged := PySem.W.mg_of X G a7,
    F_check_manner := F8,
    b_check_manner := b8,
    g_check_manner := PySem.W.mg_of X G a8,
    F_keyed := F9,
    b_keyed := b9,
    g_keyed := PySem.W.mg_of X G a9,
    F_table_of := F10,
    b_table_of := b10,
    g_table_of := PySem.W.mg_of X G a10,
    F_keys_of := F11,
    b_keys_of := b11,
    g_keys_of := PySem.W.mg_of X G a11,
    F_Query_init := F12,
    b_Query_init := b12,
    m_Query_init := ⟨a12, i12, k12⟩,
    F_page := F13,
    b_page := b13,
    g_page := PySem.W.mg_of X G a13,
    F_l_bag := F14,
    b_l_bag := b14,
    g_l_bag := PySem.W.mg_of X G a14,
    F_l_take := F15,
    b_l_take := b15,
    g_l_take := PySem.W.mg_of X G a15,
    F_l_of := F16,
    b_l_of := b16,
    g_l_of := PySem.W.mg_of X G a16,
    F_l_wide := F17,
    b_l_wide := b17,
    g_l_wide := PySem.W.mg_of X G a17,
    F_l_value := F18,
    b_l_value := b18,
    g_l_value := PySem.W.mg_of X G a18,
    F_l_labels := F19,
    b_l_labels := b19,
    g_l_labels := PySem.W.mg_of X G a19,
    F_l_left := F20,
    b_l_left := b20,
    g_l_left := PySem.W.mg_of X G a20,
    F_l_right := F21,
    b_l_right := b21,
    g_l_right := PySem.W.mg_of X G a21,
    F_law := F22,
    b_law := b22,
    g_law := PySem.W.mg_of X G a22,
    cl_Query := ⟨pg0, hd0, po0, sa0⟩,
    g_Query := PySem.W.mg_of X G aC0,
    mk_Query := ⟨mk0, a12, i12, kc0⟩,
    n_Query_cells := n0_0,
    n_Query_assigned := n0_1,
    n_Query_manner := n0_2,
    n_Query_text := n0_3,
    u_abs := PySem.W.mg_none_of X G z0,
    u_all := PySem.W.mg_none_of X G z1,
    u_bool := PySem.W.mg_none_of X G z2,
    u_dict := PySem.W.mg_none_of X G z3,
    u_enumerate := PySem.W.mg_none_of X G z4,
    u_int := PySem.W.mg_none_of X G z5,
    u_isinstance := PySem.W.mg_none_of X G z6,
    u_len := PySem.W.mg_none_of X G z7,
    u_list := PySem.W.mg_none_of X G z8,
    u_max := PySem.W.mg_none_of X G z9,
    u_min := PySem.W.mg_none_of X G z10,
    u_ord := PySem.W.mg_none_of X G z11,
    u_range := PySem.W.mg_none_of X G z12,
    u_repr := PySem.W.mg_none_of X G z13,
    u_str := PySem.W.mg_none_of X G z14,
    u_tuple := PySem.W.mg_none_of X G z15,
    g_DIGITS := ⟨_, PySem.W.mg_of X G kst_DIGITS, _, rfl⟩,
    g_MOST_DIGITS := ⟨_, PySem.W.mg_of X G kst_MOST_DIGITS, _, rfl⟩,
    g_MOST_VALUE := ⟨_, PySem.W.mg_of X G kst_MOST_VALUE, _, rfl⟩,
    g_MOST_WORD := ⟨_, PySem.W.mg_of X G kst_MOST_WORD, _, rfl⟩ }
  exact ⟨PySem.W.fnOf "law" "law" (defArgs s_law) (defBody s_law) (defScope s_law) .none kV22 dc22 pm22 an22 cd22 ct22, fun s v => .of_eq rfl, fun base _ _ => ok_law T⟩
theorem walk {l : PySem.W.OpenLaw} {q : Program} {loose : List Str} {XP : (Str → Option Value) → Heap → Prop} {YP : World → Heap → Prop} {d : DefRec} {K : Params → PySem.W.Frag} (hn : l.most = some 63) (hdf : d.params.defaults = [])
    (hY : ∀ (w : World) (h : Heap), YP w h → (K w.params).In h)
    (F : ∀ (w : World) (mg : Str → Option Value) (fa : Addr) (h : Heap), (K w.params).In h → h.Ns mainGlobals mg → mg d.name = some (.ref fa) →
      ∃ fd : FuncData, (∀ (s : Shared) (u : Value), BindsTo s fd ⟨[u], []⟩ [("_law_script", u)]) ∧ ∀ base : Heap, (K w.params).In base → base.Ns mainGlobals mg → Gd.FnG l.prog w (K w.params) mg base CX0 8 fa fd ["_law_script"] (sp_law (K w.params))) :
    PySem.W.WalkO q loose XP YP l.row.toRowW d [] (fun f vs => PySem.call f vs) :=
  Gd.walk_ofG (n := 63) (k := 8) (x := "_law_script") (sp := fun w => sp_law (K w.params)) hn (by decide) hdf ⟨rfl, by decide, by decide⟩ hY F (fun _ _ a ns hl _ hS => ⟨a, ns, rfl, hS, hl, fun _ => rfl⟩)
end LW
open PySem PySem.W PyProof.Rows
set_option maxRecDepth 100000 in
set_option maxHeartbeats 0 in
theorem PySem.Challenge.cw_ownholes_k77_pages_holds : PySem.Challenge.rw_ownholes_k77_pages.Holds := by
  w_on; o_law; k_head; (case hw => w_witness2)
  k_fill
  refine LW.walk (l := PySem.Challenge.rw_ownholes_k77_pages) rfl rfl (fun w h Y => PySem.W.kIn_of Y) ?F
  case F =>
    intro w mg fa h KX G hmg
    refine' LW.all_mk KX G hmg ?aC0 ?a0 ?l0 ?c0 ?k0 ?a1 ?l1 ?c1 ?k1 ?a2 ?l2 ?c2 ?k2 ?a3 ?l3 ?c3 ?k3 ?a4 ?l4 ?c4 ?k4 ?a5 ?l5 ?c5 ?k5 ?a6 ?l6 ?c6 ?k6 ?a7 ?l7 ?c7 ?k7 ?a8 ?l8 ?c8 ?k8 ?a9 ?l9 ?c9 ?k9 ?a10 ?l10 ?c10 ?k10 ?a11 ?l11 ?c11 ?k11 ?a12 ?i12 ?l12 ?c12 ?k12 ?a13 ?l13 ?c13 ?k13 ?a14 ?l14 ?c14 ?k14 ?a15 ?l15 ?c15 ?k15 ?a16 ?l16 ?c16 ?k16 ?a17 ?l17 ?c17 ?k17 ?a18 ?l18 ?c18 ?k18 ?a19 ?l19 ?c19 ?k19 ?a20 ?l20 ?c20 ?k20 ?a21 ?l21 ?c21 ?k21 ?a22 ?l22 ?c22 ?k22 ?pg0 ?hd0 ?po0 ?sa0 ?mk0 ?kc0 ?n0_0 ?n0_1 ?n0_2 ?n0_3 ?kst_DIGITS ?kst_MOST_DIGITS ?kst_MOST_VALUE ?kst_MOST_WORD ?z0 ?z1 ?z2 ?z3 ?z4 ?z5 ?z6 ?z7 ?z8 ?z9 ?z10 ?z11 ?z12 ?z13 ?z14 ?z15
    (case aC0 => k_is)
    (case a0 => k_is)
    (case l0 => k_is)
    (case c0 => k_is)
    (case k0 => k_is)
    (case a1 => k_is)
    (case l1 => k_is)
    (case c1 => k_is)
    (case k1 => k_is)
    (case a2 => k_is)
    (case l2 => k_is)
    (case c2 => k_is)
    (case k2 => k_is)
    (case a3 => k_is)
    (case l3 => k_is)
    (case c3 => k_is)
    (case k3 => k_is)
    (case a4 => k_is)
    (case l4 => k_is)
    (case c4 => k_is)
    (case k4 => k_is)
    (case a5 => k_is)
    (case l5 => k_is)
    (case c5 => k_is)
    (case k5 => k_is)
    (case a6 => k_is)
    (case l6 => k_is)
    (case c6 => k_is)
    (case k6 => k_is)
    (case a7 => k_is)
    (case l7 => k_is)
    (case c7 => k_is)
    (case k7 => k_is)
    (case a8 => k_is)
    (case l8 => k_is)
    (case c8 => k_is)
    (case k8 => k_is)
    (case a9 => k_is)
    (case l9 => k_is)
    (case c9 => k_is)
    (case k9 => k_is)
    (case a10 => k_is)
    (case l10 => k_is)
    (case c10 => k_is)
    (case k10 => k_is)
    (case a11 => k_is)
    (case l11 => k_is)
    (case c11 => k_is)
    (case k11 => k_is)
    (case a12 => k_is)
    (case i12 => k_is)
    (case l12 => k_is)
    (case c12 => k_is)
    (case k12 => k_is)
    (case a13 => k_is)
    (case l13 => k_is)
    (case c13 => k_is)
    (case k13 => k_is)
    (case a14 => k_is)
    (case l14 => k_is)
    (case c14 => k_is)
    (case k14 => k_is)
    (case a15 => k_is)
    (case l15 => k_is)
    (case c15 => k_is)
    (case k15 => k_is)
    (case a16 => k_is)
    (case l16 => k_is)
    (case c16 => k_is)
    (case k16 => k_is)
    (case a17 => k_is)
    (case l17 => k_is)
    (case c17 => k_is)
    (case k17 => k_is)
    (case a18 => k_is)
    (case l18 => k_is)
    (case c18 => k_is)
    (case k18 => k_is)
    (case a19 => k_is)
    (case l19 => k_is)
    (case c19 => k_is)
    (case k19 => k_is)
    (case a20 => k_is)
    (case l20 => k_is)
    (case c20 => k_is)
    (case k20 => k_is)
    (case a21 => k_is)
    (case l21 => k_is)
    (case c21 => k_is)
    (case k21 => k_is)
    (case a22 => k_is)
    (case l22 => k_is)
    (case c22 => k_is)
    (case k22 => k_is)
    (case pg0 => k_is)
    (case hd0 => k_is)
    (case po0 => k_is)
    (case sa0 => k_is)
    (case mk0 => k_is)
    (case kc0 => k_is)
    (case n0_0 => k_is)
    (case n0_1 => k_is)
    (case n0_2 => k_is)
    (case n0_3 => k_is)
    (case kst_DIGITS => k_is)
    (case kst_MOST_DIGITS => k_is)
    (case kst_MOST_VALUE => k_is)
    (case kst_MOST_WORD => k_is)
    (case z0 => k_is)
    (case z1 => k_is)
    (case z2 => k_is)
    (case z3 => k_is)
    (case z4 => k_is)
    (case z5 => k_is)
    (case z6 => k_is)
    (case z7 => k_is)
    (case z8 => k_is)
    (case z9 => k_is)
    (case z10 => k_is)
    (case z11 => k_is)
    (case z12 => k_is)
    (case z13 => k_is)
    (case z14 => k_is)
    (case z15 => k_is)
