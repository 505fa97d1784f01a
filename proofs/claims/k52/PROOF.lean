import PyProof.Rows.All
import Wide.All
import OpenK.AllK
import Wide.FinOn
import HandS.ForMost
import HandS.ForExc
import HandS.IsInst
import HandS.Walk
import HandS.Steps
import HandS.DictComp
import HandS.DictTup
import HandS.TupSets
import HandS.TupLen
import HandS.Conv
import HandS.OwnEq
import HandS.Codes
import HandS.Zip
import HandS.Style
import HandS.SortInts
import HandS.More
import HandS.Star
import KE.KDictDisplayH
import PySem.Challenge.RW_ownholes_k52_whole_fewest_kept
set_option Elab.async false
set_option maxRecDepth 100000
/-! Eg: step lemmas: each reading of the hand layer, from the left, as one backward step. -/
namespace Eg
open PySem L2
section
variable {σ σ' : L2.St} {H H' : Hp} {Q : VK} {i : Nat} {v x y z : V} {ta tb tc te tv : TE} {r r' : R2} {K : PySem.W.Frag} {p q a C dx : Addr} {t u c : TT} {D : Ends} {t1 t2 : TS} {b : Bool} {fs : List (Str × V)} {f : Str} {o o' : HO}
/-! heaps -/
theorem upd_old {o1 : HO} (h : H p = some o) (hp : H q = none) : upd H q o1 p = some o := by
  rw [upd_ne (ne_of_none h hp)]
  exact h
theorem upd_mut {o1 : HO} (hn : p ≠ q) (h : H p = some o) : upd H q o1 p = some o := by
  rw [upd_ne hn]
  exact h
theorem upd_none {o1 : HO} (hn : p ≠ q) (h : H p = none) : upd H q o1 p = none := by
  rw [upd_ne hn]
  exact h
/-- unallocated ahead of an allocation was unallocated before -/
theorem none_back {o1 : HO} (h : upd H q o1 p = none) : H p = none := by
  unfold upd at h
  by_cases e : p = q
  · rw [if_pos e] at h
    cases h
  · rw [if_neg e] at h
    exact h
theorem none_ne {o1 : HO} (h : upd H q o1 p = none) : p ≠ q := by
  intro e
  unfold upd at h
  rw [if_pos e] at h
  cases h
/-! expressions -/
theorem w_op (h : ta σ H fun x H1 => tb σ H1 fun y H2 => r x y H2 Q) : tOp r ta tb σ H Q := h
theorem w_un {r : V → Hp → VK → Prop} (h : ta σ H fun x H1 => r x H1 Q) : tUn r ta σ H Q := h
theorem w_var (h : σ[i]? = some (some v)) (q : Q v H) : tVar i σ H Q := ⟨v, h, q⟩
theorem w_c (q : Q v H) : tC v σ H Q := q
theorem w_tup {t : TA} (h : t σ H fun xs H1 => xs.length ≤ sizeLine ∧ ∀ p, H1 p = none → Q (.ref p) (upd H1 p (.tup xs))) : tTup t σ H Q := h
theorem w_lst {t : TA} (h : t σ H fun xs H1 => xs.length ≤ sizeLine ∧ ∀ p, H1 p = none → Q (.ref p) (upd H1 p (.lst xs))) : tLst t σ H Q := h
theorem w_sz {xs : List V} {A : Prop} (h : xs.length ≤ 1000) (q : A) : xs.length ≤ sizeLine ∧ A := ⟨Nat.le_trans h (by decide), q⟩
theorem w_cb {r : List V → Hp → VK → Prop} {t : TA} (h : t σ H fun vs H1 => r vs H1 Q) : tCB r t σ H Q := h
theorem w_nil {Q : List V → Hp → Prop} (q : Q [] H) : tNil σ H Q := q
theorem w_cons {tr : TA} {Q : List V → Hp → Prop} (h : ta σ H fun x H1 => tr σ H1 fun xs H2 => Q (x :: xs) H2) : tCons ta tr σ H Q := h
theorem w_call {sp : Sp} {dvs : List V} {E : XK} {t : TA} (h : t σ H fun vs H1 => sp (vs ++ dvs) H1 Q E) : tCall sp dvs E t σ H Q := h
theorem w_bm {T : String} {r : V → List V → Hp → VK → Prop} {t : TA} (h : ta σ H fun x H1 => tyV K T x H1 ∧ t σ H1 fun xs H2 => r x xs H2 Q) : tBM K T r ta t σ H Q := h
theorem w_bm0 {T : String} {r : V → List V → Hp → VK → Prop} (h : ta σ H fun x H1 => tyV K T x H1 ∧ r x [] H1 Q) : tBM0 K T r ta σ H Q := h
theorem w_tyl {xs : List V} {A : Prop} (h : SqL K H p xs) (q : A) : tyV K "list" (.ref p) H ∧ A := ⟨.inl ⟨rfl, _, h⟩, q⟩
theorem w_if {t : TT} (h : t σ H fun c H1 => if c = true then ta σ H1 Q else tb σ H1 Q) : tIf t ta tb σ H Q := h
theorem w_sl {r : V → Option Int → Option Int → Hp → VK → Prop} {tl th : TO} (h : te σ H fun x H1 => tl σ H1 fun l H2 => th σ H2 fun u H3 => r x l u H3 Q) : tSl r te tl th σ H Q := h
theorem w_nopart {Q : Option Int → Hp → Prop} (q : Q none H) : tNoPart σ H Q := q
theorem w_chain (h : ta σ H fun x H1 => tb σ H1 fun y H2 => r x y H2 fun z H3 => ∃ k, z = .bl k ∧ (if k = true then tc σ H3 fun w' H4 => r' y w' H4 Q else Q (.bl false) H3)) : tChain r r' ta tb tc σ H Q := h
/-! operators by values -/
theorem w_rI0 {g : Int → Int → V} {i j : Int} (q : Q (g i j) H) : rI0 g (.int i) (.int j) H Q := ⟨i, j, rfl, rfl, q⟩
theorem w_rI {C : Int → Int → Prop} {g : Int → Int → V} {i j : Int} (hc : C i j) (q : Q (g i j) H) : rI C g (.int i) (.int j) H Q := ⟨i, j, rfl, rfl, hc, q⟩
theorem w_rU {g : Int → V} {i : Int} (q : Q (g i) H) : rU g (.int i) H Q := ⟨i, rfl, q⟩
theorem w_eq (h : scal x y = true) (q : Q (.bl (decide (x = y))) H) : rEq x y H Q := ⟨h, q⟩
theorem w_ne (h : scal x y = true) (q : Q (.bl (!decide (x = y))) H) : rNe x y H Q := ⟨h, q⟩
theorem w_isN (q : Q (.bl (decide (x = .non))) H) : (fun x y H Q => y = V.non ∧ Q (V.bl (decide (x = .non))) H : R2) x .non H Q := ⟨rfl, q⟩
theorem w_ixL {xs : List V} {i : Int} (hs : SqL K H p xs) (hv : atI xs i = some v) (q : Q v H) : rIxL K (.ref p) (.int i) H Q := ⟨p, xs, i, v, rfl, rfl, hs, hv, q⟩
theorem w_ixT {xs : List V} {i : Int} (hs : SqT K H p xs) (hv : atI xs i = some v) (q : Q v H) : rIxT K (.ref p) (.int i) H Q := ⟨p, xs, i, v, rfl, rfl, hs, hv, q⟩
theorem w_setL {xs : List V} {k : Int} {j : Nat} {R : Hp → Prop} (h : H p = some (.lst xs)) (hj : ixN xs.length k = some j) (q : R (upd H p (.lst (xs.set j v)))) : rSetL (.ref p) (.int k) v H R := ⟨p, xs, k, j, rfl, rfl, h, hj, q⟩
theorem w_append {xs : List V} (h : H p = some (.lst xs)) (hz : xs.length < 100000) (q : Q .non (upd H p (.lst (xs ++ [v])))) : rAppend (.ref p) [v] H Q := ⟨p, xs, v, rfl, rfl, h, Nat.lt_of_lt_of_le hz (by decide), q⟩
def fldLeaf (K : PySem.W.Frag) (f : Str) (Q : VK) (x : V) (H1 : Hp) : Prop := ∃ a C dx fs v, x = .ref a ∧ H1 a = some (.ins C dx fs) ∧ Cls K C ∧ NoAttr K C f ∧ fs.lookup f = some v ∧ Q v H1
theorem w_fld (h : ta σ H (fldLeaf K f Q)) : tFld K ta f σ H Q := h
theorem c_fld (h : H p = some (.ins C dx fs)) (hc : Cls K C) (hn : NoAttr K C f) (hl : fs.lookup f = some v) (q : Q v H) : fldLeaf K f Q (.ref p) H := ⟨p, C, dx, fs, v, rfl, h, hc, hn, hl, q⟩
/-! calls by values -/
theorem w_int1 {i : Int} (q : Q (.int i) H) : (∃ j, [V.int i] = [.int j] ∧ Q (.int j) H) ∨ ∃ k, [V.int i] = [.bl k] ∧ Q (.int (if k then 1 else 0)) H := .inl ⟨i, rfl, q⟩
theorem w_ex1 {A : Type} {mk : A → List V} {a : A} {G : A → Prop} (q : G a) : ∃ i, mk a = mk i ∧ G i := ⟨a, rfl, q⟩
/-! tests -/
theorem w_test {R : Bool → Hp → Prop} (h : te σ H fun x H' => ∃ k, x = .bl k ∧ R k H') : tTest te σ H R := h
theorem w_B {R : Bool → Hp → Prop} (h : te σ H fun x H' => ∃ k, x = .bl k ∧ R k H') : tB te σ H R := h
theorem w_bl {R : Bool → Hp → Prop} (q : R b H) : ∃ k, V.bl b = .bl k ∧ R k H := ⟨b, rfl, q⟩
theorem w_bl' {G : Bool → Prop} (q : G b) : ∃ k, V.bl b = .bl k ∧ G k := ⟨b, rfl, q⟩
theorem w_and {R : Bool → Hp → Prop} (h : t σ H fun c H1 => if c = true then u σ H1 R else R false H1) : tAnd t u σ H R := h
theorem w_or {R : Bool → Hp → Prop} (h : t σ H fun c H1 => if c = true then R true H1 else u σ H1 R) : tOr t u σ H R := h
theorem w_not {R : Bool → Hp → Prop} (h : t σ H fun c H1 => R (!c) H1) : tNot t σ H R := h
theorem w_andV (h : ta σ H fun x H1 => ∃ c, x = .bl c ∧ if c = true then tb σ H1 Q else Q (.bl false) H1) : tAndV ta tb σ H Q := h
theorem w_orV (h : ta σ H fun x H1 => ∃ c, x = .bl c ∧ if c = true then Q (.bl true) H1 else tb σ H1 Q) : tOrV ta tb σ H Q := h
theorem w_notV (h : ta σ H fun x H1 => ∃ c, x = .bl c ∧ Q (.bl (!c)) H1) : tNotV ta σ H Q := h
/-! statements -/
theorem w_seq (h : t1 { D with nx := t2 D } σ H) : tSeq t1 t2 D σ H := h
theorem w_seqR (h : ∀ R : L2.St → Hp → Prop, t2 D = R → t1 { D with nx := R } σ H) : tSeq t1 t2 D σ H := h _ rfl
theorem w_R {R R' : L2.St → Hp → Prop} (e : R' = R) (h : R' σ H) : R σ H := e ▸ h
theorem w_next (h : D.nx σ H) : tNext D σ H := h
theorem w_brk (h : D.bk σ H) : tBreak D σ H := h
theorem w_cont (h : D.ct σ H) : tCont D σ H := h
theorem w_nx {f1 f3 f4 : L2.St → Hp → Prop} {f2 : VK} (h : f1 σ H) : Ends.nx ⟨f1, f2, f3, f4⟩ σ H := h
theorem w_rt {f1 f3 f4 : L2.St → Hp → Prop} {f2 : VK} (h : f2 v H) : Ends.rt ⟨f1, f2, f3, f4⟩ v H := h
theorem w_bk {f1 f3 f4 : L2.St → Hp → Prop} {f2 : VK} (h : f3 σ H) : Ends.bk ⟨f1, f2, f3, f4⟩ σ H := h
theorem w_ct {f1 f3 f4 : L2.St → Hp → Prop} {f2 : VK} (h : f4 σ H) : Ends.ct ⟨f1, f2, f3, f4⟩ σ H := h
theorem w_drop (h : te σ H fun _ H1 => D.nx σ H1) : tDrop te D σ H := h
theorem w_ret (h : te σ H D.rt) : tRet te D σ H := h
theorem w_retN (h : D.rt .non H) : tRetN D σ H := h
theorem w_ifS (h : c σ H fun b H1 => if b = true then t1 D σ H1 else t2 D σ H1) : tIfS c t1 t2 D σ H := h
theorem w_asg {g : TG} (h : te σ H fun x H1 => g x σ H1 D.nx) : tAsg te g D σ H := h
theorem w_gN {R : L2.St → Hp → Prop} (h : R (σ.set i (some v)) H) : gName i v σ H R := h
theorem w_gSub {to ti : TE} {s : TSet} {R : L2.St → Hp → Prop} (h : to σ H fun o H1 => ti σ H1 fun i H2 => s o i v H2 fun H3 => R σ H3) : gSub to ti s v σ H R := h
theorem w_gTup {n : Nat} {g : TGs} {xs : List V} {R : L2.St → Hp → Prop} (hs : SqT K H p xs) (hn : xs.length = n) (h : g xs σ H R) : gTup K n g (.ref p) σ H R := ⟨p, xs, rfl, hs, hn, h⟩
theorem w_gNil {R : L2.St → Hp → Prop} (h : R σ H) : gNil [] σ H R := ⟨rfl, h⟩
theorem w_gCons {g : TG} {gs : TGs} {xs : List V} {R : L2.St → Hp → Prop} (h : g v σ H fun σ' H' => gs xs σ' H' R) : gCons g gs (v :: xs) σ H R := ⟨v, xs, rfl, h⟩
theorem w_for {wi : TI} {g : TG} {tb : TS} (h : wi σ H fun J H1 => ∃ W : Nat → Nat → L2.St → Hp → Prop, (∃ m, W 0 m σ H1) ∧ ∀ i m σ H, W i m σ H →
    (J.stop i H ∧ D.nx σ H) ∨ (J.go i H ∧ ∃ N : L2.St → Hp → Prop, (∀ σ' H', N σ' H' → ∃ m', m' < m ∧ W (i + 1) m' σ' H') ∧ ∀ x H', J.yld i H x H' → g x σ H' fun σ2 H2 => tb { D with nx := N, ct := N, bk := D.nx } σ2 H2)) : tFor wi g tb D σ H := h
theorem w_lc {wi : TI} {g : TG} {tt : TT} {vs : List Nat} (h : wi σ H fun J H1 => ∀ D, H1 D = none → ∃ W : Nat → Nat → Hp → Prop, (∃ m, W 0 m (upd H1 D (.lst []))) ∧ ∀ i m H, W i m H →
  (J.stop i H ∧ Q (.ref D) H) ∨ (J.go i H ∧ ∃ Nx : Hp → Prop, (∀ H', Nx H' → ∃ m', m' < m ∧ W (i + 1) m' H') ∧ ∀ x H', J.yld i H x H' → g x (wipe σ vs) H' fun σ2 H2 => wipe σ2 vs = wipe σ vs ∧ tt σ2 H2 fun b H3 =>
    if b = true then te σ2 H3 fun y H4 => ∃ acc, H4 D = some (.lst acc) ∧ acc.length < sizeLine ∧ Nx (upd H4 D (.lst (acc ++ [y]))) else Nx H3)) : tLc wi g tt te vs σ H Q := h
theorem w_yes {R : Bool → Hp → Prop} (h : R true H) : tYes σ H R := h
theorem w_sig (e : σ' = σ) {t : TS} (h : t D σ H) : t D σ' H := by
  rw [e]
  exact h
theorem w_par {j : Nat} {t : TA} (h : t σ H fun vs H1 => ∃ v w, vs = [v, w] ∧ D.nx ((σ.set i (some v)).set j (some w)) H1) : tPar i j t D σ H := h
theorem c_par {G : V → V → Prop} {v w : V} (q : G v w) : ∃ x y, [v, w] = [x, y] ∧ G x y := ⟨v, w, rfl, q⟩
theorem c_max {R : VK} {ns : List Int} (h : SqL K H p (ns.map V.int)) (h0 : 0 < ns.length) (q : ∀ m, m ∈ ns → (∀ y, y ∈ ns → y ≤ m) → R (.int m) H) : rMax K [V.ref p] H R := ⟨p, ns, rfl, h, h0, q⟩
theorem c_cat {xs zs : List V} (h1 : H p = some (.lst xs)) (h2 : H q = some (.lst zs)) (hz : xs.length + zs.length < 100000) (k : ∀ r, H r = none → Q (.ref r) (upd H r (.lst (xs ++ zs)))) : rCat (.ref p) (.ref q) H Q :=
  ⟨p, q, xs, zs, rfl, rfl, h1, h2, Nat.le_trans (Nat.le_of_lt hz) (by decide), k⟩
/-! leaves by name -/
def rngLeaf (R : It → Hp → Prop) (vs : List V) (H1 : Hp) : Prop := ∃ j : Int, vs = [.int j] ∧ -(2 ^ 62) ≤ j ∧ j < 2 ^ 62 ∧ R (Itr 0 j.toNat) H1
def rng2Leaf (R : It → Hp → Prop) (vs : List V) (H1 : Hp) : Prop := ∃ i j : Int, vs = [.int i, .int j] ∧ (-(2 ^ 62) ≤ i ∧ i < 2 ^ 62 ∧ -(2 ^ 62) ≤ j ∧ j < 2 ^ 62) ∧ R (Itr i (j - i).toNat) H1
def lstLeaf (K : PySem.W.Frag) (R : It → Hp → Prop) (x : V) (H1 : Hp) : Prop := ∃ a, x = .ref a ∧ (∃ xs, SqL K H1 a xs) ∧ R (Itl K a) H1
def tupLeaf (K : PySem.W.Frag) (R : It → Hp → Prop) (x : V) (H1 : Hp) : Prop := ∃ a, x = .ref a ∧ (∃ xs, SqT K H1 a xs) ∧ R (Itt K a) H1
def zipLeaf (K : PySem.W.Frag) (R : It → Hp → Prop) (vs : List V) (H1 : Hp) : Prop := ∃ a b xs ys, vs = [.ref a, .ref b] ∧ SqL K H1 a xs ∧ SqL K H1 b ys ∧ R (Itz K a b) H1
def keysLeaf (R : It → Hp → Prop) (x : V) (H1 : Hp) : Prop := ∃ d o, x = .ref d ∧ ((∃ kvs, H1 d = some (.frz o (.dK kvs)) ∧ R (Itk d o kvs) H1) ∨ ∃ kvs, H1 d = some (.frz o (.dT kvs)) ∧ R (Itkt d o kvs) H1)
def partLeaf (Q : Option Int → Hp → Prop) (x : V) (H1 : Hp) : Prop := ∃ i, x = .int i ∧ Q (some i) H1
def dinLeaf (neg : Bool) (Q : VK) (y x : V) (H2 : Hp) : Prop := ∃ a o, x = .ref a ∧ DGet H2 a y o ∧ Q (.bl (if neg then !o.isSome else o.isSome)) H2
theorem w_part {Q : Option Int → Hp → Prop} (h : te σ H (partLeaf Q)) : tPart te σ H Q := h
theorem c_part {Q : Option Int → Hp → Prop} {j : Int} (q : Q (some j) H) : partLeaf Q (.int j) H := ⟨j, rfl, q⟩
theorem w_iL {tl : TE} {R : It → Hp → Prop} (h : tl σ H (lstLeaf K R)) : iList K tl σ H R := h
theorem c_iL {R : It → Hp → Prop} {xs : List V} (hs : SqL K H p xs) (q : R (Itl K p) H) : lstLeaf K R (.ref p) H := ⟨p, rfl, ⟨_, hs⟩, q⟩
theorem w_iT {tl : TE} {R : It → Hp → Prop} (h : tl σ H (tupLeaf K R)) : iTup K tl σ H R := h
theorem c_iT {R : It → Hp → Prop} {xs : List V} (hs : SqT K H p xs) (q : R (Itt K p) H) : tupLeaf K R (.ref p) H := ⟨p, rfl, ⟨_, hs⟩, q⟩
theorem w_iZ {t : TA} {R : It → Hp → Prop} (h : t σ H (zipLeaf K R)) : iZip K t σ H R := h
theorem c_iZ {R : It → Hp → Prop} {xs ys : List V} (h1 : SqL K H p xs) (h2 : SqL K H q ys) (k : R (Itz K p q) H) : zipLeaf K R [.ref p, .ref q] H := ⟨p, q, xs, ys, rfl, h1, h2, k⟩
theorem w_iR1 {t : TA} {R : It → Hp → Prop} (h : t σ H (rngLeaf R)) : iRng1 t σ H R := h
theorem c_iR1 {R : It → Hp → Prop} {n : Int} (h1 : -(2 ^ 62) ≤ n) (h2 : n < 2 ^ 62) (q : R (Itr 0 n.toNat) H) : rngLeaf R [.int n] H := ⟨n, rfl, h1, h2, q⟩
theorem w_iR2 {t : TA} {R : It → Hp → Prop} (h : t σ H (rng2Leaf R)) : iRng2 t σ H R := h
theorem c_iR2 {R : It → Hp → Prop} {n m : Int} (h1 : -(2 ^ 62) ≤ n ∧ n < 2 ^ 62 ∧ -(2 ^ 62) ≤ m ∧ m < 2 ^ 62) (q : R (Itr n (m - n).toNat) H) : rng2Leaf R [.int n, .int m] H := ⟨n, m, rfl, h1, q⟩
theorem w_iK {td : TE} {R : It → Hp → Prop} (h : td σ H (keysLeaf R)) : iKeys td σ H R := h
theorem c_iKT {R : It → Hp → Prop} {ob : Obj} {kvs : List (List Key × V)} (h : H p = some (.frz ob (.dT kvs))) (q : R (Itkt p ob kvs) H) : keysLeaf R (.ref p) H := ⟨p, ob, rfl, .inr ⟨kvs, h, q⟩⟩
theorem c_iKK {R : It → Hp → Prop} {ob : Obj} {kvs : List (Key × V)} (h : H p = some (.frz ob (.dK kvs))) (q : R (Itk p ob kvs) H) : keysLeaf R (.ref p) H := ⟨p, ob, rfl, .inl ⟨kvs, h, q⟩⟩
theorem w_din {ty td : TE} (h : ty σ H fun y H1 => td σ H1 fun x H2 => dinLeaf false Q y x H2) : tDIn ty td σ H Q := h
theorem w_dnin {ty td : TE} (h : ty σ H fun y H1 => td σ H1 fun x H2 => dinLeaf true Q y x H2) : tDNotIn ty td σ H Q := h
theorem c_din {r : Option V} (h : DGet H p y r) (q : Q (.bl r.isSome) H) : dinLeaf false Q y (.ref p) H := ⟨p, r, rfl, h, q⟩
theorem c_dnin {r : Option V} (h : DGet H p y r) (q : Q (.bl (!r.isSome)) H) : dinLeaf true Q y (.ref p) H := ⟨p, r, rfl, h, q⟩
theorem ans_or2 {b1 b2 : Bool} (h1 : Ans t σ H b1) (h2 : Ans u σ H b2) : Ans (tOr t u) σ H (b1 || b2) := by
  cases b1 with
  | true => exact ans_or1 h1
  | false => exact ans_or h1 h2
/-! what is known of a branch -/
theorem br {c : Bool} {A B : Prop} (h1 : c = true → A) (h2 : c = false → B) : if c = true then A else B := by
  cases c with
  | true => exact h1 rfl
  | false => exact h2 rfl
theorem brT {c : Bool} {A B : Prop} (h : c = true) (h1 : A) : if c = true then A else B := by rw [if_pos h]; exact h1
theorem brF {c : Bool} {A B : Prop} (h : c = false) (h1 : B) : if c = true then A else B := by rw [if_neg (by rw [h]; decide)]; exact h1
theorem brD {c : Prop} [Decidable c] {A B : Prop} (h1 : c → A) (h2 : ¬ c → B) : if decide c = true then A else B := br (fun h => h1 (of_decide_eq_true h)) (fun h => h2 (of_decide_eq_false h))
theorem brDn {c : Prop} [Decidable c] {A B : Prop} (h1 : ¬ c → A) (h2 : c → B) : if (!decide c) = true then A else B := br (fun h => h1 (by simpa using h)) (fun h => h2 (by simpa using h))
theorem brDT {c : Prop} [Decidable c] {A B : Prop} (h : c) (h1 : A) : if decide c = true then A else B := brT (decide_eq_true h) h1
theorem brDF {c : Prop} [Decidable c] {A B : Prop} (h : ¬ c) (h1 : B) : if decide c = true then A else B := brF (decide_eq_false h) h1
theorem int_eq {i j : Int} : decide (V.int i = V.int j) = decide (i = j) := by
  by_cases e : i = j
  · subst e; simp
  · rw [decide_eq_false e, decide_eq_false (fun h => e (V.int.inj h))]
theorem str_eq {i j : Str} : decide (V.str i = V.str j) = decide (i = j) := by
  by_cases e : i = j
  · subst e; simp
  · rw [decide_eq_false e, decide_eq_false (fun h => e (V.str.inj h))]
end
/-! calls of built-ins by named readings -/
def rLenQ (K : PySem.W.Frag) : List V → Hp → VK → Prop := fun xs H Q => ∃ p ys, xs = [V.ref p] ∧ (SqL K H p ys ∨ SqT K H p ys) ∧ Q (.int (ys.length : Nat)) H
def rAbsQ : List V → Hp → VK → Prop := fun xs H Q => ∃ i, xs = [V.int i] ∧ Q (.int (if i < 0 then -i else i)) H
def rMin2Q : List V → Hp → VK → Prop := fun xs H Q => ∃ i j, xs = [V.int i, V.int j] ∧ Q (.int (if j < i then j else i)) H
def rMax2Q : List V → Hp → VK → Prop := fun xs H Q => ∃ i j, xs = [V.int i, V.int j] ∧ Q (.int (if j > i then j else i)) H
def rIntQ : List V → Hp → VK → Prop := fun xs H Q => (∃ i, xs = [V.int i] ∧ Q (.int i) H) ∨ ∃ k, xs = [V.bl k] ∧ Q (.int (if k then 1 else 0)) H
def rIsNQ : R2 := fun x y H Q => y = .non ∧ Q (.bl (decide (x = .non))) H
def rNotNQ : R2 := fun x y H Q => y = .non ∧ Q (.bl (!decide (x = .non))) H
section
variable {X : Cx}
theorem cr_len : CallR X (.builtin "len") (rLenQ X.K) := call_len_seq
theorem cr_abs : CallR X (.builtin "abs") rAbsQ := call_abs
theorem cr_min2 (h : X.calm = true) : CallR X (.builtin "min") rMin2Q := call_min2 h
theorem cr_max2 (h : X.calm = true) : CallR X (.builtin "max") rMax2Q := call_max2 h
theorem cr_int : CallR X (.type "int") rIntQ := call_int1
theorem opr_isN : OpR X (compareOp .Is) rIsNQ := op_isN
theorem opr_notN : OpR X (compareOp .IsNot) rNotNQ := op_notN
end
section
variable {σ σ' : L2.St} {H H' : Hp} {Q : VK} {i : Nat} {v x y z : V} {ta tb tc te tv td ty : TE} {K : PySem.W.Frag} {p q a C dx : Addr} {D : Ends} {b : Bool} {o : HO} {n m : Int}
theorem c_len {ys : List V} (h : SqL K H p ys) (q : Q (.int (ys.length : Nat)) H) : rLenQ K [V.ref p] H Q := ⟨p, ys, rfl, .inl h, q⟩
theorem c_lenT {ys : List V} (h : SqT K H p ys) (q : Q (.int (ys.length : Nat)) H) : rLenQ K [V.ref p] H Q := ⟨p, ys, rfl, .inr h, q⟩
theorem c_abs (q : Q (.int (if n < 0 then -n else n)) H) : rAbsQ [V.int n] H Q := ⟨n, rfl, q⟩
theorem c_min2 (q : Q (.int (if m < n then m else n)) H) : rMin2Q [V.int n, V.int m] H Q := ⟨n, m, rfl, q⟩
theorem c_max2 (q : Q (.int (if m > n then m else n)) H) : rMax2Q [V.int n, V.int m] H Q := ⟨n, m, rfl, q⟩
theorem c_int (q : Q (.int n) H) : rIntQ [V.int n] H Q := .inl ⟨n, rfl, q⟩
theorem c_isN (q : Q (.bl (decide (x = .non))) H) : rIsNQ x .non H Q := ⟨rfl, q⟩
theorem c_notN (q : Q (.bl (!decide (x = .non))) H) : rNotNQ x .non H Q := ⟨rfl, q⟩
theorem c_isi {t u : Value} {c : V} (hc : ClsV c u) (ht : TyX K H x t) (hk : PySem.W.kitOne K t u = some b) (q : Q (.bl b) H) : rIsi K [x, c] H Q := ⟨x, c, t, u, b, rfl, hc, ht, hk, q⟩
theorem c_sum {ns : List Int} (h : SqL K H p (ns.map V.int)) (q : Q (.int ns.sum) H) : rSum K [V.ref p] H Q := ⟨p, ns, rfl, h, q⟩
theorem c_popAt {xs : List V} {k : Nat} (h : H p = some (.lst xs)) (hn : (0 : Int) ≤ n ∧ n < xs.length ∧ xs.length < 100000) (hk : n = (k : Int)) (hv : xs[k]? = some v) (q : Q v (upd H p (.lst (xs.eraseIdx k)))) : rPopAt (.ref p) [.int n] H Q := by
  refine ⟨p, xs, n, k, v, rfl, rfl, h, by omega, by omega, ?_, hv, q⟩
  subst hk
  unfold seqIndex?
  have h0 : ¬ ((k : Int) < 0) := by omega
  rw [if_neg h0]
  have h2 : (decide (0 ≤ (k : Int)) && decide ((k : Int) < (xs.length : Int))) = true := by simp; omega
  rw [if_pos h2]
  simp
/-! dicts -/
theorem w_dget (h : td σ H fun x H1 => ty σ H1 fun y H2 => ∃ a v, x = .ref a ∧ DGet H2 a y (some v) ∧ Q v H2) : tDGet td ty σ H Q := h
theorem w_dput (h : tv σ H fun v H1 => td σ H1 fun x H2 => ty σ H2 fun y H3 => ∃ a H4, x = .ref a ∧ DPut H3 a y v H4 ∧ D.nx σ H4) : sDPut td ty tv D σ H := h
theorem w_dnewT (h : ∀ p, H p = none → Q (.ref p) (upd H p (.dT []))) : tDNewT σ H Q := h
theorem w_dnewK (h : ∀ p, H p = none → Q (.ref p) (upd H p (.dK []))) : tDNewK σ H Q := h
/-! comprehensions -/
theorem w_wipe {vs : List Nat} {A : Prop} (hw : wipe σ' vs = wipe σ vs) (q : A) : wipe σ' vs = wipe σ vs ∧ A := ⟨hw, q⟩
theorem w_acc {acc : List V} {G : Hp → Prop} (h : H p = some (.lst acc)) (hz : acc.length < 100000) (q : G (upd H p (.lst (acc ++ [v])))) : ∃ acc, H p = some (.lst acc) ∧ acc.length < sizeLine ∧ G (upd H p (.lst (acc ++ [v]))) := ⟨acc, h, Nat.lt_of_lt_of_le hz (by decide), q⟩
/-! what stays of tuples -/
theorem tup_frame {xs : List V} (hf : ∀ b, b ≠ a → H' b = H b) (ha : H a = some (.lst xs)) : ∀ b ys, H b = some (.tup ys) → H' b = some (.tup ys) := fun b ys h => by
  rw [hf b (ne_of h ha (fun z => nomatch z))]
  exact h
theorem tup_upd {xs : List V} {o1 : HO} (ha : H a = some (.lst xs)) : ∀ b ys, H b = some (.tup ys) → upd H a o1 b = some (.tup ys) := fun b ys h => by
  rw [upd_ne (ne_of h ha (fun z => nomatch z))]
  exact h
theorem tup_new {o1 : HO} (ha : H a = none) : ∀ b ys, H b = some (.tup ys) → upd H a o1 b = some (.tup ys) := fun b ys h => upd_old h ha
theorem tup_frz {ob : Obj} {u o1 : HO} (ha : H a = some (.frz ob u)) : ∀ b ys, H b = some (.tup ys) → upd H a o1 b = some (.tup ys) := fun b ys h => by
  rw [upd_ne (ne_of h ha (fun z => nomatch z))]
  exact h
theorem frame_at (hf : ∀ b, b ≠ a → H' b = H b) (hn : p ≠ a) (h : H p = some o) : H' p = some o := by
  rw [hf p hn]
  exact h
theorem same_new {H0 : Hp} {o1 : HO} (h : Same H0 H) (hp : H p = none) : Same H0 (upd H p o1) := fun b o hb => upd_old (h b o hb) hp
/-- changed at p, which H0 does not know -/
theorem same_mut {H0 : Hp} {o1 : HO} (h : Same H0 H) (hp : H0 p = none) : Same H0 (upd H p o1) := fun b o hb => upd_mut (ne_of_none hb hp) (h b o hb)
end
section
variable {σ σ' : L2.St} {H H' : Hp} {Q : VK} {i : Nat} {v x y z : V} {ta tb tc te tv td ty : TE} {K : PySem.W.Frag} {p q a C dx : Addr} {D : Ends} {b : Bool} {o : HO} {n m : Int} {fs : List (Str × V)} {f mm : Str} {sp : Sp} {dvs : List V} {E : XK} {t : TA}
/-! fields, methods, instances -/
def sfldLeaf (K : PySem.W.Frag) (f : Str) (y : V) (R : Hp → Prop) (x : V) (H2 : Hp) : Prop := ∃ a C dx fs, x = .ref a ∧ H2 a = some (.ins C dx fs) ∧ Cls K C ∧ NoAttr K C f ∧ fs.length < 1000 ∧ R (upd H2 a (.ins C dx (putF f y fs)))
theorem w_sfld (h : tv σ H fun y H1 => ta σ H1 (sfldLeaf K f y (D.nx σ))) : sFld K ta tv f D σ H := h
theorem c_sfld {R : Hp → Prop} (h : H p = some (.ins C dx fs)) (hc : Cls K C) (hn : NoAttr K C f) (hl : fs.length < 1000) (q : R (upd H p (.ins C dx (putF f y fs)))) : sfldLeaf K f y R (.ref p) H := ⟨p, C, dx, fs, rfl, h, hc, hn, hl, q⟩
def methLeaf (C : Addr) (mm : Str) (sp : Sp) (dvs : List V) (E : XK) (t : TA) (σ : L2.St) (Q : VK) (x : V) (H1 : Hp) : Prop := ∃ a dx fs, x = .ref a ∧ H1 a = some (.ins C dx fs) ∧ fs.lookup mm = none ∧ t σ H1 fun vs H2 => sp (x :: (vs ++ dvs)) H2 Q E
theorem w_meth (h : ta σ H (methLeaf C mm sp dvs E t σ Q)) : tMeth C mm sp dvs E ta t σ H Q := h
theorem c_meth (h : H p = some (.ins C dx fs)) (hl : fs.lookup mm = none) (q : t σ H fun vs H2 => sp (.ref p :: (vs ++ dvs)) H2 Q E) : methLeaf C mm sp dvs E t σ Q (.ref p) H := ⟨p, dx, fs, rfl, h, hl, q⟩
def makeLeaf (C : Addr) (sp : Sp) (dvs : List V) (E : XK) (Q : VK) (vs : List V) (H1 : Hp) : Prop := ∀ x dx, H1 x = none → H1 dx = none → dx ≠ x → sp (.ref x :: (vs ++ dvs)) (upd (upd H1 dx (.own x)) x (.ins C dx [])) (fun v H2 => v = .non ∧ Q (.ref x) H2) E
theorem w_make {t : TA} (h : t σ H (makeLeaf C sp dvs E Q)) : tMake C sp dvs E t σ H Q := h
end
section
variable {X : Cx}
theorem peE {e : Expr} {t t' : TE} (h : PE X e t) (q : t = t') : PE X e t' := q ▸ h
theorem ptsE {e : List Expr} {t t' : TT} (h : PTs X e t) (q : t = t') : PTs X e t' := q ▸ h
theorem pgE {e : Expr} {t t' : TG} (h : PG X e t) (q : t = t') : PG X e t' := q ▸ h
end
end Eg

/-! DTx: dicts whose keys are tuples: comprehensions that make them, == and != of two, sorted of one. -/
namespace DTx
open PySem PySem.Spec PyProof.Rows L2
/-- a pair put into the dict of a comprehension, its key a tuple that stands -/
theorem d_putT {X : Cx} {pins : List (Addr × Obj)} {σ : L2.St} {H : Hp} {s : Shared} {E : Value → Shared → Prop} {D c : Addr} {ps : List (List Key × V)} {k : List Key} {y : V} {u r : Value} {Q : Unit → Shared → Prop} (hu : X.A.units < cLine) (I : Inv X pins σ H s)
    (hD : H D = some (.dT ps)) (hz : ps.length < sizeLine) (hc : H c = some (.tup (k.map kV))) (ru : RelV (.ref c) u) (ry : RelV y r) (q : ∀ s', Inv X pins σ (upd H D (.dT (putK ps k y))) s' → Q () s') :
    wpAny (model X.prog X.w) X.A (dictSet D u r) Q E s := by
  cases (show u = Value.ref c from ru)
  obtain ⟨z, hs, es, rel, dd⟩ := dt_of I.hok hD
  have hl : (putK ps k y).length ≤ sizeLine := by
    have := length_putK ps k y
    omega
  have hn : es.length ≤ sizeLine := by
    rw [← Paired.length rel]
    exact z
  refine wpAny_dictSet_heap (knd := tupleKind (mixKind X.prog X.w)) hu (key_of I.hok hc) dd (fun h' d2 sb => q _ ?_) hn
  obtain ⟨ob, fs, ep, g1, g2, g3, g4, _, g6⟩ := d2
  refine d_write I (by rw [hD]; trivial) sb ⟨ob, g1⟩ ⟨hl, hs, _, KT.keeps (KT.put rel k hc ry) fun b ys e => ?_, ob, fs, ep, g1, g2, g3, g4, g6⟩
  rw [upd_ne (ne_of e hD fun z => nomatch z)]
  exact e
/-- the reading of such a comprehension -/
def tDt (wi : TI) (g : TG) (tt : TT) (tk tv : TE) (vs : List Nat) : TE := fun σ H Q => wi σ H fun J H1 => ∀ D, H1 D = none →
  ∃ W : Nat → Nat → Hp → Prop, (∃ m, W 0 m (upd H1 D (.dT []))) ∧ ∀ i m H, W i m H → (J.stop i H ∧ Q (.ref D) H) ∨
    (J.go i H ∧ ∃ Nx : Hp → Prop, (∀ H', Nx H' → ∃ m', m' < m ∧ W (i + 1) m' H') ∧ ∀ x H', J.yld i H x H' → g x (wipe σ vs) H' fun σ2 H2 => wipe σ2 vs = wipe σ vs ∧ tt σ2 H2 fun b H3 =>
      if b = true then tk σ2 H3 fun y H4 => tv σ2 H4 fun z H5 => ∃ ps k c, y = .ref c ∧ H5 c = some (.tup (k.map kV)) ∧ H5 D = some (.dT ps) ∧ ps.length < sizeLine ∧ Nx (upd H5 D (.dT (putK ps k z))) else Nx H3)
section
variable {X : Cx}
/-- the block of a comprehension, in short -/
abbrev InBlk (X : Cx) (scope : Scope) (φ : Cx → Prop) : Prop := ∀ (s : Shared) (H : Hp) (C : Addr) (cl : List (Str × Addr)) (fp : List Addr), φ (X.blk s H scope (compEnvC scope cl C X.env) fp)
theorem dc_core {pins : List (Addr × Obj)} {s : Shared} {σ : L2.St} {H : Hp} {Q : VK} {kx vx tg iter : Expr} {ifs : List Expr} {scope : Scope} {own : List (Str × Nat)} {pos pos' : Pos} {wi : TI} {g : TG} {tt : TT} {tk tv : TE} {use : Option (Value → Sem Unit)} {Qf : Value → Shared → Prop}
    (hu : X.A.units < cLine) (calm : X.calm = true) (nd : X.N.Nodup) (I : Inv X pins σ H s) (hi : PI X tg iter wi) (ok : BlkOk X.N X.env.scope scope own)
    (hg : InBlk X scope fun Y => PG Y tg g) (ht : InBlk X scope fun Y => PTs Y ifs tt) (hk : InBlk X scope fun Y => PE Y kx tk) (hv : InBlk X scope fun Y => PE Y vx tv) (hs : ∀ x, foldedSetIterable iter X.env x = pure x)
    (h : tDt wi g tt tk tv (own.map (·.2)) σ H Q)
    (hRR : ∀ D C s' m H', Inv X pins σ H' s' → Q (.ref D) H' → s'.heap.Ns C m → FpOk X pins H' C → compPost (model X.prog X.w) X.A X.xe use Qf (.ref D) C (.ok .next) s') :
    wpAny (model X.prog X.w) X.A (comprehension (.DictComp kx vx [⟨tg, iter, ifs, 0⟩] scope pos) scope X.env pos' newDict false (eval iter X.env) use) Qf X.xe s := by
  have cells : ∀ y ∈ scope.names, y.2 = .free → ∃ c, X.env.cells.lookup y.1 = some c := fun y hy e => (ok.free y hy e).elim (fun k => I.ok.has _ (.inl k)) fun k => I.ok.has _ (.inr k)
  refine wpAny_comprehension_free (use := use) rfl hs (closure_ok cells) ok.kind (fun y hy e => by rw [ok.uniq y hy, e]) (thn (hi.run pins s σ H _ I h) fun xv s1 hx => thn hx fun itv s2 h2 => ?_)
  obtain ⟨it, fp, tn, J, H2, rfl, I2, T, t2, f2, q⟩ := h2
  refine wpAny_newObj_type (newEnv_comp ?_)
  -- the new dict, at D
  obtain ⟨D, hD⟩ : ∃ D, s2.heap.objs.size = D := ⟨_, rfl⟩
  obtain ⟨W, ⟨m0, w0⟩, turn⟩ := q D (I2.hok.fresh (Nat.le_of_eq hD))
  obtain ⟨s3, es3⟩ : ∃ s3 : Shared, { s2 with heap := s2.heap.push { cls := .type "dict", data := .dict #[] } } = s3 := ⟨_, rfl⟩
  have J3 : Inv X pins σ (upd H2 D (.dT [])) s3 := by
    rw [← es3, ← hD]
    exact I2.laid (t' := s2.toks) (fun b o e => Heap.get?_push_of_some _ e) (Nat.le_refl _) (dt_empty s2.heap I2.big)
  have hp3 : s3.heap = s2.heap.push { cls := .type "dict", data := .dict #[] } := by rw [← es3]
  have low : ∀ b ∈ fp, b < s2.heap.objs.size := fun b hb => let ⟨_, e, _⟩ := T.obj _ _ t2 b hb; Heap.lt_size e
  have F3 : ∀ b ∈ fp, FpOk X pins (upd H2 D (.dT [])) b ∧ b < s3.heap.objs.size := fun b hb => by
    refine ⟨⟨?_, (f2 b hb).2⟩, ?_⟩
    · rw [upd_ne (by rw [← hD]; exact Nat.ne_of_lt (low b hb))]
      exact (f2 b hb).1
    · rw [hp3, Heap.size_push]
      exact Nat.lt_succ_of_lt (low b hb)
  have t3 : tn 0 s3.heap := T.keep _ _ _ t2 fun b _ o e => by
    rw [hp3]
    exact Heap.get?_push_of_some _ e
  have J4 := block_start J3 ok nd F3
  -- the block's context
  show codeAny _ _ (.compStart (.DictComp kx vx [⟨tg, iter, ifs, 0⟩] scope pos) 0 (.ref it) (.ref s2.heap.objs.size) _) _ _
  rw [hD]
  show codeAny _ _ (.compStart _ 0 (.ref it) (.ref D) (compEnvC scope (cellsFrom (s2.heap.push { cls := .type "dict", data := .dict #[] } |>.objs.size.succ) scope.names (cloFrom X.env.cells scope.names [])) (s2.heap.push { cls := .type "dict", data := .dict #[] }).objs.size X.env)) _
    { s2 with heap := pushCells ((s2.heap.push { cls := .type "dict", data := .dict #[] }).push { cls := .type "dict", data := .dict #[] }) scope.names }
  rw [← hp3]
  have Fn : ∀ b ∈ fp, (upd H2 D (.dT [])) b = none := fun b hb => (F3 b hb).1.1
  have Pg := hg s3 (upd H2 D (.dT [])) s3.heap.objs.size (cellsFrom (s3.heap.objs.size + 1) scope.names (cloFrom X.env.cells scope.names [])) fp
  have Pt := ht s3 (upd H2 D (.dT [])) s3.heap.objs.size (cellsFrom (s3.heap.objs.size + 1) scope.names (cloFrom X.env.cells scope.names [])) fp
  have Pk := hk s3 (upd H2 D (.dT [])) s3.heap.objs.size (cellsFrom (s3.heap.objs.size + 1) scope.names (cloFrom X.env.cells scope.names [])) fp
  have Pv := hv s3 (upd H2 D (.dT [])) s3.heap.objs.size (cellsFrom (s3.heap.objs.size + 1) scope.names (cloFrom X.env.cells scope.names [])) fp
  have e24 : ({ s2 with heap := pushCells (s3.heap.push { cls := .type "dict", data := .dict #[] }) scope.names } : Shared) = { s3 with heap := pushCells (s3.heap.push { cls := .type "dict", data := .dict #[] }) scope.names } := by rw [← es3]
  rw [e24]
  generalize ece : compEnvC scope (cellsFrom (s3.heap.objs.size + 1) scope.names (cloFrom X.env.cells scope.names [])) s3.heap.objs.size X.env = ce at J4 Pg Pt Pk Pv ⊢
  have eL : ce.locals = s3.heap.objs.size := by rw [← ece]; rfl
  generalize eH3 : upd H2 D (.dT []) = H3 at J3 J4 Pg Pt Pk Pv w0 Fn F3
  generalize es4 : ({ s3 with heap := pushCells (s3.heap.push { cls := .type "dict", data := .dict #[] }) scope.names } : Shared) = s4 at J4 ⊢
  have t4 : tn 0 s4.heap := T.keep _ _ _ t3 fun b _ o e => by
    rw [← es4]
    exact pushCells_keeps _ _ _ _ (Heap.get?_push_of_some _ e)
  have still : ∀ {σ' : L2.St} {H' : Hp} {s' : Shared}, Inv (X.blk s3 H3 scope ce fp) [] σ' H' s' → (∀ b ∈ fp, H' b = none) → ∀ b ∈ fp, FpOk (X.blk s3 H3 scope ce fp) [] H' b := fun K hn b hb =>
    ⟨hn b hb, (K.ok.exf b hb).1, K.ok.exfs b hb, .inl hb, fun x c e => (K.ok.exf b hb).2 x c e, fun p hp => absurd (show p ∈ ([] : List (Addr × Obj)) ++ [] from hp) (by simp)⟩
  have back : ∀ {H' : Hp} {s' : Shared}, Inv (X.blk s3 H3 scope ce fp) [] (wipe σ (own.map (·.2))) H' s' → Q (.ref D) H' → compPost (model X.prog X.w) X.A X.xe use Qf (.ref D) s3.heap.objs.size (.ok .next) s' := fun {H' s'} K qq => by
    have L : Inv X pins σ H' s' := J3.call' (ch := fp) K.os K.base K.hok K.bare fun b hb => ⟨(F3 b hb).1.2.2.2.1, (F3 b hb).1.2.1, (F3 b hb).1.2.2.2.2.1, (F3 b hb).1.2.2.2.2.2⟩
    have nC : H' s3.heap.objs.size = none := by
      have z : H' ce.locals = none := K.free
      rw [eL] at z
      exact z
    obtain ⟨m, hn, _⟩ := K.loc
    have hm : s'.heap.Ns ce.locals m := hn
    rw [eL] at hm
    exact hRR D s3.heap.objs.size s' m H' L qq hm (J3.fpOk (Nat.le_refl _) nC)
  have loop : codeAny (model X.prog X.w) X.A (.compLoop (.DictComp kx vx [⟨tg, iter, ifs, 0⟩] scope pos) 0 (.ref it) (.ref D) ce) (compPost (model X.prog X.w) X.A X.xe use Qf (.ref D) s3.heap.objs.size) s4 := by
    refine compLoop_anyD (fun n s' => ∃ i H', Inv (X.blk s3 H3 scope ce fp) [] (wipe σ (own.map (·.2))) H' s' ∧ tn i s'.heap ∧ (∀ b ∈ fp, H' b = none) ∧ W i n H') ?_ m0 ⟨0, H3, J4, t4, Fn, w0⟩
    rintro n s5 ⟨i, H5, J5, t5, n5, w5⟩
    rcases turn i n H5 w5 with ⟨stop, qq⟩ | ⟨go, Nx, hNx, step⟩
    · refine thnF (T.done (X.blk s3 H3 scope ce fp) rfl rfl rfl calm i [] s5 _ H5 (fun _ _ => False) J5 (still J5 n5) t5 stop) fun r s6 ⟨hr, J6⟩ => ?_
      subst hr
      exact back J6 qq
    · refine thnF (T.item (X.blk s3 H3 scope ce fp) rfl rfl rfl calm i [] s5 _ H5 (fun _ _ => False) J5 (still J5 n5) t5 go) fun r s6 ⟨u, hr, h6⟩ => ?_
      subst hr
      refine thnF h6 fun _ s7 ⟨x, H7, J7, r7, y7, t7, n7⟩ => ?_
      refine thnF (Pg.run _ s7 _ H7 x u _ (J7.pinned (still J7 n7) (T.obj _ _ t7)) r7 (step x H7 y7)) fun _ s8 ⟨σ8, H8, J8, w8, q8⟩ => ?_
      refine thnF (Pt.run _ s8 σ8 H8 _ J8 q8) fun b s9 ⟨H9, J9, q9⟩ => ?_
      have fin : ∀ {s' : Shared} {H' : Hp}, Inv (X.blk s3 H3 scope ce fp) ([] ++ pinsAt fp s7.heap) σ8 H' s' → Nx H' →
          ∃ m, m < n ∧ ∃ i H', Inv (X.blk s3 H3 scope ce fp) [] (wipe σ (own.map (·.2))) H' s' ∧ tn i s'.heap ∧ (∀ b ∈ fp, H' b = none) ∧ W i m H' := fun {s' H'} K nx => by
        obtain ⟨m', hm, w'⟩ := hNx H' nx
        have stood : ∀ b ∈ fp, ∀ o, s7.heap.get? b = some o → s'.heap.get? b = some o ∧ H' b = none := fun b hb o e =>
          have z := K.pin (b, o) (List.mem_append_right _ (List.mem_append_right _ (mem_pinsAt hb e)))
          ⟨z.1, z.2.1⟩
        refine ⟨m', hm, i + 1, H', (K.unpinned (pins := [])).weak (by rw [← w8, wipe_length]) (fun j v e => ?_), T.keep _ _ _ t7 fun b hb o e => (stood b hb o e).1, fun b hb => ?_, w'⟩
        · rw [← w8] at e
          exact (wipe_some e).1
        · obtain ⟨o, e, _⟩ := T.obj _ _ t7 b hb
          exact (stood b hb o e).2
      cases b with
      | false =>
        simp only [Bool.false_eq_true, if_false] at q9 ⊢
        exact fin J9 q9
      | true =>
        simp only [if_true] at q9 ⊢
        refine thnF (Pk.run _ s9 σ8 H9 _ J9 q9) fun z s10 ⟨yk, H10, J10, r10, q10⟩ => ?_
        refine thnF (Pv.run _ s10 σ8 H10 _ J10 q10) fun z2 s11 ⟨yv, H11, J11, r11, ps, k, c, ek, hcK, hD11, hz11, nx⟩ => ?_
        subst ek
        exact d_putT (X := X.blk s3 H3 scope ce fp) hu J11 hD11 hz11 hcK r10 r11 fun s12 J12 => fin J12 nx
  exact codeAny_compStart_dict loop (T.self X.A 0 _ _ _ t4 loop)
theorem pe_dcT {kx vx tg iter : Expr} {ifs : List Expr} {scope : Scope} {own : List (Str × Nat)} {pos : Pos} {wi : TI} {g : TG} {tt : TT} {tk tv : TE} (hu : X.A.units < cLine) (calm : X.calm = true) (nd : X.N.Nodup) (hi : PI X tg iter wi) (ok : BlkOk X.N X.env.scope scope own)
    (hg : InBlk X scope fun Y => PG Y tg g) (ht : InBlk X scope fun Y => PTs Y ifs tt) (hk : InBlk X scope fun Y => PE Y kx tk) (hv : InBlk X scope fun Y => PE Y vx tv) (hs : ∀ x, foldedSetIterable iter X.env x = pure x := by intro _; rfl) :
    PE X (.DictComp kx vx [⟨tg, iter, ifs, 0⟩] scope pos) (tDt wi g tt tk tv (own.map (·.2))) := by
  refine ⟨fun pins s σ H Q I h => ?_⟩
  rw [arm_eval_DictComp]
  refine dc_core hu calm nd I hi ok hg ht hk hv hs h fun D C s' m H' L q hn f => ⟨m, hn, fun h'' sb => ?_⟩
  obtain ⟨f0, f1, f2, f3, f4, f5⟩ := f
  exact ⟨.ref D, H', L.turned (t' := s'.toks) (fun b o hb e => (sb.2 b hb).trans e) f0 f1 f3 f4 f5, rfl, q⟩
/-- name = {..} on one line, the name a local -/
theorem ps_setDcT {i : Nat} {y : Str} {py : Pos} {kx vx tg iter : Expr} {ifs : List Expr} {scope : Scope} {own : List (Str × Nat)} {pos spos : Pos} {wi : TI} {g : TG} {tt : TT} {tk tv : TE} (hu : X.A.units < cLine) (calm : X.calm = true) (nd : X.N.Nodup) (hy : X.N[i]? = some y) (hyl : X.env.scope.names.lookup y = some .local)
    (hsw : swapsWith (.DictComp kx vx [⟨tg, iter, ifs, 0⟩] scope pos) (some (.Name y py)) spos.line X.env = pure true) (hi : PI X tg iter wi) (ok : BlkOk X.N X.env.scope scope own)
    (hg : InBlk X scope fun Y => PG Y tg g) (ht : InBlk X scope fun Y => PTs Y ifs tt) (hk : InBlk X scope fun Y => PE Y kx tk) (hv : InBlk X scope fun Y => PE Y vx tv) (hs : ∀ x, foldedSetIterable iter X.env x = pure x := by intro _; rfl) :
    PS X (.Assign [.Name y py] (.DictComp kx vx [⟨tg, iter, ifs, 0⟩] scope pos) spos) (tAsg (tDt wi g tt tk tv (own.map (·.2))) (gName i)) := by
  refine ⟨fun pins s σ H D I h => ?_⟩
  rw [exec_Assign_Name_used _ _ _ _ hsw]
  refine wpAny_bind (wpAny_standAt (wpAny_bind ?_))
  show wpAny _ X.A (do let _ ← comprehension (.DictComp kx vx [⟨tg, iter, ifs, 0⟩] scope pos) scope X.env (firstIterPos [⟨tg, iter, ifs, 0⟩] pos) newDict false (eval iter X.env) (some (assign (.Name y py) X.env))) _ _ s
  have h : tDt wi g tt tk tv (own.map (·.2)) σ H (fun x H1 => gName i x σ H1 D.nx) := h
  refine wpAny_bind (thn (dc_core (Qf := fun _ s' => SP X pins D .next s') hu calm nd I hi ok hg ht hk hv hs h fun L C s' m H' I' q hn f => ?_) fun _ s' hq => wpAny_pure (wpAny_pure hq))
  show wpAny _ _ (assign (.Name y py) X.env (.ref L)) _ _ _
  refine wpAny_assign_Name (store_ok2 (v := V.ref L) I' nd hy (.inl hyl) rfl (fun s2 I2 ⟨a, sb, ha⟩ => ?_) (.inr hyl))
  obtain ⟨f0, f1, f2, f3, f4, f5⟩ := f
  have haC : C ≠ a := by
    rcases ha with z | z
    · rw [z]; exact f1
    · exact fun e => f4 y a z e.symm
  refine ⟨m, hn.sameBut sb haC, fun h3 sb3 => ?_⟩
  exact ⟨_, H', I2.turned (t' := s2.toks) (fun b o hb e => (sb3.2 b hb).trans e) f0 f1 f3 f4 f5, q⟩
theorem sw_trueD {kx vx : Expr} {gs : List Comprehension} {scope : Scope} {pos py : Pos} {y : Str} {l : Nat} {env : Env} (hk : env.scope.kind = .function) (hy : env.scope.names.lookup y = some .local) (hl : (py.line == pos.line) = true)
    (ha : (scope.names.any fun (n, k) => n == y && (k == .local || k == .cell)) = false) : swapsWith (.DictComp kx vx gs scope pos) (some (.Name y py)) l env = pure true := by
  have ky : env.kindOf y = some .local := hy
  have hb : env.blockKind = .function := by unfold Env.blockKind; rw [hk]; rfl
  unfold swapsWith
  simp only [hb, ky, ha, Expr.pos, hl]
  rfl
/-- walked by anything -/
theorem dt_it {J : It} {n : Nat} {G : Hp → Prop} {Y : Nat → Hp → V → Hp → Prop} (w : Walk J n G Y) {g : TG} {tt : TT} {tk tv : TE} {vs : List Nat} {σ : L2.St} {H1 : Hp} {D : Addr} {Qd : Hp → Prop} (Pv : Nat → Hp → Prop) (h0 : Pv 0 (upd H1 D (.dT []))) (hG : ∀ i H, i ≤ n → Pv i H → G H)
    (turn : ∀ i x H H', i < n → Pv i H → Y i H x H' → g x (wipe σ vs) H' fun σ2 H2 => wipe σ2 vs = wipe σ vs ∧ tt σ2 H2 fun b H3 =>
      if b = true then tk σ2 H3 fun y H4 => tv σ2 H4 fun z H5 => ∃ ps k c, y = .ref c ∧ H5 c = some (.tup (k.map kV)) ∧ H5 D = some (.dT ps) ∧ ps.length < sizeLine ∧ Pv (i + 1) (upd H5 D (.dT (putK ps k z))) else Pv (i + 1) H3) (done : ∀ H, Pv n H → Qd H) :
    ∃ W : Nat → Nat → Hp → Prop, (∃ m, W 0 m (upd H1 D (.dT []))) ∧ ∀ i m H, W i m H → (J.stop i H ∧ Qd H) ∨ (J.go i H ∧ ∃ Nx : Hp → Prop, (∀ H', Nx H' → ∃ m', m' < m ∧ W (i + 1) m' H') ∧ ∀ x H', J.yld i H x H' → g x (wipe σ vs) H' fun σ2 H2 => wipe σ2 vs = wipe σ vs ∧ tt σ2 H2 fun b H3 =>
      if b = true then tk σ2 H3 fun y H4 => tv σ2 H4 fun z H5 => ∃ ps k c, y = .ref c ∧ H5 c = some (.tup (k.map kV)) ∧ H5 D = some (.dT ps) ∧ ps.length < sizeLine ∧ Nx (upd H5 D (.dT (putK ps k z))) else Nx H3) := by
  refine ⟨fun i m H => m + i = n ∧ Pv i H, ⟨n, rfl, h0⟩, fun i m H hw => ?_⟩
  obtain ⟨hm, p⟩ := hw
  by_cases hi : i < n
  · refine .inr ⟨w.goes i H hi (hG i H (by omega) p), Pv (i + 1), fun H' p' => ⟨m - 1, by omega, by omega, p'⟩, fun x H' y => ?_⟩
    exact turn i x H H' hi p (w.yields i H x H' hi (hG i H (by omega) p) y)
  · have e : i = n := by omega
    subst e
    exact .inl ⟨w.stops H (hG i H (Nat.le_refl _) p), done H p⟩
end
end DTx

/-! DTx: == and != of two dicts with tuple keys and int values; sorted of such a dict. -/
namespace DTx
open PySem PySem.Spec PyProof.Rows L2 PySem.Calls
section
variable {prog : Program} {w : World} {T : Type} [DecidableEq T] {knd : HeapKind prog w T} {A : Around} {E : Value → Shared → Prop} {s : Shared}
/-- the ints that stand as values -/
def intV : Value → Option Int
  | .int i _ => some i
  | _ => none
/-- whether all pairs of one stand in the other -/
def subD (xs ys : List (T × Addr × Value)) : Bool := xs.all fun x => decide (((atKey ys x.1).map fun p => intV p.2) = some (intV x.2.2))
theorem atKey_some {ys : List (T × Addr × Value)} {k : T} {j : Nat} {p : Addr × Value} (hn : (ys.map (·.1)).Nodup) (h : ys[j]? = some (k, p)) : atKey ys k = some p := by
  induction ys generalizing j with
  | nil => simp at h
  | cons y r ih =>
    have hn' : (y.1 :: r.map (·.1)).Nodup := hn
    obtain ⟨h1, h2⟩ := List.nodup_cons.mp hn'
    cases j with
    | zero =>
      have e : y = (k, p) := Option.some.inj h
      subst e
      simp [atKey]
    | succ j =>
      have e : r[j]? = some (k, p) := h
      have hm : k ∈ r.map (·.1) := List.mem_map.mpr ⟨(k, p), List.mem_of_getElem? e, rfl⟩
      have hne : ¬ y.1 = k := fun z => h1 (z ▸ hm)
      have := ih h2 e
      simp only [atKey, List.find?_cons] at this ⊢
      rw [decide_eq_false hne]
      exact this
theorem atKey_none {ys : List (T × Addr × Value)} {k : T} (h : ∀ (j : Nat) (p : Addr × Value), ys[j]? ≠ some (k, p)) : atKey ys k = none := by
  unfold atKey
  rw [Option.map_eq_none_iff, List.find?_eq_none]
  intro x hx e
  obtain ⟨j, hj⟩ := List.mem_iff_getElem?.mp hx
  have e2 : x.1 = k := of_decide_eq_true e
  exact h j x.2 (by rw [hj, ← e2])
theorem samePairs_heap {nm : String} {a b : Addr} {xs ys : List (T × Addr × Value)} {Q : Bool → Shared → Prop} (hu : knd.room A) (ha : (a == sysModules) = false) (hb : (b == sysModules) = false) (da : s.heap.DictOfH knd a xs) (db : s.heap.DictOfH knd b ys)
    (ix : ∀ x ∈ xs, ∃ i t, x.2.2 = Value.int i t) (iy : ∀ y ∈ ys, ∃ i t, y.2.2 = Value.int i t) (h : Q (xs.length == ys.length && subD xs ys) s) : wpAny (model prog w) A (Builtin.Dict.samePairs nm a b) Q E s := by
  obtain ⟨oa, es, ep, a1, _, a3, a4, a5, a6⟩ := da
  obtain ⟨ob, fs, fp, b1, _, b3, b4, b5, b6⟩ := db
  have la : es.size = xs.length := size_of_entries a4
  have lb : fs.size = ys.length := size_of_entries b4
  unfold Builtin.Dict.samePairs Builtin.Dict.showsAll
  rw [ha, hb, if_neg Bool.false_ne_true]
  refine wpAny_bind (wpAny_pure (wpAny_bind (wpAny_pure (wpAny_bind (wpAny_dictEntries a1 a3 ?_)))))
  dsimp only
  refine wpAny_bind (wpAny_dictEntries b1 b3 ?_)
  by_cases hz : es.size = fs.size
  · have hz' : (xs.length == ys.length) = true := by simp [← la, ← lb, hz]
    rw [hz', Bool.true_and] at h
    rw [if_neg (by rw [hz]; simp)]
    refine wpAny_bind (wpAny_dictEpoch a1 a3 (wpAny_bind ?_))
    rw [Std.Legacy.Range.forIn_eq_forIn_range']
    simp only [Std.Legacy.Range.size, Nat.sub_zero, Nat.add_sub_cancel, Nat.div_one]
    refine wpAny_forIn_list _ (fun rest q s' => s' = s ∧ q = (none, ()) ∧ ∃ i, i ≤ es.size ∧ rest = List.range' i (es.size - i) ∧ subD (xs.drop i) ys = subD xs ys) _ ?_ ?_ _ _ ⟨rfl, rfl, 0, Nat.zero_le _, by simp, rfl⟩
    · rintro j rest q s' ⟨rfl, rfl, i, hi, hr, hd⟩
      have hlt : i < es.size := by
        rcases Nat.lt_or_ge i es.size with z | z
        · exact z
        · rw [Nat.sub_eq_zero_of_le z] at hr
          simp at hr
      have er : es.size - i = (es.size - (i + 1)) + 1 := by omega
      rw [er, List.range'_succ] at hr
      injection hr with e1 e2
      subst e1
      refine wpAny_bind (wpAny_dictEntries a1 a3 ?_)
      obtain ⟨k, c, v, hx⟩ : ∃ k c v, xs[j]? = some (k, c, v) := by
        have hl : j < xs.length := by omega
        exact ⟨_, _, _, List.getElem?_eq_getElem hl⟩
      rw [entry_at a4 j, hx]
      have hm := List.mem_of_getElem? hx
      have hcut : xs.drop j = (k, c, v) :: xs.drop (j + 1) := by
        obtain ⟨hl, e⟩ := List.getElem?_eq_some_iff.mp hx
        rw [← e]
        exact List.drop_eq_getElem_cons hl
      obtain ⟨i1, t1, ev⟩ := ix _ hm
      have ev : v = Value.int i1 t1 := ev
      subst ev
      have hc : subD (xs.drop j) ys = (decide (((atKey ys k).map fun p => intV p.2) = some (some i1)) && subD (xs.drop (j + 1)) ys) := by rw [hcut]; rfl
      rw [hc] at hd
      show wpAny _ _ (holding [(entryOfKey knd (k, c, Value.int i1 t1)).key, (entryOfKey knd (k, c, Value.int i1 t1)).val] _ >>= _) _ _ _
      refine wpAny_bind (wpAny_holding (wpAny_bind (wpAny_dictFind_heap hu (a5 _ hm) b1 b3 b4 b5 b6 (fun no => ?_) fun m p hmp => ?_)))
      · refine wpAny_pure ?_
        rw [atKey_none no] at hd
        have hd' : false = subD xs ys := hd
        rw [← hd'] at h
        show wpAny _ _ (if (!false) = true then _ else _) _ _ _
        rw [if_pos (by decide)]
        exact wpAny_pure (wpAny_pure h)
      · obtain ⟨c2, v2⟩ := p
        obtain ⟨i2, t2, ev⟩ := iy _ (List.mem_of_getElem? hmp)
        have ev : v2 = Value.int i2 t2 := ev
        subst ev
        rw [atKey_some b6 hmp] at hd
        refine wpAny_bind (wpAny_dictEntries b1 b3 ?_)
        rw [entry_at b4 m, hmp]
        refine wpAny_holding ?_
        show wpAny _ _ (eqBool (Value.int i1 t1) (Value.int i2 t2)) _ _ _
        refine wpAny_eqBool_int ?_
        by_cases e : i1 = i2
        · subst e
          have hd' : subD (xs.drop (j + 1)) ys = subD xs ys := by
            rw [← hd]
            simp [intV]
          rw [beq_self_eq_true]
          show wpAny _ _ (if (!true) = true then _ else _) _ _ _
          rw [if_neg (by decide)]
          refine wpAny_bind (wpAny_dictEpoch a1 a3 ?_)
          rw [if_neg (by simp)]
          exact wpAny_pure ⟨rfl, rfl, j + 1, hlt, e2, hd'⟩
        · have hd' : subD xs ys = false := by
            rw [← hd]
            simp [intV, Ne.symm e]
          rw [beq_eq_false_iff_ne.mpr e]
          rw [hd'] at h
          show wpAny _ _ (if (!false) = true then _ else _) _ _ _
          rw [if_pos (by decide)]
          exact wpAny_pure (wpAny_pure h)
    · rintro q s' ⟨rfl, rfl, i, hi, hr, hd⟩
      have ei : i = es.size := by
        rcases Nat.lt_or_ge i es.size with z | z
        · have er : es.size - i = (es.size - (i + 1)) + 1 := by omega
          rw [er, List.range'_succ] at hr
          exact nomatch hr
        · exact Nat.le_antisymm hi z
      refine wpAny_pure ?_
      rw [ei, la, List.drop_length] at hd
      have hd' : true = subD xs ys := hd
      rw [← hd'] at h
      exact h
  · have hz' : (xs.length == ys.length) = false := by
      rw [← la, ← lb]
      simpa using hz
    rw [if_pos (by simpa using hz)]
    rw [hz', Bool.false_and] at h
    exact wpAny_bind (wpAny_rule (wpAny_pure h))
theorem eq_heap {a b : Addr} {xs ys : List (T × Addr × Value)} {Q : Value → Shared → Prop} (hu : knd.room A.in1) (hw : A.units < cLine) (ha : (a == sysModules) = false) (hb : (b == sysModules) = false) (ta : s.TypeIs (.ref a) "dict") (tb : s.TypeIs (.ref b) "dict") (da : s.heap.DictOfH knd a xs) (db : s.heap.DictOfH knd b ys)
    (ix : ∀ x ∈ xs, ∃ i t, x.2.2 = Value.int i t) (iy : ∀ y ∈ ys, ∃ i t, y.2.2 = Value.int i t) (h : Q (.bool (xs.length == ys.length && subD xs ys)) s) : wpAny (model prog w) A (compareOp .Eq (.ref a) (.ref b)) Q E s := by
  refine wpAny_richCompare_same_room (op := .Eq) ta tb PySem.F.slot_dict_eq (wpAny_call_entry PySem.F.slot_dict_eq ta PySem.F.entry_dict_eq ?_ (PySem.F.args_dict_eq_2 _ _)) hw
  show wpAny _ _ (Builtin.Dict.dictSlotArgs "__eq__" ⟨[.ref a, .ref b], []⟩ >>= _) _ _ s
  unfold Builtin.Dict.dictSlotArgs
  refine wpAny_bind (wpAny_bind (wpAny_notOrdered_dict ta ?_))
  refine (show wpAny _ _ (pure (Value.ref a, Value.ref b)) _ _ s from wpAny_pure (wpAny_bind (wpAny_isInstance (T := "dict") tb PySem.F.sub_dict_dict ?_)))
  rw [Bool.not_true, if_neg Bool.false_ne_true]
  refine wpAny_bind (wpAny_pure (wpAny_bind (wpAny_pure (wpAny_bind (samePairs_heap hu ha hb da db ix iy (wpAny_pure ⟨_, rfl, (fun z => nomatch z), ?_⟩))))))
  simpa using h
theorem ne_heap {a b : Addr} {xs ys : List (T × Addr × Value)} {Q : Value → Shared → Prop} (hu : knd.room A.in1) (hw : A.units < cLine) (ha : (a == sysModules) = false) (hb : (b == sysModules) = false) (ta : s.TypeIs (.ref a) "dict") (tb : s.TypeIs (.ref b) "dict") (da : s.heap.DictOfH knd a xs) (db : s.heap.DictOfH knd b ys)
    (ix : ∀ x ∈ xs, ∃ i t, x.2.2 = Value.int i t) (iy : ∀ y ∈ ys, ∃ i t, y.2.2 = Value.int i t) (h : Q (.bool (!(xs.length == ys.length && subD xs ys))) s) : wpAny (model prog w) A (compareOp .NotEq (.ref a) (.ref b)) Q E s := by
  refine wpAny_richCompare_same_room (op := .NotEq) ta tb PySem.F.slot_dict_ne (wpAny_call_entry PySem.F.slot_dict_ne ta PySem.F.entry_dict_ne ?_ (PySem.F.args_dict_ne_2 _ _)) hw
  show wpAny _ _ (Builtin.Dict.dictSlotArgs "__ne__" ⟨[.ref a, .ref b], []⟩ >>= _) _ _ s
  unfold Builtin.Dict.dictSlotArgs
  refine wpAny_bind (wpAny_bind (wpAny_notOrdered_dict ta ?_))
  refine (show wpAny _ _ (pure (Value.ref a, Value.ref b)) _ _ s from wpAny_pure (wpAny_bind (wpAny_isInstance (T := "dict") tb PySem.F.sub_dict_dict ?_)))
  rw [Bool.not_true, if_neg Bool.false_ne_true]
  refine wpAny_bind (wpAny_pure (wpAny_bind (wpAny_pure (wpAny_bind (samePairs_heap hu ha hb da db ix iy (wpAny_pure ⟨_, rfl, (fun z => nomatch z), ?_⟩))))))
  simpa using h
end
/-! over the layer -/
theorem pair_at {α β : Type} {F : α → β → Prop} {us : List α} {vs : List β} (r : Paired F us vs) : ∀ {j : Nat} {y : β}, vs[j]? = some y → ∃ x, us[j]? = some x ∧ F x y := by
  induction r with
  | nil => intro j y h; simp at h
  | @cons a b as bs hab t ih =>
    intro j y h
    cases j with
    | zero => exact ⟨a, rfl, by rw [← Option.some.inj (show some b = some y from h)]; exact hab⟩
    | succ j => exact ih (show bs[j]? = some y from h)
def isIntV : V → Prop := fun v => ∃ i, v = .int i
/-- the answer: the same pairs -/
def sameD (ks ls : List (List Key × V)) : Bool := ks.length == ls.length && ks.all fun p => decide (valV ls p.1 = some p.2)
def rEqT (neg : Bool) : R2 := fun x y H Q => ∃ a b ks ls, x = .ref a ∧ y = .ref b ∧ Rd H a (.dT ks) ∧ Rd H b (.dT ls) ∧ (∀ p ∈ ks, isIntV p.2) ∧ (∀ p ∈ ls, isIntV p.2) ∧ Q (.bl (if neg then !sameD ks ls else sameD ks ls)) H
theorem KT.ints {H : Hp} {ks : List (List Key × V)} {xs : List (List Key × Addr × Value)} (r : KT H ks xs) (h : ∀ p ∈ ks, isIntV p.2) : ∀ x ∈ xs, ∃ i t, x.2.2 = Value.int i t := by
  intro x hx
  obtain ⟨j, hj⟩ := List.mem_iff_getElem?.mp hx
  obtain ⟨p, hp, e⟩ := pair_at r hj
  obtain ⟨i, ei⟩ := h p (List.mem_of_getElem? hp)
  have e2 := e.2.2
  rw [ei] at e2
  obtain ⟨t, et⟩ := e2
  exact ⟨i, t, et⟩
theorem sub_same {H : Hp} {ks ls : List (List Key × V)} {xs ys : List (List Key × Addr × Value)} (rb : KT H ls ys) (ra : KT H ks xs) (h : ∀ p ∈ ks, isIntV p.2) (h' : ∀ p ∈ ls, isIntV p.2) : subD xs ys = ks.all fun p => decide (valV ls p.1 = some p.2) := by
  induction ra with
  | nil => rfl
  | @cons p q ps qs e t ih =>
    obtain ⟨e1, _, e2⟩ := e
    have ih' := ih fun p hp => h p (List.mem_cons_of_mem _ hp)
    obtain ⟨i, ei⟩ := h p List.mem_cons_self
    rw [ei] at e2
    obtain ⟨ti, et⟩ := e2
    have hk := KT.val rb p.1
    show (decide (((atKey ys q.1).map fun p => intV p.2) = some (intV q.2.2)) && subD qs ys) = (decide (valV ls p.1 = some p.2) && ps.all fun p => decide (valV ls p.1 = some p.2))
    rw [ih', ← e1, et, ei]
    congr 1
    cases hv : valV ls p.1 with
    | none =>
      rw [hv] at hk
      cases ha : atKey ys p.1 with
      | none => simp
      | some z =>
        rw [ha] at hk
        exact False.elim hk
    | some v =>
      have hm : ∃ u ∈ ls, u.2 = v := by
        unfold valV at hv
        obtain ⟨u, hu, eu⟩ := Option.map_eq_some_iff.mp hv
        exact ⟨u, List.mem_of_find?_eq_some hu, eu⟩
      obtain ⟨u, hul, eu⟩ := hm
      obtain ⟨i', ei'⟩ := h' u hul
      rw [eu] at ei'
      rw [hv] at hk
      cases ha : atKey ys p.1 with
      | none =>
        rw [ha] at hk
        exact False.elim hk
      | some z =>
        rw [ha] at hk
        have hk' : RelV v z.2 := hk
        rw [ei'] at hk'
        obtain ⟨t', et'⟩ := hk'
        rw [ei', Option.map_some, et']
        by_cases e : i' = i
        · subst e
          simp [intV]
        · rw [decide_eq_false, decide_eq_false]
          · exact fun z => e (V.int.inj (Option.some.inj z))
          · exact fun z => e (Option.some.inj (Option.some.inj z))
theorem rd_dT {X : Cx} {pins : List (Addr × Obj)} {σ : L2.St} {H : Hp} {s : Shared} {a : Addr} {ks : List (List Key × V)} (I : Inv X pins σ H s) (h : Rd H a (.dT ks)) : s.TypeIs (.ref a) "dict" ∧ (a == sysModules) = false ∧ ∃ xs, KT H ks xs ∧ s.heap.DictOfH (tupleKind (mixKind X.prog X.w)) a xs :=
  have z := isD_at I (Or.inr ⟨ks, h⟩)
  have y := dt_rd I.hok h
  ⟨z.1, z.2.2, y.2.2⟩
theorem op_eqT {X : Cx} (hu : X.A.units + 1 < cLine) : OpR X (compareOp .Eq) (rEqT false) := by
  intro pins s σ H x y v u Q I rx ry h
  obtain ⟨a, b, ks, ls, rfl, rfl, ha, hb, ia, ib, q⟩ := h
  cases (show v = Value.ref a from rx)
  cases (show u = Value.ref b from ry)
  obtain ⟨ta, na, xs, ra, da⟩ := rd_dT I ha
  obtain ⟨tb, nb, ys, rb, db⟩ := rd_dT I hb
  refine eq_heap (knd := tupleKind (mixKind X.prog X.w)) (tupleKind_room_in1 hu) (by omega) na nb ta tb da db (KT.ints ra ia) (KT.ints rb ib) (fin_bl I q ?_)
  rw [sub_same rb ra ia ib, ← Paired.length ra, ← Paired.length rb]
  all_goals rfl
theorem op_neT {X : Cx} (hu : X.A.units + 1 < cLine) : OpR X (compareOp .NotEq) (rEqT true) := by
  intro pins s σ H x y v u Q I rx ry h
  obtain ⟨a, b, ks, ls, rfl, rfl, ha, hb, ia, ib, q⟩ := h
  cases (show v = Value.ref a from rx)
  cases (show u = Value.ref b from ry)
  obtain ⟨ta, na, xs, ra, da⟩ := rd_dT I ha
  obtain ⟨tb, nb, ys, rb, db⟩ := rd_dT I hb
  refine ne_heap (knd := tupleKind (mixKind X.prog X.w)) (tupleKind_room_in1 hu) (by omega) na nb ta tb da db (KT.ints ra ia) (KT.ints rb ib) (fin_bl I q ?_)
  rw [sub_same rb ra ia ib, ← Paired.length ra, ← Paired.length rb]
  all_goals rfl
end DTx

/-! DTx: sorted of a dict whose keys are tuples of ints, fewer than 64. -/
namespace DTx
open PySem PySem.Spec PyProof.Rows L2 PySem.Calls PySem.W
section
variable {prog : Program} {w : World} {A : Around} {E : Value → Shared → Prop} {s : Shared} {T : String} {r d : Addr} {n : Nat} {P : Nat → Value → Prop} {OK : Heap → Prop}
/-- what a source gives, collected into a list of the interpreter's own -/
theorem collect_src {R : List Value → Shared → Prop} (src : KdlSrc prog w T r d n P OK) (hh : A.handled = none) (hok : OK s.heap) (hn : n ≤ sizeLine)
    (q : ∀ h' tk (acc : Array Value), (∀ b o, s.heap.get? b = some o → h'.get? b = some o) → s.heap.objs.size ≤ h'.objs.size → ItemsOf P acc n → R acc.toList { s with heap := h', toks := tk }) : wpAny (model prog w) A (collect (.ref r)) R E s := by
  obtain ⟨lr, ld⟩ := src.there _ hok
  unfold collect
  refine wpAny_bind (wpAny_runValue (codeAny_builtin entry_proto_collect' ?_))
  rw [Around.under_plainId PySem.F.plain_proto_collect _]
  show wpAny _ A.in1 (newList [] >>= fun l => again (.builtin "list.__iadd__" ⟨[l, .ref r], []⟩)) _ _ s
  refine wpAny_bind (wpAny_newObj_type (wpAny_pure ⟨plainId_quiet PySem.F.plain_list_iadd _, codeAny_builtin entry_list_iadd' ?_⟩))
  rw [Around.under_plainId PySem.F.plain_list_iadd _]
  show wpAny _ A.in1 (Builtin.List.listExtendWith (.ref s.heap.objs.size) (.ref r) (.ref s.heap.objs.size)) _ _ { s with heap := s.heap.push { cls := .type "list", data := .seq ([] : List Value).toArray } }
  have ok1 : OK (s.heap.push { cls := .type "list", data := .seq ([] : List Value).toArray }) := src.keep _ _ hok fun b _ o e => Heap.get?_push_of_some _ e
  have at1 : (s.heap.push { cls := .type "list", data := .seq ([] : List Value).toArray }).get? s.heap.objs.size = some { cls := .type "list", data := .seq #[] 0 } := Heap.get?_push_size _ rfl
  have key := kdl_extend (A := A) (s := { s with heap := s.heap.push { cls := .type "list", data := .seq ([] : List Value).toArray } })
    (R := fun (z : Result) (s' : Shared) => ∃ (h' : Heap) (tk : Nat) (acc : Array Value) (c : Nat), z = .ok (.ret (.ref s.heap.objs.size)) ∧ s' = { s with heap := h', toks := tk } ∧ (∀ b o, s.heap.get? b = some o → h'.get? b = some o) ∧
      h'.get? s.heap.objs.size = some { cls := .type "list", dict := none, data := .seq acc c, slots := #[] } ∧ ItemsOf P acc n) src hh ok1 s.heap.objs.size (Nat.ne_of_gt lr) (Nat.ne_of_gt ld) (.ref s.heap.objs.size) 0 at1
    (fun h' tk acc c hk hS it => ⟨h', tk, acc, c, rfl, rfl, fun b o e => hk b o (Nat.ne_of_lt (Heap.lt_size e)) (Heap.get?_push_of_some _ e), hS, it⟩) hn
  have fin : ∀ (z : Result) (s' : Shared), (∃ (h' : Heap) (tk : Nat) (acc : Array Value) (c : Nat), z = .ok (.ret (.ref s.heap.objs.size)) ∧ s' = { s with heap := h', toks := tk } ∧ (∀ b o, s.heap.get? b = some o → h'.get? b = some o) ∧
      h'.get? s.heap.objs.size = some { cls := .type "list", dict := none, data := .seq acc c, slots := #[] } ∧ ItemsOf P acc n) → ∃ (f : Flow), z = .ok f ∧ wpAny (model prog w) A (load s.heap.objs.size >>= fun o => match o.data with | .seq xs _ => pure xs.toList | _ => unsupported "internal:collected") R E s' := by
    rintro z s' ⟨h', tk, acc, c, rfl, rfl, hk, hS, it⟩
    exact ⟨_, rfl, wpAny_bind (wpAny_load hS (wpAny_pure (q h' tk acc hk (Nat.le_of_lt (Heap.lt_size hS)) it)))⟩
  refine wpAny_mono key (fun x s' z => ?_) fun e s' z => ?_
  · cases x with
    | done f =>
      obtain ⟨h', tk, acc, c, e, rfl, hk, hS, it⟩ := z
      cases e
      show wpAny _ A (load s.heap.objs.size >>= _) _ _ _
      exact wpAny_bind (wpAny_load hS (wpAny_pure (q h' tk acc hk (Nat.le_of_lt (Heap.lt_size hS)) it)))
    | again c1 =>
      refine ⟨z.1, codeAny_mono z.2 fun q2 s2 y => ?_⟩
      obtain ⟨h', tk, acc, c, rfl, rfl, hk, hS, it⟩ := y
      show wpAny _ A (load s.heap.objs.size >>= _) _ _ _
      exact wpAny_bind (wpAny_load hS (wpAny_pure (q h' tk acc hk (Nat.le_of_lt (Heap.lt_size hS)) it)))
  · obtain ⟨_, _, _, _, e', _⟩ := z
    cases e'
end
/-- sorted(d): the addresses of the keys, by their ints -/
def rSortD : List V → Hp → VK → Prop := fun vs H Q => ∃ (a : Addr) (ks : List (List Int × V)) (m : Nat) (B : Int), vs = [V.ref a] ∧ Rd H a (.dT (ks.map fun p => (p.1.map Sum.inl, p.2))) ∧ ks.length < 64 ∧ 1 ≤ m ∧ (∀ p ∈ ks, p.1.length = m ∧ TS.Bd B p.1) ∧
  ∀ (L : List (Addr × List Int)) (p : Addr), (L.map (·.2)).Perm (ks.map (·.1)) → L.Pairwise (fun q r => TS.code B q.2 ≤ TS.code B r.2) → (∀ q ∈ L, H q.1 = some (.tup (q.2.map V.int))) → H p = none → Q (.ref p) (upd H p (.lst (L.map fun q => V.ref q.1)))
theorem src_items {prog : Program} {w : World} {K : Type} [DecidableEq K] {knd : HeapKind prog w K} {es : Array DictEntry} {xs : List (K × Addr × Value)} {acc : Array Value} (he : es.toList = xs.map (entryOfKey knd)) (it : ItemsOf (fun i v => ∃ en : DictEntry, es[i]? = some en ∧ v = en.key) acc es.size) :
    acc.toList = xs.map fun x => Value.ref x.2.1 := by
  have l1 : es.size = xs.length := size_of_entries he
  have l2 : acc.toList.length = xs.length := by rw [Array.length_toList, it.1, l1]
  refine List.ext_getElem? fun j => ?_
  rw [List.getElem?_map]
  rcases Nat.lt_or_ge j xs.length with hj | hj
  · have ha : acc.toList[j]? = some (acc.toList[j]'(by omega)) := List.getElem?_eq_getElem (by omega)
    obtain ⟨en, he2, ev⟩ := it.2 j (acc.toList[j]'(by omega)) (by rw [← Array.getElem?_toList]; exact ha)
    have h2 := entry_at he j
    rw [he2, List.getElem?_eq_getElem hj] at h2
    have e3 : en = entryOfKey knd xs[j] := Option.some.inj h2
    rw [ha, ev, e3, List.getElem?_eq_getElem hj]
    all_goals rfl
  · rw [List.getElem?_eq_none (by omega), List.getElem?_eq_none hj]
    all_goals rfl
theorem isTup_ints {X : Cx} {pins : List (Addr × Obj)} {σ : L2.St} {H : Hp} {s : Shared} (I : Inv X pins σ H s) {t : Addr} {ns : List Int} (h : H t = some (.tup (ns.map V.int))) : TS.TupInts s.heap (.ref t) ns := tupI_raw I (SqT.of h)
theorem sort_refs {h : Heap} {B : Int} {L0 : List (Addr × List Int)} {out : List Value} (tk : ∀ q ∈ L0, TS.TupInts h (.ref q.1) q.2) (pm : out.Perm (L0.map fun q => Value.ref q.1)) (pw : out.Pairwise fun u v => TS.code B (TS.intsOf h u) ≤ TS.code B (TS.intsOf h v)) :
    ∃ L : List (Addr × List Int), out = L.map (fun q => Value.ref q.1) ∧ L.Perm L0 ∧ L.Pairwise fun q r => TS.code B q.2 ≤ TS.code B r.2 := by
  have back : ∀ vs : List Value, (∀ v ∈ vs, v ∈ L0.map fun q => Value.ref q.1) → ∃ L : List (Addr × List Int), vs = L.map (fun q => Value.ref q.1) ∧ ∀ q ∈ L, q ∈ L0 := by
    intro vs
    induction vs with
    | nil => exact fun _ => ⟨[], rfl, fun q hq => nomatch hq⟩
    | cons v r ih =>
      intro hv
      obtain ⟨q, hq, e⟩ := List.mem_map.mp (hv v List.mem_cons_self)
      obtain ⟨L, e2, hL⟩ := ih fun u hu => hv u (List.mem_cons_of_mem _ hu)
      refine ⟨q :: L, by rw [List.map_cons, e, e2], fun z hz => ?_⟩
      rcases List.mem_cons.mp hz with rfl | hz
      · exact hq
      · exact hL z hz
  obtain ⟨L, e, hL⟩ := back out fun v hv => pm.mem_iff.mp hv
  have fn : ∀ v : Value, (fun v : Value => match v with | .ref a => (a, TS.intsOf h v) | _ => ((0 : Addr), ([] : List Int))) v = (fun v : Value => match v with | .ref a => (a, TS.intsOf h v) | _ => ((0 : Addr), ([] : List Int))) v := fun _ => rfl
  have inv : ∀ M : List (Addr × List Int), (∀ q ∈ M, q ∈ L0) → (M.map fun q => Value.ref q.1).map (fun v : Value => match v with | .ref a => (a, TS.intsOf h v) | _ => ((0 : Addr), ([] : List Int))) = M := by
    intro M hM
    rw [List.map_map]
    refine (List.map_congr_left fun q hq => ?_).trans (List.map_id _)
    show (q.1, TS.intsOf h (.ref q.1)) = q
    rw [(tk q (hM q hq)).ints]
  refine ⟨L, e, ?_, ?_⟩
  · have := pm.map (fun v : Value => match v with | .ref a => (a, TS.intsOf h v) | _ => ((0 : Addr), ([] : List Int)))
    rw [e, inv L hL, inv L0 fun _ z => z] at this
    exact this
  · rw [e] at pw
    refine List.Pairwise.imp_of_mem (fun {q r} hq hr hle => ?_) (List.pairwise_map.mp pw)
    rw [(tk q (hL q hq)).ints, (tk r (hL r hr)).ints] at hle
    exact hle
theorem cr_sortedD {X : Cx} (calm : X.calm = true) : CallR X (.builtin "sorted") rSortD := by
  intro pins s σ H vs us Q I r h
  obtain ⟨a, ks, m, B, rfl, ha, hl, hm, hB, q⟩ := h
  obtain ⟨u, rfl, rx⟩ := r.one
  cases rx
  obtain ⟨z, hs, xs, pr, o, es, ep, ho, hx, hdt, he, hnd⟩ := (show ObjOk X.prog X.w H s.heap a (.dT (ks.map fun p => (p.1.map Sum.inl, p.2))) from ha.ok I.hok)
  have l1 : es.size = xs.length := size_of_entries he
  have l2 : xs.length = ks.length := by
    have := Paired.length pr
    rw [List.length_map] at this
    exact this.symm
  -- the keys' addresses with their ints
  obtain ⟨L0, e0, e0k, t0⟩ : ∃ L0 : List (Addr × List Int), xs.map (fun x => Value.ref x.2.1) = L0.map (fun q => Value.ref q.1) ∧ L0.map (·.2) = ks.map (·.1) ∧ ∀ y ∈ L0, H y.1 = some (.tup (y.2.map V.int)) := by
    clear hnd he hdt l1 l2 hl z q ho hx
    generalize hkk : (ks.map fun p => (p.1.map Sum.inl, p.2) : List (List Key × V)) = kk at pr
    clear ha
    induction pr generalizing ks with
    | nil =>
      cases ks with
      | nil => exact ⟨[], rfl, rfl, fun _ z => nomatch z⟩
      | cons => cases hkk
    | @cons p x ps ys e t ih =>
      cases ks with
      | nil => cases hkk
      | cons k kr =>
        injection hkk with e1 e2
        obtain ⟨L, f1, f2, f3⟩ := ih (ks := kr) (fun p hp => hB p (List.mem_cons_of_mem _ hp)) e2
        refine ⟨(x.2.1, k.1) :: L, by rw [List.map_cons, List.map_cons, f1], by rw [List.map_cons, List.map_cons, f2], fun y hy => ?_⟩
        rcases List.mem_cons.mp hy with rfl | hy
        · have h2 := e.2.1
          rw [← e1] at h2
          have h3 : (k.1.map Sum.inl : List Key).map kV = k.1.map V.int := by rw [List.map_map]; rfl
          rw [← h3]
          exact h2
        · exact f3 y hy
  refine call_function_entry kind_sorted plain_sorted entry_sorted (args_sorted1 _) ?_
  unfold Builtin.«sorted»
  refine wpAny_bind (m := checkCount "sorted" 1 1 _) (wpAny_pure ?_)
  refine wpAny_bind (collect_src (A := X.A.in1) (kdl_raw hs hx hdt) (I.ok.hd calm) ho (by rw [sizeLine_eq]; omega) fun h' tk acc hk hsz it => ?_)
  have eacc : acc.toList = L0.map fun q => Value.ref q.1 := (src_items he it).trans e0
  have ll : L0.length = ks.length := by
    have := congrArg List.length e0k
    rwa [List.length_map, List.length_map] at this
  rw [eacc]
  refine wpAny_bind (wpAny_newList ?_ (by rw [List.length_map, sizeLine_eq]; omega))
  have hoL : (h'.push (seqObj "list" (L0.map fun q => Value.ref q.1).toArray 0)).get? h'.objs.size = some (seqObj "list" (L0.map fun q => Value.ref q.1).toArray 0) := Heap.get?_push_size _ rfl
  have tk2 : ∀ y ∈ L0, TS.TupInts (h'.push (seqObj "list" (L0.map fun q => Value.ref q.1).toArray 0)) (.ref y.1) y.2 := fun y hy =>
    (isTup_ints I (t0 y hy)).keeps fun b u e _ => Heap.get?_push_of_some _ (hk b u e)
  have tok : TS.TupsOk (h'.push (seqObj "list" (L0.map fun q => Value.ref q.1).toArray 0)) m B (L0.map fun q => Value.ref q.1) := fun v hv => by
    obtain ⟨y, hy, rfl⟩ := List.mem_map.mp hv
    have hk2 : y.2 ∈ ks.map (·.1) := by
      rw [← e0k]
      exact List.mem_map.mpr ⟨y, hy, rfl⟩
    obtain ⟨p, hp, ep⟩ := List.mem_map.mp hk2
    have := hB p hp
    rw [ep] at this
    exact ⟨y.2, tk2 y hy, this⟩
  refine wpAny_bind (wpAny_holding (TS.call_sort_tups (s := { s with heap := h'.push (seqObj "list" (L0.map fun q => Value.ref q.1).toArray 0), toks := tk }) hoL (by rw [List.length_map]; omega) hm tok fun out a1 a2 => ?_))
  obtain ⟨c, hc⟩ := sortedHeap_at (vs := L0.map fun q => Value.ref q.1) (out := out) hoL
  obtain ⟨L, eL, pL, wL⟩ := sort_refs tk2 a1 a2
  refine wpAny_pure ⟨_, rfl, ?_⟩
  have keep : ∀ b u, s.heap.get? b = some u → (sortedHeap (h'.push (seqObj "list" (L0.map fun q => Value.ref q.1).toArray 0)) h'.objs.size (L0.map fun q => Value.ref q.1) out).get? b = some u := fun b u e => by
    have e2 := hk b u e
    have lt := Heap.lt_size e2
    rw [sortedHeap_old (Nat.ne_of_lt lt) (by rw [size_push']; exact Nat.lt_succ_of_lt lt)]
    exact Heap.get?_push_of_some _ e2
  have hn : H h'.objs.size = none := I.hok.fresh hsz
  have rv : Vals (L.map fun q => V.ref q.1) out.toList := by
    rw [eL]
    clear eL pL wL
    induction L with
    | nil => exact .nil
    | cons y r ih => exact .cons rfl ih
  have lz : (L.map fun q => V.ref q.1).length ≤ sizeLine := by
    rw [List.length_map, pL.length_eq, sizeLine_eq]
    omega
  have J : Inv X pins σ (upd H h'.objs.size (.lst (L.map fun q => V.ref q.1))) { s with heap := sortedHeap (h'.push (seqObj "list" (L0.map fun q => Value.ref q.1).toArray 0)) h'.objs.size (L0.map fun q => Value.ref q.1) out, toks := tk } :=
    I.laid (t' := tk) keep hsz ⟨lz, out.toList, c, rv, hc⟩
  refine ⟨.ref h'.objs.size, _, J, rfl, q L _ ?_ wL (fun y hy => t0 y (pL.mem_iff.mp hy)) hn⟩
  rw [← e0k]
  exact pL.map _
end DTx

/-! DTx: {k: v} with a tuple as its one key. -/
namespace DTx
open PySem PySem.Spec PyProof.Rows L2 PySem.Calls
def tOne (tk tv : TE) : TE := fun σ H Q => ∀ p, H p = none → tk σ (upd H p (.dT [])) fun y H1 => tv σ H1 fun z H2 => H2 p = some (.dT []) ∧ ∃ k c, y = .ref c ∧ H2 c = some (.tup (k.map kV)) ∧ Q (.ref p) (upd H2 p (.dT [(k, z)]))
theorem pe_one_pair {X : Cx} {pos : Pos} {kx vx : Expr} {tk tv : TE} (hu : X.A.units < cLine) (hk : PE X kx tk) (hv : PE X vx tv) : PE X (.Dict [some kx] [vx] pos) (tOne tk tv) := by
  refine ⟨fun pins s σ H Q I q => ?_⟩
  have hn := I.hok.fresh (Nat.le_refl s.heap.objs.size)
  have J := I.laid (a := s.heap.objs.size) (o := .dT []) (h' := s.heap.push { cls := .type "dict", data := .dict #[] }) (t' := s.toks) (fun _ _ e => Heap.get?_push_of_some _ e) (Nat.le_refl _) (dt_empty s.heap I.big)
  rw [arm_eval_Dict, zip_pairTrees [some kx] [vx] X.env pos rfl rfl, dictDisplay_pairs _ (fun z => by have := congrArg List.length z; rw [pairTrees_length _ _ _ _ rfl rfl] at this; cases this) (by rw [pairTrees_length _ _ _ _ rfl rfl]; show 1 < 17; decide)]
  refine wpAny_bind (wpAny_standAt (wpAny_bind (wpAny_subDictH (knd := tupleKind (mixKind X.prog X.w)) (Q := fun d s' => wpAny (model X.prog X.w) X.A (pure (Value.ref d)) (EP X pins σ Q) X.xe s') hu (by rw [pairTrees_length _ _ _ _ rfl rfl]; show 1 ≤ 15; decide) ?_)))
  refine pairTrees_cons_walk (thn (hk.run pins _ σ _ _ J (q _ hn)) fun u s1 ⟨y, H1, I1, ry, q1⟩ => thn (hv.run pins s1 σ H1 _ I1 q1) fun r s2 ⟨z, H2, I2, rz, hp, k, c, ey, hc, q2⟩ => pairTrees_nil_walk ?_)
  subst ey
  cases (show u = Value.ref c from ry)
  obtain ⟨_, hd, xs, rel, dd⟩ := dt_of I2.hok hp
  cases rel
  refine ⟨[(k, c, r)], ⟨rfl, rfl, key_of I2.hok hc, trivial⟩, dd, fun h' tk d2 sb => wpAny_pure ⟨.ref s.heap.objs.size, _, ?_, rfl, q2⟩⟩
  obtain ⟨ob, es, ep, g1, g2, g3, g4, _, g6⟩ := d2
  refine d_write I2 (by rw [hp]; trivial) sb ⟨ob, g1⟩ ⟨by show 1 ≤ sizeLine; decide, hd, [(k, c, r)], .cons ⟨rfl, ?_, rz⟩ .nil, ob, es, ep, g1, g2, g3, g4, g6⟩
  show upd H2 s.heap.objs.size (.dT [(k, z)]) c = some (.tup (k.map kV))
  rw [upd_ne (ne_of hc hp fun z => nomatch z)]
  exact hc
end DTx

/-! Sm: dicts from int lists to ints, as lists of pairs; forms. -/
namespace Sm
open PySem L2
abbrev DI := List (List Int × Int)
abbrev ek (k : List Int) : List Key := k.map Sum.inl
def enc (ps : DI) : List (List Key × V) := ps.map fun p => (ek p.1, V.int p.2)
def getI (ps : DI) (k : List Int) : Option Int := (ps.find? fun p => decide (p.1 = k)).map (·.2)
def putI (ps : DI) (k : List Int) (v : Int) : DI := if (ps.any fun p => decide (p.1 = k)) = true then ps.map (fun p => if p.1 = k then (p.1, v) else p) else ps ++ [(k, v)]
theorem ek_inj {a b : List Int} : ek a = ek b ↔ a = b := by
  constructor
  · intro h
    induction a generalizing b with
    | nil => cases b with
      | nil => rfl
      | cons y ys => cases h
    | cons x xs ih => cases b with
      | nil => cases h
      | cons y ys =>
        injection h with h1 h2
        rw [Sum.inl.inj h1, ih h2]
  · intro h; rw [h]
theorem ek_kV (k : List Int) : (ek k).map kV = k.map V.int := by
  unfold ek
  rw [List.map_map]
  rfl
theorem val_enc (ps : DI) (k : List Int) : valV (enc ps) (ek k) = (getI ps k).map V.int := by
  induction ps with
  | nil => rfl
  | cons p r ih =>
    show valV ((ek p.1, V.int p.2) :: enc r) (ek k) = _
    by_cases e : p.1 = k
    · rw [valV_pos (by rw [e])]
      simp [getI, e]
    · rw [valV_neg (fun h => e (ek_inj.mp h)), ih]
      simp [getI, e]
theorem put_enc (ps : DI) (k : List Int) (v : Int) : putK (enc ps) (ek k) (.int v) = enc (putI ps k v) := by
  have e : ((enc ps).any fun kv => decide (kv.1 = ek k)) = (ps.any fun p => decide (p.1 = k)) := by
    unfold enc
    rw [List.any_map]
    congr 1
    funext p
    exact decide_eq_decide.mpr ek_inj
  unfold putK putI
  rw [e]
  split
  · unfold enc
    rw [List.map_map, List.map_map]
    refine List.map_congr_left fun p _ => ?_
    show (if ek p.1 = ek k then (ek p.1, V.int v) else (ek p.1, V.int p.2)) = _
    by_cases h : p.1 = k
    · rw [if_pos (by rw [h])]
      simp [h]
    · rw [if_neg (fun z => h (ek_inj.mp z))]
      simp [h]
  · simp [enc]
theorem putI_new {ps : DI} {k : List Int} {v : Int} (h : k ∉ ps.map (·.1)) : putI ps k v = ps ++ [(k, v)] := by
  unfold putI
  rw [if_neg]
  intro h2
  obtain ⟨p, hp, e⟩ := List.any_eq_true.mp h2
  exact h (List.mem_map.mpr ⟨p, hp, of_decide_eq_true e⟩)
theorem getI_none {ps : DI} {k : List Int} (h : k ∉ ps.map (·.1)) : getI ps k = none := by
  unfold getI
  rw [Option.map_eq_none_iff, List.find?_eq_none]
  intro p hp e
  exact h (List.mem_map.mpr ⟨p, hp, of_decide_eq_true e⟩)
theorem getI_mem {ps : DI} (nd : (ps.map (·.1)).Nodup) {p : List Int × Int} (hp : p ∈ ps) : getI ps p.1 = some p.2 := by
  induction ps with
  | nil => cases hp
  | cons q r ih =>
    have nd' : (q.1 :: r.map (·.1)).Nodup := nd
    obtain ⟨h1, h2⟩ := List.nodup_cons.mp nd'
    rcases List.mem_cons.mp hp with rfl | hp
    · simp [getI]
    · have : ¬ q.1 = p.1 := fun e => h1 (e ▸ List.mem_map.mpr ⟨p, hp, rfl⟩)
      have ih' := ih h2 hp
      simp only [getI, List.find?_cons] at ih' ⊢
      rw [decide_eq_false this]
      exact ih'
theorem mem_getI {ps : DI} {k : List Int} {v : Int} (h : getI ps k = some v) : (k, v) ∈ ps := by
  unfold getI at h
  obtain ⟨p, hp, e⟩ := Option.map_eq_some_iff.mp h
  have h1 := List.mem_of_find?_eq_some hp
  have h2 : p.1 = k := by
    have := List.find?_some hp
    exact of_decide_eq_true this
  rw [← h2, ← e]
  exact h1
/-- the steps that are not 0 -/
def nz (ps : DI) : DI := ps.filter fun p => decide (p.2 ≠ 0)
theorem nz_sub {ps : DI} {p : List Int × Int} (h : p ∈ nz ps) : p ∈ ps := (List.mem_filter.mp h).1
theorem nd_nz {ps : DI} (nd : (ps.map (·.1)).Nodup) : ((nz ps).map (·.1)).Nodup := by
  unfold nz
  exact nd.sublist ((List.filter_sublist).map _)
theorem same_self {ps : DI} (nd : (ps.map (·.1)).Nodup) : DTx.sameD (enc ps) (enc ps) = true := by
  unfold DTx.sameD
  rw [beq_self_eq_true, Bool.true_and, List.all_eq_true]
  intro x hx
  obtain ⟨p, hp, rfl⟩ := List.mem_map.mp hx
  show decide (valV (enc ps) (ek p.1) = some (V.int p.2)) = true
  rw [val_enc, getI_mem nd hp]
  simp
theorem enc_int (ps : DI) : ∀ p ∈ enc ps, DTx.isIntV p.2 := fun x hx => by
  obtain ⟨p, _, rfl⟩ := List.mem_map.mp hx
  exact ⟨p.2, rfl⟩
/-- refs of tuples of ints -/
def TupsAt (H : Hp) : List V → List (List Int) → Prop := Paired fun v k => ∃ t, v = .ref t ∧ H t = some (.tup (k.map V.int))
theorem TupsAt.same {H H' : Hp} (e : ∀ b ys, H b = some (.tup ys) → H' b = some (.tup ys)) {xs : List V} {ks : List (List Int)} (h : TupsAt H xs ks) : TupsAt H' xs ks :=
  Paired.mapP h fun _ _ ⟨t, a, b⟩ => ⟨t, a, e _ _ b⟩
theorem TupsAt.get {H : Hp} {xs : List V} {ks : List (List Int)} (h : TupsAt H xs ks) {i : Nat} {x : V} (hx : xs[i]? = some x) : ∃ k t, ks[i]? = some k ∧ x = .ref t ∧ H t = some (.tup (k.map V.int)) := by
  induction h generalizing i with
  | nil => simp at hx
  | @cons a b as bs hab r ih =>
    cases i with
    | zero =>
      obtain ⟨t, e1, e2⟩ := hab
      have e : a = x := Option.some.inj hx
      exact ⟨b, t, rfl, by rw [← e, e1], e2⟩
    | succ i => exact ih hx
theorem TupsAt.app {H : Hp} {xs ys : List V} {ks ls : List (List Int)} (h : TupsAt H xs ks) (h' : TupsAt H ys ls) : TupsAt H (xs ++ ys) (ks ++ ls) := by
  induction h with
  | nil => exact h'
  | cons hab r ih => exact .cons hab ih
theorem TupsAt.erase {H : Hp} {xs : List V} {ks : List (List Int)} (h : TupsAt H xs ks) (j : Nat) : TupsAt H (xs.eraseIdx j) (ks.eraseIdx j) := by
  induction h generalizing j with
  | nil => exact .nil
  | cons hab r ih =>
    cases j with
    | zero => exact r
    | succ j => exact .cons hab (ih j)
theorem TupsAt.len {H : Hp} {xs : List V} {ks : List (List Int)} (h : TupsAt H xs ks) : xs.length = ks.length := Paired.length h
theorem perm_erase {α : Type} {l : List α} {j : Nat} {x : α} (h : l[j]? = some x) : (x :: l.eraseIdx j).Perm l := by
  induction l generalizing j with
  | nil => simp at h
  | cons a r ih =>
    cases j with
    | zero =>
      have e : a = x := Option.some.inj h
      rw [e]
      exact List.Perm.refl _
    | succ j =>
      have := ih (j := j) h
      show (x :: a :: r.eraseIdx j).Perm (a :: r)
      exact (List.Perm.swap _ _ _).trans (this.cons a)
/-- a sort: three ints from 0 to 2 -/
def Sort3 (k : List Int) : Prop := k.length = 3 ∧ TS.Bd 3 k
theorem code_inj {B : Int} (hB : 0 < B) : ∀ {a b : List Int}, a.length = b.length → TS.Bd B a → TS.Bd B b → TS.code B a = TS.code B b → a = b
  | [], [], _, _, _, _ => rfl
  | [], _ :: _, h, _, _, _ => by cases h
  | _ :: _, [], h, _, _, _ => by cases h
  | x :: xs, y :: ys, h, ha, hb, e => by
    have hl : xs.length = ys.length := Nat.succ.inj h
    have bound : ∀ {l : List Int}, TS.Bd B l → 0 ≤ TS.code B l ∧ TS.code B l < B ^ l.length := by
      intro l
      induction l with
      | nil => intro _; exact ⟨Int.le_refl 0, by simp [TS.code]⟩
      | cons z zs ih =>
        intro hz
        obtain ⟨i1, i2⟩ := ih hz.tail
        obtain ⟨z0, z1⟩ := hz.head
        have := TS.num1 (P := B ^ zs.length) (B := B) i1 i2 z0 z1
        refine ⟨this.1, ?_⟩
        show z * B ^ zs.length + TS.code B zs < B ^ (zs.length + 1)
        rw [Int.pow_succ]
        exact this.2
    have e2 : x * B ^ xs.length + TS.code B xs = y * B ^ ys.length + TS.code B ys := e
    rw [hl] at e2
    obtain ⟨p1, p2⟩ := bound ha.tail
    obtain ⟨q1, q2⟩ := bound hb.tail
    rw [hl] at p2
    have pp : 0 < B ^ ys.length := Int.pow_pos hB
    generalize B ^ ys.length = M at e2 p2 q2 pp
    have exy : x = y := by
      rcases Int.lt_trichotomy x y with h | h | h
      · exfalso
        have : (x + 1) * M ≤ y * M := Int.mul_le_mul_of_nonneg_right (by omega) (by omega)
        rw [Int.add_mul] at this
        omega
      · exact h
      · exfalso
        have : (y + 1) * M ≤ x * M := Int.mul_le_mul_of_nonneg_right (by omega) (by omega)
        rw [Int.add_mul] at this
        omega
    subst exy
    rw [code_inj hB hl ha.tail hb.tail (by omega)]
end Sm

/-! Sl: comprehensions of ints over the keys of a dict with int-tuple keys. -/
namespace Sl
open PySem L2 Sm
theorem inl_key {k : List Key} {ps : DI} {i : Nat} {v : V} (h : (enc ps)[i]? = some (k, v)) : ∃ ns z, ps[i]? = some (ns, z) ∧ k = ek ns ∧ v = .int z := by
  unfold enc at h
  rw [List.getElem?_map] at h
  obtain ⟨p, hp, e⟩ := Option.map_eq_some_iff.mp h
  exact ⟨p.1, p.2, hp, (Prod.mk.inj e).1.symm, (Prod.mk.inj e).2.symm⟩
theorem upd_back {H : Hp} {c : Addr} {o : HO} (h : H c = some o) : upd H c o = H := by
  funext b
  by_cases e : b = c
  · rw [e, upd_same, h]
  · rw [upd_ne e]
/-- [F for k in d] -/
theorem lock_ints {σ : L2.St} {H : Hp} {c : Addr} {r : DI} {i j : Nat} {te : TE} {F : List Int → Int → Int} {Q : VK} (hv : σ[i]? = some (some (.ref c))) (hc : H c = some (.dT (enc r))) (hsz : r.length < 1000)
    (step : ∀ (od : Obj) (H' : Hp) (k : List Int) (z : Int) (t : Addr), (∀ b o, H b = some o → b ≠ c → H' b = some o) → H' c = some (.frz od (.dT (enc r))) → (k, z) ∈ r → H' t = some (.tup (k.map V.int)) →
      ∀ R : VK, R (.int (F k z)) H' → te ((wipe σ [j]).set j (some (.ref t))) H' R)
    (done : ∀ (D : Addr) (H' : Hp), H D = none → Same H H' → H' D = some (.lst ((r.map fun y => F y.1 y.2).map V.int)) → Q (.ref D) H') : tLockE (tLc (iKeys (tVar i)) (gName j) tYes te [j]) σ H Q := by
  refine ⟨c, _, hc, trivial, fun od => ?_⟩
  refine Eg.w_lc (Eg.w_iK (Eg.w_var hv (Eg.c_iKT upd_same ?_)))
  intro D hD
  have hDc : D ≠ c := fun e => by rw [e, upd_same] at hD; cases hD
  have hD0 : H D = none := by rw [upd_ne hDc] at hD; exact hD
  refine lc_it walk_keysT (fun n H' => H' c = some (.frz od (.dT (enc r))) ∧ H' D = some (.lst (((r.take n).map fun y => F y.1 y.2).map V.int)) ∧ ∀ b o, H b = some o → b ≠ c → H' b = some o) ?_ (fun n H' _ h => h.1) ?_ ?_
  · exact ⟨Eg.upd_old upd_same hD, upd_same, fun b o e hn => Eg.upd_old (Eg.upd_mut hn e) hD⟩
  · rintro n y _ _ hn ⟨h1, h2, h3⟩ ⟨rfl, k, v, t, hk, rfl, ht⟩
    obtain ⟨kk, z, hkz, rfl, rfl⟩ := inl_key hk
    rw [ek_kV] at ht
    obtain ⟨hlt, he⟩ := List.getElem?_eq_some_iff.mp hkz
    refine Eg.w_gN (Eg.w_wipe ?_ (Eg.w_yes (iteT (step od _ kk z t h3 h1 (List.mem_of_getElem? hkz) ht _ ?_))))
    · show ((wipe σ []).set j none |>.set j (some (.ref t))).set j none = _
      show (((σ.set j none).set j (some (.ref t))).set j none) = σ.set j none
      rw [List.set_set, List.set_set]
    · refine ⟨_, h2, ?_, Eg.upd_mut hDc.symm h1, ?_, fun b o e hne => Eg.upd_mut (ne_of_none e hD0) (h3 b o e hne)⟩
      · rw [List.length_map, List.length_map, List.length_take, sizeLine_eq]
        omega
      · rw [upd_same, List.take_succ_eq_append_getElem hlt, he]
        simp
  · rintro H1 ⟨h1, h2, h3⟩
    refine ⟨h1, done D _ hD0 (fun b o e => ?_) (Eg.upd_mut hDc ?_)⟩
    · by_cases hb : b = c
      · rw [hb, upd_same]
        rw [hb, hc] at e
        exact e
      · exact Eg.upd_mut hb (h3 b o e hb)
    · rw [h2]
      unfold enc
      rw [List.length_map, List.take_length]
end Sl

/-! DTx5: lists of tuples of ints: sorted, == and !=. -/
namespace DTx
open PySem PySem.Spec PyProof.Rows L2
/-- sorted(xs) of a list of tuples of ints -/
def rSortT (K : PySem.W.Frag) : List V → Hp → VK → Prop := fun vs H Q => ∃ (a : Addr) (L0 : List (Addr × List Int)) (m : Nat) (B : Int), vs = [V.ref a] ∧ SqL K H a (L0.map fun q => V.ref q.1) ∧ (∀ q ∈ L0, H q.1 = some (.tup (q.2.map V.int))) ∧ L0.length < 64 ∧ 1 ≤ m ∧ (∀ q ∈ L0, q.2.length = m ∧ TS.Bd B q.2) ∧
  ∀ (L : List (Addr × List Int)) (p : Addr), L.Perm L0 → L.Pairwise (fun q r => TS.code B q.2 ≤ TS.code B r.2) → H p = none → Q (.ref p) (upd H p (.lst (L.map fun q => V.ref q.1)))
theorem vals_refs : ∀ {L0 : List (Addr × List Int)} {us : List Value}, Vals (L0.map fun q => V.ref q.1) us → us = L0.map fun q => Value.ref q.1
  | [], _, .nil => rfl
  | q :: r, _, .cons a b => by
    cases a
    rw [vals_refs b]
    rfl
theorem cr_sortedT {X : Cx} : CallR X (.builtin "sorted") (rSortT X.K) := by
  intro pins s σ H vs us Q I r h
  obtain ⟨a, L0, m, B, rfl, hs, t0, h64, hm, hB, q⟩ := h
  obtain ⟨its, rv, hl, _⟩ := I.list hs
  rw [Vals.ref1 r]
  have ei := vals_refs rv
  subst ei
  have tk : ∀ y ∈ L0, TS.TupInts s.heap (.ref y.1) y.2 := fun y hy => isTup_ints I (t0 y hy)
  refine TS.sorted_tups (B := B) hl.isList (by rw [List.length_map]; exact h64) hm (fun v hv => ?_) fun out h1 h2 => ?_
  · obtain ⟨y, hy, rfl⟩ := List.mem_map.mp hv
    exact ⟨y.2, tk y hy, hB y hy⟩
  · obtain ⟨L, eL, pL, wL⟩ := sort_refs tk h1 h2
    obtain ⟨ep, he'⟩ := PyProof.Rows.sortedAll_at s.heap (L0.map fun q => Value.ref q.1) out
    have rv2 : Vals (L.map fun q => V.ref q.1) out.toList := by
      rw [eL]
      clear eL pL wL
      induction L with
      | nil => exact .nil
      | cons y r ih => exact .cons rfl ih
    have hlen : (L.map fun q => V.ref q.1).length ≤ sizeLine := by rw [List.length_map, pL.length_eq, sizeLine_eq]; omega
    exact ⟨.ref _, upd H (s.heap.objs.size + 1) (.lst (L.map fun q => V.ref q.1)), I.laid (t' := s.toks) (fun _ _ => PyProof.Rows.sortedAll_old) (Nat.le_succ _) ⟨hlen, out.toList, ep, rv2, he'⟩, rfl, q L _ pL wL (I.hok.fresh (Nat.le_succ _))⟩
/-! equality of data -/
def tI (k : List Int) : PyData := .tuple (k.map .int)
def lT (ks : List (List Int)) : PyData := .list (ks.map tI)
def lI (ns : List Int) : PyData := .list (ns.map .int)
theorem ints_lay : ∀ ns : List Int, PyData.canLayAll0 (ns.map .int) = true
  | [] => rfl
  | n :: r => by
    rw [List.map_cons, PyData.canLayAll0, ints_lay r]
    simp [PyData.canLay0]
theorem ints_depth : ∀ ns : List Int, PyData.depthAll (ns.map .int) ≤ 1
  | [] => by simp [PyData.depthAll]
  | n :: r => by
    have := ints_depth r
    simp only [List.map_cons, PyData.depthAll, PyData.depth]
    omega
theorem tups_lay : ∀ ks : List (List Int), PyData.canLayAll0 (ks.map tI) = true
  | [] => rfl
  | k :: r => by
    rw [List.map_cons, PyData.canLayAll0, tups_lay r]
    simp [tI, PyData.canLay0, ints_lay]
theorem tups_depth : ∀ ks : List (List Int), PyData.depthAll (ks.map tI) ≤ 3
  | [] => by simp [PyData.depthAll]
  | k :: r => by
    have := tups_depth r
    have := ints_depth k
    simp only [List.map_cons, PyData.depthAll, PyData.depth, tI]
    omega
theorem shaped_lT (ks : List (List Int)) : SeqAt.shaped (lT ks) = true := by
  unfold SeqAt.shaped lT
  rw [PyData.canLay0, tups_lay, Bool.true_and, decide_eq_true_eq]
  have := tups_depth ks
  simp only [PyData.depth]
  omega
theorem shaped_lI (ns : List Int) : SeqAt.shaped (lI ns) = true := by
  unfold SeqAt.shaped lI
  rw [PyData.canLay0, ints_lay, Bool.true_and, decide_eq_true_eq]
  have := ints_depth ns
  simp only [PyData.depth]
  omega
theorem shaped_tI (ns : List Int) : SeqAt.shaped (tI ns) = true := by
  unfold SeqAt.shaped tI
  rw [PyData.canLay0, ints_lay, Bool.true_and, decide_eq_true_eq]
  have := ints_depth ns
  simp only [PyData.depth]
  omega
theorem eqv_ints : ∀ ns ms : List Int, PyData.eqvAll (ns.map .int) (ms.map .int) = decide (ns = ms)
  | [], [] => by simp [PyData.eqvAll]
  | [], _ :: _ => by simp [PyData.eqvAll]
  | _ :: _, [] => by simp [PyData.eqvAll]
  | n :: r, m :: t => by
    rw [List.map_cons, List.map_cons, PyData.eqvAll, eqv_ints r t, PyData.eqv]
    by_cases e : n = m <;> by_cases f : r = t <;> simp [e, f]
theorem eqv_lI (ns ms : List Int) : PyData.eqv (lI ns) (lI ms) = decide (ns = ms) := by
  unfold lI
  rw [PyData.eqv, eqv_ints]
theorem eqv_tI (ns ms : List Int) : PyData.eqv (tI ns) (tI ms) = decide (ns = ms) := by
  unfold tI
  rw [PyData.eqv, eqv_ints]
theorem eqv_tups : ∀ ks ls : List (List Int), PyData.eqvAll (ks.map tI) (ls.map tI) = decide (ks = ls)
  | [], [] => by simp [PyData.eqvAll]
  | [], _ :: _ => by simp [PyData.eqvAll]
  | _ :: _, [] => by simp [PyData.eqvAll]
  | n :: r, m :: t => by
    rw [List.map_cons, List.map_cons, PyData.eqvAll, eqv_tups r t, eqv_tI]
    by_cases e : n = m <;> by_cases f : r = t <;> simp [e, f]
theorem eqv_lT (ks ls : List (List Int)) : PyData.eqv (lT ks) (lT ls) = decide (ks = ls) := by
  unfold lT
  rw [PyData.eqv, eqv_tups]
section
variable {K : PySem.W.Frag} {H : Hp} {a b : Addr} {xs ys : List V} {ks ls : List (List Int)} {ns ms : List Int} {Q : VK}
theorem dpInts : ∀ ns : List Int, DpAll K H (ns.map V.int) (ns.map .int)
  | [] => .nil
  | n :: r => .cons (.int n) (dpInts r)
theorem dpTups (h : Sm.TupsAt H xs ks) : DpAll K H xs (ks.map tI) := by
  induction h with
  | nil => exact .nil
  | cons hab r ih =>
    obtain ⟨t, rfl, ht⟩ := hab
    exact .cons (.tup (SqT.of ht) (dpInts _)) ih
theorem c_neTL (h1 : SqL K H a xs) (t1 : Sm.TupsAt H xs ks) (h2 : SqL K H b ys) (t2 : Sm.TupsAt H ys ls) (q : Q (.bl (!decide (ks = ls))) H) : rNeD K (.ref a) (.ref b) H Q :=
  ⟨lT ks, lT ls, .lst h1 (dpTups t1), .lst h2 (dpTups t2), shaped_lT _, shaped_lT _, by rw [eqv_lT]; exact q⟩
theorem c_eqTL (h1 : SqL K H a xs) (t1 : Sm.TupsAt H xs ks) (h2 : SqL K H b ys) (t2 : Sm.TupsAt H ys ls) (q : Q (.bl (decide (ks = ls))) H) : rEqD K (.ref a) (.ref b) H Q :=
  ⟨lT ks, lT ls, .lst h1 (dpTups t1), .lst h2 (dpTups t2), shaped_lT _, shaped_lT _, by rw [eqv_lT]; exact q⟩
theorem c_neIL (h1 : SqL K H a (ns.map V.int)) (h2 : SqL K H b (ms.map V.int)) (q : Q (.bl (!decide (ns = ms))) H) : rNeD K (.ref a) (.ref b) H Q :=
  ⟨lI ns, lI ms, .lst h1 (dpInts _), .lst h2 (dpInts _), shaped_lI _, shaped_lI _, by rw [eqv_lI]; exact q⟩
theorem c_eqIL (h1 : SqL K H a (ns.map V.int)) (h2 : SqL K H b (ms.map V.int)) (q : Q (.bl (decide (ns = ms))) H) : rEqD K (.ref a) (.ref b) H Q :=
  ⟨lI ns, lI ms, .lst h1 (dpInts _), .lst h2 (dpInts _), shaped_lI _, shaped_lI _, by rw [eqv_lI]; exact q⟩
end
end DTx

/-! DTx: sorted of a dict whose keys are ints, any number of them. -/
namespace DTx
open PySem PySem.Spec PyProof.Rows L2 PySem.Calls PySem.W
def rSortDI : List V → Hp → VK → Prop := fun vs H Q => ∃ (a : Addr) (kvs : List (Key × V)) (ks : List Int), vs = [V.ref a] ∧ Rd H a (.dK kvs) ∧ kvs.map (·.1) = ks.map Sum.inl ∧ ks.length < 100000 ∧
  ∀ (ys : List Int) (p : Addr), ys.Perm ks → ys.Pairwise (· ≤ ·) → H p = none → Q (.ref p) (upd H p (.lst (ys.map V.int)))
theorem cr_sortedDI {X : Cx} (hcalm : X.calm = true) : CallR X (.builtin "sorted") rSortDI := by
  intro pins s σ H xs us Q I r q
  obtain ⟨a, kvs, ks, ex, hd, hks, hsz, q⟩ := q
  subst ex
  obtain ⟨u, eu, rx⟩ := vals1 r
  subst eu
  cases rx
  obtain ⟨z, lo, vs, rel, dd⟩ := dk_rd I.hok hd
  obtain ⟨ep, hat⟩ := dd.dictAt
  have hkeys : vs.map (·.1) = ks.map Sum.inl := rel.keys.symm.trans hks
  have hl : vs.length = ks.length := by
    have e := congrArg List.length hkeys
    rw [List.length_map, List.length_map] at e
    exact e
  have h16 : vs.length ≤ sizeLine := by rw [hl, sizeLine_eq]; omega
  refine Calls.call_function_entry PyProof.Rows.kind_sorted PyProof.Rows.plain_sorted PyProof.Rows.entry_sorted (PyProof.Rows.args_sorted1 _) ?_
  unfold Builtin.«sorted»
  refine wpAny_bind (m := checkCount "sorted" 1 1 _) (wpAny_pure ?_)
  refine wpAny_bind (PySem.W.kdu_collect (A := X.A.in1) (PySem.W.kdl_dict (knd := mixKind X.prog X.w) (kvs := vs) (ep := ep) lo) (I.ok.hd hcalm) hat h16 fun h' tk acc hk hacc => ?_)
  have hal : acc.toList.length = vs.length := by rw [Array.length_toList, hacc.1]
  have hV := keys_at (vs := vs) hal fun j v e => hacc.2 j v (by rw [← Array.getElem?_toList]; exact e)
  have eV : (vs.map fun p => kV p.1) = ks.map V.int := by
    have e2 : (vs.map fun p => kV p.1) = (vs.map (·.1)).map kV := by rw [List.map_map]; rfl
    rw [e2, hkeys, List.map_map]
    rfl
  rw [eV] at hV
  have hI := hV.ints
  have I1 : Inv X pins σ H { s with heap := h', toks := tk } := I.kept hk
  refine wpAny_bind (wpAny_newList ?_ (by rw [hal]; exact h16))
  have hoL : (h'.push (seqObj "list" acc.toList.toArray 0)).get? h'.objs.size = some (seqObj "list" acc.toList.toArray 0) := Heap.get?_push_size _ rfl
  show wpAny _ _ _ _ _ { s with heap := h'.push (seqObj "list" acc.toList.toArray 0), toks := tk }
  refine wpAny_bind (wpAny_holding (wpAny_call_entry PyProof.Rows.slot_list_sort ⟨_, hoL, rfl⟩ PyProof.Rows.entry_list_sort
    (SrtO.list_sort_ord (s := { s with heap := h'.push (seqObj "list" acc.toList.toArray 0), toks := tk }) SrtO.swo_int hoL (by rw [hal]; exact h16) (fun h2 => SrtO.ints_sortable hI h2) fun out h1 h2 => ⟨_, rfl, ?_⟩)
    (PyProof.Rows.args_list_sort _)))
  obtain ⟨k1, k2, k3⟩ := SrtO.ints_out hI h1 h2
  obtain ⟨e', he'⟩ := PyProof.Rows.sortedHeap_at (vs := acc.toList) (out := out.toArray) hoL
  have hlen : ((out.map SrtO.iv).map V.int).length ≤ sizeLine := by
    rw [List.length_map, k2.length_eq, ← hl]
    exact h16
  refine wpAny_pure ⟨_, rfl, .ref h'.objs.size, upd H h'.objs.size (.lst ((out.map SrtO.iv).map V.int)), I1.laid (t' := tk) (fun b u e => ?_) (Nat.le_refl _)
    (show ObjOk X.prog X.w _ _ _ (.lst ((out.map SrtO.iv).map V.int)) from ⟨hlen, out, e', vals_of_ints k1, he'⟩), rfl, q _ _ k2 k3 (I1.hok.fresh (Nat.le_refl _))⟩
  have hb : b < h'.objs.size := Heap.lt_size e
  rw [PyProof.Rows.sortedHeap_old (Nat.ne_of_lt hb) (by rw [size_push']; exact Nat.lt_succ_of_lt hb)]
  exact Heap.get?_push_of_some _ e
theorem c_sortDI {a : Addr} {kvs : List (Key × V)} {ks : List Int} {H : Hp} {Q : VK} (h : Rd H a (.dK kvs)) (e : kvs.map (·.1) = ks.map Sum.inl) (hz : ks.length < 100000) (q : ∀ (ys : List Int) (p : Addr), ys.Perm ks → ys.Pairwise (· ≤ ·) → H p = none → Q (.ref p) (upd H p (.lst (ys.map V.int)))) : rSortDI [V.ref a] H Q := ⟨a, kvs, ks, rfl, h, e, hz, q⟩
end DTx

/-! Gt: what a dict of steps gives for each sort. -/
namespace Sm
open PySem L2
def gt (qs : DI) (k : List Int) : Int := (getI qs k).getD 0
theorem getI_cons (p : List Int × Int) (r : DI) (k : List Int) : getI (p :: r) k = if p.1 = k then some p.2 else getI r k := by
  unfold getI
  rw [List.find?_cons]
  by_cases e : p.1 = k
  · rw [if_pos e, decide_eq_true e]
    rfl
  · rw [if_neg e, decide_eq_false e]
theorem getI_append (a b : DI) (k : List Int) : getI (a ++ b) k = (getI a k).or (getI b k) := by
  induction a with
  | nil => rfl
  | cons p r ih =>
    rw [List.cons_append, getI_cons, getI_cons]
    split
    · rfl
    · exact ih
theorem getI_iff {ps : DI} {k : List Int} : (getI ps k).isSome = true ↔ k ∈ ps.map (·.1) := by
  constructor
  · intro h
    obtain ⟨v, hv⟩ := Option.isSome_iff_exists.mp h
    exact List.mem_map.mpr ⟨_, mem_getI hv, rfl⟩
  · intro h
    induction ps with
    | nil => cases h
    | cons p r ih =>
      rw [getI_cons]
      split
      · rfl
      · next e =>
        rcases List.mem_cons.mp h with h | h
        · exact absurd h.symm e
        · exact ih h
theorem getI_none_iff {ps : DI} {k : List Int} : getI ps k = none ↔ k ∉ ps.map (·.1) := by
  rw [← getI_iff]
  cases getI ps k <;> simp
theorem getI_map (F : List Int → Int) (ks : List (List Int)) (k : List Int) : getI (ks.map fun k => (k, F k)) k = if k ∈ ks then some (F k) else none := by
  induction ks with
  | nil => rfl
  | cons a r ih =>
    rw [List.map_cons, getI_cons, ih]
    by_cases e : a = k
    · subst e
      simp
    · have : k ≠ a := fun z => e z.symm
      simp [e, this]
theorem getI_putI {ps : DI} {k k' : List Int} {v : Int} : getI (putI ps k v) k' = if k' = k then some v else getI ps k' := by
  unfold putI
  split
  · next h =>
    obtain ⟨p, hp, e⟩ := List.any_eq_true.mp h
    have e' : p.1 = k := of_decide_eq_true e
    clear h
    have mem : k ∈ ps.map (·.1) := List.mem_map.mpr ⟨p, hp, e'⟩
    clear hp e e' p
    induction ps with
    | nil => cases mem
    | cons q r ih =>
      rw [List.map_cons, getI_cons, getI_cons]
      by_cases e : q.1 = k
      · rw [if_pos e]
        by_cases e2 : k' = k
        · subst e2
          simp [e]
        · have n1 : ¬ q.1 = k' := fun z => e2 (z.symm.trans e)
          simp only [n1, e2, if_false]
          by_cases m : k ∈ r.map (·.1)
          · rw [ih m, if_neg e2]
          · rw [show (r.map fun p => if p.1 = k then (p.1, v) else p) = r from ?_]
            refine (List.map_congr_left fun x hx => ?_).trans (List.map_id r)
            rw [if_neg fun z => m (List.mem_map.mpr ⟨x, hx, z⟩)]
            rfl
      · rw [if_neg e]
        have m : k ∈ r.map (·.1) := by
          rcases List.mem_cons.mp mem with h | h
          · exact absurd h.symm e
          · exact h
        by_cases e3 : q.1 = k'
        · have : ¬ k' = k := fun z => e (e3.trans z)
          rw [if_pos e3, if_neg this, if_pos e3]
        · rw [if_neg e3, ih m, if_neg e3]
  · next h =>
    have mem : k ∉ ps.map (·.1) := fun m => h (by
      obtain ⟨p, hp, e⟩ := List.mem_map.mp m
      exact List.any_eq_true.mpr ⟨p, hp, decide_eq_true e⟩)
    rw [getI_append, getI_cons]
    by_cases e2 : k' = k
    · subst e2
      rw [getI_none mem]
      simp
    · have : ¬ k = k' := fun z => e2 z.symm
      rw [if_neg e2]
      simp only [this, if_false]
      show (getI ps k').or none = _
      cases getI ps k' <;> rfl
theorem keys_putI {ps : DI} {k : List Int} {v : Int} : (putI ps k v).map (·.1) = if k ∈ ps.map (·.1) then ps.map (·.1) else ps.map (·.1) ++ [k] := by
  have e : (ps.any fun p => decide (p.1 = k)) = true ↔ k ∈ ps.map (·.1) := by
    rw [List.any_eq_true, List.mem_map]
    exact ⟨fun ⟨p, h, e⟩ => ⟨p, h, of_decide_eq_true e⟩, fun ⟨p, h, e⟩ => ⟨p, h, decide_eq_true e⟩⟩
  unfold putI
  by_cases h : k ∈ ps.map (·.1)
  · rw [if_pos (e.mpr h), if_pos h, List.map_map]
    refine List.map_congr_left fun p _ => ?_
    show (if p.1 = k then (p.1, v) else p).1 = p.1
    split <;> rfl
  · rw [if_neg (fun z => h (e.mp z)), if_neg h, List.map_append]
    rfl
theorem nd_putI {ps : DI} {k : List Int} {v : Int} (h : (ps.map (·.1)).Nodup) : ((putI ps k v).map (·.1)).Nodup := by
  rw [keys_putI]
  split
  · exact h
  · next n =>
    rw [List.nodup_append]
    exact ⟨h, by simp, fun a ha b hb e => n (by rw [List.mem_singleton.mp hb] at e; exact e ▸ ha)⟩
theorem gt_mem {ps : DI} (nd : (ps.map (·.1)).Nodup) {p : List Int × Int} (hp : p ∈ ps) : gt ps p.1 = p.2 := by
  unfold gt
  rw [getI_mem nd hp]
  rfl
theorem gt_none {ps : DI} {k : List Int} (h : k ∉ ps.map (·.1)) : gt ps k = 0 := by
  unfold gt
  rw [getI_none h]
  rfl
theorem getI_nz {ps : DI} (nd : (ps.map (·.1)).Nodup) (k : List Int) : getI (nz ps) k = if gt ps k = 0 then none else some (gt ps k) := by
  induction ps with
  | nil => rfl
  | cons p r ih =>
    have nd' : (p.1 :: r.map (·.1)).Nodup := nd
    obtain ⟨h1, h2⟩ := List.nodup_cons.mp nd'
    have ih := ih h2
    have gc : gt (p :: r) k = if p.1 = k then p.2 else gt r k := by
      unfold gt
      rw [getI_cons]
      split <;> rfl
    rw [gc]
    unfold nz at ih ⊢
    rw [List.filter_cons]
    by_cases z : p.2 = 0
    · rw [if_neg (by simp [z]), ih]
      by_cases e : p.1 = k
      · subst e
        rw [gt_none h1, if_pos rfl, if_pos rfl, z, if_pos rfl]
      · rw [if_neg e]
    · rw [if_pos (by simp [z]), getI_cons, ih]
      by_cases e : p.1 = k
      · rw [if_pos e, if_pos e, if_neg z]
      · rw [if_neg e, if_neg e]
theorem gt_nz {ps : DI} (nd : (ps.map (·.1)).Nodup) (k : List Int) : gt (nz ps) k = gt ps k := by
  show (getI (nz ps) k).getD 0 = _
  rw [getI_nz nd]
  split
  · next h => exact h.symm
  · rfl
theorem nodup_len {α : Type} [BEq α] [LawfulBEq α] : ∀ (l D : List α), l.Nodup → (∀ x ∈ l, x ∈ D) → l.length ≤ D.length
  | [], _, _, _ => Nat.zero_le _
  | x :: l, D, hn, hs => by
    obtain ⟨h1, h2⟩ := List.nodup_cons.mp hn
    have hx : x ∈ D := hs x List.mem_cons_self
    have ih := nodup_len l (D.erase x) h2 fun y hy => by
      have hne : y ≠ x := fun e => h1 (e ▸ hy)
      exact (List.mem_erase_of_ne hne).2 (hs y (List.mem_cons_of_mem _ hy))
    have e := List.length_erase_of_mem hx
    have hp : 0 < D.length := List.length_pos_of_mem hx
    rw [List.length_cons]
    omega
def all27 : List (List Int) := (List.range 27).map fun (i : Nat) => [(i : Int) / 9, (i : Int) / 3 % 3, (i : Int) % 3]
theorem mem27 {k : List Int} (h : Sort3 k) : k ∈ all27 := by
  obtain ⟨hl, hb⟩ := h
  match k, hl with
  | [a, b, c], _ =>
    have ha := hb a (by simp)
    have hb' := hb b (by simp)
    have hc := hb c (by simp)
    refine List.mem_map.mpr ⟨(a * 9 + b * 3 + c).toNat, List.mem_range.mpr (by omega), ?_⟩
    have e : (((a * 9 + b * 3 + c).toNat : Nat) : Int) = a * 9 + b * 3 + c := by omega
    rw [e]
    have e1 : (a * 9 + b * 3 + c) / 9 = a := by omega
    have e2 : (a * 9 + b * 3 + c) / 3 % 3 = b := by omega
    have e3 : (a * 9 + b * 3 + c) % 3 = c := by omega
    rw [e1, e2, e3]
/-- steps as dicts have them: each sort once -/
structure Keys3 (ps : DI) : Prop where
  nd : (ps.map (·.1)).Nodup
  s3 : ∀ p ∈ ps, Sort3 p.1
theorem Keys3.sz {ps : DI} (h : Keys3 ps) : ps.length ≤ 27 := by
  have := nodup_len (ps.map (·.1)) all27 h.nd fun k hk => by
    obtain ⟨p, hp, rfl⟩ := List.mem_map.mp hk
    exact mem27 (h.s3 p hp)
  rw [List.length_map] at this
  exact this
theorem Keys3.nil : Keys3 [] := ⟨List.nodup_nil, fun _ h => nomatch h⟩
theorem Keys3.nz {ps : DI} (h : Keys3 ps) : Keys3 (nz ps) := ⟨nd_nz h.nd, fun p hp => h.s3 p (nz_sub hp)⟩
theorem Keys3.put {ps : DI} (h : Keys3 ps) {k : List Int} (hk : Sort3 k) (v : Int) : Keys3 (putI ps k v) := ⟨nd_putI h.nd, fun p hp => by
  have : p.1 ∈ (putI ps k v).map (·.1) := List.mem_map.mpr ⟨p, hp, rfl⟩
  rw [keys_putI] at this
  have h2 : p.1 ∈ ps.map (·.1) ∨ p.1 = k := by
    split at this
    · exact .inl this
    · rcases List.mem_append.mp this with h | h
      · exact .inl h
      · exact .inr (List.mem_singleton.mp h)
  rcases h2 with h2 | h2
  · obtain ⟨q, hq, e⟩ := List.mem_map.mp h2
    rw [← e]
    exact h.s3 q hq
  · rw [h2]
    exact hk⟩
/-- the steps of a form -/
structure Good (qs : DI) : Prop extends Keys3 qs where
  nz : ∀ p ∈ qs, p.2 ≠ 0
theorem Keys3.good {ps : DI} (h : Keys3 ps) : Good (Sm.nz ps) := ⟨h.nz, fun p hp => by
  have := (List.mem_filter.mp hp).2
  exact of_decide_eq_true this⟩
theorem Good.mem {qs : DI} (h : Good qs) (k : List Int) : k ∈ qs.map (·.1) ↔ gt qs k ≠ 0 := by
  constructor
  · intro hk
    obtain ⟨p, hp, rfl⟩ := List.mem_map.mp hk
    rw [gt_mem h.nd hp]
    exact h.nz p hp
  · intro hk
    rcases Classical.em (k ∈ qs.map (·.1)) with c | c
    · exact c
    · exact absurd (gt_none c) hk
theorem perm_of {α : Type} [BEq α] [LawfulBEq α] : ∀ {l m : List α}, l.Nodup → m.Nodup → (∀ x, x ∈ l ↔ x ∈ m) → l.Perm m
  | [], m, _, _, h => by
    cases m with
    | nil => exact List.Perm.refl _
    | cons y r => exact absurd ((h y).mpr List.mem_cons_self) (fun z => nomatch z)
  | x :: l, m, h1, h2, h => by
    obtain ⟨a1, a2⟩ := List.nodup_cons.mp h1
    have hx : x ∈ m := (h x).mp List.mem_cons_self
    have ih := perm_of (l := l) (m := m.erase x) a2 (h2.erase x) fun y => by
      rw [h2.mem_erase_iff, ← h y, List.mem_cons]
      constructor
      · intro hy
        exact ⟨fun e => a1 (e ▸ hy), .inr hy⟩
      · rintro ⟨n, e | e⟩
        · exact absurd e n
        · exact e
    exact (ih.cons x).trans (List.perm_cons_erase hx).symm
theorem good_perm {qs rs : DI} (h : Good qs) (h' : Good rs) (e : ∀ k, gt qs k = gt rs k) : (qs.map (·.1)).Perm (rs.map (·.1)) :=
  perm_of h.nd h'.nd fun k => by rw [h.mem, h'.mem, e k]
theorem good_same {qs rs : DI} (h : Good qs) (h' : Good rs) (e : ∀ k, gt qs k = gt rs k) : DTx.sameD (enc qs) (enc rs) = true := by
  have pm := (good_perm h h' e).length_eq
  rw [List.length_map, List.length_map] at pm
  unfold DTx.sameD
  rw [Bool.and_eq_true]
  refine ⟨?_, ?_⟩
  · unfold enc
    rw [List.length_map, List.length_map, pm]
    exact beq_self_eq_true _
  · rw [List.all_eq_true]
    intro x hx
    obtain ⟨p, hp, rfl⟩ := List.mem_map.mp hx
    show decide (valV (enc rs) (ek p.1) = some (V.int p.2)) = true
    have g1 := gt_mem h.nd hp
    have g2 := h.nz p hp
    rw [val_enc]
    rw [e] at g1
    unfold gt at g1
    cases hg : getI rs p.1 with
    | none =>
      rw [hg] at g1
      exact absurd g1.symm g2
    | some v =>
      rw [hg] at g1
      have : v = p.2 := g1
      simp [this]
theorem sorted_one : ∀ {l m : List (List Int)}, l.Perm m → (∀ k ∈ l, Sort3 k) → l.Pairwise (fun a b => TS.code 3 a ≤ TS.code 3 b) → m.Pairwise (fun a b => TS.code 3 a ≤ TS.code 3 b) → l = m
  | [], m, h, _, _, _ => by rw [List.nil_perm.mp h]
  | x :: l, [], h, _, _, _ => absurd h.length_eq (by simp)
  | x :: l, y :: m, h, s, p1, p2 => by
    obtain ⟨a1, a2⟩ := List.pairwise_cons.mp p1
    obtain ⟨b1, b2⟩ := List.pairwise_cons.mp p2
    have hx : x ∈ y :: m := h.mem_iff.mp List.mem_cons_self
    have hy : y ∈ x :: l := h.mem_iff.mpr List.mem_cons_self
    have c1 : TS.code 3 x ≤ TS.code 3 y := by
      rcases List.mem_cons.mp hy with e | e
      · rw [e]; exact Int.le_refl _
      · exact a1 y e
    have c2 : TS.code 3 y ≤ TS.code 3 x := by
      rcases List.mem_cons.mp hx with e | e
      · rw [e]; exact Int.le_refl _
      · exact b1 x e
    have sx := s x List.mem_cons_self
    have sy := s y hy
    have e : x = y := code_inj (B := 3) (by decide) (sx.1.trans sy.1.symm) sx.2 sy.2 (Int.le_antisymm c1 c2)
    subst e
    rw [sorted_one ((List.perm_cons x).mp h) (fun k hk => s k (List.mem_cons_of_mem _ hk)) a2 b2]
/-- the sum of a form at counts -/
def atC (qs cs : DI) : Int := (cs.map fun y => gt qs y.1 * y.2).sum
theorem atC_lin {qs q1 q2 : DI} {f g : Int} (h : ∀ k, gt qs k = f * gt q1 k + g * gt q2 k) (cs : DI) : atC qs cs = f * atC q1 cs + g * atC q2 cs := by
  induction cs with
  | nil => simp [atC]
  | cons y r ih =>
    unfold atC at ih ⊢
    rw [List.map_cons, List.map_cons, List.map_cons, List.sum_cons, List.sum_cons, List.sum_cons, ih, h, Int.add_mul, Int.mul_add, Int.mul_add, Int.mul_assoc, Int.mul_assoc]
    omega
end Sm

/-! Bf: breadth first over sums: what is reached by n steps, with and without a limit. -/
namespace Bf
/-- x is reached from a by n steps out of S -/
inductive Rch (S : List Int) (a : Int) : Nat → Int → Prop
  | zero : Rch S a 0 a
  | succ {n : Nat} {x s : Int} : Rch S a n x → s ∈ S → Rch S a (n + 1) (x + s)
/-- the same, no number behind a beyond the limit -/
inductive RchB (S : List Int) (L : Int) (a : Int) : Nat → Int → Prop
  | zero : RchB S L a 0 a
  | succ {n : Nat} {x s : Int} : RchB S L a n x → s ∈ S → -L ≤ x + s → x + s ≤ L → RchB S L a (n + 1) (x + s)
/-- x is reached by i steps and by no fewer -/
def Dst (S : List Int) (L a : Int) (i : Nat) (x : Int) : Prop := RchB S L a i x ∧ ∀ j, j < i → ¬ RchB S L a j x
section
variable {S S' : List Int} {L L' a : Int} {i j n : Nat} {x y : Int}
theorem RchB.un (h : RchB S L a n x) : Rch S a n x := by
  induction h with
  | zero => exact .zero
  | succ _ hs _ _ ih => exact .succ ih hs
theorem RchB.lim (h : RchB S L a n x) (ha : -L ≤ a ∧ a ≤ L) : -L ≤ x ∧ x ≤ L := by
  cases h with
  | zero => exact ha
  | succ _ _ h1 h2 => exact ⟨h1, h2⟩
theorem Rch.sub (h : Rch S a n x) (hs : ∀ s ∈ S, s ∈ S') : Rch S' a n x := by
  induction h with
  | zero => exact .zero
  | succ _ h ih => exact .succ ih (hs _ h)
theorem RchB.sub (h : RchB S L a n x) (hs : ∀ s ∈ S, s ∈ S') : RchB S' L a n x := by
  induction h with
  | zero => exact .zero
  | succ _ h h1 h2 ih => exact .succ ih (hs _ h) h1 h2
/-- steps of 0 may be left out -/
theorem Rch.drop (h : Rch S a n x) (hs : ∀ s ∈ S, s ≠ 0 → s ∈ S') : ∃ m, m ≤ n ∧ Rch S' a m x := by
  induction h with
  | zero => exact ⟨0, Nat.le_refl _, .zero⟩
  | @succ n x s _ h ih =>
    obtain ⟨m, hm, r⟩ := ih
    by_cases e : s = 0
    · exact ⟨m, by omega, by rw [e, Int.add_zero]; exact r⟩
    · exact ⟨m + 1, by omega, .succ r (hs s h e)⟩
theorem Rch.list (h : Rch S a n x) : ∃ l : List Int, l.length = n ∧ (∀ s ∈ l, s ∈ S) ∧ a + l.sum = x := by
  induction h with
  | zero => exact ⟨[], rfl, (fun _ h => nomatch h), by simp⟩
  | @succ n x s _ hs ih =>
    obtain ⟨l, h1, h2, h3⟩ := ih
    refine ⟨s :: l, by simp [h1], fun t ht => ?_, by rw [List.sum_cons]; omega⟩
    rcases List.mem_cons.mp ht with e | ht
    · rw [e]; exact hs
    · exact h2 t ht
theorem Rch.front {s : Int} (h : Rch S (a + s) n x) (hs : s ∈ S) : Rch S a (n + 1) x := by
  induction h with
  | zero => exact .succ .zero hs
  | succ _ h ih => exact .succ ih h
theorem RchB.front {s : Int} (h : RchB S L (a + s) n x) (hs : s ∈ S) (h1 : -L ≤ a + s) (h2 : a + s ≤ L) : RchB S L a (n + 1) x := by
  induction h with
  | zero => exact .succ .zero hs h1 h2
  | succ _ h h3 h4 ih => exact .succ ih h h3 h4
theorem rch_of_list : ∀ (l : List Int) (a : Int), (∀ s ∈ l, s ∈ S) → Rch S a l.length (a + l.sum)
  | [], a, _ => by
    rw [List.sum_nil, Int.add_zero]
    exact .zero
  | s :: l, a, h => by
    have := rch_of_list l (a + s) fun t ht => h t (List.mem_cons_of_mem _ ht)
    rw [List.sum_cons, ← Int.add_assoc]
    exact this.front (h s List.mem_cons_self)
theorem sum_erase {s : Int} : ∀ {l : List Int}, s ∈ l → (l.erase s).sum + s = l.sum
  | x :: l, h => by
    by_cases e : x = s
    · subst e
      rw [List.erase_cons_head, List.sum_cons]
      omega
    · rcases List.mem_cons.mp h with h | h
      · exact absurd h.symm e
      · rw [List.erase_cons_tail (by simpa using e), List.sum_cons, List.sum_cons]
        have := sum_erase h
        omega
theorem neg_of_sum : ∀ {l : List Int}, l.sum < 0 → ∃ s ∈ l, s < 0
  | [], h => by simp at h
  | x :: l, h => by
    by_cases e : x < 0
    · exact ⟨x, List.mem_cons_self, e⟩
    · rw [List.sum_cons] at h
      obtain ⟨s, hs, h0⟩ := neg_of_sum (l := l) (by omega)
      exact ⟨s, List.mem_cons_of_mem _ hs, h0⟩
theorem pos_of_sum : ∀ {l : List Int}, 0 < l.sum → ∃ s ∈ l, 0 < s
  | [], h => by simp at h
  | x :: l, h => by
    by_cases e : 0 < x
    · exact ⟨x, List.mem_cons_self, e⟩
    · rw [List.sum_cons] at h
      obtain ⟨s, hs, h0⟩ := pos_of_sum (l := l) (by omega)
      exact ⟨s, List.mem_cons_of_mem _ hs, h0⟩
/-- steps with the sum -a can be taken in an order that stays within the limit -/
theorem order (hS : ∀ s ∈ S, -L ≤ s ∧ s ≤ L) : ∀ (n : Nat) (l : List Int) (a : Int), l.length = n → (∀ s ∈ l, s ∈ S) → a + l.sum = 0 → -L ≤ a → a ≤ L → ∃ m, m ≤ n ∧ RchB S L a m 0
  | 0, l, a, hl, hm, h0, h1, h2 => by
    have : l = [] := List.length_eq_zero_iff.mp hl
    subst this
    have : a = 0 := by simpa using h0
    subst this
    exact ⟨0, Nat.le_refl _, .zero⟩
  | n + 1, l, a, hl, hm, h0, h1, h2 => by
    have go : ∀ s ∈ l, -L ≤ a + s → a + s ≤ L → ∃ m, m ≤ n + 1 ∧ RchB S L a m 0 := fun s hs g1 g2 => by
      have e := sum_erase hs
      obtain ⟨m, hmn, r⟩ := order hS n (l.erase s) (a + s) (by rw [List.length_erase_of_mem hs, hl]; rfl) (fun t ht => hm t (List.mem_of_mem_erase ht)) (by omega) g1 g2
      exact ⟨m + 1, by omega, r.front (hm s hs) g1 g2⟩
    by_cases c0 : a = 0
    · subst c0
      exact ⟨0, Nat.zero_le _, .zero⟩
    by_cases c : 0 < a
    · obtain ⟨s, hs, hn⟩ := neg_of_sum (l := l) (by omega)
      have := hS s (hm s hs)
      exact go s hs (by omega) (by omega)
    · obtain ⟨s, hs, hn⟩ := pos_of_sum (l := l) (by omega)
      have := hS s (hm s hs)
      exact go s hs (by omega) (by omega)
theorem Rch.within (h : Rch S a n 0) (hS : ∀ s ∈ S, -L ≤ s ∧ s ≤ L) (ha : -L ≤ a ∧ a ≤ L) : ∃ m, m ≤ n ∧ RchB S L a m 0 := by
  obtain ⟨l, h1, h2, h3⟩ := h.list
  exact order hS n l a h1 h2 h3 ha.1 ha.2
theorem Dst.one (h : Dst S L a i x) (h' : Dst S L a j x) : i = j := by
  rcases Nat.lt_trichotomy i j with c | c | c
  · exact absurd h.1 (h'.2 i c)
  · exact c
  · exact absurd h'.1 (h.2 j c)
theorem RchB.dst : ∀ {n : Nat} {x : Int}, RchB S L a n x → ∃ j, j ≤ n ∧ Dst S L a j x := by
  intro n
  induction n using Nat.strongRecOn with
  | _ n ih =>
    intro x h
    rcases Classical.em (∃ j, j < n ∧ RchB S L a j x) with ⟨j, hj, r⟩ | c
    · obtain ⟨k, hk, d⟩ := ih j hj r
      exact ⟨k, by omega, d⟩
    · exact ⟨n, Nat.le_refl _, h, fun j hj r => c ⟨j, hj, r⟩⟩
theorem dst0 (h : Dst S L a i a) : i = 0 := by
  cases i with
  | zero => rfl
  | succ i => exact absurd RchB.zero (h.2 0 (Nat.succ_pos _))
/-- what is known behind i turns: C what came, R the ring -/
structure Lev (S : List Int) (L a : Int) (i : Nat) (C R : List Int) : Prop where
  came : ∀ x, x ∈ C ↔ ∃ j, j ≤ i ∧ RchB S L a j x
  ring : ∀ x, x ∈ R ↔ Dst S L a i x
  nd : C.Nodup
theorem Lev.start : Lev S L a 0 [a] [a] := by
  refine ⟨fun x => ?_, fun x => ?_, by simp⟩
  · rw [List.mem_singleton]
    constructor
    · rintro rfl
      exact ⟨0, Nat.le_refl _, .zero⟩
    · rintro ⟨j, hj, h⟩
      have : j = 0 := by omega
      subst this
      cases h
      rfl
  · rw [List.mem_singleton]
    constructor
    · rintro rfl
      exact ⟨.zero, fun j hj => absurd hj (Nat.not_lt_zero _)⟩
    · rintro ⟨h, _⟩
      cases h
      rfl
/-- what is found in a turn -/
structure Found (S : List Int) (L : Int) (C R F : List Int) : Prop where
  mem : ∀ x, x ∈ F ↔ (x ∉ C ∧ -L ≤ x ∧ x ≤ L ∧ ∃ n ∈ R, ∃ s ∈ S, x = n + s)
  nd : F.Nodup
theorem Lev.next {C R F : List Int} (h : Lev S L a i C R) (f : Found S L C R F) : Lev S L a (i + 1) (C ++ F) F := by
  have key : ∀ x, x ∈ F ↔ Dst S L a (i + 1) x := fun x => by
    rw [f.mem]
    constructor
    · rintro ⟨hc, h1, h2, n, hn, s, hs, rfl⟩
      refine ⟨.succ ((h.ring n).mp hn).1 hs h1 h2, fun j hj r => hc ((h.came _).mpr ⟨j, by omega, r⟩)⟩
    · rintro ⟨r, hmin⟩
      cases r with
      | @succ _ n s r hs h1 h2 =>
        refine ⟨fun hc => ?_, h1, h2, n, (h.ring n).mpr ⟨r, fun j hj r' => ?_⟩, s, hs, rfl⟩
        · obtain ⟨j, hj, r'⟩ := (h.came _).mp hc
          exact hmin j (by omega) r'
        · exact hmin (j + 1) (by omega) (.succ r' hs h1 h2)
  refine ⟨fun x => ?_, key, ?_⟩
  · rw [List.mem_append]
    constructor
    · rintro (hx | hx)
      · obtain ⟨j, hj, r⟩ := (h.came x).mp hx
        exact ⟨j, by omega, r⟩
      · exact ⟨i + 1, Nat.le_refl _, ((key x).mp hx).1⟩
    · rintro ⟨j, hj, r⟩
      obtain ⟨k, hk, d⟩ := r.dst
      by_cases e : k = i + 1
      · exact .inr ((key x).mpr (e ▸ d))
      · exact .inl ((h.came x).mpr ⟨k, by omega, d.1⟩)
  · rw [List.nodup_append]
    refine ⟨h.nd, f.nd, fun x hx y hy e => ?_⟩
    exact ((f.mem y).mp hy).1 (e ▸ hx)
/-- the ring is empty: everything came -/
theorem Lev.all {C : List Int} (h : Lev S L a i C []) : ∀ n x, RchB S L a n x → x ∈ C := by
  intro n x r
  induction r with
  | zero => exact (h.came a).mpr ⟨0, Nat.zero_le _, .zero⟩
  | @succ n x s _ hs h1 h2 ih =>
    obtain ⟨j, hj, r⟩ := (h.came x).mp ih
    obtain ⟨k, hk, d⟩ := r.dst
    have : k ≠ i := fun e => by
      have := (h.ring x).mpr (e ▸ d)
      cases this
    exact (h.came _).mpr ⟨k + 1, by omega, .succ d.1 hs h1 h2⟩
theorem Lev.lim {C R : List Int} (h : Lev S L a i C R) (ha : -L ≤ a ∧ a ≤ L) {x : Int} (hx : x ∈ C) : -L ≤ x ∧ x ≤ L := by
  obtain ⟨j, _, r⟩ := (h.came x).mp hx
  exact r.lim ha
theorem Lev.sub {C R : List Int} (h : Lev S L a i C R) : ∀ x ∈ R, x ∈ C := fun x hx => (h.came x).mpr ⟨i, Nat.le_refl _, ((h.ring x).mp hx).1⟩
/-- a list of different numbers within the limit is no longer than the limit allows -/
theorem few {C : List Int} (nd : C.Nodup) (h : ∀ x ∈ C, -L ≤ x ∧ x ≤ L) (hL : 0 ≤ L) : (C.length : Int) ≤ 2 * L + 1 := by
  have key : ∀ (D : List Int) (k : Nat), D.Nodup → (∀ x ∈ D, 0 ≤ x ∧ x < (k : Int)) → D.length ≤ k := by
    intro D k
    induction k generalizing D with
    | zero =>
      intro _ hb
      cases D with
      | nil => exact Nat.le_refl _
      | cons x D =>
        have := hb x List.mem_cons_self
        omega
    | succ k ih =>
      intro hn hb
      have := ih (D.erase (k : Int)) (hn.erase _) fun x hx => by
        have h1 := hb x (List.mem_of_mem_erase hx)
        have h2 := (hn.mem_erase_iff.mp hx).1
        omega
      have l := List.length_erase (a := (k : Int)) (l := D)
      split at l <;> omega
  have := key (C.map fun x => x + L) (2 * L + 1).toNat (by
    refine List.pairwise_map.mpr (nd.imp ?_)
    intro x y hxy e
    omega) (fun x hx => by
      obtain ⟨y, hy, rfl⟩ := List.mem_map.mp hx
      have := h y hy
      omega)
  rw [List.length_map] at this
  omega
/-- a number that is reached by i steps and no fewer has i others before it -/
theorem dst_len : ∀ {i : Nat} {x : Int}, Dst S L a i x → ∃ l : List Int, l.length = i + 1 ∧ l.Nodup ∧ ∀ y ∈ l, ∃ j, j ≤ i ∧ Dst S L a j y
  | 0, x, d => ⟨[x], rfl, by simp, fun y hy => ⟨0, Nat.le_refl _, by rw [List.mem_singleton.mp hy]; exact d⟩⟩
  | i + 1, x, d => by
    have p : ∃ y, Dst S L a i y := by
      obtain ⟨r, hm⟩ := d
      cases r with
      | @succ _ n s r hs h1 h2 => exact ⟨n, r, fun j hj r' => hm (j + 1) (by omega) (.succ r' hs h1 h2)⟩
    obtain ⟨y, hy⟩ := p
    obtain ⟨l, h1, h2, h3⟩ := dst_len hy
    refine ⟨x :: l, by rw [List.length_cons, h1], List.nodup_cons.mpr ⟨fun hx => ?_, h2⟩, fun z hz => ?_⟩
    · obtain ⟨j, hj, dj⟩ := h3 x hx
      have := d.one dj
      omega
    · rcases List.mem_cons.mp hz with e | hz
      · exact ⟨i + 1, Nat.le_refl _, e ▸ d⟩
      · obtain ⟨j, hj, dj⟩ := h3 z hz
        exact ⟨j, by omega, dj⟩
theorem Dst.le2 (d : Dst S L a i x) (ha : -L ≤ a ∧ a ≤ L) : (i : Int) ≤ 2 * L := by
  obtain ⟨l, h1, h2, h3⟩ := dst_len d
  have := Bf.few (L := L) h2 (fun y hy => by
    obtain ⟨j, _, dj⟩ := h3 y hy
    exact dj.1.lim ha) (by omega)
  omega
/-- the least number of steps that lead to 0 -/
def Least (S : List Int) (a : Int) : Option Nat → Prop
  | none => ∀ n, ¬ Rch S a n 0
  | some m => Rch S a m 0 ∧ ∀ n, Rch S a n 0 → m ≤ n
theorem Least.one {o o' : Option Nat} (h : Least S a o) (h' : Least S a o') : o = o' := by
  cases o with
  | none => cases o' with
    | none => rfl
    | some m => exact absurd h'.1 (h m)
  | some m => cases o' with
    | none => exact absurd h.1 (h' m)
    | some k =>
      have h1 := h.2 k h'.1
      have h2 := h'.2 m h.1
      rw [show m = k by omega]
theorem least_some (hS : ∀ s ∈ S, -L ≤ s ∧ s ≤ L) (ha : -L ≤ a ∧ a ≤ L) (h : Dst S L a i 0) : Least S a (some i) := by
  refine ⟨h.1.un, fun n r => ?_⟩
  obtain ⟨m, hm, r⟩ := r.within hS ha
  rcases Nat.lt_or_ge m i with c | c
  · exact absurd r (h.2 m c)
  · omega
theorem least_none (hS : ∀ s ∈ S, -L ≤ s ∧ s ≤ L) (ha : -L ≤ a ∧ a ≤ L) {C : List Int} (h : Lev S L a i C []) (h0 : (0 : Int) ∉ C) : Least S a none := fun n r => by
  obtain ⟨m, _, r⟩ := r.within hS ha
  exact h0 (h.all m 0 r)
/-- the same steps but 0 -/
theorem Least.steps {o : Option Nat} (h : Least S a o) (e : ∀ s, s ≠ 0 → (s ∈ S ↔ s ∈ S')) : Least S' a o := by
  have f : ∀ n, Rch S' a n 0 → ∃ m, m ≤ n ∧ Rch S a m 0 := fun n r => r.drop fun s hs hn => (e s hn).mpr hs
  have g : ∀ n, Rch S a n 0 → ∃ m, m ≤ n ∧ Rch S' a m 0 := fun n r => r.drop fun s hs hn => (e s hn).mp hs
  cases o with
  | none =>
    intro n r
    obtain ⟨m, _, r⟩ := f n r
    exact h m r
  | some k =>
    obtain ⟨m, hm, r⟩ := g k h.1
    obtain ⟨m', hm', r'⟩ := f m r
    have := h.2 m' r'
    have e : m = k := by omega
    subst e
    refine ⟨r, fun n r => ?_⟩
    obtain ⟨m2, hm2, r2⟩ := f n r
    have := h.2 m2 r2
    omega
end
end Bf

/-! Bp: breadth first within any range. -/
namespace Bp
open Bf
inductive RchP (S : List Int) (P : Int → Prop) (a : Int) : Nat → Int → Prop
  | zero : RchP S P a 0 a
  | succ {n : Nat} {x s : Int} : RchP S P a n x → s ∈ S → P (x + s) → RchP S P a (n + 1) (x + s)
def DstP (S : List Int) (P : Int → Prop) (a : Int) (i : Nat) (x : Int) : Prop := RchP S P a i x ∧ ∀ j, j < i → ¬ RchP S P a j x
structure LevP (S : List Int) (P : Int → Prop) (a : Int) (i : Nat) (C R : List Int) : Prop where
  came : ∀ x, x ∈ C ↔ ∃ j, j ≤ i ∧ RchP S P a j x
  ring : ∀ x, x ∈ R ↔ DstP S P a i x
  nd : C.Nodup
structure FoundP (S : List Int) (P : Int → Prop) (C R F : List Int) : Prop where
  mem : ∀ x, x ∈ F ↔ (x ∉ C ∧ P x ∧ ∃ n ∈ R, ∃ s ∈ S, x = n + s)
  nd : F.Nodup
section
variable {S : List Int} {P : Int → Prop} {a : Int} {i n : Nat} {x : Int}
theorem RchP.un (h : RchP S P a n x) : Rch S a n x := by
  induction h with
  | zero => exact .zero
  | succ _ hs _ ih => exact .succ ih hs
theorem RchP.lim (h : RchP S P a n x) (ha : P a) : P x := by
  cases h with
  | zero => exact ha
  | succ _ _ h1 => exact h1
theorem RchP.dst : ∀ {n : Nat} {x : Int}, RchP S P a n x → ∃ j, j ≤ n ∧ DstP S P a j x := by
  intro n
  induction n using Nat.strongRecOn with
  | _ n ih =>
    intro x h
    rcases Classical.em (∃ j, j < n ∧ RchP S P a j x) with ⟨j, hj, r⟩ | c
    · obtain ⟨k, hk, d⟩ := ih j hj r
      exact ⟨k, by omega, d⟩
    · exact ⟨n, Nat.le_refl _, h, fun j hj r => c ⟨j, hj, r⟩⟩
theorem LevP.start : LevP S P a 0 [a] [a] := by
  refine ⟨fun x => ?_, fun x => ?_, by simp⟩
  · rw [List.mem_singleton]
    constructor
    · rintro rfl
      exact ⟨0, Nat.le_refl _, .zero⟩
    · rintro ⟨j, hj, h⟩
      have : j = 0 := by omega
      subst this
      cases h
      rfl
  · rw [List.mem_singleton]
    constructor
    · rintro rfl
      exact ⟨.zero, fun j hj => absurd hj (Nat.not_lt_zero _)⟩
    · rintro ⟨h, _⟩
      cases h
      rfl
theorem LevP.next {C R F : List Int} (h : LevP S P a i C R) (f : FoundP S P C R F) : LevP S P a (i + 1) (C ++ F) F := by
  have key : ∀ x, x ∈ F ↔ DstP S P a (i + 1) x := fun x => by
    rw [f.mem]
    constructor
    · rintro ⟨hc, h1, n, hn, s, hs, rfl⟩
      refine ⟨.succ ((h.ring n).mp hn).1 hs h1, fun j hj r => hc ((h.came _).mpr ⟨j, by omega, r⟩)⟩
    · rintro ⟨r, hmin⟩
      cases r with
      | @succ _ n s r hs h1 =>
        refine ⟨fun hc => ?_, h1, n, (h.ring n).mpr ⟨r, fun j hj r' => ?_⟩, s, hs, rfl⟩
        · obtain ⟨j, hj, r'⟩ := (h.came _).mp hc
          exact hmin j (by omega) r'
        · exact hmin (j + 1) (by omega) (.succ r' hs h1)
  refine ⟨fun x => ?_, key, ?_⟩
  · rw [List.mem_append]
    constructor
    · rintro (hx | hx)
      · obtain ⟨j, hj, r⟩ := (h.came x).mp hx
        exact ⟨j, by omega, r⟩
      · exact ⟨i + 1, Nat.le_refl _, ((key x).mp hx).1⟩
    · rintro ⟨j, hj, r⟩
      obtain ⟨k, hk, d⟩ := r.dst
      by_cases e : k = i + 1
      · exact .inr ((key x).mpr (e ▸ d))
      · exact .inl ((h.came x).mpr ⟨k, by omega, d.1⟩)
  · rw [List.nodup_append]
    refine ⟨h.nd, f.nd, fun x hx y hy e => ?_⟩
    exact ((f.mem y).mp hy).1 (e ▸ hx)
theorem LevP.all {C : List Int} (h : LevP S P a i C []) : ∀ n x, RchP S P a n x → x ∈ C := by
  intro n x r
  induction r with
  | zero => exact (h.came a).mpr ⟨0, Nat.zero_le _, .zero⟩
  | @succ n x s _ hs h1 ih =>
    obtain ⟨j, hj, r⟩ := (h.came x).mp ih
    obtain ⟨k, hk, d⟩ := r.dst
    have : k ≠ i := fun e => by
      have := (h.ring x).mpr (e ▸ d)
      cases this
    exact (h.came _).mpr ⟨k + 1, by omega, .succ d.1 hs h1⟩
theorem LevP.lim {C R : List Int} (h : LevP S P a i C R) (ha : P a) {x : Int} (hx : x ∈ C) : P x := by
  obtain ⟨j, _, r⟩ := (h.came x).mp hx
  exact r.lim ha
/-! the mirror of a turn -/
open Classical in
noncomputable def stepP (P : Int → Prop) (cf : List Int × List Int) (x : Int) : List Int × List Int := if P x ∧ x ∉ cf.1 then (cf.1 ++ [x], cf.2 ++ [x]) else cf
theorem fold_specP : ∀ (cs : List Int) (C F : List Int), ∃ G : List Int, cs.foldl (stepP P) (C, F) = (C ++ G, F ++ G) ∧ (∀ x, x ∈ G ↔ (x ∉ C ∧ P x ∧ x ∈ cs)) ∧ G.Nodup
  | [], C, F => ⟨[], by simp, by simp, by simp⟩
  | c :: cs, C, F => by
    rw [List.foldl_cons]
    by_cases e : P c ∧ c ∉ C
    · have s : stepP P (C, F) c = (C ++ [c], F ++ [c]) := if_pos e
      rw [s]
      obtain ⟨G, h1, h2, h3⟩ := fold_specP cs (C ++ [c]) (F ++ [c])
      refine ⟨c :: G, by rw [h1]; simp, fun x => ?_, List.nodup_cons.mpr ⟨fun z => ?_, h3⟩⟩
      · rw [List.mem_cons, h2, List.mem_cons, List.mem_append, List.mem_singleton]
        constructor
        · rintro (rfl | ⟨p, q, r⟩)
          · exact ⟨e.2, e.1, .inl rfl⟩
          · exact ⟨fun z => p (.inl z), q, .inr r⟩
        · rintro ⟨p, q, r⟩
          by_cases k : x = c
          · exact .inl k
          · rcases r with r | r
            · exact absurd r k
            · exact .inr ⟨fun z => z.elim p k, q, r⟩
      · have := ((h2 _).mp z).1
        rw [List.mem_append] at this
        exact this (.inr (by simp))
    · have s : stepP P (C, F) c = (C, F) := if_neg e
      rw [s]
      obtain ⟨G, h1, h2, h3⟩ := fold_specP cs C F
      refine ⟨G, h1, fun x => ?_, h3⟩
      rw [h2, List.mem_cons]
      constructor
      · rintro ⟨p, q, r⟩
        exact ⟨p, q, .inr r⟩
      · rintro ⟨p, q, r⟩
        rcases r with r | r
        · exact absurd ⟨r ▸ q, r ▸ p⟩ e
        · exact ⟨p, q, r⟩
theorem foundP (S R C : List Int) : ∃ G : List Int, (R.flatMap fun n => S.map fun s => n + s).foldl (stepP P) (C, []) = (C ++ G, G) ∧ FoundP S P C R G := by
  obtain ⟨G, h1, h2, h3⟩ := fold_specP (P := P) (R.flatMap fun n => S.map fun s => n + s) C []
  refine ⟨G, by rw [h1]; simp, ⟨fun x => ?_, h3⟩⟩
  rw [h2]
  refine and_congr Iff.rfl (and_congr Iff.rfl ?_)
  rw [List.mem_flatMap]
  constructor
  · rintro ⟨n, hn, hx⟩
    obtain ⟨s, hs, rfl⟩ := List.mem_map.mp hx
    exact ⟨n, hn, s, hs, rfl⟩
  · rintro ⟨n, hn, s, hs, rfl⟩
    exact ⟨n, hn, List.mem_map.mpr ⟨s, hs, rfl⟩⟩
theorem fewN : ∀ (D : List Int) (k : Nat), D.Nodup → (∀ x ∈ D, 0 ≤ x ∧ x < (k : Int)) → D.length ≤ k := by
  intro D k
  induction k generalizing D with
  | zero =>
    intro _ hb
    cases D with
    | nil => exact Nat.le_refl _
    | cons x D =>
      have := hb x List.mem_cons_self
      omega
  | succ k ih =>
    intro hn hb
    have := ih (D.erase (k : Int)) (hn.erase _) fun x hx => by
      have h1 := hb x (List.mem_of_mem_erase hx)
      have h2 := (hn.mem_erase_iff.mp hx).1
      omega
    have l := List.length_erase (a := (k : Int)) (l := D)
    split at l <;> omega
theorem fewR {C : List Int} {lo k : Int} (nd : C.Nodup) (h0 : 0 ≤ k) (h : ∀ x ∈ C, lo ≤ x ∧ x ≤ lo + k) : (C.length : Int) ≤ k + 1 := by
  have := fewN (C.map fun x => x - lo) (k + 1).toNat (List.pairwise_map.mpr (nd.imp fun hxy e => by omega)) (fun x hx => by
    obtain ⟨y, hy, rfl⟩ := List.mem_map.mp hx
    have := h y hy
    omega)
  rw [List.length_map] at this
  omega
/-- between 0 and st -/
def Side (st x : Int) : Prop := (0 ≤ x ∧ x ≤ st) ∨ (st ≤ x ∧ x ≤ 0)
theorem Side.few {C : List Int} {st : Int} (nd : C.Nodup) (h : ∀ x ∈ C, Side st x) : (C.length : Int) ≤ (if st < 0 then -st else st) + 1 := by
  split
  · refine fewR (lo := st) nd (by omega) fun x hx => ?_
    rcases h x hx with h | h <;> omega
  · refine fewR (lo := 0) nd (by omega) fun x hx => ?_
    rcases h x hx with h | h <;> omega
theorem side_mul {st n s : Int} (sg : (0 < st ∧ s ≤ 0) ∨ (st < 0 ∧ 0 ≤ s)) (h : Side st n) : (n + s) * st ≥ 0 ↔ Side st (n + s) := by
  rcases sg with ⟨h0, hs⟩ | ⟨h0, hs⟩
  · constructor
    · intro z
      have : 0 ≤ n + s := by
        rcases Int.lt_or_le (n + s) 0 with c | c
        · have := Int.mul_neg_of_neg_of_pos c h0
          omega
        · exact c
      refine .inl ⟨this, ?_⟩
      rcases h with h | h <;> omega
    · intro z
      refine Int.mul_nonneg ?_ (by omega)
      rcases z with z | z <;> omega
  · constructor
    · intro z
      have : n + s ≤ 0 := by
        rcases Int.lt_or_le 0 (n + s) with c | c
        · have := Int.mul_neg_of_pos_of_neg c h0
          omega
        · exact c
      refine .inr ⟨?_, this⟩
      rcases h with h | h <;> omega
    · intro z
      refine Int.mul_nonneg_of_nonpos_of_nonpos ?_ (by omega)
      rcases z with z | z <;> omega
/-- what is reached on the start's side is reached on a way on it -/
theorem side_way {S : List Int} {st x : Int} {n : Nat} (sg : (0 < st ∧ ∀ s ∈ S, s ≤ 0) ∨ (st < 0 ∧ ∀ s ∈ S, 0 ≤ s)) (r : Rch S st n x) : Side st x → RchP S (Side st) st n x := by
  have sd : ∀ {n : Nat} {y : Int}, Rch S st n y → (0 < st → y ≤ st) ∧ (st < 0 → st ≤ y) := by
    intro n y r
    induction r with
    | zero => exact ⟨fun _ => Int.le_refl _, fun _ => Int.le_refl _⟩
    | succ _ hs ih =>
      rcases sg with ⟨h0, h⟩ | ⟨h0, h⟩
      · exact ⟨fun z => by have := ih.1 z; have := h _ hs; omega, fun z => by omega⟩
      · exact ⟨fun z => by omega, fun z => by have := ih.2 z; have := h _ hs; omega⟩
  induction r with
  | zero => exact fun _ => .zero
  | @succ n y s r hs ih =>
    intro hb
    have hy := sd r
    refine .succ (ih ?_) hs hb
    rcases sg with ⟨h0, h⟩ | ⟨h0, h⟩
    · have := h _ hs
      have := hy.1 h0
      rcases hb with hb | hb
      · exact .inl ⟨by omega, by omega⟩
      · exact .inl ⟨by omega, by omega⟩
    · have := h _ hs
      have := hy.2 h0
      rcases hb with hb | hb
      · exact .inr ⟨by omega, by omega⟩
      · exact .inr ⟨by omega, by omega⟩
/-- what stays in a turn -/
structure OkP (P : Int → Prop) (cf : List Int × List Int) : Prop where
  nd : cf.1.Nodup
  lim : ∀ x ∈ cf.1, P x
  sz : cf.2.length ≤ cf.1.length
theorem OkP.step {cf : List Int × List Int} (h : OkP P cf) (c : Int) : OkP P (stepP P cf c) := by
  unfold stepP
  split
  · next e =>
    refine ⟨?_, fun x hx => ?_, ?_⟩
    · show (cf.1 ++ [c]).Nodup
      rw [List.nodup_append]
      refine ⟨h.nd, by simp, fun x hx y hy z => ?_⟩
      rw [List.mem_singleton.mp hy] at z
      exact e.2 (z ▸ hx)
    · rcases List.mem_append.mp (show x ∈ cf.1 ++ [c] from hx) with hx | hx
      · exact h.lim x hx
      · rw [List.mem_singleton.mp hx]
        exact e.1
    · show (cf.2 ++ [c]).length ≤ (cf.1 ++ [c]).length
      rw [List.length_append, List.length_append]
      have := h.sz
      omega
  · exact h
end
end Bp

/-! Wy: why a sum is never 0: reasons, plain. -/
namespace Wy
open Bf
inductive R where
  | no | sign | div (g : Int) | gaps (xs : List Int)
/-- no step leads towards 0 -/
def One (st : Int) (S : List Int) : Prop := (0 < st ∧ ∀ s ∈ S, 0 ≤ s) ∨ (st < 0 ∧ ∀ s ∈ S, s ≤ 0)
def Both (S : List Int) : Prop := (∃ s ∈ S, s < 0) ∧ ∃ s ∈ S, 0 < s
def IsG (S : List Int) (g : Int) : Prop := 0 ≤ g ∧ (∀ s ∈ S, g ∣ s) ∧ ∀ d : Int, (∀ s ∈ S, d ∣ s) → d ∣ g
def Why (st : Int) (S : List Int) : R → Prop
  | .no => st = 0 ∨ (¬ One st S ∧ (∀ g, IsG S g → g ∣ st) ∧ (Both S ∨ ∃ n, Rch S st n 0))
  | .sign => st ≠ 0 ∧ One st S
  | .div g => st ≠ 0 ∧ ¬ One st S ∧ IsG S g ∧ ¬ g ∣ st
  | .gaps xs => st ≠ 0 ∧ ¬ One st S ∧ (∀ g, IsG S g → g ∣ st) ∧ ¬ Both S ∧ (¬ ∃ n, Rch S st n 0) ∧ xs.Pairwise (· < ·) ∧ ∀ x, x ∈ xs ↔ ((0 < x ↔ 0 < st) ∧ ∃ n, Rch S st n x)
def gcdL (ns : List Int) : Nat := ns.foldl (fun d n => Nat.gcd d n.natAbs) 0
theorem gcdL_snoc (ns : List Int) (n : Int) : gcdL (ns ++ [n]) = Nat.gcd (gcdL ns) n.natAbs := by
  unfold gcdL
  rw [List.foldl_append]
  rfl
theorem fold_dvd : ∀ (ns : List Int) (a : Nat), (ns.foldl (fun d n => Nat.gcd d n.natAbs) a ∣ a) ∧ (∀ n ∈ ns, ns.foldl (fun d n => Nat.gcd d n.natAbs) a ∣ n.natAbs) ∧ ∀ k : Nat, k ∣ a → (∀ n ∈ ns, k ∣ n.natAbs) → k ∣ ns.foldl (fun d n => Nat.gcd d n.natAbs) a
  | [], a => ⟨Nat.dvd_refl _, (fun _ h => nomatch h), fun k h _ => h⟩
  | n :: r, a => by
    obtain ⟨h1, h2, h3⟩ := fold_dvd r (Nat.gcd a n.natAbs)
    rw [List.foldl_cons]
    refine ⟨Nat.dvd_trans h1 (Nat.gcd_dvd_left _ _), fun m hm => ?_, fun k ha hk => h3 k (Nat.dvd_gcd ha (hk n List.mem_cons_self)) fun m hm => hk m (List.mem_cons_of_mem _ hm)⟩
    rcases List.mem_cons.mp hm with rfl | hm
    · exact Nat.dvd_trans h1 (Nat.gcd_dvd_right _ _)
    · exact h2 m hm
theorem isG_gcdL (ns : List Int) : IsG ns (gcdL ns : Int) := by
  obtain ⟨_, h2, h3⟩ := fold_dvd ns 0
  refine ⟨Int.natCast_nonneg _, fun s hs => Int.ofNat_dvd_left.mpr (h2 s hs), fun d hd => ?_⟩
  exact Int.ofNat_dvd_right.mpr (h3 d.natAbs (Nat.dvd_zero _) fun n hn => Int.natAbs_dvd_natAbs.mpr (hd n hn))
theorem IsG.one {S : List Int} {g g' : Int} (h : IsG S g) (h' : IsG S g') : g = g' :=
  Int.dvd_antisymm h.1 h'.1 (h'.2.2 g h.2.1) (h.2.2 g' h'.2.1)
theorem gcd_pos {ns : List Int} {s : Int} (hs : s ∈ ns) (h0 : s ≠ 0) : 0 < gcdL ns := by
  rcases Nat.eq_zero_or_pos (gcdL ns) with e | e
  · have := (isG_gcdL ns).2.1 s hs
    rw [e] at this
    exact absurd (Int.zero_dvd.mp this) h0
  · exact e
theorem sorted_eq : ∀ {xs ys : List Int}, xs.Pairwise (· < ·) → ys.Pairwise (· < ·) → (∀ x, x ∈ xs ↔ x ∈ ys) → xs = ys
  | [], [], _, _, _ => rfl
  | [], y :: ys, _, _, h => absurd ((h y).mpr List.mem_cons_self) (fun z => nomatch z)
  | x :: xs, [], _, _, h => absurd ((h x).mp List.mem_cons_self) (fun z => nomatch z)
  | x :: xs, y :: ys, p, q, h => by
    obtain ⟨p1, p2⟩ := List.pairwise_cons.mp p
    obtain ⟨q1, q2⟩ := List.pairwise_cons.mp q
    have e : x = y := by
      rcases List.mem_cons.mp ((h x).mp List.mem_cons_self) with e | hx
      · exact e
      · rcases List.mem_cons.mp ((h y).mpr List.mem_cons_self) with e | hy
        · exact e.symm
        · have := p1 y hy
          have := q1 x hx
          omega
    subst e
    rw [sorted_eq p2 q2 fun z => ?_]
    constructor
    · intro hz
      rcases List.mem_cons.mp ((h z).mp (List.mem_cons_of_mem _ hz)) with e | hz2
      · have := p1 z hz
        omega
      · exact hz2
    · intro hz
      rcases List.mem_cons.mp ((h z).mpr (List.mem_cons_of_mem _ hz)) with e | hz2
      · have := q1 z hz
        omega
      · exact hz2
theorem Why.one {st : Int} {S : List Int} {r r' : R} (h : Why st S r) (h' : Why st S r') : r = r' := by
  cases r with
  | no => cases r' with
    | no => rfl
    | sign =>
      rcases h with h | ⟨h, _⟩
      · exact absurd h h'.1
      · exact absurd h'.2 h
    | div g =>
      rcases h with h | ⟨_, h, _⟩
      · exact absurd h h'.1
      · exact absurd (h g h'.2.2.1) h'.2.2.2
    | gaps xs =>
      rcases h with h | ⟨_, _, h | h⟩
      · exact absurd h h'.1
      · exact absurd h h'.2.2.2.1
      · exact absurd h h'.2.2.2.2.1
  | sign => cases r' with
    | no =>
      rcases h' with h' | ⟨h', _⟩
      · exact absurd h' h.1
      · exact absurd h.2 h'
    | sign => rfl
    | div g => exact absurd h.2 h'.2.1
    | gaps xs => exact absurd h.2 h'.2.1
  | div g => cases r' with
    | no =>
      rcases h' with h' | ⟨_, h', _⟩
      · exact absurd h' h.1
      · exact absurd (h' g h.2.2.1) h.2.2.2
    | sign => exact absurd h'.2 h.2.1
    | div g' => rw [h.2.2.1.one h'.2.2.1]
    | gaps xs => exact absurd (h'.2.2.1 g h.2.2.1) h.2.2.2
  | gaps xs => cases r' with
    | no =>
      rcases h' with h' | ⟨_, _, h' | h'⟩
      · exact absurd h' h.1
      · exact absurd h' h.2.2.2.1
      · exact absurd h' h.2.2.2.2.1
    | sign => exact absurd h'.2 h.2.1
    | div g => exact absurd (h.2.2.1 g h'.2.2.1) h'.2.2.2
    | gaps ys => rw [sorted_eq h.2.2.2.2.2.1 h'.2.2.2.2.2.1 fun x => (h.2.2.2.2.2.2 x).trans (h'.2.2.2.2.2.2 x).symm]
section
variable {S S' : List Int} {st : Int}
/-- lists with the same members but 0 -/
abbrev Alike (S S' : List Int) : Prop := ∀ s, s ≠ 0 → (s ∈ S ↔ s ∈ S')
theorem Alike.symm (h : Alike S S') : Alike S' S := fun s hs => (h s hs).symm
theorem One.alike (e : Alike S S') (h : One st S) : One st S' := by
  rcases h with ⟨h0, h⟩ | ⟨h0, h⟩
  · refine .inl ⟨h0, fun s hs => ?_⟩
    by_cases c : s = 0
    · omega
    · exact h s ((e s c).mpr hs)
  · refine .inr ⟨h0, fun s hs => ?_⟩
    by_cases c : s = 0
    · omega
    · exact h s ((e s c).mpr hs)
theorem Both.alike (e : Alike S S') (h : Both S) : Both S' := by
  obtain ⟨⟨s, hs, h1⟩, t, ht, h2⟩ := h
  exact ⟨⟨s, (e s (by omega)).mp hs, h1⟩, t, (e t (by omega)).mp ht, h2⟩
theorem IsG.alike {g : Int} (e : Alike S S') (h : IsG S g) : IsG S' g := by
  have f : ∀ (A B : List Int) (d : Int), Alike A B → (∀ s ∈ A, d ∣ s) → ∀ s ∈ B, d ∣ s := fun A B d e h s hs => by
    by_cases c : s = 0
    · rw [c]; exact Int.dvd_zero _
    · exact h s ((e s c).mpr hs)
  exact ⟨h.1, f S S' g e h.2.1, fun d hd => h.2.2 d (f S' S d e.symm hd)⟩
theorem ex_alike {x : Int} (e : Alike S S') (h : ∃ n, Rch S st n x) : ∃ n, Rch S' st n x := by
  obtain ⟨n, r⟩ := h
  obtain ⟨m, _, r⟩ := r.drop fun s hs h0 => (e s h0).mp hs
  exact ⟨m, r⟩
theorem Why.alike {r : R} (e : Alike S S') (h : Why st S r) : Why st S' r := by
  cases r with
  | no =>
    rcases h with h | ⟨h1, h2, h3⟩
    · exact .inl h
    · refine .inr ⟨fun z => h1 (z.alike e.symm), fun g hg => h2 g (hg.alike e.symm), ?_⟩
      rcases h3 with h3 | h3
      · exact .inl (h3.alike e)
      · exact .inr (ex_alike e h3)
  | sign => exact ⟨h.1, h.2.alike e⟩
  | div g => exact ⟨h.1, fun z => h.2.1 (z.alike e.symm), h.2.2.1.alike e, h.2.2.2⟩
  | gaps xs =>
    obtain ⟨h1, h2, h3, h4, h5, h6, h7⟩ := h
    exact ⟨h1, fun z => h2 (z.alike e.symm), fun g hg => h3 g (hg.alike e.symm), fun z => h4 (z.alike e.symm), fun z => h5 (ex_alike e.symm z), h6, fun x => (h7 x).trans ⟨fun ⟨a, b⟩ => ⟨a, ex_alike e b⟩, fun ⟨a, b⟩ => ⟨a, ex_alike e.symm b⟩⟩⟩
theorem side_of {n : Nat} {y : Int} (h : (0 < st ∧ ∀ s ∈ S, s ≤ 0) ∨ (st < 0 ∧ ∀ s ∈ S, 0 ≤ s)) (r : Rch S st n y) : (0 < st → y ≤ st) ∧ (st < 0 → st ≤ y) := by
  induction r with
  | zero => exact ⟨fun _ => Int.le_refl _, fun _ => Int.le_refl _⟩
  | succ _ hs ih =>
    rcases h with ⟨h0, h⟩ | ⟨h0, h⟩
    · exact ⟨fun z => by have := ih.1 z; have := h _ hs; omega, fun z => by omega⟩
    · exact ⟨fun z => by omega, fun z => by have := ih.2 z; have := h _ hs; omega⟩
/-- steps of one sign: what is reached within the limit is reached on a way within it -/
theorem mono_lim {n : Nat} {x L : Int} (h : (0 < st ∧ ∀ s ∈ S, s ≤ 0) ∨ (st < 0 ∧ ∀ s ∈ S, 0 ≤ s)) (hL : L = if st < 0 then -st else st) (r : Rch S st n x) : -L ≤ x ∧ x ≤ L → RchB S L st n x := by
  have side : ∀ {n : Nat} {y : Int}, Rch S st n y → (0 < st → y ≤ st) ∧ (st < 0 → st ≤ y) := by
    intro n y r
    induction r with
    | zero => exact ⟨fun _ => Int.le_refl _, fun _ => Int.le_refl _⟩
    | succ _ hs ih =>
      rcases h with ⟨h0, h⟩ | ⟨h0, h⟩
      · exact ⟨fun z => by have := ih.1 z; have := h _ hs; omega, fun z => by omega⟩
      · exact ⟨fun z => by omega, fun z => by have := ih.2 z; have := h _ hs; omega⟩
  induction r with
  | zero => exact fun _ => .zero
  | @succ n y s r hs ih =>
    intro hb
    have sd := side r
    refine .succ (ih ?_) hs hb.1 hb.2
    rcases h with ⟨h0, h⟩ | ⟨h0, h⟩
    · have := h _ hs
      have := sd.1 h0
      rw [if_neg (by omega)] at hL
      omega
    · have := h _ hs
      have := sd.2 h0
      rw [if_pos h0] at hL
      omega
theorem one_sign (h0 : st ≠ 0) (h : ¬ Both S) (h2 : ¬ One st S) : (0 < st ∧ ∀ s ∈ S, s ≤ 0) ∨ (st < 0 ∧ ∀ s ∈ S, 0 ≤ s) := by
  rcases Int.lt_or_lt_of_ne h0 with c | c
  · refine .inr ⟨c, fun s hs => ?_⟩
    rcases Int.lt_or_le s 0 with d | d
    · refine absurd (.inr ⟨c, fun t ht => ?_⟩) h2
      rcases Int.lt_or_le 0 t with e | e
      · exact absurd ⟨⟨s, hs, d⟩, t, ht, e⟩ h
      · exact e
    · exact d
  · refine .inl ⟨c, fun s hs => ?_⟩
    rcases Int.lt_or_le 0 s with d | d
    · refine absurd (.inl ⟨c, fun t ht => ?_⟩) h2
      rcases Int.lt_or_le t 0 with e | e
      · exact absurd ⟨⟨t, ht, e⟩, s, hs, d⟩ h
      · exact e
    · exact d
theorem some_step (h0 : st ≠ 0) (h2 : ¬ One st S) : ∃ s ∈ S, s ≠ 0 := by
  rcases Classical.em (∃ s ∈ S, s ≠ 0) with c | c
  · exact c
  · refine absurd ?_ h2
    have z : ∀ s ∈ S, s = 0 := fun s hs => by
      rcases Classical.em (s = 0) with e | e
      · exact e
      · exact absurd ⟨s, hs, e⟩ c
    rcases Int.lt_or_lt_of_ne h0 with d | d
    · exact .inr ⟨d, fun s hs => by rw [z s hs]; exact Int.le_refl _⟩
    · exact .inl ⟨d, fun s hs => by rw [z s hs]; exact Int.le_refl _⟩
end
end Wy

/-! Wz: steps of both signs reach what their divisor allows; what sums keep to. -/
namespace Wy
open Bf
/-- sums of steps -/
def Cmb (S : List Int) (x : Int) : Prop := ∃ l : List Int, (∀ s ∈ l, s ∈ S) ∧ l.sum = x
section
variable {S : List Int} {x y : Int}
theorem Cmb.zero : Cmb S 0 := ⟨[], (fun _ h => nomatch h), rfl⟩
theorem Cmb.add (h : Cmb S x) (h' : Cmb S y) : Cmb S (x + y) := by
  obtain ⟨l, a, b⟩ := h
  obtain ⟨m, c, d⟩ := h'
  refine ⟨l ++ m, fun s hs => ?_, by rw [List.sum_append, b, d]⟩
  rcases List.mem_append.mp hs with h | h
  · exact a s h
  · exact c s h
theorem Cmb.one (h : x ∈ S) : Cmb S x := ⟨[x], fun s hs => by rw [List.mem_singleton.mp hs]; exact h, by simp⟩
theorem Cmb.nat (h : Cmb S x) : ∀ k : Nat, Cmb S ((k : Int) * x)
  | 0 => by
    rw [show ((0 : Nat) : Int) * x = 0 by simp]
    exact .zero
  | k + 1 => by
    rw [show ((k + 1 : Nat) : Int) * x = (k : Int) * x + x by rw [Int.natCast_add, Int.add_mul]; simp]
    exact (h.nat k).add h
theorem Cmb.neg1 (hb : Both S) (hx : x ∈ S) : Cmb S (-x) := by
  obtain ⟨⟨a, ha, ha0⟩, b, hb, hb0⟩ := hb
  rcases Int.lt_trichotomy x 0 with c | c | c
  · have h1 := (Cmb.one hx).nat (b - 1).toNat
    have h2 := (Cmb.one hb).nat (-x).toNat
    have := h1.add h2
    rw [Int.toNat_of_nonneg (by omega), Int.toNat_of_nonneg (by omega), Int.sub_mul, Int.neg_mul, Int.mul_comm b x, Int.one_mul] at this
    rw [show -x = x * b - x + -(x * b) by omega]
    exact this
  · rw [c]
    exact .zero
  · have h1 := (Cmb.one hx).nat (-a - 1).toNat
    have h2 := (Cmb.one ha).nat x.toNat
    have := h1.add h2
    rw [Int.toNat_of_nonneg (by omega), Int.toNat_of_nonneg (by omega), Int.sub_mul, Int.neg_mul, Int.mul_comm a x, Int.one_mul] at this
    rw [show -x = -(x * a) - x + x * a by omega]
    exact this
theorem Cmb.neg (hb : Both S) (h : Cmb S x) : Cmb S (-x) := by
  obtain ⟨l, a, rfl⟩ := h
  induction l with
  | nil => exact .zero
  | cons s l ih =>
    rw [List.sum_cons, Int.neg_add]
    exact (Cmb.neg1 hb (a s List.mem_cons_self)).add (ih fun t ht => a t (List.mem_cons_of_mem _ ht))
theorem Cmb.mul (hb : Both S) (h : Cmb S x) (k : Int) : Cmb S (k * x) := by
  rcases Int.le_total 0 k with c | c
  · have := h.nat k.toNat
    rw [Int.toNat_of_nonneg c] at this
    exact this
  · have := (h.nat (-k).toNat).neg hb
    rw [Int.toNat_of_nonneg (by omega), Int.neg_mul, Int.neg_neg] at this
    exact this
theorem Cmb.gcd (hb : Both S) : ∀ (m n : Nat), Cmb S (m : Int) → Cmb S (n : Int) → Cmb S (Nat.gcd m n : Int) := by
  intro m
  induction m using Nat.strongRecOn with
  | _ m ih =>
    intro n hm hn
    rcases Nat.eq_zero_or_pos m with e | e
    · rw [e, Nat.gcd_zero_left]
      exact hn
    · rw [Nat.gcd_rec]
      refine ih (n % m) (Nat.mod_lt n e) m ?_ hm
      have h2 := hn.add (hm.mul hb (-((n / m : Nat) : Int)))
      have h3 := Nat.div_add_mod n m
      have h4 : ((n % m : Nat) : Int) = (n : Int) + -((n / m : Nat) : Int) * (m : Int) := by
        have : (n : Int) = ((m * (n / m) + n % m : Nat) : Int) := by rw [h3]
        rw [Int.natCast_add, Int.natCast_mul] at this
        rw [Int.neg_mul, Int.mul_comm]
        omega
      rw [h4]
      exact h2
theorem Cmb.abs (hb : Both S) (h : Cmb S x) : Cmb S (x.natAbs : Int) := by
  rcases Int.le_total 0 x with c | c
  · rw [show ((x.natAbs : Nat) : Int) = x by omega]
    exact h
  · rw [show ((x.natAbs : Nat) : Int) = -x by omega]
    exact h.neg hb
theorem Cmb.gcdF (hb : Both S) : ∀ (l : List Int) (a : Nat), (∀ s ∈ l, s ∈ S) → Cmb S (a : Int) → Cmb S (l.foldl (fun d n => Nat.gcd d n.natAbs) a : Nat)
  | [], _, _, h => h
  | s :: l, a, hl, h => Cmb.gcdF hb l _ (fun t ht => hl t (List.mem_cons_of_mem _ ht)) (Cmb.gcd hb _ _ h ((Cmb.one (hl s List.mem_cons_self)).abs hb))
theorem both_reach {st : Int} (hb : Both S) (hg : ∀ g, IsG S g → g ∣ st) : ∃ n, Rch S st n 0 := by
  obtain ⟨k, hk⟩ := hg _ (isG_gcdL S)
  have h : Cmb S (gcdL S : Int) := Cmb.gcdF hb S 0 (fun _ h => h) .zero
  obtain ⟨l, a, b⟩ := (h.mul hb (-k))
  have := rch_of_list l st a
  rw [b, hk, Int.neg_mul, Int.mul_comm k] at this
  rw [show (gcdL S : Int) * k + -((gcdL S : Int) * k) = 0 by omega] at this
  rw [hk]
  exact ⟨_, this⟩
end
section
variable {S : List Int} {st t : Int} {n : Nat}
theorem One.keep (h : One st S) (r : Rch S st n t) : (0 < st → st ≤ t) ∧ (st < 0 → t ≤ st) := by
  induction r with
  | zero => exact ⟨fun _ => Int.le_refl _, fun _ => Int.le_refl _⟩
  | succ _ hs ih =>
    rcases h with ⟨h0, h⟩ | ⟨h0, h⟩
    · exact ⟨fun z => by have := ih.1 z; have := h _ hs; omega, fun z => by omega⟩
    · exact ⟨fun z => by omega, fun z => by have := ih.2 z; have := h _ hs; omega⟩
theorem dvd_keep {g : Int} (h : ∀ s ∈ S, g ∣ s) (r : Rch S st n t) : g ∣ t - st := by
  induction r with
  | zero => rw [Int.sub_self]; exact Int.dvd_zero _
  | @succ n x s _ hs ih =>
    rw [show x + s - st = (x - st) + s by omega]
    exact Int.dvd_add ih (h s hs)
/-- a reason is right -/
theorem Why.never {r : R} (h : Why st S r) (hr : r ≠ .no) : ¬ ∃ n, Rch S st n 0 := by
  rintro ⟨n, r0⟩
  cases r with
  | no => exact hr rfl
  | sign =>
    have := h.2.keep r0
    rcases h.2 with ⟨a, _⟩ | ⟨a, _⟩ <;> omega
  | div g =>
    have := dvd_keep h.2.2.1.2.1 r0
    rw [Int.zero_sub] at this
    exact h.2.2.2 (Int.dvd_neg.mp this)
  | gaps xs => exact h.2.2.2.2.1 ⟨n, r0⟩
/-- sums of counts are reached -/
def dot (ns cs : List Int) : Int := ((ns.zip cs).map fun p => p.1 * p.2).sum
theorem rch_many {s : Int} (hs : s ∈ S) : ∀ (c : Nat) (a : Int), ∃ n, Rch S a n (a + s * c)
  | 0, a => ⟨0, by rw [show a + s * ((0 : Nat) : Int) = a by simp]; exact .zero⟩
  | c + 1, a => by
    obtain ⟨n, r⟩ := rch_many hs c a
    refine ⟨n + 1, ?_⟩
    rw [Int.natCast_add, Int.mul_add, ← Int.add_assoc]
    simp only [Int.natCast_one, Int.mul_one]
    exact .succ r hs
theorem Rch.trans {a b c : Int} {n m : Nat} (h : Rch S a n b) (h' : Rch S b m c) : ∃ k, Rch S a k c := by
  induction h' with
  | zero => exact ⟨n, h⟩
  | succ _ hs ih =>
    obtain ⟨k, r⟩ := ih
    exact ⟨k + 1, .succ r hs⟩
theorem rch_dot : ∀ (ns cs : List Int) (a : Int), (∀ s ∈ ns, s ∈ S) → (∀ c ∈ cs, 0 ≤ c) → ∃ n, Rch S a n (a + dot ns cs)
  | [], cs, a, _, _ => ⟨0, by rw [show dot [] cs = 0 from rfl, Int.add_zero]; exact .zero⟩
  | s :: ns, [], a, _, _ => ⟨0, by rw [show dot (s :: ns) [] = 0 from rfl, Int.add_zero]; exact .zero⟩
  | s :: ns, c :: cs, a, h, h' => by
    obtain ⟨n, r⟩ := rch_many (h s List.mem_cons_self) c.toNat a
    rw [Int.toNat_of_nonneg (h' c List.mem_cons_self)] at r
    obtain ⟨m, r2⟩ := rch_dot ns cs (a + s * c) (fun t ht => h t (List.mem_cons_of_mem _ ht)) (fun t ht => h' t (List.mem_cons_of_mem _ ht))
    have e : a + dot (s :: ns) (c :: cs) = a + s * c + dot ns cs := by
      unfold dot
      rw [List.zip_cons_cons, List.map_cons, List.sum_cons, ← Int.add_assoc]
    rw [e]
    exact Rch.trans r r2
theorem Why.some (h : Why st S .no) : ∃ n, Rch S st n 0 := by
  rcases h with h | ⟨_, h, h' | h'⟩
  · exact ⟨0, h ▸ .zero⟩
  · exact both_reach h' h
  · exact h'
end
end Wy

/-! Wx: sums and reasons behind a multiplication of all numbers. -/
namespace Wy
open Bf
section
variable {S : List Int} {st x f : Int} {n : Nat}
theorem Rch.scale (r : Rch S st n x) (f : Int) : Rch (S.map fun s => f * s) (f * st) n (f * x) := by
  induction r with
  | zero => exact .zero
  | @succ n x s _ hs ih =>
    rw [Int.mul_add]
    exact .succ ih (List.mem_map.mpr ⟨s, hs, rfl⟩)
theorem unscale {y : Int} (r : Rch (S.map fun s => f * s) (f * st) n y) : ∃ x, y = f * x ∧ Rch S st n x := by
  induction r with
  | zero => exact ⟨st, rfl, .zero⟩
  | @succ n y s _ hs ih =>
    obtain ⟨x, rfl, r⟩ := ih
    obtain ⟨t, ht, rfl⟩ := List.mem_map.mp hs
    exact ⟨x + t, by rw [Int.mul_add], .succ r ht⟩
theorem scale0 (hf : f ≠ 0) : Rch (S.map fun s => f * s) (f * st) n 0 ↔ Rch S st n 0 := by
  constructor
  · intro r
    obtain ⟨x, e, r⟩ := unscale r
    have : x = 0 := by
      rcases Int.mul_eq_zero.mp e.symm with h | h
      · exact absurd h hf
      · exact h
    rw [← this]
    exact r
  · intro r
    have := Rch.scale r f
    rw [Int.mul_zero] at this
    exact this
theorem least_scale {o : Option Nat} (hf : f ≠ 0) (h : Least S st o) : Least (S.map fun s => f * s) (f * st) o := by
  cases o with
  | none => exact fun n r => h n ((scale0 hf).mp r)
  | some m => exact ⟨(scale0 hf).mpr h.1, fun n r => h.2 n ((scale0 hf).mp r)⟩
theorem mul_pos_cases (hf : f ≠ 0) : (0 < f * x ↔ (0 < f ∧ 0 < x) ∨ (f < 0 ∧ x < 0)) ∧ (f * x < 0 ↔ (0 < f ∧ x < 0) ∨ (f < 0 ∧ 0 < x)) := by
  rcases Int.lt_or_lt_of_ne hf with s | s <;> rcases Int.lt_trichotomy x 0 with c | c | c
  · have := Int.mul_pos_of_neg_of_neg s c
    omega
  · subst c
    rw [Int.mul_zero]
    omega
  · have := Int.mul_neg_of_neg_of_pos s c
    omega
  · have := Int.mul_neg_of_pos_of_neg s c
    omega
  · subst c
    rw [Int.mul_zero]
    omega
  · have := Int.mul_pos s c
    omega
theorem one_scale (hf : f ≠ 0) : One (f * st) (S.map fun s => f * s) ↔ One st S := by
  have m := fun x => mul_pos_cases (x := x) hf
  have ms := m st
  unfold One
  constructor
  · rintro (⟨a, h⟩ | ⟨a, h⟩)
    · rcases ms.1.mp a with ⟨b, c⟩ | ⟨b, c⟩
      · refine .inl ⟨c, fun s hs => ?_⟩
        have := h _ (List.mem_map.mpr ⟨s, hs, rfl⟩)
        have := (m s).2
        omega
      · refine .inr ⟨c, fun s hs => ?_⟩
        have := h _ (List.mem_map.mpr ⟨s, hs, rfl⟩)
        have := (m s).2
        omega
    · rcases ms.2.mp a with ⟨b, c⟩ | ⟨b, c⟩
      · refine .inr ⟨c, fun s hs => ?_⟩
        have := h _ (List.mem_map.mpr ⟨s, hs, rfl⟩)
        have := (m s).1
        omega
      · refine .inl ⟨c, fun s hs => ?_⟩
        have := h _ (List.mem_map.mpr ⟨s, hs, rfl⟩)
        have := (m s).1
        omega
  · rintro (⟨a, h⟩ | ⟨a, h⟩)
    · rcases Int.lt_or_lt_of_ne hf with b | b
      · refine .inr ⟨ms.2.mpr (.inr ⟨b, a⟩), fun s hs => ?_⟩
        obtain ⟨t, ht, rfl⟩ := List.mem_map.mp hs
        have := h t ht
        have := (m t).1
        show f * t ≤ 0
        omega
      · refine .inl ⟨ms.1.mpr (.inl ⟨b, a⟩), fun s hs => ?_⟩
        obtain ⟨t, ht, rfl⟩ := List.mem_map.mp hs
        have := h t ht
        have := (m t).2
        show 0 ≤ f * t
        omega
    · rcases Int.lt_or_lt_of_ne hf with b | b
      · refine .inl ⟨ms.1.mpr (.inr ⟨b, a⟩), fun s hs => ?_⟩
        obtain ⟨t, ht, rfl⟩ := List.mem_map.mp hs
        have := h t ht
        have := (m t).2
        show 0 ≤ f * t
        omega
      · refine .inr ⟨ms.2.mpr (.inl ⟨b, a⟩), fun s hs => ?_⟩
        obtain ⟨t, ht, rfl⟩ := List.mem_map.mp hs
        have := h t ht
        have := (m t).1
        show f * t ≤ 0
        omega
theorem both_scale (hf : f ≠ 0) : Both (S.map fun s => f * s) ↔ Both S := by
  have m := fun x => mul_pos_cases (x := x) hf
  constructor
  · rintro ⟨⟨a, ha, a0⟩, b, hb, b0⟩
    obtain ⟨s, hs, rfl⟩ := List.mem_map.mp ha
    obtain ⟨t, ht, rfl⟩ := List.mem_map.mp hb
    rcases (m s).2.mp a0 with ⟨c, d⟩ | ⟨c, d⟩ <;> rcases (m t).1.mp b0 with ⟨e, g⟩ | ⟨e, g⟩
    · exact ⟨⟨s, hs, d⟩, t, ht, g⟩
    · omega
    · omega
    · exact ⟨⟨t, ht, g⟩, s, hs, d⟩
  · rintro ⟨⟨s, hs, d⟩, t, ht, g⟩
    rcases Int.lt_or_lt_of_ne hf with b | b
    · exact ⟨⟨f * t, List.mem_map.mpr ⟨t, ht, rfl⟩, (m t).2.mpr (.inr ⟨b, g⟩)⟩, f * s, List.mem_map.mpr ⟨s, hs, rfl⟩, (m s).1.mpr (.inr ⟨b, d⟩)⟩
    · exact ⟨⟨f * s, List.mem_map.mpr ⟨s, hs, rfl⟩, (m s).2.mpr (.inl ⟨b, d⟩)⟩, f * t, List.mem_map.mpr ⟨t, ht, rfl⟩, (m t).1.mpr (.inl ⟨b, g⟩)⟩
theorem isG_scale {g : Int} (hf : f ≠ 0) (h : IsG S g) : IsG (S.map fun s => f * s) (g * f.natAbs) := by
  refine ⟨Int.mul_nonneg h.1 (by omega), fun y hy => ?_, fun d hd => ?_⟩
  · obtain ⟨s, hs, rfl⟩ := List.mem_map.mp hy
    rw [Int.mul_comm g]
    refine Int.mul_dvd_mul ?_ (h.2.1 s hs)
    exact Int.natAbs_dvd.mpr (Int.dvd_refl f)
  · -- the divisor of the multiples
    have e := (isG_gcdL (S.map fun s => f * s)).2.2 d hd
    refine Int.dvd_trans e ?_
    -- |f| divides the divisor of the multiples
    have k : (f.natAbs : Int) ∣ (gcdL (S.map fun s => f * s) : Int) := (isG_gcdL _).2.2 _ fun y hy => by
      obtain ⟨s, _, rfl⟩ := List.mem_map.mp hy
      exact Int.dvd_trans (Int.natAbs_dvd.mpr (Int.dvd_refl f)) (Int.dvd_mul_right f s)
    obtain ⟨q, hq⟩ := k
    rw [hq, Int.mul_comm g]
    refine Int.mul_dvd_mul (Int.dvd_refl _) (h.2.2 q fun s hs => ?_)
    have := (isG_gcdL (S.map fun s => f * s)).2.1 _ (List.mem_map.mpr ⟨s, hs, rfl⟩)
    rw [hq] at this
    obtain ⟨c, hc⟩ := this
    have h2 : (f.natAbs : Int) = f ∨ (f.natAbs : Int) = -f := by omega
    rcases h2 with h2 | h2
    · rw [h2, Int.mul_assoc] at hc
      exact ⟨c, Int.eq_of_mul_eq_mul_left hf hc⟩
    · rw [h2, Int.neg_mul, Int.neg_mul, Int.mul_assoc, ← Int.mul_neg] at hc
      have := Int.eq_of_mul_eq_mul_left hf hc
      exact ⟨-c, by rw [this, Int.mul_neg]⟩
theorem dvd_scale {g : Int} (hf : f ≠ 0) : g * f.natAbs ∣ f * st ↔ g ∣ st := by
  have h2 : (f.natAbs : Int) = f ∨ (f.natAbs : Int) = -f := by omega
  rw [Int.mul_comm g]
  constructor
  · rintro ⟨c, hc⟩
    rcases h2 with h2 | h2
    · rw [h2, Int.mul_assoc] at hc
      exact ⟨c, Int.eq_of_mul_eq_mul_left hf hc⟩
    · rw [h2, Int.neg_mul, Int.neg_mul, Int.mul_assoc, ← Int.mul_neg] at hc
      have := Int.eq_of_mul_eq_mul_left hf hc
      exact ⟨-c, by rw [this, Int.mul_neg]⟩
  · intro h
    exact Int.mul_dvd_mul (Int.natAbs_dvd.mpr (Int.dvd_refl f)) h
/-- a reason behind a multiplication -/
def ScR (f : Int) : R → R → Prop
  | .no, r => r = .no
  | .sign, r => r = .sign
  | .div g, r => r = .div (g * f.natAbs)
  | .gaps xs, r => ∃ ys, r = .gaps ys ∧ ys.Pairwise (· < ·) ∧ ∀ y, y ∈ ys ↔ ∃ x ∈ xs, y = f * x
theorem Why.scale {r r' : R} (hf : f ≠ 0) (h : Why st S r) (h' : ScR f r r') : Why (f * st) (S.map fun s => f * s) r' := by
  have st0 : f * st = 0 ↔ st = 0 := by
    rw [Int.mul_eq_zero]
    exact ⟨fun z => z.elim (fun z => absurd z hf) id, .inr⟩
  have gd : (∀ g, IsG S g → g ∣ st) → ∀ g, IsG (S.map fun s => f * s) g → g ∣ f * st := fun h g hg => by
    rw [hg.one (isG_scale hf (isG_gcdL S))]
    exact (dvd_scale hf).mpr (h _ (isG_gcdL S))
  cases r with
  | no =>
    have h' : r' = .no := h'
    subst h'
    rcases h with h | ⟨h1, h2, h3⟩
    · exact .inl (st0.mpr h)
    · refine .inr ⟨fun z => h1 ((one_scale hf).mp z), gd h2, ?_⟩
      rcases h3 with h3 | ⟨n, r⟩
      · exact .inl ((both_scale hf).mpr h3)
      · exact .inr ⟨n, (scale0 hf).mpr r⟩
  | sign =>
    have h' : r' = .sign := h'
    subst h'
    exact ⟨fun z => h.1 (st0.mp z), (one_scale hf).mpr h.2⟩
  | div g =>
    have h' : r' = .div (g * f.natAbs) := h'
    subst h'
    exact ⟨fun z => h.1 (st0.mp z), fun z => h.2.1 ((one_scale hf).mp z), isG_scale hf h.2.2.1, fun z => h.2.2.2 ((dvd_scale hf).mp z)⟩
  | gaps xs =>
    obtain ⟨ys, rfl, pw, mem⟩ := h'
    obtain ⟨h1, h2, h3, h4, h5, h6, h7⟩ := h
    refine ⟨fun z => h1 (st0.mp z), fun z => h2 ((one_scale hf).mp z), gd h3, fun z => h4 ((both_scale hf).mp z), fun ⟨n, r⟩ => h5 ⟨n, (scale0 hf).mp r⟩, pw, fun y => ?_⟩
    have m := fun x => mul_pos_cases (x := x) hf
    have key : ∀ x n, Rch S st n x → ((0 < f * x ↔ 0 < f * st) ↔ (0 < x ↔ 0 < st)) := fun x n r => by
      have x0 : x ≠ 0 := fun z => h5 ⟨n, z ▸ r⟩
      rw [(m x).1, (m st).1]
      omega
    rw [mem]
    constructor
    · rintro ⟨x, hx, rfl⟩
      obtain ⟨e, n, r⟩ := (h7 x).mp hx
      exact ⟨(key x n r).mpr e, n, Rch.scale r f⟩
    · rintro ⟨e, n, r⟩
      obtain ⟨x, ex, r2⟩ := unscale r
      rw [ex] at e
      exact ⟨x, (h7 x).mpr ⟨(key x n r2).mp e, n, r2⟩, ex⟩
end
end Wy

/-! Bw: breadth first over the steps of a form: the mirror, what it finds, and dicts with int keys that hold it. -/
namespace Bw
open PySem L2 Sm Bf
abbrev CM := List (Int × Option (List Int))
abbrev ckeys (C : CM) : List Int := C.map (·.1)
def getC (C : CM) (n : Int) : Option (Option (List Int)) := (C.find? fun p => decide (p.1 = n)).map (·.2)
theorem getC_none {C : CM} {n : Int} : getC C n = none ↔ n ∉ ckeys C := by
  unfold getC
  rw [Option.map_eq_none_iff, List.find?_eq_none]
  constructor
  · intro h hm
    obtain ⟨p, hp, e⟩ := List.mem_map.mp hm
    exact h p hp (decide_eq_true e)
  · intro h p hp e
    exact h (List.mem_map.mpr ⟨p, hp, of_decide_eq_true e⟩)
theorem getC_mem {C : CM} {n : Int} {o : Option (List Int)} (h : getC C n = some o) : (n, o) ∈ C := by
  unfold getC at h
  obtain ⟨p, hp, e⟩ := Option.map_eq_some_iff.mp h
  have h2 : p.1 = n := by
    have := List.find?_some hp
    exact of_decide_eq_true this
  rw [← h2, ← e]
  exact List.mem_of_find?_eq_some hp
theorem getC_some {C : CM} {n : Int} (h : n ∈ ckeys C) : ∃ o, getC C n = some o := by
  cases e : getC C n with
  | none => exact absurd h (getC_none.mp e)
  | some o => exact ⟨o, rfl⟩
/-! the heap -/
def OptAt (H : Hp) (v : V) : Option (List Int) → Prop
  | none => v = .non
  | some k => ∃ t, v = .ref t ∧ H t = some (.tup (k.map V.int))
abbrev CRel (H : Hp) (p : Int × Option (List Int)) (q : Key × V) : Prop := q.1 = Sum.inl p.1 ∧ OptAt H q.2 p.2
def CameAt (H : Hp) (d : Addr) (C : CM) : Prop := ∃ kvs, H d = some (.dK kvs) ∧ Paired (CRel H) C kvs
theorem OptAt.same {H H' : Hp} (e : ∀ b ys, H b = some (.tup ys) → H' b = some (.tup ys)) {v : V} {o : Option (List Int)} (h : OptAt H v o) : OptAt H' v o := by
  cases o with
  | none => exact h
  | some k =>
    obtain ⟨t, h1, h2⟩ := h
    exact ⟨t, h1, e _ _ h2⟩
theorem CameAt.ob {H : Hp} {d : Addr} {C : CM} (h : CameAt H d C) : ∃ kvs, H d = some (.dK kvs) := let ⟨kvs, e, _⟩ := h; ⟨kvs, e⟩
theorem CameAt.same {H H' : Hp} {d : Addr} {C : CM} (h : CameAt H d C) (e : ∀ b ys, H b = some (.tup ys) → H' b = some (.tup ys)) (hd : H' d = H d) : CameAt H' d C := by
  obtain ⟨kvs, h1, h2⟩ := h
  exact ⟨kvs, hd.trans h1, L2.Paired.mapP h2 fun p q r => ⟨r.1, r.2.same e⟩⟩
theorem CameAt.keep {H H' : Hp} {d : Addr} {C : CM} (h : CameAt H d C) (e : Same H H') : CameAt H' d C := by
  obtain ⟨kvs, h1, h2⟩ := h
  exact ⟨kvs, e _ _ h1, L2.Paired.mapP h2 fun p q r => ⟨r.1, r.2.same fun b ys z => e _ _ z⟩⟩
theorem rel_val {H : Hp} {n : Int} {C : CM} {kvs : List (Key × V)} (h : Paired (CRel H) C kvs) : (getC C n = none → valV kvs (Sum.inl n) = none) ∧ ∀ o, getC C n = some o → ∃ v, valV kvs (Sum.inl n) = some v ∧ OptAt H v o := by
  induction h with
  | nil => exact ⟨fun _ => rfl, fun o h => nomatch h⟩
  | @cons p q C kvs h t ih =>
    by_cases e : p.1 = n
    · have e2 : q.1 = Sum.inl n := by rw [h.1, e]
      rw [valV_pos e2]
      have g : getC (p :: C) n = some p.2 := by simp [getC, e]
      rw [g]
      refine ⟨fun z => (nomatch z), fun o z => ⟨q.2, rfl, ?_⟩⟩
      rw [← Option.some.inj z]
      exact h.2
    · have e2 : ¬ q.1 = Sum.inl n := fun z => e (Sum.inl.inj (h.1.symm.trans z))
      rw [valV_neg e2]
      have g : getC (p :: C) n = getC C n := by simp [getC, e]
      rw [g]
      exact ih
theorem CameAt.no {H : Hp} {d : Addr} {C : CM} {n : Int} (h : CameAt H d C) (hn : n ∉ ckeys C) : DGet H d (.int n) none := by
  obtain ⟨kvs, e, r⟩ := h
  have := DGet.k (k := Sum.inl n) e
  rw [(rel_val r).1 (getC_none.mpr hn)] at this
  exact this
theorem CameAt.yes {H : Hp} {d : Addr} {C : CM} {n : Int} {o : Option (List Int)} (h : CameAt H d C) (hn : getC C n = some o) : ∃ v, OptAt H v o ∧ DGet H d (.int n) (some v) := by
  obtain ⟨kvs, e, r⟩ := h
  obtain ⟨v, h1, h2⟩ := (rel_val r).2 o hn
  have := DGet.k (k := Sum.inl n) e
  rw [h1] at this
  exact ⟨v, h2, this⟩
theorem CameAt.get {H : Hp} {d : Addr} {C : CM} (h : CameAt H d C) (n : Int) : ∃ r, DGet H d (.int n) r ∧ r.isSome = decide (n ∈ ckeys C) := by
  by_cases c : n ∈ ckeys C
  · obtain ⟨o, g⟩ := getC_some c
    obtain ⟨v, _, g⟩ := h.yes g
    exact ⟨_, g, by rw [decide_eq_true c]; rfl⟩
  · exact ⟨_, h.no c, by rw [decide_eq_false c]; rfl⟩
theorem paired_snoc {α β : Type} {F : α → β → Prop} {a : α} {b : β} {l : List α} {m : List β} (h : Paired F l m) (q : F a b) : Paired F (l ++ [a]) (m ++ [b]) := by
  induction h with
  | nil => exact .cons q .nil
  | cons r _ ih => exact .cons r ih
theorem CameAt.put {H : Hp} {d : Addr} {C : CM} {n : Int} {v : V} {o : Option (List Int)} (h : CameAt H d C) (hn : n ∉ ckeys C) (hv : OptAt H v o) (hs : C.length < 100000) :
    ∃ kvs, DPut H d (.int n) v (upd H d (.dK kvs)) ∧ CameAt (upd H d (.dK kvs)) d (C ++ [(n, o)]) := by
  obtain ⟨kvs, e, r⟩ := h
  have hl : kvs.length < sizeLine := by
    rw [← Paired.length r, sizeLine_eq]
    omega
  have p := DPut.k (k := Sum.inl n) (v := v) e hl
  rw [putK_new v ((rel_val r).1 (getC_none.mpr hn))] at p
  have tk : ∀ b ys, H b = some (.tup ys) → upd H d (.dK (kvs ++ [(Sum.inl n, v)])) b = some (.tup ys) := fun b ys z => by
    rw [upd_ne (ne_of z e (fun z => nomatch z))]
    exact z
  exact ⟨_, p, _, upd_same, paired_snoc (L2.Paired.mapP r fun p q r => ⟨r.1, r.2.same tk⟩) ⟨rfl, hv.same tk⟩⟩
/-! the mirror of a turn -/
def stepC (L : Int) (cf : CM × List Int) (c : Int × List Int) : CM × List Int :=
  if -L ≤ c.1 ∧ c.1 ≤ L ∧ c.1 ∉ ckeys cf.1 then (cf.1 ++ [(c.1, some c.2)], cf.2 ++ [c.1]) else cf
def cands (qs : DI) (n : Int) : List (Int × List Int) := qs.map fun q => (n + q.2, q.1)
def rowC (L : Int) (qs : DI) (n : Int) (cf : CM × List Int) : CM × List Int := (cands qs n).foldl (stepC L) cf
def wid (L : Int) (qs : DI) (R : List Int) (C : CM) : CM × List Int := R.foldl (fun cf n => rowC L qs n cf) (C, [])
theorem wid_flat {L : Int} {qs : DI} (R : List Int) (cf : CM × List Int) : R.foldl (fun cf n => rowC L qs n cf) cf = (R.flatMap (cands qs)).foldl (stepC L) cf := by
  induction R generalizing cf with
  | nil => rfl
  | cons n R ih => rw [List.foldl_cons, List.flatMap_cons, List.foldl_append, ih]; rfl
theorem fold_spec {L : Int} : ∀ (cs : List (Int × List Int)) (C : CM) (F : List Int), ∃ (T : CM) (G : List Int), cs.foldl (stepC L) (C, F) = (C ++ T, F ++ G) ∧ ckeys T = G ∧
    (∀ x, x ∈ G ↔ (x ∉ ckeys C ∧ -L ≤ x ∧ x ≤ L ∧ x ∈ cs.map (·.1))) ∧ G.Nodup ∧ ∀ p ∈ T, ∃ k, p.2 = some k ∧ (p.1, k) ∈ cs
  | [], C, F => ⟨[], [], by simp, rfl, by simp, by simp, (fun _ h => nomatch h)⟩
  | c :: cs, C, F => by
    rw [List.foldl_cons]
    by_cases e : -L ≤ c.1 ∧ c.1 ≤ L ∧ c.1 ∉ ckeys C
    · have s : stepC L (C, F) c = (C ++ [(c.1, some c.2)], F ++ [c.1]) := if_pos e
      rw [s]
      obtain ⟨T, G, h1, h2, h3, h4, h5⟩ := fold_spec cs (C ++ [(c.1, some c.2)]) (F ++ [c.1])
      refine ⟨(c.1, some c.2) :: T, c.1 :: G, by rw [h1]; simp, by rw [← h2]; rfl, fun x => ?_, ?_, fun p hp => ?_⟩
      · rw [List.mem_cons, h3, List.map_cons, List.mem_cons]
        unfold ckeys
        rw [List.map_append, List.mem_append]
        constructor
        · rintro (rfl | ⟨a, b, d, f⟩)
          · exact ⟨e.2.2, e.1, e.2.1, .inl rfl⟩
          · exact ⟨fun z => a (.inl z), b, d, .inr f⟩
        · rintro ⟨a, b, d, f⟩
          by_cases q : x = c.1
          · exact .inl q
          · rcases f with f | f
            · exact absurd f q
            · refine .inr ⟨fun z => ?_, b, d, f⟩
              rcases z with z | z
              · exact a z
              · exact q (by simpa using z)
      · refine List.nodup_cons.mpr ⟨fun z => ?_, h4⟩
        have := ((h3 _).mp z).1
        unfold ckeys at this
        rw [List.map_append, List.mem_append] at this
        exact this (.inr (by simp))
      · rcases List.mem_cons.mp hp with rfl | hp
        · exact ⟨c.2, rfl, List.mem_cons_self⟩
        · obtain ⟨k, a, b⟩ := h5 p hp
          exact ⟨k, a, List.mem_cons_of_mem _ b⟩
    · have s : stepC L (C, F) c = (C, F) := if_neg e
      rw [s]
      obtain ⟨T, G, h1, h2, h3, h4, h5⟩ := fold_spec cs C F
      refine ⟨T, G, h1, h2, fun x => ?_, h4, fun p hp => ?_⟩
      · rw [h3, List.map_cons, List.mem_cons]
        constructor
        · rintro ⟨a, b, d, f⟩
          exact ⟨a, b, d, .inr f⟩
        · rintro ⟨a, b, d, f⟩
          rcases f with f | f
          · exact absurd ⟨f ▸ b, f ▸ d, f ▸ a⟩ e
          · exact ⟨a, b, d, f⟩
      · obtain ⟨k, a, b⟩ := h5 p hp
        exact ⟨k, a, List.mem_cons_of_mem _ b⟩
theorem mem_cands {qs : DI} {R : List Int} {x : Int} : x ∈ (R.flatMap (cands qs)).map (·.1) ↔ ∃ n ∈ R, ∃ s ∈ qs.map (·.2), x = n + s := by
  rw [List.mem_map]
  constructor
  · rintro ⟨p, hp, rfl⟩
    obtain ⟨n, hn, hp⟩ := List.mem_flatMap.mp hp
    obtain ⟨q, hq, rfl⟩ := List.mem_map.mp hp
    exact ⟨n, hn, q.2, List.mem_map.mpr ⟨q, hq, rfl⟩, rfl⟩
  · rintro ⟨n, hn, s, hs, rfl⟩
    obtain ⟨q, hq, rfl⟩ := List.mem_map.mp hs
    exact ⟨(n + q.2, q.1), List.mem_flatMap.mpr ⟨n, hn, List.mem_map.mpr ⟨q, hq, rfl⟩⟩, rfl⟩
/-- what a turn finds -/
theorem wid_spec (L : Int) (qs : DI) (R : List Int) (C : CM) : ∃ T : CM, (wid L qs R C).1 = C ++ T ∧ (wid L qs R C).2 = ckeys T ∧ Found (qs.map (·.2)) L (ckeys C) R (ckeys T) ∧ ∀ p ∈ T, ∃ k s n, p = (n + s, some k) ∧ (k, s) ∈ qs ∧ n ∈ R := by
  obtain ⟨T, G, h1, h2, h3, h4, h5⟩ := fold_spec (L := L) (R.flatMap (cands qs)) C []
  refine ⟨T, by unfold wid; rw [wid_flat, h1], by unfold wid; rw [wid_flat, h1, h2]; rfl, ⟨fun x => by rw [h2, h3, mem_cands], by rw [h2]; exact h4⟩, fun p hp => ?_⟩
  obtain ⟨k, e, hm⟩ := h5 p hp
  obtain ⟨n, hn, hm⟩ := List.mem_flatMap.mp hm
  obtain ⟨q, hq, e2⟩ := List.mem_map.mp hm
  have e3 := (Prod.mk.inj e2).1
  have e4 := (Prod.mk.inj e2).2
  exact ⟨k, q.2, n, Prod.ext e3.symm e, by rw [← e4]; exact hq, hn⟩
/-! the whole search -/
inductive Run (L : Int) (qs : DI) : CM → List Int → CM → Prop
  | stop {C : CM} {R : List Int} : (R = [] ∨ (0 : Int) ∈ ckeys C) → Run L qs C R C
  | more {C C' : CM} {R : List Int} : R ≠ [] → (0 : Int) ∉ ckeys C → Run L qs (wid L qs R C).1 (wid L qs R C).2 C' → Run L qs C R C'
theorem Run.one {L : Int} {qs : DI} {C C1 C2 : CM} {R : List Int} (h : Run L qs C R C1) (h' : Run L qs C R C2) : C1 = C2 := by
  induction h with
  | stop e => cases h' with
    | stop _ => rfl
    | more a b _ => exact absurd e (fun z => z.elim a b)
  | more a b _ ih => cases h' with
    | stop e => exact absurd e (fun z => z.elim a b)
    | more _ _ r => exact ih r
/-- each number that came tells the step that led to it -/
def Back (qs : DI) (L a : Int) (C : CM) : Prop := ∀ p ∈ C, (p.2 = none ∧ p.1 = a) ∨ ∃ k s i, p.2 = some k ∧ (k, s) ∈ qs ∧ Dst (qs.map (·.2)) L a (i + 1) p.1 ∧ Dst (qs.map (·.2)) L a i (p.1 - s)
structure Mid (qs : DI) (L a : Int) (i : Nat) (C : CM) (R : List Int) : Prop where
  lev : Lev (qs.map (·.2)) L a i (ckeys C) R
  back : Back qs L a C
  fresh : (0 : Int) ∈ ckeys C → Dst (qs.map (·.2)) L a i 0
theorem Mid.start {qs : DI} {L a : Int} : Mid qs L a 0 [(a, none)] [a] := by
  refine ⟨.start, fun p hp => ?_, fun h => ?_⟩
  · rw [List.mem_singleton.mp hp]
    exact .inl ⟨rfl, rfl⟩
  · have : (0 : Int) = a := by simpa using h
    rw [← this]
    exact ⟨.zero, fun j hj => absurd hj (Nat.not_lt_zero _)⟩
theorem Mid.next {qs : DI} {L a : Int} {i : Nat} {C : CM} {R : List Int} (h : Mid qs L a i C R) (h0 : (0 : Int) ∉ ckeys C) : Mid qs L a (i + 1) (wid L qs R C).1 (wid L qs R C).2 := by
  obtain ⟨T, e1, e2, f, t⟩ := wid_spec L qs R C
  have nx := h.lev.next f
  rw [e1, e2]
  have ek : ckeys (C ++ T) = ckeys C ++ ckeys T := List.map_append
  refine ⟨by rw [ek]; exact nx, fun p hp => ?_, fun z => ?_⟩
  · rcases List.mem_append.mp hp with hp | hp
    · exact h.back p hp
    · obtain ⟨k, s, n, rfl, hq, hn⟩ := t p hp
      refine .inr ⟨k, s, i, rfl, hq, (nx.ring _).mp (List.mem_map.mpr ⟨_, hp, rfl⟩), ?_⟩
      have : n + s - s = n := by omega
      show Dst _ L a i (n + s - s)
      rw [this]
      exact (h.lev.ring n).mp hn
  · rw [ek] at z
    rcases List.mem_append.mp z with z | z
    · exact absurd z h0
    · exact (nx.ring 0).mp z
theorem Run.mid {qs : DI} {L a : Int} {C C' : CM} {R : List Int} (r : Run L qs C R C') : ∀ i, Mid qs L a i C R → ∃ j R', Mid qs L a j C' R' ∧ (R' = [] ∨ (0 : Int) ∈ ckeys C') := by
  induction r with
  | stop e => exact fun i h => ⟨i, _, h, e⟩
  | more a b _ ih => exact fun i h => ih (i + 1) (h.next b)
/-! tracing back -/
inductive Tr (qs : DI) (C : CM) : Int → DI → DI → Prop
  | stop {x : Int} {cs : DI} : getC C x = some none → Tr qs C x cs cs
  | more {x s : Int} {cs out : DI} {k : List Int} : getC C x = some (some k) → getI qs k = some s → Tr qs C (x - s) (putI cs k ((getI cs k).getD 0 + 1)) out → Tr qs C x cs out
theorem Tr.one {qs : DI} {C : CM} {x : Int} {cs o1 o2 : DI} (h : Tr qs C x cs o1) (h' : Tr qs C x cs o2) : o1 = o2 := by
  induction h with
  | stop e => cases h' with
    | stop _ => rfl
    | more a _ _ => rw [e] at a; cases a
  | more a b _ ih => cases h' with
    | stop e => rw [a] at e; cases e
    | more a' b' r =>
      rw [a] at a'
      cases a'
      rw [b] at b'
      cases b'
      exact ih r
def tot (cs : DI) : Int := (cs.map (·.2)).sum
theorem sum_putI (f : List Int → Int) {cs : DI} {k : List Int} (nd : (cs.map (·.1)).Nodup) (v : Int) : ((putI cs k v).map fun y => f y.1 * y.2).sum = (cs.map fun y => f y.1 * y.2).sum + f k * (v - (getI cs k).getD 0) := by
  by_cases c : k ∈ cs.map (·.1)
  · unfold putI
    rw [if_pos (by
      obtain ⟨p, hp, e⟩ := List.mem_map.mp c
      exact List.any_eq_true.mpr ⟨p, hp, decide_eq_true e⟩)]
    induction cs with
    | nil => cases c
    | cons q r ih =>
      have nd' : (q.1 :: r.map (·.1)).Nodup := nd
      obtain ⟨n1, n2⟩ := List.nodup_cons.mp nd'
      rw [List.map_cons, List.map_cons, List.map_cons, List.sum_cons, List.sum_cons]
      by_cases e : q.1 = k
      · have e2 : r.map (fun p => if p.1 = k then (p.1, v) else p) = r := by
          conv => rhs; rw [← List.map_id r]
          refine List.map_congr_left fun p hp => ?_
          have : ¬ p.1 = k := fun z => n1 (by rw [e, ← z]; exact List.mem_map.mpr ⟨p, hp, rfl⟩)
          rw [if_neg this]
          rfl
        rw [e2, if_pos e]
        have g : getI (q :: r) k = some q.2 := by simp [getI, e]
        rw [g]
        show f q.1 * v + _ = f q.1 * q.2 + _ + f k * (v - q.2)
        rw [e, Int.mul_sub]
        omega
      · rw [if_neg e]
        have g : getI (q :: r) k = getI r k := by simp [getI, e]
        rw [g]
        have c2 : k ∈ r.map (·.1) := by
          rcases List.mem_cons.mp c with c | c
          · exact absurd c.symm e
          · exact c
        have := ih n2 c2
        omega
  · rw [putI_new c, getI_none c, List.map_append, List.sum_append]
    simp
theorem Tr.spec {qs : DI} {L a : Int} {C : CM} (hC : (ckeys C).Nodup) (hb : Back qs L a C) (nq : (qs.map (·.1)).Nodup) {x : Int} {cs out : DI} (t : Tr qs C x cs out) :
    ∀ i, Dst (qs.map (·.2)) L a i x → (cs.map (·.1)).Nodup → (∀ p ∈ cs, 1 ≤ p.2 ∧ p.1 ∈ qs.map (·.1)) →
    tot out = tot cs + i ∧ atC qs out = atC qs cs + (x - a) ∧ (out.map (·.1)).Nodup ∧ ∀ p ∈ out, 1 ≤ p.2 ∧ p.1 ∈ qs.map (·.1) := by
  induction t with
  | @stop x cs e =>
    intro i d nd hp
    have : x = a := by
      rcases hb _ (getC_mem e) with h | ⟨_, _, _, h, _⟩
      · exact h.2
      · cases h
    subst this
    have := dst0 d
    subst this
    exact ⟨by simp, by omega, nd, hp⟩
  | @more x s cs out k e g _ ih =>
    intro i d nd hp
    rcases hb _ (getC_mem e) with h | ⟨k', s', j, h, hm, d1, d2⟩
    · cases h.1
    · cases h
      have gs : getI qs k = some s' := getI_mem nq hm
      rw [g] at gs
      cases gs
      have ij := d.one d1
      subst ij
      have nx : ∀ p ∈ putI cs k ((getI cs k).getD 0 + 1), 1 ≤ p.2 ∧ p.1 ∈ qs.map (·.1) := fun p hp2 => by
        have g2 := getI_mem (nd_putI nd) hp2
        rw [getI_putI] at g2
        split at g2
        · next e3 =>
          have e4 := Option.some.inj g2
          refine ⟨?_, by rw [e3]; exact List.mem_map.mpr ⟨_, hm, rfl⟩⟩
          cases g5 : getI cs k with
          | none =>
            rw [g5] at e4
            have : p.2 = 1 := e4.symm
            omega
          | some z =>
            rw [g5] at e4
            have h6 := (hp _ (mem_getI g5)).1
            have : p.2 = z + 1 := e4.symm
            have h7 : 1 ≤ z := h6
            omega
        · exact hp _ (mem_getI g2)
      obtain ⟨i1, i2, i3, i4⟩ := ih j d2 (nd_putI nd) nx
      have s1 := sum_putI (fun _ => 1) (k := k) nd ((getI cs k).getD 0 + 1)
      have s2 := sum_putI (gt qs) (k := k) nd ((getI cs k).getD 0 + 1)
      have gg : gt qs k = s := by unfold gt; rw [g]; rfl
      rw [gg, show (getI cs k).getD 0 + 1 - (getI cs k).getD 0 = 1 by omega, Int.mul_one] at s2
      simp only [Int.one_mul] at s1
      unfold tot at i1 ⊢
      unfold atC at i2 ⊢
      exact ⟨by omega, by omega, i3, i4⟩
/-! fewest -/
def OneS (st : Int) (qs : DI) : Prop := (0 < st ∧ ∀ p ∈ qs, 0 ≤ p.2) ∨ (st < 0 ∧ ∀ p ∈ qs, p.2 ≤ 0)
def IsLim (L st : Int) (qs : DI) : Prop := L ∈ (if st < 0 then -st else st) :: qs.map (fun p => if p.2 < 0 then -p.2 else p.2) ∧ ∀ y ∈ (if st < 0 then -st else st) :: qs.map (fun p => if p.2 < 0 then -p.2 else p.2), y ≤ L
theorem IsLim.one {L L' st : Int} {qs : DI} (h : IsLim L st qs) (h' : IsLim L' st qs) : L = L' := Int.le_antisymm (h'.2 _ h.1) (h.2 _ h'.1)
theorem IsLim.start {L st : Int} {qs : DI} (h : IsLim L st qs) : -L ≤ st ∧ st ≤ L := by
  have := h.2 _ List.mem_cons_self
  split at this <;> omega
theorem IsLim.step {L st : Int} {qs : DI} (h : IsLim L st qs) : ∀ s ∈ qs.map (·.2), -L ≤ s ∧ s ≤ L := fun s hs => by
  obtain ⟨p, hp, rfl⟩ := List.mem_map.mp hs
  have := h.2 _ (List.mem_cons_of_mem _ (List.mem_map.mpr ⟨p, hp, rfl⟩))
  show -L ≤ p.2 ∧ p.2 ≤ L
  split at this <;> omega
def Few (st : Int) (qs : DI) : Option DI → Prop
  | none => OneS st qs ∨ (¬ OneS st qs ∧ ∃ L C, IsLim L st qs ∧ Run L qs [(st, none)] [st] C ∧ (0 : Int) ∉ ckeys C)
  | some r => ¬ OneS st qs ∧ ∃ L C, IsLim L st qs ∧ Run L qs [(st, none)] [st] C ∧ (0 : Int) ∈ ckeys C ∧ Tr qs C 0 [] r
theorem Few.one {st : Int} {qs : DI} {r r' : Option DI} (h : Few st qs r) (h' : Few st qs r') : r = r' := by
  cases r with
  | none => cases r' with
    | none => rfl
    | some b =>
      obtain ⟨n, L', C', l', u', m', _⟩ := h'
      rcases h with h | ⟨_, L, C, l, u, m⟩
      · exact absurd h n
      · have := l.one l'
        subst this
        have := u.one u'
        subst this
        exact absurd m' m
  | some a =>
    obtain ⟨n, L, C, l, u, m, t⟩ := h
    cases r' with
    | none =>
      rcases h' with h' | ⟨_, L', C', l', u', m'⟩
      · exact absurd h' n
      · have := l.one l'
        subst this
        have := u.one u'
        subst this
        exact absurd m m'
    | some b =>
      obtain ⟨_, L', C', l', u', m', t'⟩ := h'
      have := l.one l'
      subst this
      have := u.one u'
      subst this
      rw [t.one t']
theorem ones_never {st : Int} {qs : DI} (h : OneS st qs) {n : Nat} : ¬ Rch (qs.map (·.2)) st n 0 := fun r => by
  obtain ⟨l, _, h2, h3⟩ := r.list
  rcases h with ⟨h0, h⟩ | ⟨h0, h⟩
  · obtain ⟨s, hs, hn⟩ := neg_of_sum (l := l) (by omega)
    obtain ⟨p, hp, rfl⟩ := List.mem_map.mp (h2 s hs)
    have := h p hp
    omega
  · obtain ⟨s, hs, hn⟩ := pos_of_sum (l := l) (by omega)
    obtain ⟨p, hp, rfl⟩ := List.mem_map.mp (h2 s hs)
    have := h p hp
    omega
theorem Few.none_least {st : Int} {qs : DI} (h : Few st qs none) : Least (qs.map (·.2)) st none := by
  rcases h with h | ⟨_, L, C, l, u, m⟩
  · exact fun n => ones_never h
  · obtain ⟨j, R, md, e⟩ := u.mid (a := st) 0 .start
    rcases e with e | e
    · subst e
      exact least_none l.step l.start md.lev m
    · exact absurd e m
theorem Few.some_spec {st : Int} {qs r : DI} (nq : (qs.map (·.1)).Nodup) (h : Few st qs (some r)) : ∃ i : Nat, Least (qs.map (·.2)) st (some i) ∧ tot r = i ∧ st + atC qs r = 0 ∧ (r.map (·.1)).Nodup ∧ ∀ p ∈ r, 1 ≤ p.2 ∧ p.1 ∈ qs.map (·.1) := by
  obtain ⟨_, L, C, l, u, m, t⟩ := h
  obtain ⟨j, R, md, _⟩ := u.mid (a := st) 0 .start
  have d := md.fresh m
  obtain ⟨h1, h2, h3, h4⟩ := t.spec md.lev.nd md.back nq j d List.nodup_nil (fun _ z => nomatch z)
  refine ⟨j, least_some l.step l.start d, ?_, ?_, h3, h4⟩
  · rw [h1]
    show (0 : Int) + j = j
    omega
  · have : atC qs [] = 0 := rfl
    rw [this] at h2
    omega
theorem le_tot : ∀ {cs : DI}, (∀ p ∈ cs, 1 ≤ p.2) → ∀ p ∈ cs, p.2 ≤ tot cs
  | [], _, p, hp => by cases hp
  | q :: r, h, p, hp => by
    have nn : ∀ {cs : DI}, (∀ p ∈ cs, 1 ≤ p.2) → 0 ≤ tot cs := by
      intro cs
      induction cs with
      | nil => exact fun _ => Int.le_refl _
      | cons q r ih =>
        intro h
        have a := h q List.mem_cons_self
        have b := ih fun p hp => h p (List.mem_cons_of_mem _ hp)
        unfold tot at b ⊢
        rw [List.map_cons, List.sum_cons]
        omega
    have a := h q List.mem_cons_self
    have b := nn fun p hp => h p (List.mem_cons_of_mem q hp)
    have e : tot (q :: r) = q.2 + tot r := by unfold tot; rw [List.map_cons, List.sum_cons]
    rw [e]
    rcases List.mem_cons.mp hp with rfl | hp
    · omega
    · have := le_tot (fun p hp => h p (List.mem_cons_of_mem q hp)) p hp
      omega
theorem Few.small {st : Int} {qs r : DI} (nq : (qs.map (·.1)).Nodup) (h : Few st qs (some r)) (hst : -10000 ≤ st ∧ st ≤ 10000) (hq : ∀ q ∈ qs, -10000 ≤ q.2 ∧ q.2 ≤ 10000) : ∀ p ∈ r, -100000 ≤ p.2 ∧ p.2 ≤ 100000 := by
  obtain ⟨_, L, C, l, u, m, t⟩ := h
  obtain ⟨j, R, md, _⟩ := u.mid (a := st) 0 .start
  have d := md.fresh m
  obtain ⟨h1, h2, h3, h4⟩ := t.spec md.lev.nd md.back nq j d List.nodup_nil (fun _ z => nomatch z)
  have fw := d.le2 l.start
  have Lb : L ≤ 10000 := by
    rcases List.mem_cons.mp l.1 with e | e
    · split at e <;> omega
    · obtain ⟨y, hy, e⟩ := List.mem_map.mp e
      have := hq y hy
      split at e <;> omega
  intro p hp
  have a := (h4 p hp).1
  have b := le_tot (fun p hp => (h4 p hp).1) p hp
  rw [h1] at b
  have e0 : tot [] = 0 := rfl
  rw [e0] at b
  omega
end Bw

/-! Sl2: comprehensions of ints over a locked dict told by any expression, over lists of ints. -/
namespace Sl
open PySem L2 Sm
/-- [F for k in d], d told by td -/
theorem lock_intsG {σ : L2.St} {H : Hp} {c : Addr} {r : DI} {j : Nat} {te td : TE} {F : List Int → Int → Int} {Q : VK} (hc : H c = some (.dT (enc r))) (hsz : r.length < 1000)
    (hd : ∀ (H' : Hp) (R : VK), (∀ b o, H b = some o → b ≠ c → H' b = some o) → R (.ref c) H' → td σ H' R)
    (step : ∀ (od : Obj) (H' : Hp) (k : List Int) (z : Int) (t : Addr), (∀ b o, H b = some o → b ≠ c → H' b = some o) → H' c = some (.frz od (.dT (enc r))) → (k, z) ∈ r → H' t = some (.tup (k.map V.int)) →
      ∀ R : VK, R (.int (F k z)) H' → te ((wipe σ [j]).set j (some (.ref t))) H' R)
    (done : ∀ (D : Addr) (H' : Hp), H D = none → Same H H' → H' D = some (.lst ((r.map fun y => F y.1 y.2).map V.int)) → Q (.ref D) H') : tLockE (tLc (iKeys td) (gName j) tYes te [j]) σ H Q := by
  refine ⟨c, _, hc, trivial, fun od => ?_⟩
  refine Eg.w_lc (Eg.w_iK (hd _ _ (fun b o e hn => Eg.upd_mut hn e) (Eg.c_iKT upd_same ?_)))
  intro D hD
  have hDc : D ≠ c := fun e => by rw [e, upd_same] at hD; cases hD
  have hD0 : H D = none := by rw [upd_ne hDc] at hD; exact hD
  refine lc_it walk_keysT (fun n H' => H' c = some (.frz od (.dT (enc r))) ∧ H' D = some (.lst (((r.take n).map fun y => F y.1 y.2).map V.int)) ∧ ∀ b o, H b = some o → b ≠ c → H' b = some o) ?_ (fun n H' _ h => h.1) ?_ ?_
  · exact ⟨Eg.upd_old upd_same hD, upd_same, fun b o e hn => Eg.upd_old (Eg.upd_mut hn e) hD⟩
  · rintro n y _ _ hn ⟨h1, h2, h3⟩ ⟨rfl, k, v, t, hk, rfl, ht⟩
    obtain ⟨kk, z, hkz, rfl, rfl⟩ := inl_key hk
    rw [ek_kV] at ht
    obtain ⟨hlt, he⟩ := List.getElem?_eq_some_iff.mp hkz
    refine Eg.w_gN (Eg.w_wipe ?_ (Eg.w_yes (iteT (step od _ kk z t h3 h1 (List.mem_of_getElem? hkz) ht _ ?_))))
    · show (((σ.set j none).set j (some (.ref t))).set j none) = σ.set j none
      rw [List.set_set, List.set_set]
    · refine ⟨_, h2, ?_, Eg.upd_mut hDc.symm h1, ?_, fun b o e hne => Eg.upd_mut (ne_of_none e hD0) (h3 b o e hne)⟩
      · rw [List.length_map, List.length_map, List.length_take, sizeLine_eq]
        omega
      · rw [upd_same, List.take_succ_eq_append_getElem hlt, he]
        simp
  · rintro H1 ⟨h1, h2, h3⟩
    refine ⟨h1, done D _ hD0 (fun b o e => ?_) (Eg.upd_mut hDc ?_)⟩
    · by_cases hb : b = c
      · rw [hb, upd_same]
        rw [hb, hc] at e
        exact e
      · exact Eg.upd_mut hb (h3 b o e hb)
    · rw [h2]
      unfold enc
      rw [List.length_map, List.take_length]
theorem tups_pairs {H : Hp} {xs : List V} {ks : List (List Int)} (h : TupsAt H xs ks) : ∃ L : List (Addr × List Int), xs = L.map (fun q => V.ref q.1) ∧ L.map (·.2) = ks ∧ ∀ q ∈ L, H q.1 = some (.tup (q.2.map V.int)) := by
  induction h with
  | nil => exact ⟨[], rfl, rfl, fun _ z => nomatch z⟩
  | @cons a b as bs hab r ih =>
    obtain ⟨t, rfl, ht⟩ := hab
    obtain ⟨L, e1, e2, e3⟩ := ih
    refine ⟨(t, b) :: L, by rw [List.map_cons, e1], by rw [List.map_cons, e2], fun q hq => ?_⟩
    rcases List.mem_cons.mp hq with rfl | hq
    · exact ht
    · exact e3 q hq
theorem pairs_tups {H : Hp} {L : List (Addr × List Int)} (h : ∀ q ∈ L, H q.1 = some (.tup (q.2.map V.int))) : TupsAt H (L.map fun q => V.ref q.1) (L.map (·.2)) := by
  induction L with
  | nil => exact .nil
  | cons q r ih => exact .cons ⟨q.1, rfl, h q List.mem_cons_self⟩ (ih fun y hy => h y (List.mem_cons_of_mem _ hy))
theorem nz_succ {ps : DI} {i : Nat} {p : List Int × Int} (h : ps[i]? = some p) : nz (ps.take (i + 1)) = nz (ps.take i) ++ nz [p] := by
  obtain ⟨hl, e⟩ := List.getElem?_eq_some_iff.mp h
  rw [List.take_succ_eq_append_getElem hl, e, nz, List.filter_append]
  rfl
/-- [k for k in d if d[k] != 0] -/
theorem lock_keysG {σ : L2.St} {H : Hp} {c : Addr} {r : DI} {j : Nat} {td : TE} {tt : TT} {Q : VK} (hj : j < σ.length) (hc : H c = some (.dT (enc r))) (hsz : r.length < 1000)
    (hd : ∀ (H' : Hp) (R : VK), (∀ b o, H b = some o → b ≠ c → H' b = some o) → R (.ref c) H' → td σ H' R)
    (test : ∀ (od : Obj) (H' : Hp) (k : List Int) (z : Int) (t : Addr), (∀ b o, H b = some o → b ≠ c → H' b = some o) → H' c = some (.frz od (.dT (enc r))) → (k, z) ∈ r → H' t = some (.tup (k.map V.int)) →
      ∀ R : Bool → Hp → Prop, R (decide (z ≠ 0)) H' → tt ((wipe σ [j]).set j (some (.ref t))) H' R)
    (done : ∀ (D : Addr) (ys : List V) (H' : Hp), H D = none → Same H H' → H' D = some (.lst ys) → TupsAt H' ys ((nz r).map (·.1)) → Q (.ref D) H') : tLockE (tLc (iKeys td) (gName j) tt (tVar j) [j]) σ H Q := by
  refine ⟨c, _, hc, trivial, fun od => ?_⟩
  refine Eg.w_lc (Eg.w_iK (hd _ _ (fun b o e hn => Eg.upd_mut hn e) (Eg.c_iKT upd_same ?_)))
  intro D hD
  have hDc : D ≠ c := fun e => by rw [e, upd_same] at hD; cases hD
  have hD0 : H D = none := by rw [upd_ne hDc] at hD; exact hD
  refine lc_it walk_keysT (fun n H' => H' c = some (.frz od (.dT (enc r))) ∧ (∃ ys, H' D = some (.lst ys) ∧ TupsAt H' ys ((nz (r.take n)).map (·.1))) ∧ ∀ b o, H b = some o → b ≠ c → H' b = some o) ?_ (fun n H' _ h => h.1) ?_ ?_
  · exact ⟨Eg.upd_old upd_same hD, ⟨[], upd_same, .nil⟩, fun b o e hn => Eg.upd_old (Eg.upd_mut hn e) hD⟩
  · rintro n y _ H1 hn ⟨h1, ⟨ys, h2, ty⟩, h3⟩ ⟨rfl, k, v, t, hk, rfl, ht⟩
    obtain ⟨kk, z, hkz, rfl, rfl⟩ := inl_key hk
    rw [ek_kV] at ht
    refine Eg.w_gN (Eg.w_wipe ?_ (test od _ kk z t h3 h1 (List.mem_of_getElem? hkz) ht _ ?_))
    · show (((σ.set j none).set j (some (.ref t))).set j none) = σ.set j none
      rw [List.set_set, List.set_set]
    have tyl := ty.len
    have fl := List.length_filter_le (fun p : List Int × Int => decide (p.2 ≠ 0)) (r.take n)
    rw [List.length_take] at fl
    rw [List.length_map] at tyl
    unfold nz at tyl
    by_cases hz : z = 0
    · rw [decide_eq_false (fun h => h hz)]
      refine iteF ⟨h1, ⟨ys, h2, ?_⟩, h3⟩
      rw [nz_succ hkz, hz, List.map_append, show (nz [((kk, 0) : List Int × Int)]).map (·.1) = [] from by simp [nz], List.append_nil]
      exact ty
    · rw [decide_eq_true hz]
      refine iteT (Eg.w_var (v := .ref t) ?_ ⟨_, h2, by rw [sizeLine_eq]; omega, Eg.upd_mut hDc.symm h1, ⟨_, upd_same, ?_⟩, fun b o e hne => Eg.upd_mut (ne_of_none e hD0) (h3 b o e hne)⟩)
      · show ((σ.set j none).set j (some (.ref t)))[j]? = _
        rw [List.getElem?_set_self (by rw [List.length_set]; exact hj)]
      · rw [nz_succ hkz, List.map_append]
        refine TupsAt.app (ty.same (Eg.tup_upd h2)) ?_
        rw [show (nz [((kk, z) : List Int × Int)]).map (·.1) = [kk] from by simp [nz, hz]]
        exact .cons ⟨t, rfl, Eg.tup_upd h2 _ _ ht⟩ .nil
  · rintro H1 ⟨h1, ⟨ys, h2, ty⟩, h3⟩
    have el : (enc r).length = r.length := by unfold enc; rw [List.length_map]
    rw [el, List.take_length] at ty
    refine ⟨h1, done D ys _ hD0 (fun b o e => ?_) (Eg.upd_mut hDc h2) (ty.same fun b zs e => ?_)⟩
    · by_cases hb : b = c
      · rw [hb, upd_same]
        rw [hb, hc] at e
        exact e
      · exact Eg.upd_mut hb (h3 b o e hb)
    · rw [upd_ne (ne_of e h1 (fun z => nomatch z))]
      exact e
/-- [z for z in xs if P z] -/
theorem filt_ints {K : PySem.W.Frag} {σ : L2.St} {H : Hp} {a : Addr} {xs : List Int} {j : Nat} {ti : TE} {tt : TT} {P : Int → Bool} {Q : VK} (hj : j < σ.length) (ha : SqL K H a (xs.map V.int)) (hsz : xs.length < 100000)
    (hi : ∀ R : VK, R (.ref a) H → ti σ H R) (keep : ∀ H', Same H H' → SqL K H' a (xs.map V.int))
    (test : ∀ (H' : Hp) (z : Int) (R : Bool → Hp → Prop), Same H H' → z ∈ xs → R (P z) H' → tt ((wipe σ [j]).set j (some (.int z))) H' R)
    (done : ∀ (D : Addr) (H' : Hp), H D = none → Same H H' → H' D = some (.lst ((xs.filter P).map V.int)) → Q (.ref D) H') : tLc (iList K ti) (gName j) tt (tVar j) [j] σ H Q := by
  refine Eg.w_lc (Eg.w_iL (hi _ (Eg.c_iL ha ?_)))
  intro D hD
  refine lc_list (xs := xs.map V.int) (fun n H' => Same H H' ∧ H' D = some (.lst (((xs.take n).filter P).map V.int))) ⟨Eg.same_new (Same.refl _) hD, upd_same⟩ (fun n H' _ h => keep _ h.1) ?_ ?_
  · rintro n x H1 hx ⟨s1, h2⟩
    rw [List.getElem?_map] at hx
    obtain ⟨z, hz, rfl⟩ := Option.map_eq_some_iff.mp hx
    obtain ⟨hlt, he⟩ := List.getElem?_eq_some_iff.mp hz
    refine Eg.w_gN (Eg.w_wipe ?_ (test H1 z _ s1 (List.mem_of_getElem? hz) ?_))
    · show (((σ.set j none).set j (some (.int z))).set j none) = σ.set j none
      rw [List.set_set, List.set_set]
    · have fl := List.length_filter_le P (xs.take n)
      rw [List.length_take] at fl
      cases hp : P z with
      | true =>
        refine iteT (Eg.w_var (v := .int z) ?_ ⟨_, h2, ?_, Eg.same_mut s1 hD, ?_⟩)
        · show ((σ.set j none).set j (some (.int z)))[j]? = _
          rw [List.getElem?_set_self (by rw [List.length_set]; exact hj)]
        · rw [List.length_map, sizeLine_eq]
          omega
        · rw [upd_same, List.take_succ_eq_append_getElem hlt, he, List.filter_append]
          simp [hp]
      | false =>
        refine iteF ⟨s1, ?_⟩
        rw [h2, List.take_succ_eq_append_getElem hlt, he, List.filter_append]
        simp [hp]
  · rintro H1 ⟨s1, h2⟩
    rw [List.length_map, List.take_length] at h2
    exact done D H1 hD s1 h2
/-- [F z for z in xs] -/
theorem map_ints {K : PySem.W.Frag} {σ : L2.St} {H : Hp} {a : Addr} {xs : List Int} {j : Nat} {ti te : TE} {F : Int → Int} {Q : VK} (ha : SqL K H a (xs.map V.int)) (hsz : xs.length < 100000)
    (hi : ∀ R : VK, R (.ref a) H → ti σ H R) (keep : ∀ H', Same H H' → SqL K H' a (xs.map V.int))
    (elt : ∀ (H' : Hp) (z : Int) (R : VK), Same H H' → z ∈ xs → R (.int (F z)) H' → te ((wipe σ [j]).set j (some (.int z))) H' R)
    (done : ∀ (D : Addr) (H' : Hp), H D = none → Same H H' → H' D = some (.lst ((xs.map F).map V.int)) → Q (.ref D) H') : tLc (iList K ti) (gName j) tYes te [j] σ H Q := by
  refine Eg.w_lc (Eg.w_iL (hi _ (Eg.c_iL ha ?_)))
  intro D hD
  refine lc_list (xs := xs.map V.int) (fun n H' => Same H H' ∧ H' D = some (.lst (((xs.take n).map F).map V.int))) ⟨Eg.same_new (Same.refl _) hD, upd_same⟩ (fun n H' _ h => keep _ h.1) ?_ ?_
  · rintro n x H1 hx ⟨s1, h2⟩
    rw [List.getElem?_map] at hx
    obtain ⟨z, hz, rfl⟩ := Option.map_eq_some_iff.mp hx
    obtain ⟨hlt, he⟩ := List.getElem?_eq_some_iff.mp hz
    refine Eg.w_gN (Eg.w_wipe ?_ (Eg.w_yes (iteT (elt H1 z _ s1 (List.mem_of_getElem? hz) ⟨_, h2, ?_, Eg.same_mut s1 hD, ?_⟩))))
    · show (((σ.set j none).set j (some (.int z))).set j none) = σ.set j none
      rw [List.set_set, List.set_set]
    · rw [List.length_map, List.length_map, List.length_take, sizeLine_eq]
      omega
    · rw [upd_same, List.take_succ_eq_append_getElem hlt, he]
      simp
  · rintro H1 ⟨s1, h2⟩
    rw [List.length_map, List.take_length] at h2
    exact done D H1 hD s1 h2
/-- [n for n in d if P n], d with int keys -/
theorem lock_keysI {σ : L2.St} {H : Hp} {c : Addr} {kvs : List (Key × V)} {xs : List Int} {j : Nat} {td : TE} {tt : TT} {P : Int → Bool} {Q : VK} (hj : j < σ.length) (hc : H c = some (.dK kvs)) (hk : kvs.map (·.1) = xs.map Sum.inl) (hsz : xs.length < 100000)
    (hd : ∀ (H' : Hp) (R : VK), (∀ b o, H b = some o → b ≠ c → H' b = some o) → R (.ref c) H' → td σ H' R)
    (test : ∀ (H' : Hp) (z : Int), (∀ b o, H b = some o → b ≠ c → H' b = some o) → z ∈ xs → ∀ R : Bool → Hp → Prop, R (P z) H' → tt ((wipe σ [j]).set j (some (.int z))) H' R)
    (done : ∀ (D : Addr) (H' : Hp), H D = none → Same H H' → H' D = some (.lst ((xs.filter P).map V.int)) → Q (.ref D) H') : tLockE (tLc (iKeys td) (gName j) tt (tVar j) [j]) σ H Q := by
  refine ⟨c, _, hc, trivial, fun od => ?_⟩
  refine Eg.w_lc (Eg.w_iK (hd _ _ (fun b o e hn => Eg.upd_mut hn e) (Eg.c_iKK upd_same ?_)))
  intro D hD
  have hDc : D ≠ c := fun e => by rw [e, upd_same] at hD; cases hD
  have hD0 : H D = none := by rw [upd_ne hDc] at hD; exact hD
  have hl : kvs.length = xs.length := by
    have := congrArg List.length hk
    simpa only [List.length_map] using this
  refine lc_it walk_keys (fun n H' => H' c = some (.frz od (.dK kvs)) ∧ H' D = some (.lst (((xs.take n).filter P).map V.int)) ∧ ∀ b o, H b = some o → b ≠ c → H' b = some o) ?_ (fun n H' _ h => h.1) ?_ ?_
  · exact ⟨Eg.upd_old upd_same hD, upd_same, fun b o e hn => Eg.upd_old (Eg.upd_mut hn e) hD⟩
  · rintro n y _ H1 hn ⟨h1, h2, h3⟩ ⟨rfl, k, v, hkv, rfl⟩
    have hx : (xs.map (Sum.inl : Int → Key))[n]? = some k := by rw [← hk, List.getElem?_map, hkv]; rfl
    rw [List.getElem?_map] at hx
    obtain ⟨z, hz, rfl⟩ := Option.map_eq_some_iff.mp hx
    obtain ⟨hlt, he⟩ := List.getElem?_eq_some_iff.mp hz
    refine Eg.w_gN (Eg.w_wipe ?_ (test H1 z h3 (List.mem_of_getElem? hz) _ ?_))
    · show (((σ.set j none).set j (some (.int z))).set j none) = σ.set j none
      rw [List.set_set, List.set_set]
    · have fl := List.length_filter_le P (xs.take n)
      rw [List.length_take] at fl
      cases hp : P z with
      | true =>
        refine iteT (Eg.w_var (v := .int z) ?_ ⟨_, h2, ?_, Eg.upd_mut hDc.symm h1, ?_, fun b o e hne => Eg.upd_mut (ne_of_none e hD0) (h3 b o e hne)⟩)
        · show ((σ.set j none).set j (some (.int z)))[j]? = _
          rw [List.getElem?_set_self (by rw [List.length_set]; exact hj)]
        · rw [List.length_map, sizeLine_eq]
          omega
        · rw [upd_same, List.take_succ_eq_append_getElem hlt, he, List.filter_append]
          simp [hp]
      | false =>
        refine iteF ⟨h1, ?_, h3⟩
        rw [h2, List.take_succ_eq_append_getElem hlt, he, List.filter_append]
        simp [hp]
  · rintro H1 ⟨h1, h2, h3⟩
    rw [hl, List.take_length] at h2
    refine ⟨h1, done D _ hD0 (fun b o e => ?_) (Eg.upd_mut hDc h2)⟩
    by_cases hb : b = c
    · rw [hb, upd_same]
      rw [hb, hc] at e
      exact e
    · exact Eg.upd_mut hb (h3 b o e hb)
theorem inV_ints (n : Int) (xs : List Int) : inV (.int n) (xs.map V.int) = decide (n ∈ xs) := by
  unfold inV
  rw [List.any_map]
  by_cases c : n ∈ xs
  · rw [decide_eq_true c]
    exact List.any_eq_true.mpr ⟨n, c, by simp [eqV]⟩
  · rw [decide_eq_false c]
    refine List.any_eq_false.mpr fun y hy e => c ?_
    have : y = n := by
      have e : eqV (.int y) (.int n) = true := e
      simpa [eqV] using e
    rw [← this]
    exact hy
/-- the numbers that were seen -/
def SeenL (H : Hp) (d : Addr) (xs : List Int) : Prop := H d = some (.dK (xs.map fun x => (Sum.inl x, V.bl true)))
theorem seen_val {xs : List Int} {n : Int} : valV (xs.map fun x => ((Sum.inl x : Key), V.bl true)) (Sum.inl n) = if n ∈ xs then some (.bl true) else none := by
  induction xs with
  | nil => rfl
  | cons x r ih =>
    rw [List.map_cons]
    by_cases e : x = n
    · rw [valV_pos (by rw [e]), if_pos (by rw [e]; exact List.mem_cons_self)]
    · rw [valV_neg (fun z => e (Sum.inl.inj z)), ih]
      by_cases h : n ∈ r
      · rw [if_pos h, if_pos (List.mem_cons_of_mem _ h)]
      · rw [if_neg h, if_neg (fun z => (List.mem_cons.mp z).elim (fun z => e z.symm) h)]
theorem SeenL.get {H : Hp} {d : Addr} {xs : List Int} (h : SeenL H d xs) (n : Int) : ∃ r, DGet H d (.int n) r ∧ r.isSome = decide (n ∈ xs) := by
  refine ⟨_, DGet.k (k := Sum.inl n) h, ?_⟩
  rw [seen_val]
  by_cases e : n ∈ xs
  · rw [if_pos e, decide_eq_true e]; rfl
  · rw [if_neg e, decide_eq_false e]; rfl
theorem SeenL.put {H : Hp} {d : Addr} {xs : List Int} {n : Int} (h : SeenL H d xs) (hn : n ∉ xs) (hs : xs.length < 100000) :
    ∃ kvs, DPut H d (.int n) (.bl true) (upd H d (.dK kvs)) ∧ SeenL (upd H d (.dK kvs)) d (xs ++ [n]) := by
  have p := DPut.k (k := Sum.inl n) (v := .bl true) h (by rw [List.length_map, sizeLine_eq]; omega)
  rw [putK_new _ (by rw [seen_val, if_neg hn])] at p
  refine ⟨_, p, ?_⟩
  unfold SeenL
  rw [upd_same, List.map_append]
  rfl
theorem seen_keys (xs : List Int) : (xs.map fun x => ((Sum.inl x : Key), V.bl true)).map (·.1) = xs.map Sum.inl := by
  rw [List.map_map]
  rfl
end Sl
namespace Eg
open PySem L2
def dispLeaf (p : Addr) (x : V) (Q : VK) (y : V) (H2 : Hp) : Prop := H2 p = some (.dK []) ∧ ∃ k : Key, x = kV k ∧ Q (.ref p) (upd H2 p (.dK [(k, y)]))
theorem w_disp1 {tk tv : TE} {σ : L2.St} {H : Hp} {Q : VK} (h : ∀ p, H p = none → tk σ (upd H p (.dK [])) fun x H1 => tv σ H1 (dispLeaf p x Q)) : tDisp [(tk, tv)] σ H Q := by
  intro p hp
  show tk σ _ fun x H1 => tv σ H1 fun y H2 => _
  have e : (fun x H1 => tv σ H1 fun y H2 => H2 p = some (.dK []) ∧ ∃ kvs : List (Key × V), [(x, y)] = kvs.map (fun kv => (kV kv.1, kv.2)) ∧ kvs.length ≤ 15 ∧ Q (.ref p) (upd H2 p (.dK (mergeK [] kvs)))) = fun x H1 => tv σ H1 (dispLeaf p x Q) := by
    funext x H1
    congr 1
    funext y H2
    refine propext ⟨?_, ?_⟩
    · rintro ⟨h0, kvs, e, _, q⟩
      match kvs, e, q with
      | [(k, z)], e, q =>
        have e := (List.cons.inj e).1
        have e1 : x = kV k := (Prod.mk.inj e).1
        have e2 : y = z := (Prod.mk.inj e).2
        exact ⟨h0, k, e1, by rw [e2]; exact q⟩
    · rintro ⟨h0, k, e, q⟩
      exact ⟨h0, [(k, y)], by rw [e]; rfl, (show 1 ≤ 15 by decide), q⟩
  have := h p hp
  rw [← e] at this
  exact this
theorem c_dispI {H : Hp} {Q : VK} {p : Addr} {n : Int} {y : V} (h : H p = some (.dK [])) (q : Q (.ref p) (upd H p (.dK [(Sum.inl n, y)]))) : dispLeaf p (.int n) Q y H := ⟨h, Sum.inl n, rfl, q⟩
theorem c_min {K : PySem.W.Frag} {H : Hp} {p : Addr} {R : VK} {ns : List Int} (h : SqL K H p (ns.map V.int)) (h0 : 0 < ns.length) (q : ∀ m, m ∈ ns → (∀ y, y ∈ ns → m ≤ y) → R (.int m) H) : rMin K [V.ref p] H R := ⟨p, ns, rfl, h, h0, q⟩
def rTupQ (K : PySem.W.Frag) : List V → Hp → VK → Prop := fun xs H Q => ∃ p ys, xs = [V.ref p] ∧ ((SqL K H p ys ∧ ∀ l, H l = none → Q (.ref l) (upd H l (.tup ys))) ∨ (SqT K H p ys ∧ Q (.ref p) H))
theorem cr_tup {X : Cx} : CallR X (.type "tuple") (rTupQ X.K) := call_tuple_of
theorem c_tupL {K : PySem.W.Frag} {H : Hp} {p : Addr} {Q : VK} {ys : List V} (h : SqL K H p ys) (q : ∀ l, H l = none → Q (.ref l) (upd H l (.tup ys))) : rTupQ K [V.ref p] H Q := ⟨p, ys, rfl, .inl ⟨h, q⟩⟩
theorem c_sortI {K : PySem.W.Frag} {H : Hp} {p : Addr} {Q : VK} {ns : List Int} (h : SqL K H p (ns.map V.int)) (q : ∀ (ms : List Int) (l : Addr), ms.Perm ns → ms.Pairwise (· ≤ ·) → H l = none → Q (.ref l) (upd H l (.lst (ms.map V.int)))) : rSortedI K [V.ref p] H Q := ⟨p, ns, rfl, h, q⟩
end Eg

/-! Ow: what a class of the program's own answers to operators, len, [], truth, in, a call. -/
namespace Ow
open PySem PySem.Spec PyProof.Rows L2
section
variable {X : Cx} {CX : CXT} {k : Nat} {f : Addr} {fd : FuncData} {ps : List Str} {sp : Sp} {E : XK}
theorem run_in1 {pins : List (Addr × Obj)} {σ : L2.St} {H : Hp} {s : Shared} {Q : VK} {us : List Value} {vs : List V} (F : FnOk X.prog X.w X.K X.mg X.base CX k f fd ps sp) (hr : Room (k + 1) X.A) (hb : Binds X.K fd ps []) (hx : Passes CX X E)
    (I : Inv X pins σ H s) (r : Vals vs us) (h : sp vs H Q E) : wpAny (model X.prog X.w) X.A.in1 (call (.ref f) us) (EP X pins σ Q) X.xe s := by
  have hl : us.length = ps.length := by rw [← r.length]; exact F.len _ _ _ _ h
  have e0 : Env0 X.prog X.w X.K X.mg X.base X.A.in1 X.stack s H := by
    have e := I.env0
    exact ⟨e.frames, e.mod, e.bs, e.bsz, e.funs, e.frf, e.hok, e.bare⟩
  have b := hb s us I.kIn (by rw [List.append_nil]; exact hl)
  rw [List.append_nil] at b
  refine wpAny_call (codeAny_mono (F.run X.A.in1 X.stack s H ⟨us, []⟩ us vs Q E hr.in1 e0 b r h) fun z s' hq => ?_)
  cases z with
  | error e => exact hx pins σ H s e s' I hq
  | ok fl =>
    cases fl with
    | ret v => exact I.after hq
    | next => exact False.elim hq
    | brk => exact False.elim hq
    | cont => exact False.elim hq
theorem relNN {v : V} {u : Value} (r : RelV v u) : u ≠ .notImplemented := by
  rintro rfl
  cases v <;> first | (cases r; done) | (obtain ⟨_, e⟩ := r; cases e)
theorem back_of {Q : Value → Shared → Prop} {u : Value} {s : Shared} (h : u ≠ .notImplemented) (q : Q u s) : PySem.W.CmpBack Q u s := by
  cases u <;> first | exact q | exact absurd rfl h
/-- x op y by x's own method, y of the same class -/
def rOwn2 (C : Addr) (sp : Sp) (E : XK) : R2 := fun x y H Q => ∃ a b dx dy fs gs, x = .ref a ∧ y = .ref b ∧ H a = some (.ins C dx fs) ∧ H b = some (.ins C dy gs) ∧ sp [x, y] H Q E
theorem op_own2 {C : Addr} {op : Operator} (F : FnOk X.prog X.w X.K X.mg X.base CX k f fd ps sp) (hr : Room k X.A) (hc : PySem.W.selfFirst X.K C = true) (hm : Meth X.K C (PySem.dunder op.info.2) f) (hb : Binds X.K fd ps []) (hx : Passes CX X E) :
    OpR X (binaryOp op) (rOwn2 C sp E) := by
  intro pins s σ H x y v u Q I rx ry h
  obtain ⟨a, b, dx, dy, fs, gs, rfl, rfl, ha, hb', q⟩ := h
  have r2 : Vals [V.ref a, V.ref b] [v, u] := .cons rx (.cons ry .nil)
  cases rx
  cases ry
  obtain ⟨mA, J, _⟩ := ins_get I.hok ha
  obtain ⟨mB, J', _⟩ := ins_get I.hok hb'
  obtain ⟨od, J, _⟩ := J.look
  obtain ⟨od', J', _⟩ := J'.look
  obtain ⟨m, hF⟩ := I.fr
  refine PySem.W.binop_K hF I.ok.mod.kin J J'.type hc hm.at_ hm.fn ?_
  exact wpAny_mono (run_fn F hr hb .nil hx I r2 q) (fun z s' ⟨v', H', I', rz, q'⟩ => back_of (relNN rz) ⟨v', H', I', rz, q'⟩) fun _ _ z => z
/-- -x, ~x by its own method -/
def rOwn1 (C : Addr) (sp : Sp) (E : XK) : V → Hp → VK → Prop := fun x H Q => ∃ a dx fs, x = .ref a ∧ H a = some (.ins C dx fs) ∧ sp [x] H Q E
theorem un_own_neg {C : Addr} (F : FnOk X.prog X.w X.K X.mg X.base CX k f fd ps sp) (hr : Room k X.A) (hm : Meth X.K C "__neg__" f) (hb : Binds X.K fd ps []) (hx : Passes CX X E) : UnR X (unaryOp .USub) (rOwn1 C sp E) := by
  intro pins s σ H x v Q I rx h
  obtain ⟨a, dx, fs, rfl, ha, q⟩ := h
  have r1 : Vals [V.ref a] [v] := .cons rx .nil
  cases rx
  obtain ⟨mA, J, _⟩ := ins_get I.hok ha
  obtain ⟨od, J, _⟩ := J.look
  obtain ⟨m, hF⟩ := I.fr
  exact PySem.W.ksp_neg hF I.ok.mod.kin J hm.at_ hm.fn (run_fn F hr hb .nil hx I r1 q)
theorem un_own_inv {C : Addr} (F : FnOk X.prog X.w X.K X.mg X.base CX k f fd ps sp) (hr : Room k X.A) (hm : Meth X.K C "__invert__" f) (hb : Binds X.K fd ps []) (hx : Passes CX X E) : UnR X (unaryOp .Invert) (rOwn1 C sp E) := by
  intro pins s σ H x v Q I rx h
  obtain ⟨a, dx, fs, rfl, ha, q⟩ := h
  have r1 : Vals [V.ref a] [v] := .cons rx .nil
  cases rx
  obtain ⟨mA, J, _⟩ := ins_get I.hok ha
  obtain ⟨od, J, _⟩ := J.look
  obtain ⟨m, hF⟩ := I.fr
  exact PySem.W.ksp_inv hF I.ok.mod.kin J hm.at_ hm.fn (run_fn F hr hb .nil hx I r1 q)
/-- x[i] by its own __getitem__ -/
def rOwnIx (C : Addr) (sp : Sp) (E : XK) : R2 := fun x y H Q => ∃ a dx fs, x = .ref a ∧ H a = some (.ins C dx fs) ∧ sp [x, y] H Q E
variable {a b : Expr} {ta tb : TE} {pos : Pos}
theorem pe_ixOwn {C : Addr} (F : FnOk X.prog X.w X.K X.mg X.base CX k f fd ps sp) (hr : Room (k + 1) X.A) (hm : Meth X.K C "__getitem__" f) (hfn : PySem.W.fnIn X.K f = true) (hb : Binds X.K fd ps []) (hx : Passes CX X E) (ha : PE X a ta) (hb' : PE X b tb)
    (hsl : ∀ o i : Value, subscripted b true o i = runValue (.builtin "lifetime.subscript" ⟨[o, i], []⟩) := by intro o i; with_unfolding_all rfl) : PE X (.Subscript a b pos) (tOp (rOwnIx C sp E) ta tb) := by
  refine ⟨fun pins s σ H Q I h => ?_⟩
  refine Subscript_ (binT ha hb' I h fun v u s2 x y H2 I2 rx ry q => ?_)
  obtain ⟨p, dx, fs, rfl, hp, q⟩ := q
  have r2 : Vals [V.ref p, y] [v, u] := .cons rx (.cons ry .nil)
  cases rx
  obtain ⟨mA, J, _⟩ := ins_get I2.hok hp
  obtain ⟨od, J, _⟩ := J.look
  obtain ⟨m, hF⟩ := I2.fr
  exact PySem.W.sub_K hF I2.ok.mod.kin J hm.at_ hfn hm.fn (run_in1 F hr hb hx I2 r2 q) (hsl _ _)
/-- len(x) by its own __len__ -/
def rOwnLen (C : Addr) (sp : Sp) (E : XK) : List V → Hp → VK → Prop := fun xs H Q => ∃ a dx fs, xs = [.ref a] ∧ H a = some (.ins C dx fs) ∧ sp [.ref a] H (fun v H' => ∃ n : Int, v = .int n ∧ 0 ≤ n ∧ n < 2 ^ 63 ∧ Q (.int n) H') E
theorem cr_ownLen {C : Addr} (F : FnOk X.prog X.w X.K X.mg X.base CX k f fd ps sp) (hr : Room (k + 1) X.A) (hm : Meth X.K C "__len__" f) (hb : Binds X.K fd ps []) (hx : Passes CX X E) : CallR X (.builtin "len") (rOwnLen C sp E) := by
  intro pins s σ H xs us Q I r h
  obtain ⟨a, dx, fs, rfl, ha, q⟩ := h
  obtain ⟨u, rfl, rx⟩ := vals1 r
  cases rx
  obtain ⟨mA, J, _⟩ := ins_get I.hok ha
  obtain ⟨od, J, _⟩ := J.look
  obtain ⟨m, hF⟩ := I.fr
  refine PySem.W.len_K hF I.ok.mod.kin J hm.at_ hm.fn ?_
  refine wpAny_mono (run_in1 F hr hb hx I (us := [.ref a]) (.cons (show RelV (V.ref a) (.ref a) from rfl) .nil) q) (fun z s' ⟨v, H', I', rz, n, ev, n0, n1, q'⟩ => ?_) fun _ _ z => z
  subst ev
  obtain ⟨t, rfl⟩ := rz
  exact ⟨⟨n0, n1⟩, ⟨.int n, H', I'.tok _, ⟨_, rfl⟩, q'⟩⟩
end
section
variable {K : PySem.W.Frag} {X : Cx} {σ : L2.St} {H : Hp} {Q : VK} {E : XK} {sp : Sp} {C a b dx dy : Addr} {fs gs : List (Str × V)} {y : V} {tf : TE} {t : TA}
theorem c_own2 (ha : H a = some (.ins C dx fs)) (hb : H b = some (.ins C dy gs)) (q : sp [.ref a, .ref b] H Q E) : rOwn2 C sp E (.ref a) (.ref b) H Q := ⟨a, b, dx, dy, fs, gs, rfl, rfl, ha, hb, q⟩
theorem c_own1 (ha : H a = some (.ins C dx fs)) (q : sp [.ref a] H Q E) : rOwn1 C sp E (.ref a) H Q := ⟨a, dx, fs, rfl, ha, q⟩
theorem c_ownIx (ha : H a = some (.ins C dx fs)) (q : sp [.ref a, y] H Q E) : rOwnIx C sp E (.ref a) y H Q := ⟨a, dx, fs, rfl, ha, q⟩
theorem c_ownLen (ha : H a = some (.ins C dx fs)) (q : sp [.ref a] H (fun v H' => ∃ n : Int, v = .int n ∧ 0 ≤ n ∧ n < 2 ^ 63 ∧ Q (.int n) H') E) : rOwnLen C sp E [.ref a] H Q := ⟨a, dx, fs, rfl, ha, q⟩
def callLeaf (X : Cx) (C : Addr) (sp : Sp) (E : XK) (t : TA) (σ : L2.St) (Q : VK) (y : V) (H1 : Hp) : Prop := ∃ a, y = V.ref a ∧ t σ H1 fun vs H2 => StX.InsC X H2 a C ∧ sp (V.ref a :: vs) H2 Q E
theorem w_callO (h : tf σ H (callLeaf X C sp E t σ Q)) : StX.tCallO X C sp E tf t σ H Q := h
def callArgs (X : Cx) (C : Addr) (sp : Sp) (E : XK) (a : Addr) (Q : VK) (vs : List V) (H2 : Hp) : Prop := StX.InsC X H2 a C ∧ sp (V.ref a :: vs) H2 Q E
theorem c_callO (h : t σ H (callArgs X C sp E a Q)) : callLeaf X C sp E t σ Q (.ref a) H := ⟨a, rfl, h⟩
theorem c_callA {vs : List V} (h : H a = some (.ins C dx fs)) (q : sp (V.ref a :: vs) H Q E) : callArgs X C sp E a Q vs H := ⟨.inr ⟨dx, fs, h⟩, q⟩
def getLeaf (t : TE) (t' : TE) (σ : L2.St) (Q : VK) (x : V) (H1 : Hp) : Prop := ∃ a, x = .ref a ∧ IsD H1 a ∧ t σ H1 fun y H2 => t' σ H2 fun z H3 => ∃ o, DGet H3 a y o ∧ Q (o.getD z) H3
theorem w_dget2 {td ty tx : TE} (h : td σ H (getLeaf ty tx σ Q)) : tDGet2 td ty tx σ H Q := h
theorem c_dget2T {ty tx : TE} {kvs : List (List Key × V)} (h : Rd H a (.dT kvs)) (q : ty σ H fun y H2 => tx σ H2 fun z H3 => ∃ o, DGet H3 a y o ∧ Q (o.getD z) H3) : getLeaf ty tx σ Q (.ref a) H := ⟨a, rfl, .inr ⟨kvs, h⟩, q⟩
theorem w_aug {i : Nat} {te : TE} {ti : TIp} {D : Ends} {x : V} (h : σ[i]? = some (some x)) (q : te σ H fun y H1 => ti x y H1 fun z H2 => D.nx (σ.set i (some z)) H2) : tAug i te ti D σ H := ⟨x, h, q⟩
theorem c_ipI {f : Int → Int → Int} {i j : Int} (q : Q (.int (f i j)) H) : ipI f (.int i) (.int j) H Q := ⟨i, j, rfl, rfl, q⟩
theorem w_par3 {i j l : Nat} {D : Ends} (h : t σ H fun vs H1 => ∃ u v w, vs = [u, v, w] ∧ D.nx (((σ.set i (some u)).set j (some v)).set l (some w)) H1) : tPar3 i j l t D σ H := h
theorem c_par3 {G : V → V → V → Prop} {u v w : V} (q : G u v w) : ∃ x y z, [u, v, w] = [x, y, z] ∧ G x y z := ⟨u, v, w, rfl, q⟩
theorem nT : (!true) = false := rfl
end
end Ow

local macro_rules | `(tactic| walk_at "blk") => `(tactic| first | exact rfl | dsimp only [L2.cxOf, L2.Cx.nox, L2.Cx.wish, L2.Cx.blk])
local macro_rules | `(tactic| walk_at "hp") => `(tactic| first
  | assumption
  | exact L2.upd_same
  | (refine Eg.upd_old ?_ (by assumption); walk_at "hp")
  | (refine Eg.upd_mut (by first | assumption | exact Ne.symm (by assumption)) ?_; walk_at "hp")
  | (refine Eg.frame_at (by assumption) (by first | assumption | exact Ne.symm (by assumption)) ?_; walk_at "hp")
  | ((refine (show L2.Same _ _ by assumption) _ _ ?_); walk_at "hp"))
local macro_rules | `(tactic| walk_at "sq") => `(tactic| first
  | assumption
  | exact L2.SqL.of (by walk_at "hp")
  | exact L2.SqT.of (by walk_at "hp"))
local macro_rules | `(tactic| walk_at "g0") => `(tactic| first
  | with_reducible refine Eg.w_seq ?_
  | (with_reducible show L2.Ends.nx _ _ _; with_reducible refine Eg.w_nx ?_)
  | with_reducible refine Eg.w_asg ?_
  | with_reducible refine Eg.w_gN ?_
  | with_reducible refine Eg.w_op ?_
  | with_reducible refine Eg.w_c ?_
  | ((with_reducible refine' Eg.w_var ?hv ?_); (case hv => exact rfl))
  | with_reducible refine Eg.w_cons ?_
  | with_reducible refine Eg.w_nil ?_
  | with_reducible refine Eg.w_rI0 ?_
  | ((with_reducible refine' Eg.w_rI ?hc ?_); (case hc => walk_at "cond"))
  | with_reducible refine Eg.w_rU ?_
  | with_reducible refine Eg.w_un ?_
  | ((with_reducible refine' Eg.w_ixL ?hs ?hv ?_); (case hs => walk_at "sq"); (case hv => walk_at "at"))
  | ((with_reducible refine' Eg.w_ixT ?hs ?hv ?_); (case hs => walk_at "sq"); (case hv => walk_at "at"))
  | with_reducible refine Eg.w_cb ?_
  | with_reducible refine Eg.w_call ?_
  | with_reducible refine Eg.w_ifS ?_
  | with_reducible refine Eg.w_test ?_
  | with_reducible refine Eg.w_B ?_
  | with_reducible refine Eg.w_bl ?_
  | with_reducible refine Eg.w_bl' ?_
  | with_reducible refine Eg.w_ret ?_
  | (with_reducible show L2.Ends.rt _ _ _; with_reducible refine Eg.w_rt ?_)
  | with_reducible refine Eg.w_next ?_
  | with_reducible refine Eg.w_drop ?_
  | with_reducible refine Eg.w_gSub ?_
  | ((with_reducible refine' Eg.w_setL ?hs ?hv ?_); (case hs => walk_at "hp"); (case hv => exact rfl))
  | with_reducible refine Eg.c_int ?_
  | with_reducible refine Eg.c_abs ?_
  | with_reducible refine Eg.c_min2 ?_
  | with_reducible refine Eg.c_max2 ?_
  | with_reducible refine Eg.c_isN ?_
  | with_reducible refine Eg.c_notN ?_
  | ((with_reducible refine' Eg.c_len ?hs ?_); (case hs => walk_at "sq"))
  | with_reducible refine Eg.w_dget ?_
  | with_reducible refine Eg.w_din ?_
  | with_reducible refine Eg.w_dnin ?_
  | with_reducible refine Eg.w_dput ?_
  | with_reducible refine Eg.w_dnewT ?_
  | with_reducible refine Eg.w_dnewK ?_
  | with_reducible refine Eg.w_iK ?_
  | ((with_reducible refine' Eg.w_eq ?hs ?_); (case hs => rfl))
  | ((with_reducible refine' Eg.w_ne ?hs ?_); (case hs => rfl))
  | with_reducible refine Eg.w_if ?_
  | with_reducible refine Eg.w_not ?_
  | with_reducible refine Eg.w_andV ?_
  | with_reducible refine Eg.w_orV ?_
  | with_reducible refine Eg.w_notV ?_
  | with_reducible refine Eg.w_chain ?_
  | with_reducible refine Eg.w_tup ?_
  | with_reducible refine Eg.w_lst ?_
  | ((with_reducible refine' Eg.w_sz ?hs ?_); (case hs => first | decide | (simp only [List.length_cons, List.length_nil]; omega)))
  | with_reducible refine Eg.w_bm ?_
  | with_reducible refine Eg.w_bm0 ?_
  | ((with_reducible refine' Eg.w_tyl ?hs ?_); (case hs => walk_at "sq"))
  | ((with_reducible refine' Eg.w_append ?hs ?hz ?_); (case hs => walk_at "hp"); (case hz => walk_at "size"))
  | with_reducible refine Eg.w_fld ?_
  | ((with_reducible refine' Eg.c_fld ?hs ?hc ?hn ?hl ?_); (case hs => walk_at "hp"); (case hc => assumption); (case hn => assumption); (case hl => walk_at "lk"))
  | with_reducible refine Eg.w_sl ?_
  | with_reducible refine Eg.w_sfld ?_
  | ((with_reducible refine' Eg.c_sfld ?hs ?hc ?hn ?hl ?_); (case hs => walk_at "hp"); (case hc => assumption); (case hn => assumption); (case hl => walk_at "few"))
  | with_reducible refine Eg.w_meth ?_
  | ((with_reducible refine' Eg.c_meth ?hs ?hl ?_); (case hs => walk_at "hp"); (case hl => walk_at "lk"))
  | with_reducible refine Eg.w_make ?_
  | with_reducible refine Eg.w_nopart ?_
  | with_reducible refine Eg.w_part ?_
  | with_reducible refine Eg.c_part ?_
  | ((with_reducible refine' Eg.w_gTup ?hs ?hn ?_); (case hs => walk_at "sq"); (case hn => exact rfl))
  | with_reducible refine Eg.w_gCons ?_
  | with_reducible refine Eg.w_gNil ?_
  | with_reducible refine Eg.w_for ?_
  | with_reducible refine Eg.w_iL ?_
  | with_reducible refine Eg.w_iR1 ?_
  | with_reducible refine Eg.w_iR2 ?_
  | ((with_reducible refine' Eg.c_iR2 ?hs ?_); (case hs => first | decide | (refine ⟨?_, ?_, ?_, ?_⟩ <;> omega)))
  | with_reducible refine Eg.w_iT ?_
  | ((with_reducible refine' Eg.c_iT ?hs ?_); (case hs => walk_at "sq"))
  | with_reducible refine Eg.w_iZ ?_
  | ((with_reducible refine' Eg.c_iZ ?hs ?hz ?_); (case hs => walk_at "sq"); (case hz => walk_at "sq"))
  | with_reducible refine Eg.w_lc ?_
  | with_reducible refine Eg.w_yes ?_
  | with_reducible refine Eg.w_par ?_
  | with_reducible refine Eg.c_par ?_
  | ((with_reducible show DTx.tDt _ _ _ _ _ _ _ _ _); unfold DTx.tDt)
  | ((with_reducible refine' Eg.w_wipe ?hs ?_); (case hs => exact rfl))
  | with_reducible refine L2.iteT ?_
  | with_reducible refine L2.iteF ?_
  | ((with_reducible show ∃ acc, _ = some (L2.HO.lst acc) ∧ acc.length < PySem.sizeLine ∧ _); (refine' ⟨_, ?hs, Nat.lt_of_lt_of_le (m := 100000) ?hz (by decide), ?_⟩); (case hs => walk_at "hp"); (case hz => walk_at "size"))
  | ((with_reducible refine' Eg.c_iR1 ?hs ?hz ?_); (case hs => first | decide | omega); (case hz => first | decide | omega))
  | ((with_reducible refine' Eg.c_iL ?hs ?_); (case hs => walk_at "sq"))
  | with_reducible refine Eg.w_disp1 ?_
  | ((with_reducible refine' Eg.c_dispI ?hs ?_); (case hs => walk_at "hp"))
  | with_reducible refine Eg.w_retN ?_
  | with_reducible refine Eg.w_brk ?_
  | with_reducible refine Eg.w_cont ?_
  | (with_reducible show L2.Ends.bk _ _ _; with_reducible refine Eg.w_bk ?_)
  | (with_reducible show L2.Ends.ct _ _ _; with_reducible refine Eg.w_ct ?_))
local macro_rules | `(tactic| walk_at "g2") => `(tactic| first
  | with_reducible refine Eg.w_seq ?_
  | (with_reducible show L2.Ends.nx _ _ _; with_reducible refine Eg.w_nx ?_)
  | with_reducible refine Eg.w_asg ?_
  | with_reducible refine Eg.w_gN ?_
  | with_reducible refine Eg.w_op ?_
  | with_reducible refine Eg.w_c ?_
  | ((with_reducible refine' Eg.w_var ?hv ?_); (case hv => exact rfl))
  | with_reducible refine Eg.w_cons ?_
  | with_reducible refine Eg.w_nil ?_
  | with_reducible refine Eg.w_rI0 ?_
  | ((with_reducible refine' Eg.w_rI ?hc ?_); (case hc => walk_at "cond"))
  | with_reducible refine Eg.w_rU ?_
  | with_reducible refine Eg.w_un ?_
  | ((with_reducible refine' Eg.w_ixL ?hs ?hv ?_); (case hs => walk_at "sq"); (case hv => walk_at "at"))
  | ((with_reducible refine' Eg.w_ixT ?hs ?hv ?_); (case hs => walk_at "sq"); (case hv => walk_at "at"))
  | with_reducible refine Eg.w_cb ?_
  | with_reducible refine Eg.w_call ?_
  | with_reducible refine Eg.w_ifS ?_
  | with_reducible refine Eg.w_test ?_
  | with_reducible refine Eg.w_B ?_
  | with_reducible refine Eg.w_bl ?_
  | with_reducible refine Eg.w_bl' ?_
  | with_reducible refine Eg.w_ret ?_
  | (with_reducible show L2.Ends.rt _ _ _; with_reducible refine Eg.w_rt ?_)
  | with_reducible refine Eg.w_next ?_
  | with_reducible refine Eg.w_drop ?_
  | with_reducible refine Eg.w_gSub ?_
  | ((with_reducible refine' Eg.w_setL ?hs ?hv ?_); (case hs => walk_at "hp"); (case hv => exact rfl))
  | with_reducible refine Eg.c_int ?_
  | with_reducible refine Eg.c_abs ?_
  | with_reducible refine Eg.c_min2 ?_
  | with_reducible refine Eg.c_max2 ?_
  | with_reducible refine Eg.c_isN ?_
  | with_reducible refine Eg.c_notN ?_
  | ((with_reducible refine' Eg.c_len ?hs ?_); (case hs => walk_at "sq"))
  | with_reducible refine Eg.w_dget ?_
  | with_reducible refine Eg.w_din ?_
  | with_reducible refine Eg.w_dnin ?_
  | with_reducible refine Eg.w_dput ?_
  | with_reducible refine Eg.w_dnewT ?_
  | with_reducible refine Eg.w_dnewK ?_
  | with_reducible refine Eg.w_iK ?_
  | ((with_reducible refine' Eg.w_eq ?hs ?_); (case hs => rfl))
  | ((with_reducible refine' Eg.w_ne ?hs ?_); (case hs => rfl))
  | with_reducible refine Eg.w_if ?_
  | with_reducible refine Eg.w_not ?_
  | with_reducible refine Eg.w_andV ?_
  | with_reducible refine Eg.w_orV ?_
  | with_reducible refine Eg.w_notV ?_
  | with_reducible refine Eg.w_chain ?_
  | with_reducible refine Eg.w_tup ?_
  | with_reducible refine Eg.w_lst ?_
  | ((with_reducible refine' Eg.w_sz ?hs ?_); (case hs => first | decide | (simp only [List.length_cons, List.length_nil]; omega)))
  | with_reducible refine Eg.w_bm ?_
  | with_reducible refine Eg.w_bm0 ?_
  | ((with_reducible refine' Eg.w_tyl ?hs ?_); (case hs => walk_at "sq"))
  | ((with_reducible refine' Eg.w_append ?hs ?hz ?_); (case hs => walk_at "hp"); (case hz => walk_at "size"))
  | with_reducible refine Eg.w_fld ?_
  | ((with_reducible refine' Eg.c_fld ?hs ?hc ?hn ?hl ?_); (case hs => walk_at "hp"); (case hc => assumption); (case hn => assumption); (case hl => walk_at "lk"))
  | with_reducible refine Eg.w_sl ?_
  | with_reducible refine Eg.w_sfld ?_
  | ((with_reducible refine' Eg.c_sfld ?hs ?hc ?hn ?hl ?_); (case hs => walk_at "hp"); (case hc => assumption); (case hn => assumption); (case hl => walk_at "few"))
  | with_reducible refine Eg.w_meth ?_
  | ((with_reducible refine' Eg.c_meth ?hs ?hl ?_); (case hs => walk_at "hp"); (case hl => walk_at "lk"))
  | with_reducible refine Eg.w_make ?_
  | with_reducible refine Eg.w_nopart ?_
  | with_reducible refine Eg.w_part ?_
  | with_reducible refine Eg.c_part ?_
  | ((with_reducible refine' Eg.w_gTup ?hs ?hn ?_); (case hs => walk_at "sq"); (case hn => exact rfl))
  | with_reducible refine Eg.w_gCons ?_
  | with_reducible refine Eg.w_gNil ?_
  | with_reducible refine Eg.w_for ?_
  | with_reducible refine Eg.w_iL ?_
  | with_reducible refine Eg.w_iR1 ?_
  | with_reducible refine Eg.w_iR2 ?_
  | ((with_reducible refine' Eg.c_iR2 ?hs ?_); (case hs => first | decide | (refine ⟨?_, ?_, ?_, ?_⟩ <;> omega)))
  | with_reducible refine Eg.w_iT ?_
  | ((with_reducible refine' Eg.c_iT ?hs ?_); (case hs => walk_at "sq"))
  | with_reducible refine Eg.w_iZ ?_
  | ((with_reducible refine' Eg.c_iZ ?hs ?hz ?_); (case hs => walk_at "sq"); (case hz => walk_at "sq"))
  | with_reducible refine Eg.w_yes ?_
  | with_reducible refine Eg.w_par ?_
  | with_reducible refine Eg.c_par ?_
  | ((with_reducible show DTx.tDt _ _ _ _ _ _ _ _ _); unfold DTx.tDt)
  | ((with_reducible refine' Eg.w_wipe ?hs ?_); (case hs => exact rfl))
  | with_reducible refine L2.iteT ?_
  | with_reducible refine L2.iteF ?_
  | ((with_reducible show ∃ acc, _ = some (L2.HO.lst acc) ∧ acc.length < PySem.sizeLine ∧ _); (refine' ⟨_, ?hs, Nat.lt_of_lt_of_le (m := 100000) ?hz (by decide), ?_⟩); (case hs => walk_at "hp"); (case hz => walk_at "size"))
  | ((with_reducible refine' Eg.c_iR1 ?hs ?hz ?_); (case hs => first | decide | omega); (case hz => first | decide | omega))
  | ((with_reducible refine' Eg.c_iL ?hs ?_); (case hs => walk_at "sq"))
  | with_reducible refine Eg.w_disp1 ?_
  | ((with_reducible refine' Eg.c_dispI ?hs ?_); (case hs => walk_at "hp"))
  | with_reducible refine Eg.w_retN ?_
  | with_reducible refine Eg.w_brk ?_
  | with_reducible refine Eg.w_cont ?_
  | (with_reducible show L2.Ends.bk _ _ _; with_reducible refine Eg.w_bk ?_)
  | (with_reducible show L2.Ends.ct _ _ _; with_reducible refine Eg.w_ct ?_))
local macro_rules | `(tactic| walk_at "at") => `(tactic| first | exact rfl | assumption)
local macro_rules | `(tactic| walk_at "size") => `(tactic| first | decide | omega | (simp only [List.length_append, List.length_map, List.length_cons, List.length_nil]; omega))
local macro_rules | `(tactic| walk_at "cond") => `(tactic| first | assumption | decide | exact ⟨by decide, by decide⟩ | exact .inl ⟨by omega, by omega⟩ | exact .inr ⟨by omega, by omega⟩ | exact ⟨by omega, by omega⟩ | exact ⟨by omega, by omega, by omega⟩ | (show (0 : Int) < _; omega))
local macro_rules | `(tactic| walk_at "g1") => `(tactic| first | walk_at "g0" | with_reducible refine Eg.w_and ?_ | with_reducible refine Eg.w_or ?_)
local macro_rules | `(tactic| walk_at "go") => `(tactic| repeat walk_at "g1")
local macro_rules | `(tactic| walk_at "gp") => `(tactic| repeat walk_at "g0")
local macro_rules | `(tactic| walk_at "lk") => `(tactic| first | assumption | exact rfl | decide +kernel)
local macro_rules | `(tactic| walk_at "few") => `(tactic| first | decide | exact (show 1 < 1000 by decide) | exact (show 2 < 1000 by decide) | exact (show 3 < 1000 by decide) | exact (show 4 < 1000 by decide) | exact (show 5 < 1000 by decide))
local macro_rules | `(tactic| walk_at "g3") => `(tactic| first | walk_at "g2" | with_reducible refine Eg.w_and ?_ | with_reducible refine Eg.w_or ?_)
local macro_rules | `(tactic| walk_at "gw") => `(tactic| repeat walk_at "g3")

namespace LW
open PySem L2 Sm
def top (i : Nat) : Stmt := PySem.Challenge.pw_ownholes_k52_whole_fewest_kept.main.body.getD i (.Pass ⟨0, 0, 0, 0⟩)
abbrev s_Form_init : Stmt := inClass (top 1) 0
abbrev N_Form_init : List Str := ["self", "start", "steps", "sort"]
theorem sc_Form_init : FnScope N_Form_init ["self", "start", "steps"] (defScope s_Form_init) := ⟨rfl, rfl, rfl, by decide +kernel, rfl, by decide +kernel, by decide +kernel⟩
abbrev s_Form_sorts : Stmt := inClass (top 1) 1
abbrev N_Form_sorts : List Str := ["self"]
theorem sc_Form_sorts : FnScope N_Form_sorts ["self"] (defScope s_Form_sorts) := ⟨rfl, rfl, rfl, by decide +kernel, rfl, by decide +kernel, by decide +kernel⟩
abbrev s_Form_call : Stmt := inClass (top 1) 5
abbrev N_Form_call : List Str := ["self", "counts", "total", "sort"]
theorem sc_Form_call : FnScope N_Form_call ["self", "counts"] (defScope s_Form_call) := ⟨rfl, rfl, rfl, by decide +kernel, rfl, by decide +kernel, by decide +kernel⟩
abbrev s_Form_neg : Stmt := inClass (top 1) 8
abbrev N_Form_neg : List Str := ["self", "sort"]
theorem sc_Form_neg : FnScope N_Form_neg ["self"] (defScope s_Form_neg) := ⟨rfl, rfl, rfl, by decide +kernel, rfl, by decide +kernel, by decide +kernel⟩
abbrev s_is_one_sided : Stmt := top 3
abbrev N_is_one_sided : List Str := ["form", "steps", "sort", "step"]
theorem sc_is_one_sided : FnScope N_is_one_sided ["form"] (defScope s_is_one_sided) := ⟨rfl, rfl, rfl, by decide +kernel, rfl, by decide +kernel, by decide +kernel⟩
abbrev s_widened : Stmt := top 4
abbrev N_widened : List Str := ["form", "ring", "came", "limit", "found", "number", "sort", "after"]
theorem sc_widened : FnScope N_widened ["form", "ring", "came", "limit"] (defScope s_widened) := ⟨rfl, rfl, rfl, by decide +kernel, rfl, by decide +kernel, by decide +kernel⟩
abbrev s_traced_back : Stmt := top 5
abbrev N_traced_back : List Str := ["form", "came", "counts", "number", "sort"]
theorem sc_traced_back : FnScope N_traced_back ["form", "came"] (defScope s_traced_back) := ⟨rfl, rfl, rfl, by decide +kernel, rfl, by decide +kernel, by decide +kernel⟩
abbrev s_fewest : Stmt := top 6
abbrev N_fewest : List Str := ["form", "limit", "came", "ring", "sort"]
theorem sc_fewest : FnScope N_fewest ["form"] (defScope s_fewest) := ⟨rfl, rfl, rfl, by decide +kernel, rfl, by decide +kernel, by decide +kernel⟩
abbrev s_fewest_above : Stmt := top 7
abbrev N_fewest_above : List Str := ["form", "best", "sort"]
theorem sc_fewest_above : FnScope N_fewest_above ["form"] (defScope s_fewest_above) := ⟨rfl, rfl, rfl, by decide +kernel, rfl, by decide +kernel, by decide +kernel⟩
abbrev s_common_divisor : Stmt := top 8
abbrev N_common_divisor : List Str := ["numbers", "divisor", "number", "rest"]
theorem sc_common_divisor : FnScope N_common_divisor ["numbers"] (defScope s_common_divisor) := ⟨rfl, rfl, rfl, by decide +kernel, rfl, by decide +kernel, by decide +kernel⟩
abbrev s_why_never : Stmt := top 9
abbrev N_why_never : List Str := ["form", "steps", "divisor", "came", "ring", "sort", "number"]
theorem sc_why_never : FnScope N_why_never ["form"] (defScope s_why_never) := ⟨rfl, rfl, rfl, by decide +kernel, rfl, by decide +kernel, by decide +kernel⟩
abbrev s_l_bag : Stmt := top 11
abbrev N_l_bag : List Str := ["_law_script", "_law_at", "_law_cell", "_law_digits"]
theorem sc_l_bag : FnScope N_l_bag ["_law_script", "_law_at"] (defScope s_l_bag) := ⟨rfl, rfl, rfl, by decide +kernel, rfl, by decide +kernel, by decide +kernel⟩
abbrev s_l_take : Stmt := top 12
abbrev N_l_take : List Str := ["_law_bag_here", "_law_many", "_law_digit", "_law_mixed"]
theorem sc_l_take : FnScope N_l_take ["_law_bag_here", "_law_many"] (defScope s_l_take) := ⟨rfl, rfl, rfl, by decide +kernel, rfl, by decide +kernel, by decide +kernel⟩
abbrev s_l_of : Stmt := top 13
abbrev N_l_of : List Str := ["_law_bag_here", "_law_some"]
theorem sc_l_of : FnScope N_l_of ["_law_bag_here", "_law_some"] (defScope s_l_of) := ⟨rfl, rfl, rfl, by decide +kernel, rfl, by decide +kernel, by decide +kernel⟩
abbrev s_l_sorts : Stmt := top 14
abbrev N_l_sorts : List Str := ["_law_bag_here", "_law_many", "_law_left", "_law_k"]
theorem sc_l_sorts : FnScope N_l_sorts ["_law_bag_here", "_law_many"] (defScope s_l_sorts) := ⟨rfl, rfl, rfl, by decide +kernel, rfl, by decide +kernel, by decide +kernel⟩
abbrev s_l_steps_of : Stmt := top 15
abbrev N_l_steps_of : List Str := ["_law_sorts_here", "_law_steps", "_law_found", "_law_sort", "_law_step"]
theorem sc_l_steps_of : FnScope N_l_steps_of ["_law_sorts_here", "_law_steps"] (defScope s_l_steps_of) := ⟨rfl, rfl, rfl, by decide +kernel, rfl, by decide +kernel, by decide +kernel⟩
abbrev s_l_total : Stmt := top 16
abbrev N_l_total : List Str := ["_law_counts", "_law_sort"]
theorem sc_l_total : FnScope N_l_total ["_law_counts"] (defScope s_l_total) := ⟨rfl, rfl, rfl, by decide +kernel, rfl, by decide +kernel, by decide +kernel⟩
abbrev s_l_scaled : Stmt := top 17
abbrev N_l_scaled : List Str := ["_law_why", "_law_factor", "_law_one"]
theorem sc_l_scaled : FnScope N_l_scaled ["_law_why", "_law_factor"] (defScope s_l_scaled) := ⟨rfl, rfl, rfl, by decide +kernel, rfl, by decide +kernel, by decide +kernel⟩
abbrev s_law : Stmt := top 18
abbrev N_law : List Str := ["_law_script", "_law_at", "_law_bag_here", "_law_sorts_here", "_law_start", "_law_steps", "_law_factor", "_law_form", "_law_large", "_law_due", "_law_why", "_law_turned", "_law_moved", "_law_sort", "_law_step"]
theorem sc_law : FnScope N_law ["_law_script"] (defScope s_law) := ⟨rfl, rfl, rfl, by decide +kernel, rfl, by decide +kernel, by decide +kernel⟩
structure Ad where
  a_Form_init : Addr
  d_Form_init : FuncData
  a_Form_sorts : Addr
  d_Form_sorts : FuncData
  a_Form_call : Addr
  d_Form_call : FuncData
  a_Form_neg : Addr
  d_Form_neg : FuncData
  a_is_one_sided : Addr
  d_is_one_sided : FuncData
  a_widened : Addr
  d_widened : FuncData
  a_traced_back : Addr
  d_traced_back : FuncData
  a_fewest : Addr
  d_fewest : FuncData
  a_fewest_above : Addr
  d_fewest_above : FuncData
  a_common_divisor : Addr
  d_common_divisor : FuncData
  a_why_never : Addr
  d_why_never : FuncData
  a_l_bag : Addr
  d_l_bag : FuncData
  a_l_take : Addr
  d_l_take : FuncData
  a_l_of : Addr
  d_l_of : FuncData
  a_l_sorts : Addr
  d_l_sorts : FuncData
  a_l_steps_of : Addr
  d_l_steps_of : FuncData
  a_l_total : Addr
  d_l_total : FuncData
  a_l_scaled : Addr
  d_l_scaled : FuncData
  a_law : Addr
  d_law : FuncData
  c_Form : Addr
structure Txt (K : PySem.W.Frag) (mg : Str → Option Value) (Z : Ad) : Prop where
  F_Form_init : Fun K "__init__" "Form.__init__" s_Form_init Z.a_Form_init Z.d_Form_init
  b_Form_init : Binds K Z.d_Form_init ["self", "start", "steps"] []
  m_Form_init : Meth K Z.c_Form "__init__" Z.a_Form_init
  F_Form_sorts : Fun K "sorts" "Form.sorts" s_Form_sorts Z.a_Form_sorts Z.d_Form_sorts
  b_Form_sorts : Binds K Z.d_Form_sorts ["self"] []
  m_Form_sorts : Meth K Z.c_Form "sorts" Z.a_Form_sorts
  F_Form_call : Fun K "__call__" "Form.__call__" s_Form_call Z.a_Form_call Z.d_Form_call
  b_Form_call : Binds K Z.d_Form_call ["self", "counts"] []
  m_Form_call : Meth K Z.c_Form "__call__" Z.a_Form_call
  F_Form_neg : Fun K "__neg__" "Form.__neg__" s_Form_neg Z.a_Form_neg Z.d_Form_neg
  b_Form_neg : Binds K Z.d_Form_neg ["self"] []
  m_Form_neg : Meth K Z.c_Form "__neg__" Z.a_Form_neg
  F_is_one_sided : Fun K "is_one_sided" "is_one_sided" s_is_one_sided Z.a_is_one_sided Z.d_is_one_sided
  b_is_one_sided : Binds K Z.d_is_one_sided ["form"] []
  g_is_one_sided : mg "is_one_sided" = some (.ref Z.a_is_one_sided)
  F_widened : Fun K "widened" "widened" s_widened Z.a_widened Z.d_widened
  b_widened : Binds K Z.d_widened ["form", "ring", "came", "limit"] []
  g_widened : mg "widened" = some (.ref Z.a_widened)
  F_traced_back : Fun K "traced_back" "traced_back" s_traced_back Z.a_traced_back Z.d_traced_back
  b_traced_back : Binds K Z.d_traced_back ["form", "came"] []
  g_traced_back : mg "traced_back" = some (.ref Z.a_traced_back)
  F_fewest : Fun K "fewest" "fewest" s_fewest Z.a_fewest Z.d_fewest
  b_fewest : Binds K Z.d_fewest ["form"] []
  g_fewest : mg "fewest" = some (.ref Z.a_fewest)
  F_fewest_above : Fun K "fewest_above" "fewest_above" s_fewest_above Z.a_fewest_above Z.d_fewest_above
  b_fewest_above : Binds K Z.d_fewest_above ["form"] []
  g_fewest_above : mg "fewest_above" = some (.ref Z.a_fewest_above)
  F_common_divisor : Fun K "common_divisor" "common_divisor" s_common_divisor Z.a_common_divisor Z.d_common_divisor
  b_common_divisor : Binds K Z.d_common_divisor ["numbers"] []
  g_common_divisor : mg "common_divisor" = some (.ref Z.a_common_divisor)
  F_why_never : Fun K "why_never" "why_never" s_why_never Z.a_why_never Z.d_why_never
  b_why_never : Binds K Z.d_why_never ["form"] []
  g_why_never : mg "why_never" = some (.ref Z.a_why_never)
  F_l_bag : Fun K "_law_bag" "_law_bag" s_l_bag Z.a_l_bag Z.d_l_bag
  b_l_bag : Binds K Z.d_l_bag ["_law_script", "_law_at"] []
  g_l_bag : mg "_law_bag" = some (.ref Z.a_l_bag)
  F_l_take : Fun K "_law_take" "_law_take" s_l_take Z.a_l_take Z.d_l_take
  b_l_take : Binds K Z.d_l_take ["_law_bag_here", "_law_many"] []
  g_l_take : mg "_law_take" = some (.ref Z.a_l_take)
  F_l_of : Fun K "_law_of" "_law_of" s_l_of Z.a_l_of Z.d_l_of
  b_l_of : Binds K Z.d_l_of ["_law_bag_here", "_law_some"] []
  g_l_of : mg "_law_of" = some (.ref Z.a_l_of)
  F_l_sorts : Fun K "_law_sorts" "_law_sorts" s_l_sorts Z.a_l_sorts Z.d_l_sorts
  b_l_sorts : Binds K Z.d_l_sorts ["_law_bag_here", "_law_many"] []
  g_l_sorts : mg "_law_sorts" = some (.ref Z.a_l_sorts)
  F_l_steps_of : Fun K "_law_steps_of" "_law_steps_of" s_l_steps_of Z.a_l_steps_of Z.d_l_steps_of
  b_l_steps_of : Binds K Z.d_l_steps_of ["_law_sorts_here", "_law_steps"] []
  g_l_steps_of : mg "_law_steps_of" = some (.ref Z.a_l_steps_of)
  F_l_total : Fun K "_law_total" "_law_total" s_l_total Z.a_l_total Z.d_l_total
  b_l_total : Binds K Z.d_l_total ["_law_counts"] []
  g_l_total : mg "_law_total" = some (.ref Z.a_l_total)
  F_l_scaled : Fun K "_law_scaled" "_law_scaled" s_l_scaled Z.a_l_scaled Z.d_l_scaled
  b_l_scaled : Binds K Z.d_l_scaled ["_law_why", "_law_factor"] []
  g_l_scaled : mg "_law_scaled" = some (.ref Z.a_l_scaled)
  F_law : Fun K "law" "law" s_law Z.a_law Z.d_law
  b_law : Binds K Z.d_law ["_law_script"] []
  g_law : mg "law" = some (.ref Z.a_law)
  cl_Form : Cls K Z.c_Form
  g_Form : mg "Form" = some (.ref Z.c_Form)
  mk_Form : Mk K Z.c_Form Z.a_Form_init
  n_Form_start : NoAttr K Z.c_Form "start"
  n_Form_steps : NoAttr K Z.c_Form "steps"
  fi_Form_call : PySem.W.fnIn K Z.a_Form_call = true
  i_Form : ∀ {H : Hp} {a dx : Addr} {fs : List (Str × V)}, H a = some (.ins Z.c_Form dx fs) → TyOf K H (.ref a) (.ref Z.c_Form)
  u_abs : mg "abs" = none
  u_int : mg "int" = none
  u_len : mg "len" = none
  u_max : mg "max" = none
  u_min : mg "min" = none
  u_range : mg "range" = none
  u_sorted : mg "sorted" = none
  u_sum : mg "sum" = none
  u_tuple : mg "tuple" = none
  u_zip : mg "zip" = none

/-! what the law draws from -/
def BagAt (H : Hp) (a : Addr) (k : Int) : Prop := ∃ d m c : Int, H a = some (.lst [.int d, .int m, .int c]) ∧ 0 ≤ d ∧ 0 ≤ m ∧ m < 8000000000000000000 ∧ 0 ≤ c ∧ c ≤ k
def sp_l_bag (K : PySem.W.Frag) : Sp := fun vs H Q _ => ∃ (a : Addr) (ns : List Int) (i : Int), vs = [.ref a, .int i] ∧ SqL K H a (ns.map V.int) ∧ 0 ≤ i ∧ i < 100 ∧
  ∀ (b : Addr) (H' : Hp), H b = none → BagAt H' b 0 → Same H H' → Q (.ref b) H'
def sp_l_take : Sp := fun vs H Q _ => ∃ (a : Addr) (k n : Int), vs = [.ref a, .int n] ∧ BagAt H a k ∧ k ≤ 100000 ∧ 0 < n ∧ n < 1073741824 ∧
  ∀ (r : Int) (H' : Hp), 0 ≤ r → r < n → BagAt H' a (k + 1) → (∀ b, b ≠ a → H' b = H b) → Q (.int r) H'
section
variable {P : Program} {w : World} {K : PySem.W.Frag} {mg : Str → Option Value} {base : Heap} {Z : Ad}
theorem atI_lt {ns : List Int} {i : Int} (h0 : 0 ≤ i) (h1 : i < (ns.length : Int)) : ∃ z, atI (ns.map V.int) i = some (V.int z) := by
  obtain ⟨j, rfl⟩ := Int.eq_ofNat_of_zero_le h0
  have hj : j < ns.length := by omega
  refine ⟨ns[j], atI_nat ?_⟩
  rw [List.getElem?_map, List.getElem?_eq_getElem hj]
  rfl
theorem ok_l_bag (T : Txt K mg Z) : FnOk P w K mg base CX0 1 Z.a_l_bag Z.d_l_bag ["_law_script", "_law_at"] (sp_l_bag K) := by
  refine T.F_l_bag.ok sc_l_bag (fun vs H Q E h => ?_) (fun cdv A outer s H vs Q E hr h => ?_)
  · obtain ⟨a, ns, i, rfl, _⟩ := h
    rfl
  · obtain ⟨a, ns, i, rfl, hS, h0, h1, q⟩ := h
    have nd := sc_l_bag.nd
    refine ⟨_, (C8.pss_cut (ps_set (i := 2) nd rfl (Or.inl rfl) (pe_ifExp (pt_cmpR op_lt (pv 1) (pe_callB Eg.cr_len (by rfl) T.u_len (by decide +kernel) (pa_cons (pv 0) pa_nil)) (nomark _)) (pe_ix ix_list (pv 0) (pv 1) (fun _ _ => rfl)) pe_int))
  (C8.pss_cut (ps_set (i := 3) nd rfl (Or.inl rfl) (pe_ifExp (pt_cmpR op_ge (pe_callB Eg.cr_abs (by rfl) T.u_abs (by decide +kernel) (pa_cons (pv 2) pa_nil)) (pe_op op_pow pe_int pe_int) (nomark _)) (pe_callB Eg.cr_abs (by rfl) T.u_abs (by decide +kernel) (pa_cons (pv 2) pa_nil)) pe_int))
  (pss_one (ps_ret (pe_lst (pa_cons (pv 3) (pa_cons (pe_op op_add (pe_op op_add (pe_op op_mul (pe_op op_mod (pe_callTy Eg.cr_int (by rfl) T.u_int (by decide +kernel) (pa_cons (pv 2) pa_nil)) pe_int) pe_int) (pe_op op_mul pe_int (pv 1))) pe_int) (pa_cons pe_int pa_nil)))))))), ?_⟩
    refine Eg.w_sig (σ := [some (.ref a), some (.int i), none, none]) rfl ?_
    refine ⟨fun σ' H' => ∃ z : Int, σ' = [some (.ref a), some (.int i), some (.int z), none] ∧ H = H', ?_, ?_⟩
    · walk_at "go"
      refine Eg.brD (fun h => ?_) (fun h => ?_)
      · obtain ⟨z, hz⟩ := atI_lt h0 (by simpa using h)
        walk_at "go"
        exact ⟨z, rfl, rfl⟩
      · walk_at "go"
        exact ⟨0, rfl, rfl⟩
    rintro _ _ ⟨z, rfl, rfl⟩
    refine ⟨fun σ' H' => ∃ d : Int, 0 ≤ d ∧ σ' = [some (.ref a), some (.int i), some (.int z), some (.int d)] ∧ H = H', ?_, ?_⟩
    · walk_at "go"
      refine Eg.brD (fun h => ?_) (fun h => ?_)
      · walk_at "go"
        exact ⟨_, by split <;> omega, rfl, rfl⟩
      · walk_at "go"
        exact ⟨0, by omega, rfl, rfl⟩
    rintro _ _ ⟨d, hd, rfl, rfl⟩
    walk_at "go"
    intro p hp
    walk_at "go"
    exact q p _ hp ⟨d, _, 0, upd_same, hd, by omega, by omega, by omega, by omega⟩ (Eg.same_new (Same.refl _) hp)
theorem ok_l_take (T : Txt K mg Z) : FnOk P w K mg base CX0 1 Z.a_l_take Z.d_l_take ["_law_bag_here", "_law_many"] sp_l_take := by
  refine T.F_l_take.ok sc_l_take (fun vs H Q E h => ?_) (fun cdv A outer s H vs Q E hr h => ?_)
  · obtain ⟨a, k, n, rfl, _⟩ := h
    rfl
  · obtain ⟨a, k, n, rfl, ⟨d, m, c, ha, hd, hm, hm2, hc, hck⟩, hk, hn, hn2, q⟩ := h
    have nd := sc_l_take.nd
    refine ⟨_, (pss_cons (ps_if (pt_cmpR op_gt (pe_ix ix_list (pv 0) pe_int (fun _ _ => rfl)) pe_int (nomark _))
  (pss_cons (ps_set (i := 2) nd rfl (Or.inl rfl) (pe_op op_mod (pe_callTy Eg.cr_int (by rfl) T.u_int (by decide +kernel) (pa_cons (pe_ix ix_list (pv 0) pe_int (fun _ _ => rfl)) pa_nil)) (pv 1)))
  (pss_cons (ps_asg (pe_op op_fdiv (pe_ix ix_list (pv 0) pe_int (fun _ _ => rfl)) (pv 1)) (pg_sub (pv 0) pe_int set_list))
  (pss_one (ps_ret (pv 2)))))
  pss_nil)
  (pss_cons (ps_asg (pe_op op_add (pe_ix ix_list (pv 0) pe_int (fun _ _ => rfl)) pe_int) (pg_sub (pv 0) pe_int set_list))
  (pss_cons (ps_set (i := 3) nd rfl (Or.inl rfl) (pe_op op_mod (pe_callTy Eg.cr_int (by rfl) T.u_int (by decide +kernel) (pa_cons (pe_op op_pow (pe_op op_add (pe_ix ix_list (pv 0) pe_int (fun _ _ => rfl)) (pe_op op_mul pe_int (pe_ix ix_list (pv 0) pe_int (fun _ _ => rfl)))) pe_int) pa_nil)) pe_int))
  (pss_cons (ps_set (i := 3) nd rfl (Or.inl rfl) (pe_op op_mod (pe_callTy Eg.cr_int (by rfl) T.u_int (by decide +kernel) (pa_cons (pe_op op_pow (pe_op op_add (pv 3) (pe_op op_mul pe_int (pe_ix ix_list (pv 0) pe_int (fun _ _ => rfl)))) pe_int) pa_nil)) pe_int))
  (pss_one (ps_ret (pe_op op_mod (pe_callTy Eg.cr_int (by rfl) T.u_int (by decide +kernel) (pa_cons (pe_op op_fdiv (pv 3) pe_int) pa_nil)) (pv 1)))))))), ?_⟩
    refine Eg.w_sig (σ := [some (.ref a), some (.int n), none, none]) rfl ?_
    walk_at "go"
    refine Eg.brD (fun h => ?_) (fun h => ?_)
    · walk_at "go"
      refine q _ _ (Int.emod_nonneg _ (by omega)) (Int.emod_lt_of_pos _ hn) ⟨_, m, c, upd_same, Int.ediv_nonneg hd (by omega), hm, hm2, hc, by omega⟩ fun b hb => ?_
      rw [upd_ne hb]
    · walk_at "go"
      refine q _ _ (Int.emod_nonneg _ (by omega)) (Int.emod_lt_of_pos _ hn) ⟨d, m, c + 1, upd_same, hd, hm, hm2, by omega, by omega⟩ fun b hb => ?_
      rw [upd_ne hb]
end
end LW

namespace LW
open PySem L2 Sm
/-- the i-th sort -/
def tri (i : Nat) : List Int := [(i : Int) / 6, (i : Int) / 2 % 3, (i : Int) % 2]
def all18 : List (List Int) := (List.range 18).map tri
theorem all18_nd : all18.Nodup := by decide +kernel
theorem all18_s3 : ∀ k ∈ all18, Sort3 k := by
  intro k hk
  obtain ⟨i, hi, rfl⟩ := List.mem_map.mp hk
  have := List.mem_range.mp hi
  refine ⟨rfl, fun m hm => ?_⟩
  simp only [tri, List.mem_cons, List.not_mem_nil, or_false] at hm
  rcases hm with rfl | rfl | rfl <;> omega
def sp_l_sorts : Sp := fun vs H Q _ => ∃ (a : Addr) (k n : Int), vs = [.ref a, .int n] ∧ BagAt H a k ∧ k ≤ 1000 ∧ 0 ≤ n ∧ n ≤ 1000 ∧
  ∀ (p : Addr) (xs : List V) (ks : List (List Int)) (H' : Hp), H p = none → H' p = some (.lst xs) → TupsAt H' xs ks → (ks.length : Int) = (if 18 < n then 18 else n) → ks.Nodup → (∀ k ∈ ks, Sort3 k) → BagAt H' a (k + 18) →
    (∀ b o, H b = some o → b ≠ a → H' b = some o) → Q (.ref p) H'
def sp_l_steps_of : Sp := fun vs H Q _ => ∃ (a b : Addr) (xs : List V) (ks : List (List Int)) (ns : List Int), vs = [.ref a, .ref b] ∧ H a = some (.lst xs) ∧ TupsAt H xs ks ∧ H b = some (.lst (ns.map V.int)) ∧ ks.length = ns.length ∧ ks.Nodup ∧ ks.length < 1000 ∧
  ∀ (p : Addr) (H' : Hp), H p = none → H' p = some (.dT (enc (ks.zip ns))) → Same H H' → Q (.ref p) H'
section
variable {P : Program} {w : World} {K : PySem.W.Frag} {mg : Str → Option Value} {base : Heap} {Z : Ad}
theorem BagAt.ob {H : Hp} {a : Addr} {k : Int} (h : BagAt H a k) : ∃ xs, H a = some (.lst xs) := let ⟨_, _, _, e, _⟩ := h; ⟨_, e⟩
theorem BagAt.to {H H' : Hp} {a : Addr} {k k' : Int} (h : BagAt H a k) (e : H' a = H a) (hk : k ≤ k') : BagAt H' a k' := let ⟨d, m, c, h0, h1, h2, h3, h4, h5⟩ := h; ⟨d, m, c, e.trans h0, h1, h2, h3, h4, by omega⟩
theorem ok_l_sorts (T : Txt K mg Z) : FnOk P w K mg base CX0 2 Z.a_l_sorts Z.d_l_sorts ["_law_bag_here", "_law_many"] sp_l_sorts := by
  refine T.F_l_sorts.ok sc_l_sorts (fun vs H Q E h => ?_) (fun cdv A outer s H vs Q E hr h => ?_)
  · obtain ⟨a, k, n, rfl, _⟩ := h
    rfl
  · obtain ⟨a, k, n, rfl, hb, hk, hn, hn2, q⟩ := h
    have nd := sc_l_sorts.nd
    refine ⟨_, (pss_cons (ps_set (i := 2) nd rfl (Or.inr rfl) (pe_lc (own := [("_law_k", 3)]) rfl nd (pi_range1 (by rfl) T.u_range (pa_cons pe_int pa_nil)) (blkOk_by (N := N_l_sorts) (sc := defScope s_l_sorts) (by decide +kernel)) (fun _ _ _ _ _ => (pg_name (i := 3) nd rfl (Or.inl rfl))) (fun _ _ _ _ _ => pts_nil) (fun _ _ _ _ _ => (Eg.peE (pe_tup (pa_cons (pe_op op_fdiv (pv 3) pe_int) (pa_cons (pe_op op_mod (pe_op op_fdiv (pv 3) pe_int) pe_int) (pa_cons (pe_op op_mod (pv 3) pe_int) pa_nil)))) (by walk_at "blk")))))
  (pss_one (ps_ret (pe_lc (own := [("_law_k", 3)]) rfl nd (pi_range1 (by rfl) T.u_range (pa_cons (pe_callB (Eg.cr_min2 rfl) (by rfl) T.u_min (by decide +kernel) (pa_cons (pv 1) (pa_cons pe_int pa_nil))) pa_nil)) (blkOk_by (N := N_l_sorts) (sc := defScope s_l_sorts) (by decide +kernel)) (fun _ _ _ _ _ => (pg_name (i := 3) nd rfl (Or.inl rfl))) (fun _ _ _ _ _ => pts_nil) (fun _ _ _ _ _ => (Eg.peE (pe_bm PySem.F.plainAttrs_list PySem.F.slot_list_pop PySem.F.type_list_pop mt_popAt (pv 2) (pa_cons (pe_call (ok_l_take T) (hr.mono (by decide)) (by rfl) T.g_l_take T.F_l_take.kp T.b_l_take .nil pass0 (pa_cons (pv 0) (pa_cons (pe_callB Eg.cr_len (by rfl) T.u_len (by decide +kernel) (pa_cons (pv 2) pa_nil)) pa_nil))) pa_nil)) (by walk_at "blk"))))))), ?_⟩
    refine Eg.w_sig (σ := [some (.ref a), some (.int n), none, none]) rfl ?_
    walk_at "go"
    intro L hL
    obtain ⟨bs, ha⟩ := hb.ob
    have hLa : L ≠ a := (ne_of_none ha hL).symm
    refine lc_range (lo := 0) (n := 18) (fun i H' => Same H H' ∧ ∃ xs, H' L = some (.lst xs) ∧ TupsAt H' xs ((List.range i).map tri)) ⟨Eg.same_new (Same.refl _) hL, [], upd_same, .nil⟩ ?_ ?_
    · rintro i H1 hi ⟨hs, xs, hx, tx⟩
      have tl := tx.len
      rw [List.length_map, List.length_range] at tl
      walk_at "go"
      intro p hp
      walk_at "go"
      refine ⟨fun b o hbo => Eg.upd_mut (ne_of_none hbo hL) (Eg.upd_old (hs b o hbo) hp), _, upd_same, ?_⟩
      rw [List.range_succ, List.map_append]
      refine TupsAt.app (tx.same fun b ys e => Eg.tup_upd (a := L) (xs := xs) (by walk_at "hp") b ys (Eg.upd_old e hp)) (.cons ⟨p, rfl, ?_⟩ .nil)
      refine Eg.upd_mut (ne_of_none hx hp).symm ?_
      rw [upd_same, tri]
      simp
    · rintro H1 ⟨hs, xs, hx, tx⟩
      walk_at "go"
      intro D hD
      have hDL : D ≠ L := (ne_of_none hx hD).symm
      have hDa : D ≠ a := (ne_of_none (hs _ _ ha) hD).symm
      have h1a : H1 a = H a := (hs _ _ ha).trans ha.symm
      have hle : (if 18 < n then 18 else n) ≤ 18 := by split <;> omega
      have hge : 0 ≤ (if 18 < n then 18 else n) := by split <;> omega
      refine lc_range (lo := 0) (n := Int.toNat (if 18 < n then 18 else n)) (fun i H' => ∃ xs ks ys ls, H' L = some (.lst xs) ∧ TupsAt H' xs ks ∧ H' D = some (.lst ys) ∧ TupsAt H' ys ls ∧ (ls ++ ks).Perm all18 ∧ ls.length = i ∧ BagAt H' a (k + i) ∧
        (∀ b o, H b = some o → b ≠ a → H' b = some o)) ⟨xs, all18, [], [], Eg.upd_old hx hD, tx.same (Eg.tup_new hD), upd_same, .nil, List.Perm.refl _, rfl, hb.to ((upd_ne hDa.symm).trans h1a) (by omega), fun b o hbo _ => Eg.upd_old (hs b o hbo) hD⟩ ?_ ?_
      · rintro i H2 hi ⟨xs, ks, ys, ls, h1, t1, h2, t2, pm, hl, hbg, fr⟩
        have l1 := t1.len
        have l2 := t2.len
        have l3 := pm.length_eq
        rw [List.length_append] at l3
        have l4 : all18.length = 18 := rfl
        have i18 : i < 18 := by omega
        walk_at "go"
        refine ⟨a, k + i, _, rfl, hbg, by omega, by omega, by omega, fun r H3 r0 r1 hb3 f3 => ?_⟩
        obtain ⟨bs2, ha2⟩ := hbg.ob
        have tk := Eg.tup_frame f3 ha2
        obtain ⟨j, rfl⟩ := Int.eq_ofNat_of_zero_le r0
        have hj : j < xs.length := by omega
        obtain ⟨kj, t, hkj, ex, ht⟩ := t1.get (List.getElem?_eq_getElem hj)
        walk_at "go"
        refine Eg.c_popAt (Eg.frame_at f3 hLa h1) ⟨by omega, by omega, by omega⟩ rfl (List.getElem?_eq_getElem hj) ?_
        walk_at "go"
        have tk2 : ∀ b zs, H2 b = some (.tup zs) → upd (upd H3 L (.lst (xs.eraseIdx j))) D (.lst (ys ++ [xs[j]])) b = some (.tup zs) := fun b zs e =>
          Eg.tup_upd (a := D) (xs := ys) (by walk_at "hp") b zs (Eg.tup_upd (a := L) (xs := xs) (by walk_at "hp") b zs (tk b zs e))
        refine ⟨_, ks.eraseIdx j, _, ls ++ [kj], Eg.upd_mut hDL.symm upd_same, (t1.erase j).same tk2, upd_same, TupsAt.app (t2.same tk2) (.cons ⟨t, ex, tk2 _ _ ht⟩ .nil), ?_, by rw [List.length_append, hl]; rfl, ?_, fun b o hbo hne => ?_⟩
        · refine List.Perm.trans ?_ pm
          rw [List.append_assoc]
          exact (perm_erase hkj).append_left ls
        · refine hb3.to ?_ (by omega)
          rw [upd_ne hDa.symm, upd_ne hLa.symm]
        · refine Eg.upd_mut (ne_of_none (hs b o hbo) hD) (Eg.upd_mut (ne_of_none hbo hL) ?_)
          rw [f3 b hne]
          exact fr b o hbo hne
      · rintro H2 ⟨xs, ks, ys, ls, h1, t1, h2, t2, pm, hl, hbg, fr⟩
        have ndp : (ls ++ ks).Nodup := pm.nodup_iff.mpr all18_nd
        walk_at "go"
        refine q D ys ls H2 (hs.free hD) h2 t2 (by rw [hl]; omega) (List.nodup_append.mp ndp).1 (fun k hk => all18_s3 k (pm.mem_iff.mp (List.mem_append_left _ hk))) (hbg.to rfl (by omega)) fr
theorem ok_l_steps_of (T : Txt K mg Z) : FnOk P w K mg base CX0 1 Z.a_l_steps_of Z.d_l_steps_of ["_law_sorts_here", "_law_steps"] sp_l_steps_of := by
  refine T.F_l_steps_of.ok sc_l_steps_of (fun vs H Q E h => ?_) (fun cdv A outer s H vs Q E hr h => ?_)
  · obtain ⟨a, b, xs, ks, ns, rfl, _⟩ := h
    rfl
  · obtain ⟨a, b, xs, ks, ns, rfl, ha, ta, hb, hl, hnd, hsz, q⟩ := h
    have nd := sc_l_steps_of.nd
    have hu := hu_of hr
    refine ⟨_, (pss_cons (ps_set (i := 2) nd rfl (Or.inl rfl) pe_dnewT)
  (pss_cons (ps_for PassesOwn.never rfl (pi_zip (by rfl) T.u_zip (pa_cons (pv 0) (pa_cons (pv 1) pa_nil))) (pg_tup (by rfl) (pgs_cons (pg_name (i := 3) nd rfl (Or.inl rfl)) (pgs_cons (pg_name (i := 4) nd rfl (Or.inl rfl)) pgs_nil)))
  (pss_one (ps_dput hu (pv 2) (pv 3) (pv 4) rfl)))
  (pss_one (ps_ret (pv 2))))), ?_⟩
    refine Eg.w_sig (σ := [some (.ref a), some (.ref b), none, none, none]) rfl ?_
    walk_at "go"
    intro p hp
    walk_at "go"
    have tl := ta.len
    have hpa : p ≠ a := (ne_of_none ha hp).symm
    have hpb : p ≠ b := (ne_of_none hb hp).symm
    refine RZ.for_zipL (xs := xs) (ys := ns.map V.int) (by rw [tl, hl, List.length_map]) (fun i σ' H' => ∃ u v, σ' = [some (.ref a), some (.ref b), some (.ref p), u, v] ∧ H' p = some (.dT (enc ((ks.take i).zip (ns.take i)))) ∧ (∀ c o, H c = some o → H' c = some o))
      ⟨none, none, rfl, upd_same, fun c o e => Eg.upd_old e hp⟩ ?_ ?_ ?_
    · rintro i _ H1 ⟨u, v, rfl, h1, fr⟩
      exact ⟨SqL.of (fr _ _ ha), SqL.of (fr _ _ hb)⟩
    · rintro i x y t _ H1 hx hy ⟨u, v, rfl, h1, fr⟩ ht
      obtain ⟨k, tk, hk, rfl, htk⟩ := ta.get hx
      rw [List.getElem?_map] at hy
      obtain ⟨n, hn, rfl⟩ := Option.map_eq_some_iff.mp hy
      walk_at "go"
      have hd : upd H1 t (.tup [.ref tk, .int n]) p = some (.dT (enc ((ks.take i).zip (ns.take i)))) := Eg.upd_old h1 ht
      refine ⟨p, _, rfl, DPut.t (k := ek k) hd ?_ ?_, ?_⟩
      · rw [ek_kV]
        exact Eg.upd_old (fr _ _ htk) ht
      · have : ((ks.take i).zip (ns.take i)).length ≤ ks.length := by
          rw [List.length_zip, List.length_take]
          omega
        unfold enc
        rw [List.length_map, sizeLine_eq]
        omega
      · walk_at "go"
        refine ⟨_, _, rfl, ?_, fun c o e => Eg.upd_mut (ne_of_none e hp) (Eg.upd_old (fr c o e) ht)⟩
        rw [upd_same, put_enc, putI_new, List.take_succ_eq_append_getElem (List.getElem?_eq_some_iff.mp hk).1, List.take_succ_eq_append_getElem (List.getElem?_eq_some_iff.mp hn).1, List.zip_append]
        · have e1 : ks[i]'(List.getElem?_eq_some_iff.mp hk).1 = k := (List.getElem?_eq_some_iff.mp hk).2
          have e2 : ns[i]'(List.getElem?_eq_some_iff.mp hn).1 = n := (List.getElem?_eq_some_iff.mp hn).2
          rw [e1, e2]
          rfl
        · rw [List.length_take, List.length_take]
          omega
        · intro hm
          rw [List.map_fst_zip (by rw [List.length_take, List.length_take]; omega)] at hm
          obtain ⟨j, hj⟩ := List.mem_iff_getElem?.mp hm
          rw [List.getElem?_take] at hj
          split at hj
          · have := nd_ix hnd hj hk
            omega
          · cases hj
    · rintro _ H1 ⟨u, v, rfl, h1, fr⟩
      walk_at "go"
      refine q p H1 hp ?_ fr
      rw [h1, tl, List.take_length, hl, List.take_length]
end
end LW

namespace LW
open PySem L2 Sm
abbrev fldsF (st : Int) (d : Addr) : List (Str × V) := [("start", .int st), ("steps", .ref d)]
theorem ss1 : (("start" : Str) == ("start" : Str)) = true := by decide +kernel
theorem ss2 : (("steps" : Str) == ("start" : Str)) = false := by decide +kernel
theorem ss3 : (("steps" : Str) == ("steps" : Str)) = true := by decide +kernel
theorem ss4 : (("sorts" : Str) == ("start" : Str)) = false := by decide +kernel
theorem ss5 : (("sorts" : Str) == ("steps" : Str)) = false := by decide +kernel
theorem lk_start (st : Int) (d : Addr) : (fldsF st d).lookup ("start" : Str) = some (V.int st) := by
  rw [fldsF, List.lookup_cons, ss1]
theorem lk_steps (st : Int) (d : Addr) : (fldsF st d).lookup ("steps" : Str) = some (V.ref d) := by
  rw [fldsF, List.lookup_cons, ss2, List.lookup_cons, ss3]
theorem lk_sorts (st : Int) (d : Addr) : (fldsF st d).lookup ("sorts" : Str) = none := by
  rw [fldsF, List.lookup_cons, ss4, List.lookup_cons, ss5]
  rfl
def FormAt (C : Addr) (H : Hp) (p : Addr) (st : Int) (qs : DI) : Prop := ∃ dx d, H p = some (.ins C dx (fldsF st d)) ∧ H d = some (.dT (enc qs))
structure FormOk (qs : DI) : Prop where
  nd : (qs.map (·.1)).Nodup
  s3 : ∀ p ∈ qs, Sort3 p.1
  sz : qs.length < 60
theorem FormAt.keep {C : Addr} {H H' : Hp} {p : Addr} {st : Int} {qs : DI} (h : FormAt C H p st qs) (e : Same H H') : FormAt C H' p st qs := let ⟨dx, d, h1, h2⟩ := h; ⟨dx, d, e _ _ h1, e _ _ h2⟩
def sp_Form_init (C : Addr) : Sp := fun vs H Q _ => ∃ (p dx d : Addr) (st : Int) (ps : DI), vs = [.ref p, .int st, .ref d] ∧ H p = some (.ins C dx []) ∧ H d = some (.dT (enc ps)) ∧ (ps.map (·.1)).Nodup ∧ ps.length < 1000 ∧
  ∀ H', FormAt C H' p st (nz ps) → (∀ b o, H b = some o → b ≠ p → H' b = some o) → Q .non H'
def sp_Form_sorts (C : Addr) : Sp := fun vs H Q _ => ∃ (p : Addr) (st : Int) (qs : DI), vs = [.ref p] ∧ FormAt C H p st qs ∧ FormOk qs ∧
  ∀ (L : List (Addr × List Int)) (l : Addr), (L.map (·.2)).Perm (qs.map (·.1)) → L.Pairwise (fun q r => TS.code 3 q.2 ≤ TS.code 3 r.2) → (∀ q ∈ L, H q.1 = some (.tup (q.2.map V.int))) → H l = none → Q (.ref l) (upd H l (.lst (L.map fun q => V.ref q.1)))
def eqForm (C : Addr) (a b : Addr) (H : Hp) : Prop := ∃ st qs rs, FormAt C H a st qs ∧ FormAt C H b st rs ∧ DTx.sameD (enc qs) (enc rs) = true
section
variable {P : Program} {w : World} {K : PySem.W.Frag} {mg : Str → Option Value} {base : Heap} {Z : Ad}
theorem dget_enc {H : Hp} {d b : Addr} {ps : DI} {k : List Int} (hd : Rd H d (.dT (enc ps))) (hb : H b = some (.tup (k.map V.int))) : DGet H d (.ref b) ((getI ps k).map V.int) :=
  .inr ⟨enc ps, ek k, b, hd, rfl, by rw [ek_kV]; exact hb, (val_enc ps k).symm⟩
theorem dget_some {H : Hp} {d b : Addr} {ps : DI} {k : List Int} {v : Int} (hd : Rd H d (.dT (enc ps))) (hb : H b = some (.tup (k.map V.int))) (hv : getI ps k = some v) : DGet H d (.ref b) (some (.int v)) := by
  have := dget_enc hd hb
  rw [hv] at this
  exact this
theorem flds_put (st : Int) (d : Addr) : putF "steps" (.ref d) (putF "start" (.int st) []) = fldsF st d := by
  rw [show putF "start" (V.int st) [] = [(("start" : Str), V.int st)] from rfl]
  show (if ("start" : Str) = "steps" then _ else (("start" : Str), V.int st) :: putF "steps" (V.ref d) []) = _
  rw [if_neg (by decide +kernel)]
  rfl
theorem inl_key {k : List Key} {ps : DI} {i : Nat} {v : V} (h : (enc ps)[i]? = some (k, v)) : ∃ ns z, ps[i]? = some (ns, z) ∧ k = ek ns ∧ v = .int z := by
  unfold enc at h
  rw [List.getElem?_map] at h
  obtain ⟨p, hp, e⟩ := Option.map_eq_some_iff.mp h
  exact ⟨p.1, p.2, hp, (Prod.mk.inj e).1.symm, (Prod.mk.inj e).2.symm⟩
theorem filt_succ {ps : DI} {i : Nat} {p : List Int × Int} (h : ps[i]? = some p) : nz (ps.take (i + 1)) = nz (ps.take i) ++ nz [p] := by
  obtain ⟨hl, e⟩ := List.getElem?_eq_some_iff.mp h
  rw [List.take_succ_eq_append_getElem hl, e, nz, List.filter_append]
  rfl
theorem ok_Form_init (T : Txt K mg Z) : FnOk P w K mg base CX0 1 Z.a_Form_init Z.d_Form_init ["self", "start", "steps"] (sp_Form_init Z.c_Form) := by
  refine T.F_Form_init.ok sc_Form_init (fun vs H Q E h => ?_) (fun cdv A outer s H vs Q E hr h => ?_)
  · obtain ⟨p, dx, d, st, ps, rfl, _⟩ := h
    rfl
  · obtain ⟨p, dx, d, st, ps, rfl, hp, hd, hnd, hsz, q⟩ := h
    have nd := sc_Form_init.nd
    have hu := hu_of hr
    have cF := T.cl_Form
    have n1 := T.n_Form_start
    have n2 := T.n_Form_steps
    have hdp : d ≠ p := ne_of hd hp (fun z => nomatch z)
    refine ⟨_, (pss_cons (ps_fld (pv 0) (pv 1) rfl)
  (pss_one (ps_fld (pv 0) (pe_lock (DTx.pe_dcT (own := [("sort", 3)]) (Nat.lt_of_succ_lt hu) rfl nd (pi_keys (pv 2)) (blkOk_by (N := N_Form_init) (sc := defScope s_Form_init) (by decide +kernel)) (fun _ _ _ _ _ => (pg_name (i := 3) nd rfl (Or.inl rfl))) (fun _ _ _ _ _ => (Eg.ptsE (pts_one (pt_cmpR op_ne (pe_dget hu (pv 2) (pv 3) (fun _ _ => rfl)) pe_int (nomark _))) (by walk_at "blk"))) (fun _ _ _ _ _ => (Eg.peE (pv 3) (by walk_at "blk"))) (fun _ _ _ _ _ => (Eg.peE (pe_dget hu (pv 2) (pv 3) (fun _ _ => rfl)) (by walk_at "blk"))))) rfl))), ?_⟩
    refine Eg.w_sig (σ := [some (.ref p), some (.int st), some (.ref d), none]) rfl ?_
    walk_at "go"
    refine ⟨d, _, Eg.upd_mut hdp hd, trivial, fun od => ?_⟩
    walk_at "go"
    refine Eg.c_iKT upd_same ?_
    walk_at "go"
    intro D hD
    have hpD : p ≠ D := fun e => by rw [e, upd_ne (by rintro rfl; rw [← e] at hdp; exact hdp rfl), ← e, upd_same] at hD; cases hD
    have hdD : d ≠ D := fun e => by rw [e, upd_same] at hD; cases hD
    refine DTx.dt_it walk_keysT (fun i H' => H' d = some (.frz od (.dT (enc ps))) ∧ H' D = some (.dT (enc (nz (ps.take i)))) ∧ H' p = some (.ins Z.c_Form dx (putF "start" (.int st) [])) ∧ ∀ b o, H b = some o → b ≠ p → b ≠ d → H' b = some o) ?_ (fun i H' _ h => h.1) ?_ ?_
    · refine ⟨Eg.upd_mut hdD upd_same, upd_same, Eg.upd_mut hpD (Eg.upd_mut hdp.symm upd_same), fun b o e h1 h2 => ?_⟩
      refine Eg.upd_old ?_ hD
      exact Eg.upd_mut h2 (Eg.upd_mut h1 e)
    · rintro i x H1 _ hi ⟨h1, h2, h3, fr⟩ ⟨rfl, k, v, t, hk, rfl, ht⟩
      obtain ⟨ns, z, hps, rfl, rfl⟩ := inl_key hk
      rw [ek_kV] at ht
      have gz : getI ps ns = some z := getI_mem hnd (List.mem_of_getElem? hps)
      have dg := dget_some (.inr ⟨od, h1⟩) ht gz
      walk_at "go"
      refine ⟨d, _, rfl, dg, ?_⟩
      walk_at "go"
      refine Eg.brDn (fun hne => ?_) (fun he => ?_)
      · walk_at "go"
        refine ⟨d, _, rfl, dg, ?_⟩
        have zne : ¬ z = 0 := fun e => hne (by rw [e])
        refine ⟨_, ek ns, t, rfl, by rw [ek_kV]; exact ht, h2, ?_, Eg.upd_mut hdD h1, ?_, Eg.upd_mut hpD h3, fun b o e e1 e2 => Eg.upd_mut ?_ (fr b o e e1 e2)⟩
        · unfold enc nz
          rw [List.length_map]
          have l1 := List.length_filter_le (fun p : List Int × Int => decide (p.2 ≠ 0)) (ps.take i)
          rw [List.length_take] at l1
          rw [sizeLine_eq]
          omega
        · rw [upd_same, put_enc, filt_succ hps, putI_new]
          · simp [nz, zne]
          · intro hm
            obtain ⟨y, hy, ey⟩ := List.mem_map.mp hm
            have hy2 := nz_sub hy
            obtain ⟨j, hj⟩ := List.mem_iff_getElem?.mp hy2
            rw [List.getElem?_take] at hj
            split at hj
            · have hj1 : (ps.map (·.1))[j]? = some ns := by rw [List.getElem?_map, hj]; simp [ey]
              have hi1 : (ps.map (·.1))[i]? = some ns := by rw [List.getElem?_map, hps]; rfl
              have := nd_ix hnd hj1 hi1
              omega
            · cases hj
        · rintro rfl
          rw [upd_ne (Ne.symm hdD), upd_ne e1] at hD
          rw [e] at hD
          cases hD
      · walk_at "go"
        have z0 : z = 0 := V.int.inj he
        refine ⟨h1, ?_, h3, fr⟩
        rw [h2, filt_succ hps, z0]
        simp [nz]
    · rintro H1 ⟨h1, h2, h3, fr⟩
      refine ⟨h1, ?_⟩
      walk_at "go"
      refine q _ ⟨dx, D, ?_, ?_⟩ fun b o e e1 => ?_
      · rw [upd_same, flds_put]
      · refine Eg.upd_mut hpD.symm (Eg.upd_mut hdD.symm ?_)
        rw [h2]
        unfold enc
        rw [List.length_map, List.take_length]
      · refine Eg.upd_mut e1 ?_
        by_cases e2 : b = d
        · rw [e2, upd_same]
          rw [e2, hd] at e
          exact e
        · exact Eg.upd_mut e2 (fr b o e e1 e2)
theorem ok_Form_sorts (T : Txt K mg Z) : FnOk P w K mg base CX0 1 Z.a_Form_sorts Z.d_Form_sorts ["self"] (sp_Form_sorts Z.c_Form) := by
  refine T.F_Form_sorts.ok sc_Form_sorts (fun vs H Q E h => ?_) (fun cdv A outer s H vs Q E hr h => ?_)
  · obtain ⟨p, st, qs, rfl, _⟩ := h
    rfl
  · obtain ⟨p, st, qs, rfl, ⟨dx, d, hp, hd⟩, ok, q⟩ := h
    have cF := T.cl_Form
    have n2 := T.n_Form_steps
    have lk2 := lk_steps st d
    refine ⟨_, (pss_one (ps_ret (pe_callB (DTx.cr_sortedD rfl) (by rfl) T.u_sorted (by decide +kernel) (pa_cons (pe_fld (pv 0) rfl) pa_nil)))), ?_⟩
    refine Eg.w_sig (σ := [some (.ref p)]) rfl ?_
    walk_at "go"
    have e : enc qs = (qs.map fun y => (y.1, V.int y.2)).map fun y => (y.1.map Sum.inl, y.2) := by
      rw [List.map_map]
      rfl
    rw [e] at hd
    refine ⟨d, qs.map fun y => (y.1, V.int y.2), 3, 3, rfl, .inl hd, ?_, by decide, fun y hy => ?_, fun L l h1 h2 h3 h4 => ?_⟩
    · rw [List.length_map]
      have := ok.sz
      omega
    · obtain ⟨z, hz, rfl⟩ := List.mem_map.mp hy
      exact ok.s3 z hz
    · walk_at "go"
      rw [List.map_map] at h1
      exact q L l h1 h2 h3 h4
end
end LW

namespace LW
open PySem L2 Sm

def FRd (C : Addr) (H : Hp) (p : Addr) (st : Int) (qs : DI) : Prop := ∃ dx d, H p = some (.ins C dx (fldsF st d)) ∧ Rd H d (.dT (enc qs))
theorem FormAt.rd {C : Addr} {H : Hp} {p : Addr} {st : Int} {qs : DI} (h : FormAt C H p st qs) : FRd C H p st qs := let ⟨dx, d, h1, h2⟩ := h; ⟨dx, d, h1, .inl h2⟩
theorem rd_lock {H H' : Hp} {c d : Addr} {r qs : DI} {od : Obj} (e : ∀ b o, H b = some o → b ≠ c → H' b = some o) (h' : H' c = some (.frz od (.dT (enc r)))) (hc : H c = some (.dT (enc r))) (h : Rd H d (.dT (enc qs))) : Rd H' d (.dT (enc qs)) := by
  by_cases hd : d = c
  · subst hd
    rcases h with h | ⟨o2, h⟩
    · rw [hc] at h
      have : enc r = enc qs := HO.dT.inj (Option.some.inj h)
      rw [← this]
      exact .inr ⟨od, h'⟩
    · rw [hc] at h
      cases h
  · rcases h with h | ⟨o2, h⟩
    · exact .inl (e _ _ h hd)
    · exact .inr ⟨o2, e _ _ h hd⟩
theorem FRd.lock {C : Addr} {H H' : Hp} {c p : Addr} {st : Int} {r qs : DI} {od : Obj} (h : FRd C H p st qs) (e : ∀ b o, H b = some o → b ≠ c → H' b = some o) (h' : H' c = some (.frz od (.dT (enc r)))) (hc : H c = some (.dT (enc r))) : FRd C H' p st qs := by
  obtain ⟨dx, d, h1, h2⟩ := h
  exact ⟨dx, d, e _ _ h1 (ne_of h1 hc (fun z => nomatch z)), rd_lock e h' hc h2⟩
theorem getD_gt (qs : DI) (k : List Int) : ((getI qs k).map V.int).getD (V.int 0) = V.int (gt qs k) := by
  unfold gt
  cases getI qs k <;> rfl
theorem keys_tups {H : Hp} {qs : DI} {bs : List Addr} (h : IsKeys H (enc qs) bs) : TupsAt H (bs.map V.ref) (qs.map (·.1)) := by
  unfold IsKeys enc at h
  induction qs generalizing bs with
  | nil =>
    cases h
    exact .nil
  | cons q r ih =>
    cases h with
    | cons a b =>
      refine .cons ⟨_, rfl, ?_⟩ (ih b)
      rw [← ek_kV]
      exact a
theorem good_ok {qs : DI} (h : Good qs) : FormOk qs := ⟨h.nd, h.s3, by have := h.sz; omega⟩
def sp_Form_getitem (C : Addr) : Sp := fun vs H Q _ => ∃ (p t : Addr) (st : Int) (qs : DI) (k : List Int), vs = [.ref p, .ref t] ∧ FRd C H p st qs ∧ H t = some (.tup (k.map V.int)) ∧ Q (.int (gt qs k)) H
def sp_Form_len (C : Addr) : Sp := fun vs H Q _ => ∃ (p : Addr) (st : Int) (qs : DI), vs = [.ref p] ∧ FormAt C H p st qs ∧ Q (.int (qs.length : Nat)) H
def sp_Form_call (C : Addr) : Sp := fun vs H Q _ => ∃ (p c : Addr) (st : Int) (qs cs : DI), vs = [.ref p, .ref c] ∧ FormAt C H p st qs ∧ H c = some (.dT (enc cs)) ∧ (cs.map (·.1)).Nodup ∧ (∀ y ∈ cs, -100000 ≤ y.2 ∧ y.2 ≤ 100000) ∧ Q (.int (st + atC qs cs)) H
def sp_Form_neg (C : Addr) : Sp := fun vs H Q _ => ∃ (p : Addr) (st : Int) (qs : DI), vs = [.ref p] ∧ FormAt C H p st qs ∧ Good qs ∧
  ∀ (x : Addr) (rs : DI) (H' : Hp), H x = none → FormAt C H' x (-st) rs → Good rs → (∀ k, gt rs k = -gt qs k) → Same H H' → Q (.ref x) H'
def AddQ (C : Addr) (H : Hp) (st : Int) (F : List Int → Int) (Q : VK) : Prop := ∀ (x : Addr) (rs : DI) (H' : Hp), H x = none → FormAt C H' x st rs → Good rs → (∀ k, gt rs k = F k) → Same H H' → Q (.ref x) H'
def sp_combined (C : Addr) : Sp := fun vs H Q _ => ∃ (p q : Addr) (f st1 st2 : Int) (qs1 qs2 : DI), vs = [.ref p, .ref q, .int f] ∧ (-1000 ≤ f ∧ f ≤ 1000) ∧ FormAt C H p st1 qs1 ∧ FormAt C H q st2 qs2 ∧ Good qs1 ∧ Good qs2 ∧ AddQ C H (st1 + f * st2) (fun k => gt qs1 k + f * gt qs2 k) Q
def sp_two (C : Addr) (f : Int) : Sp := fun vs H Q _ => ∃ (p q : Addr) (st1 st2 : Int) (qs1 qs2 : DI), vs = [.ref p, .ref q] ∧ FormAt C H p st1 qs1 ∧ FormAt C H q st2 qs2 ∧ Good qs1 ∧ Good qs2 ∧ AddQ C H (st1 + f * st2) (fun k => gt qs1 k + f * gt qs2 k) Q
section
variable {P : Program} {w : World} {K : PySem.W.Frag} {mg : Str → Option Value} {base : Heap} {Z : Ad}
theorem ok_Form_call (T : Txt K mg Z) : FnOk P w K mg base CX0 1 Z.a_Form_call Z.d_Form_call ["self", "counts"] (sp_Form_call Z.c_Form) := by
  refine T.F_Form_call.ok sc_Form_call (fun vs H Q E h => ?_) (fun cdv A outer s H vs Q E hr h => ?_)
  · obtain ⟨p, c, st, qs, cs, rfl, _⟩ := h
    rfl
  · obtain ⟨p, c, st, qs, cs, rfl, F, hc, cnd, cbd, q⟩ := h
    have hu := hu_of hr
    have nd := sc_Form_call.nd
    have cF := T.cl_Form
    have n1 := T.n_Form_start
    have n2 := T.n_Form_steps
    obtain ⟨dx, d, hp, hd⟩ := id F
    have lk1 := lk_start st d
    have lk2 := lk_steps st d
    have hpc : p ≠ c := ne_of hp hc (fun z => nomatch z)
    refine ⟨_, (pss_cons (ps_set (i := 2) nd rfl (Or.inl rfl) (pe_fld (pv 0) rfl))
  (pss_cons (ps_lock (ps_for PassesOwn.never rfl (pi_keys (pv 1)) (pg_name (i := 3) nd rfl (Or.inl rfl))
  (pss_one (ps_aug (i := 2) nd rfl (Or.inl rfl) (pe_op op_mul (pe_dget2 hu (pe_fld (pv 0) rfl) (pv 3) pe_int ⟨rfl, rfl, rfl, rfl⟩) (pe_dget hu (pv 1) (pv 3) (fun _ _ => rfl))) ip_add))))
  (pss_one (ps_ret (pv 2))))), ?_⟩
    refine Eg.w_sig (σ := [some (.ref p), some (.ref c), none, none]) rfl ?_
    walk_at "go"
    refine ⟨c, _, hc, trivial, fun od => ?_⟩
    walk_at "go"
    refine Eg.c_iKT upd_same ?_
    have hlc : ∀ b o, H b = some o → b ≠ c → upd H c (.frz od (.dT (enc cs))) b = some o := fun b o e hn => Eg.upd_mut hn e
    have hds : Rd (upd H c (.frz od (.dT (enc cs)))) d (.dT (enc qs)) := rd_lock hlc upd_same hc (.inl hd)
    refine for_it walk_keysT (fun j σ' H' => ∃ v4, σ' = [some (.ref p), some (.ref c), some (.int (st + atC qs (cs.take j))), v4] ∧ upd H c (.frz od (.dT (enc cs))) = H') ⟨_, by rw [List.take_zero]; exact congrArg (fun z => [some (V.ref p), some (V.ref c), some (V.int z), none]) (Int.add_zero st).symm, rfl⟩ ?_ ?_ ?_
    · rintro j _ _ _ ⟨v4, rfl, rfl⟩
      exact upd_same
    · rintro j y _ _ _ hj ⟨v4, rfl, rfl⟩ ⟨rfl, k, v, t, hk, rfl, ht⟩
      obtain ⟨kk, z, hkz, rfl, rfl⟩ := inl_key hk
      rw [ek_kV] at ht
      obtain ⟨hlt, he⟩ := List.getElem?_eq_some_iff.mp hkz
      walk_at "go"
      refine Ow.w_aug rfl ?_
      walk_at "go"
      refine Ow.w_dget2 ?_
      walk_at "go"
      refine Ow.c_dget2T hds ?_
      walk_at "go"
      refine ⟨_, dget_enc hds ht, ?_⟩
      rw [getD_gt]
      walk_at "go"
      have gz : getI cs kk = some z := getI_mem cnd (List.mem_of_getElem? hkz)
      have zb : -100000 ≤ z ∧ z ≤ 100000 := cbd _ (List.mem_of_getElem? hkz)
      have zb1 := zb.1
      have zb2 := zb.2
      refine ⟨c, _, rfl, dget_some (.inr ⟨od, upd_same⟩) ht gz, ?_⟩
      walk_at "go"
      refine Ow.c_ipI ?_
      walk_at "go"
      refine ⟨some (.ref t), ?_, rfl⟩
      rw [List.take_succ_eq_append_getElem hlt, he]
      unfold atC
      rw [List.map_append, List.sum_append, List.map_cons, List.map_nil, List.sum_cons, List.sum_nil, Int.add_zero, ← Int.add_assoc]
      rfl
    · rintro _ _ ⟨v4, rfl, rfl⟩
      refine ⟨upd_same, ?_⟩
      rw [upd_upd, show upd H c (.dT (enc cs)) = H from by
        funext b
        by_cases e : b = c
        · rw [e, upd_same, hc]
        · rw [upd_ne e]]
      walk_at "go"
      have : (enc cs).length = cs.length := by unfold enc; rw [List.length_map]
      rw [this, List.take_length]
      exact q
theorem ok_Form_neg (T : Txt K mg Z) : FnOk P w K mg base CX0 3 Z.a_Form_neg Z.d_Form_neg ["self"] (sp_Form_neg Z.c_Form) := by
  refine T.F_Form_neg.ok sc_Form_neg (fun vs H Q E h => ?_) (fun cdv A outer s H vs Q E hr h => ?_)
  · obtain ⟨p, st, qs, rfl, _⟩ := h
    rfl
  · obtain ⟨p, st, qs, rfl, ⟨dx, d, hp, hd⟩, gd, q⟩ := h
    have hu := hu_of hr
    have nd := sc_Form_neg.nd
    have cF := T.cl_Form
    have n1 := T.n_Form_start
    have n2 := T.n_Form_steps
    have lk1 := lk_start st d
    have lk2 := lk_steps st d
    have hpd : p ≠ d := ne_of hp hd (fun z => nomatch z)
    have gsz := gd.sz
    refine ⟨_, (pss_one (ps_ret (pe_make T.mk_Form (ok_Form_init T) (hr.mono (by decide)) (by rfl) T.g_Form T.b_Form_init .nil pass0 (pa_cons (pe_un un_neg (pe_fld (pv 0) rfl)) (pa_cons (pe_lock (DTx.pe_dcT (own := [("sort", 1)]) (Nat.lt_of_succ_lt hu) rfl nd (pi_keys (pe_fld (pv 0) rfl)) (blkOk_by (N := N_Form_neg) (sc := defScope s_Form_neg) (by decide +kernel)) (fun _ _ _ _ _ => (pg_name (i := 1) nd rfl (Or.inl rfl))) (fun _ _ _ _ _ => pts_nil) (fun _ _ _ _ _ => (Eg.peE (pv 1) (by walk_at "blk"))) (fun _ _ _ _ _ => (Eg.peE (pe_un un_neg (pe_dget hu (pe_fld (pv 0) rfl) (pv 1) (fun _ _ => rfl))) (by walk_at "blk"))))) pa_nil))))), ?_⟩
    refine Eg.w_sig (σ := [some (.ref p), none]) rfl ?_
    walk_at "go"
    refine ⟨d, _, hd, trivial, fun od => ?_⟩
    walk_at "go"
    refine Eg.c_iKT upd_same ?_
    walk_at "go"
    intro D hD
    have hdD : d ≠ D := fun e => by rw [e, upd_same] at hD; cases hD
    have hD0 : H D = none := by rw [upd_ne hdD.symm] at hD; exact hD
    refine DTx.dt_it walk_keysT (fun i H' => H' d = some (.frz od (.dT (enc qs))) ∧ H' D = some (.dT (enc ((qs.take i).map fun p => (p.1, -p.2)))) ∧ ∀ b o, H b = some o → b ≠ d → H' b = some o) ?_ (fun i H' _ h => h.1) ?_ ?_
    · exact ⟨Eg.upd_mut hdD upd_same, upd_same, fun b o e h2 => Eg.upd_old (Eg.upd_mut h2 e) hD⟩
    · rintro i x H1 _ hi ⟨h1, h2, fr⟩ ⟨rfl, k, v, t, hk, rfl, ht⟩
      obtain ⟨ns, z, hps, rfl, rfl⟩ := inl_key hk
      rw [ek_kV] at ht
      have dg := dget_some (.inr ⟨od, h1⟩) ht (getI_mem gd.nd (List.mem_of_getElem? hps))
      have h1p := fr _ _ hp hpd
      obtain ⟨hlt, he⟩ := List.getElem?_eq_some_iff.mp hps
      walk_at "go"
      refine ⟨d, _, rfl, dg, ?_⟩
      walk_at "go"
      refine ⟨_, ek ns, t, rfl, by rw [ek_kV]; exact ht, h2, ?_, Eg.upd_mut hdD h1, ?_, fun b o e e2 => Eg.upd_mut (ne_of_none e hD0) (fr b o e e2)⟩
      · unfold enc
        rw [List.length_map, List.length_map, List.length_take, sizeLine_eq]
        omega
      · rw [upd_same, put_enc, putI_new]
        · rw [List.take_succ_eq_append_getElem hlt, he, List.map_append]
          rfl
        · rw [List.map_map]
          intro hm
          obtain ⟨y, hy, ey⟩ := List.mem_map.mp hm
          have ey : y.1 = ns := ey
          obtain ⟨j, hj⟩ := List.mem_iff_getElem?.mp hy
          rw [List.getElem?_take] at hj
          split at hj
          · have hj1 : (qs.map (·.1))[j]? = some ns := by rw [List.getElem?_map, hj]; simp [ey]
            have hi1 : (qs.map (·.1))[i]? = some ns := by rw [List.getElem?_map, hps]; rfl
            have := nd_ix gd.nd hj1 hi1
            omega
          · cases hj
    · rintro H1 ⟨h1, h2, fr⟩
      refine ⟨h1, ?_⟩
      have el : (enc qs).length = qs.length := by unfold enc; rw [List.length_map]
      rw [el, List.take_length] at h2
      have s1 : Same H (upd H1 d (.dT (enc qs))) := fun b o e => by
        by_cases hb : b = d
        · rw [hb, upd_same]
          rw [hb, hd] at e
          exact e
        · exact Eg.upd_mut hb (fr b o e hb)
      have h2' : upd H1 d (.dT (enc qs)) D = some (.dT (enc (qs.map fun p => (p.1, -p.2)))) := Eg.upd_mut hdD.symm h2
      generalize upd H1 d (.dT (enc qs)) = H2 at s1 h2' ⊢
      have k3 : Keys3 (qs.map fun p => (p.1, -p.2)) := ⟨by rw [List.map_map]; exact gd.nd, fun y hy => by
        obtain ⟨z, hz, rfl⟩ := List.mem_map.mp hy
        exact gd.s3 z hz⟩
      walk_at "go"
      intro x dx' hx hdx hne
      have sx : Same H2 (upd (upd H2 dx' (.own x)) x (.ins Z.c_Form dx' [])) := fun c o e => Eg.upd_mut (ne_of_none e hx) (Eg.upd_old e hdx)
      refine ⟨x, dx', D, _, _, rfl, upd_same, sx _ _ h2', k3.nd, by have := k3.sz; omega, fun H9 F9 k9 => ⟨rfl, ?_⟩⟩
      walk_at "go"
      refine q x _ H9 (s1.free hx) F9 k3.good (fun k => ?_) (s1.trans fun c o e => k9 c o (sx c o e) (ne_of_none e hx))
      rw [gt_nz k3.nd]
      unfold gt
      have : getI (qs.map fun p => (p.1, -p.2)) k = (getI qs k).map fun z => -z := by
        clear q gd hd hp h2 h2' k3 s1 fr h1 F9 k9 sx hD hD0 gsz el
        induction qs with
        | nil => rfl
        | cons y r ih =>
          rw [List.map_cons, getI_cons, getI_cons, ih]
          split <;> rfl
      rw [this]
      cases getI qs k <;> simp
end
end LW

namespace LW
open PySem L2 Sm
/-- what the fewest counts above are -/
def Fa (st : Int) (qs : DI) : Option DI → Prop
  | none => st < 1 ∧ ∀ p ∈ qs, p.2 ≤ 0
  | some r => (1 ≤ st ∧ r = []) ∨ (st < 1 ∧ ∃ k s, r = [(k, (s - st) / s)] ∧ (k, s) ∈ qs ∧ 0 < s ∧ (∀ p ∈ qs, p.2 ≤ s) ∧ ∀ p ∈ qs, p.2 = s → TS.code 3 k ≤ TS.code 3 p.1)
theorem fa_one {st : Int} {qs : DI} (ok : FormOk qs) {r r' : Option DI} (h : Fa st qs r) (h' : Fa st qs r') : r = r' := by
  cases r with
  | none => cases r' with
    | none => rfl
    | some b =>
      rcases h' with ⟨h1, _⟩ | ⟨_, k, s, _, hm, hs, _⟩
      · exact absurd h.1 (by omega)
      · have := h.2 _ hm
        exact absurd this (by show ¬ s ≤ 0; omega)
  | some a => cases r' with
    | none =>
      rcases h with ⟨h1, _⟩ | ⟨_, k, s, _, hm, hs, _⟩
      · exact absurd h'.1 (by omega)
      · have := h'.2 _ hm
        exact absurd this (by show ¬ s ≤ 0; omega)
    | some b =>
      rcases h with ⟨h1, rfl⟩ | ⟨h1, k, s, rfl, hm, hs, hx, hl⟩
      · rcases h' with ⟨_, rfl⟩ | ⟨h2, _⟩
        · rfl
        · omega
      · rcases h' with ⟨h2, _⟩ | ⟨_, k', s', rfl, hm', hs', hx', hl'⟩
        · omega
        · have e1 : s ≤ s' := hx' _ hm
          have e2 : s' ≤ s := hx _ hm'
          have e : s = s' := by omega
          subst e
          have c1 := hl _ hm' rfl
          have c2 := hl' _ hm rfl
          have : k = k' := code_inj (B := 3) (by decide) ((ok.s3 _ hm).1.trans (ok.s3 _ hm').1.symm) (ok.s3 _ hm).2 (ok.s3 _ hm').2 (Int.le_antisymm c1 c2)
          rw [this]
def sp_fewest_above (C : Addr) : Sp := fun vs H Q _ => ∃ (p : Addr) (st : Int) (qs : DI), vs = [.ref p] ∧ FormAt C H p st qs ∧ FormOk qs ∧ -100000 ≤ st ∧ (∀ q ∈ qs, -100000 ≤ q.2 ∧ q.2 ≤ 100000) ∧
  (∀ H', Same H H' → Fa st qs none → Q .non H') ∧ ∀ r d H', Same H H' → H d = none → H' d = some (.dT (enc r)) → Fa st qs (some r) → Q (.ref d) H'
section
variable {P : Program} {w : World} {K : PySem.W.Frag} {mg : Str → Option Value} {base : Heap} {Z : Ad}
/-- the least best key among those that were seen -/
def Best (qs : DI) (done : List (Addr × List Int)) : V → Prop
  | .non => ∀ y ∈ done, ∀ s, getI qs y.2 = some s → s ≤ 0
  | .ref t => ∃ k s, (t, k) ∈ done ∧ getI qs k = some s ∧ 0 < s ∧ ∀ y ∈ done, ∀ z, getI qs y.2 = some z → z ≤ s ∧ (z = s → TS.code 3 k ≤ TS.code 3 y.2)
  | _ => False
theorem ok_fewest_above (T : Txt K mg Z) : FnOk P w K mg base CX0 2 Z.a_fewest_above Z.d_fewest_above ["form"] (sp_fewest_above Z.c_Form) := by
  refine T.F_fewest_above.ok sc_fewest_above (fun vs H Q E h => ?_) (fun cdv A outer s H vs Q E hr h => ?_)
  · obtain ⟨p, st, qs, rfl, _⟩ := h
    rfl
  · obtain ⟨p, st, qs, rfl, ⟨dx, d, hp, hd⟩, ok, hst, hqs, qN, qD⟩ := h
    have hu := hu_of hr
    have nd := sc_fewest_above.nd
    have cF := T.cl_Form
    have n1 := T.n_Form_start
    have n2 := T.n_Form_steps
    have lk1 := lk_start st d
    have lk2 := lk_steps st d
    have lk3 := lk_sorts st d
    refine ⟨_, (pss_cons (ps_if (pt_cmpR op_ge (pe_fld (pv 0) rfl) pe_int (nomark _))
  (pss_one (ps_ret pe_dnewT))
  pss_nil)
  (pss_cons (ps_set (i := 1) nd rfl (Or.inl rfl) pe_non)
  (pss_cons (ps_for PassesOwn.never rfl (pi_list (pe_meth0 (pv 0) T.cl_Form T.m_Form_sorts (ok_Form_sorts T) (hr.mono (by decide)) T.b_Form_sorts .nil pass0)) (pg_name (i := 2) nd rfl (Or.inl rfl))
  (pss_one (ps_if (PW.pt (pw_and (pt_cmpR op_gt (pe_dget hu (pe_fld (pv 0) rfl) (pv 2) (fun _ _ => rfl)) pe_int (nomark _)) (pw_and1 (PW.pt (pw_or (pt_cmpR Eg.opr_isN (pv 1) pe_non (nomark _)) (pw_or1 (pt_cmpR op_gt (pe_dget hu (pe_fld (pv 0) rfl) (pv 2) (fun _ _ => rfl)) (pe_dget hu (pe_fld (pv 0) rfl) (pv 1) (fun _ _ => rfl)) (nomark _))))))))
  (pss_one (ps_set (i := 1) nd rfl (Or.inl rfl) (pv 2)))
  pss_nil)))
  (pss_cons (ps_if (pt_cmpR Eg.opr_isN (pv 1) pe_non (nomark _))
  (pss_one (ps_ret pe_non))
  pss_nil)
  (pss_one (ps_ret (DTx.pe_one_pair (Nat.lt_of_succ_lt hu) (pv 1) (pe_op op_fdiv (pe_op op_sub (pe_dget hu (pe_fld (pv 0) rfl) (pv 1) (fun _ _ => rfl)) (pe_fld (pv 0) rfl)) (pe_dget hu (pe_fld (pv 0) rfl) (pv 1) (fun _ _ => rfl)))))))))), ?_⟩
    refine Eg.w_sig (σ := [some (.ref p), none, none]) rfl ?_
    walk_at "go"
    refine Eg.brD (fun h1 => ?_) (fun h1 => ?_)
    · walk_at "go"
      intro l hl
      walk_at "go"
      exact qD [] l _ (Eg.same_new (Same.refl _) hl) hl upd_same (.inl ⟨h1, rfl⟩)
    walk_at "go"
    refine ⟨p, st, qs, rfl, ⟨dx, d, hp, hd⟩, ok, fun L l pm pw hL hl => ?_⟩
    have sm : Same H (upd H l (.lst (L.map fun q => V.ref q.1))) := Eg.same_new (Same.refl _) hl
    have inq : ∀ y ∈ L, ∃ z, getI qs y.2 = some z ∧ (y.2, z) ∈ qs := fun y hy => by
      obtain ⟨x, hx, e⟩ := List.mem_map.mp (pm.mem_iff.mp (List.mem_map.mpr ⟨y, hy, rfl⟩))
      exact ⟨x.2, by rw [← e]; exact getI_mem ok.nd hx, by rw [← e]; exact hx⟩
    walk_at "go"
    refine for_list (xs := L.map fun q => V.ref q.1) (fun i σ' H' => ∃ b v, σ' = [some (.ref p), some b, v] ∧ upd H l (.lst (L.map fun q => V.ref q.1)) = H' ∧ Best qs (L.take i) b) ⟨.non, none, rfl, rfl, fun y hy => nomatch hy⟩ ?_ ?_ ?_
    · rintro i _ _ _ ⟨b, v, rfl, rfl, _⟩
      exact SqL.of upd_same
    · rintro i x _ _ hx ⟨b, v, rfl, rfl, hb⟩
      rw [List.getElem?_map] at hx
      obtain ⟨y, hy, rfl⟩ := Option.map_eq_some_iff.mp hx
      have ym := List.mem_of_getElem? hy
      obtain ⟨z, gz, _⟩ := inq y ym
      have dg := dget_some (.inl (sm _ _ hd)) (sm _ _ (hL y ym)) gz
      have tk : L.take (i + 1) = L.take i ++ [y] := by
        obtain ⟨hi, e⟩ := List.getElem?_eq_some_iff.mp hy
        rw [List.take_succ_eq_append_getElem hi, e]
      have le : ∀ x ∈ L.take i, TS.code 3 x.2 ≤ TS.code 3 y.2 := fun x hx => by
        have pw2 : (L.take (i + 1)).Pairwise (fun q r => TS.code 3 q.2 ≤ TS.code 3 r.2) := pw.sublist (List.take_sublist _ _)
        rw [tk] at pw2
        exact (List.pairwise_append.mp pw2).2.2 x hx y (by simp)
      walk_at "go"
      refine ⟨d, _, rfl, dg, ?_⟩
      walk_at "go"
      refine Eg.brD (fun hz => ?_) (fun hz => ?_)
      · walk_at "go"
        cases b with
        | non =>
          rw [decide_eq_true (show V.non = V.non from rfl)]
          walk_at "go"
          refine ⟨.ref y.1, _, rfl, rfl, y.2, z, by rw [tk]; simp, gz, hz, fun x hx z' gz' => ?_⟩
          rw [tk] at hx
          rcases List.mem_append.mp hx with hx | hx
          · have := hb x hx z' gz'
            exact ⟨by omega, fun e => by omega⟩
          · rw [List.mem_singleton.mp hx] at gz' ⊢
            rw [gz] at gz'
            have : z = z' := Option.some.inj gz'
            exact ⟨by omega, fun _ => Int.le_refl _⟩
        | ref t =>
          obtain ⟨k, sk, tm, gk, sp, hb⟩ := hb
          have tmL : (t, k) ∈ L := List.mem_of_mem_take tm
          have dk := dget_some (.inl (sm _ _ hd)) (sm _ _ (hL _ tmL)) gk
          rw [decide_eq_false (show ¬ V.ref t = V.non from fun z => nomatch z)]
          walk_at "go"
          refine ⟨d, _, rfl, dg, ?_⟩
          walk_at "go"
          refine ⟨d, _, rfl, dk, ?_⟩
          walk_at "go"
          refine Eg.brD (fun hlt => ?_) (fun hlt => ?_)
          · walk_at "go"
            refine ⟨.ref y.1, _, rfl, rfl, y.2, z, by rw [tk]; simp, gz, hz, fun x hx z' gz' => ?_⟩
            rw [tk] at hx
            rcases List.mem_append.mp hx with hx | hx
            · have := hb x hx z' gz'
              exact ⟨by omega, fun e => by omega⟩
            · rw [List.mem_singleton.mp hx] at gz' ⊢
              rw [gz] at gz'
              have : z = z' := Option.some.inj gz'
              exact ⟨by omega, fun _ => Int.le_refl _⟩
          · walk_at "go"
            refine ⟨.ref t, _, rfl, rfl, k, sk, by rw [tk]; exact List.mem_append_left _ tm, gk, sp, fun x hx z' gz' => ?_⟩
            rw [tk] at hx
            rcases List.mem_append.mp hx with hx | hx
            · exact hb x hx z' gz'
            · rw [List.mem_singleton.mp hx] at gz' ⊢
              rw [gz] at gz'
              have : z = z' := Option.some.inj gz'
              exact ⟨by omega, fun _ => le _ tm⟩
        | _ => exact hb.elim
      · walk_at "go"
        refine ⟨b, _, rfl, rfl, ?_⟩
        cases b with
        | non =>
          intro x hx z' gz'
          rw [tk] at hx
          rcases List.mem_append.mp hx with hx | hx
          · exact hb x hx z' gz'
          · rw [List.mem_singleton.mp hx, gz] at gz'
            have : z = z' := Option.some.inj gz'
            omega
        | ref t =>
          obtain ⟨k, sk, tm, gk, sp, hb⟩ := hb
          refine ⟨k, sk, by rw [tk]; exact List.mem_append_left _ tm, gk, sp, fun x hx z' gz' => ?_⟩
          rw [tk] at hx
          rcases List.mem_append.mp hx with hx | hx
          · exact hb x hx z' gz'
          · rw [List.mem_singleton.mp hx, gz] at gz'
            have : z = z' := Option.some.inj gz'
            exact ⟨by omega, fun e => by omega⟩
        | _ => exact hb.elim
    · rintro _ _ ⟨b, v, rfl, rfl, hb⟩
      rw [List.length_map, List.take_length] at hb
      have qin : ∀ x ∈ qs, ∃ y ∈ L, y.2 = x.1 := fun x hx => by
        obtain ⟨y, hy, e⟩ := List.mem_map.mp (pm.mem_iff.mpr (List.mem_map.mpr ⟨x, hx, rfl⟩))
        exact ⟨y, hy, e⟩
      walk_at "go"
      cases b with
      | non =>
        rw [decide_eq_true (show V.non = V.non from rfl)]
        walk_at "go"
        refine qN _ sm ⟨by omega, fun x hx => ?_⟩
        obtain ⟨y, hy, e⟩ := qin x hx
        exact hb y hy x.2 (by rw [e]; exact getI_mem ok.nd hx)
      | ref t =>
        obtain ⟨k, sk, tm, gk, sp, hb⟩ := hb
        have hk := hqs _ (mem_getI gk)
        have hk1 : -100000 ≤ sk ∧ sk ≤ 100000 := hk
        rw [decide_eq_false (show ¬ V.ref t = V.non from fun z => nomatch z)]
        walk_at "go"
        intro r hrn
        have sm2 := Eg.same_new (o1 := .dT []) sm hrn
        have dk := dget_some (.inl (sm2 _ _ hd)) (sm2 _ _ (hL _ tm)) gk
        walk_at "go"
        refine ⟨d, _, rfl, dk, ?_⟩
        walk_at "go"
        refine ⟨d, _, rfl, dk, ?_⟩
        walk_at "go"
        refine ⟨upd_same, ek k, t, rfl, by rw [ek_kV]; exact sm2 _ _ (hL _ tm), ?_⟩
        walk_at "go"
        refine qD [(k, (sk - st) / sk)] r _ (Eg.same_mut sm2 (sm.free hrn)) (sm.free hrn) upd_same (.inr ⟨by omega, k, sk, rfl, mem_getI gk, sp, fun x hx => ?_, fun x hx e => ?_⟩)
        · obtain ⟨y, hy, ey⟩ := qin x hx
          exact (hb y hy x.2 (by rw [ey]; exact getI_mem ok.nd hx)).1
        · obtain ⟨y, hy, ey⟩ := qin x hx
          have := (hb y hy x.2 (by rw [ey]; exact getI_mem ok.nd hx)).2 e
          rw [ey] at this
          exact this
      | _ => exact hb.elim
end
end LW

namespace LW
open PySem L2 Sm

open Bf Bw
theorem fld_steps {qs : DI} {C p d dx : Addr} {st : Int} {H H' : Hp} {K : PySem.W.Frag} {i : Nat} {σ : L2.St} {R : VK} (hv : σ[i]? = some (some (.ref p))) (hp : H p = some (.ins C dx (fldsF st d))) (hd : H d = some (.dT (enc qs))) (cF : Cls K C) (n2 : NoAttr K C "steps")
    (fr : ∀ b o, H b = some o → b ≠ d → H' b = some o) (q : R (.ref d) H') : tFld K (tVar i) "steps" σ H' R :=
  Eg.w_fld (Eg.w_var hv (Eg.c_fld (fr _ _ hp (ne_of hp hd (fun z => nomatch z))) cF n2 (lk_steps st d) q))
theorem getD_gtw (qs : DI) (k : List Int) : ((getI qs k).map V.int).getD (V.int 0) = V.int (gt qs k) := by
  unfold gt
  cases getI qs k <;> rfl
/-- what stays in a turn -/
structure OkC (L : Int) (cf : CM × List Int) : Prop where
  nd : (ckeys cf.1).Nodup
  lim : ∀ x ∈ ckeys cf.1, -L ≤ x ∧ x ≤ L
  sz : cf.2.length ≤ cf.1.length
theorem OkC.few {L : Int} {cf : CM × List Int} (h : OkC L cf) (hL : 0 ≤ L) : (cf.1.length : Int) ≤ 2 * L + 1 := by
  have := Bf.few h.nd h.lim hL
  rw [List.length_map] at this
  exact this
theorem OkC.step {L : Int} {cf : CM × List Int} (h : OkC L cf) (c : Int × List Int) : OkC L (stepC L cf c) := by
  unfold stepC
  split
  · next e =>
    have ek : ckeys (cf.1 ++ [(c.1, some c.2)]) = ckeys cf.1 ++ [c.1] := List.map_append
    refine ⟨?_, fun x hx => ?_, ?_⟩
    · show (ckeys (cf.1 ++ [(c.1, some c.2)])).Nodup
      rw [ek, List.nodup_append]
      refine ⟨h.nd, by simp, fun x hx y hy z => ?_⟩
      rw [List.mem_singleton.mp hy] at z
      exact e.2.2 (z ▸ hx)
    · have hx : x ∈ ckeys (cf.1 ++ [(c.1, some c.2)]) := hx
      rw [ek] at hx
      rcases List.mem_append.mp hx with hx | hx
      · exact h.lim x hx
      · rw [List.mem_singleton.mp hx]
        exact ⟨e.1, e.2.1⟩
    · show (cf.2 ++ [c.1]).length ≤ (cf.1 ++ [(c.1, some c.2)]).length
      rw [List.length_append, List.length_append]
      have := h.sz
      show cf.2.length + 1 ≤ cf.1.length + 1
      omega
  · exact h
def sp_is_one_sided (C : Addr) : Sp := fun vs H Q _ => ∃ (p : Addr) (st : Int) (qs : DI), vs = [.ref p] ∧ FormAt C H p st qs ∧ (qs.map (·.1)).Nodup ∧ qs.length < 1000 ∧ ∀ b H', Same H H' → (b = true ↔ OneS st qs) → Q (.bl b) H'
def sp_widened (C : Addr) : Sp := fun vs H Q _ => ∃ (p r d : Addr) (L st : Int) (qs : DI) (R : List Int) (Cm : CM), vs = [.ref p, .ref r, .ref d, .int L] ∧ FormAt C H p st qs ∧ (qs.map (·.1)).Nodup ∧ qs.length < 1000 ∧ H r = some (.lst (R.map V.int)) ∧ CameAt H d Cm ∧
  0 ≤ L ∧ L < 20000 ∧ (ckeys Cm).Nodup ∧ (∀ x ∈ ckeys Cm, -L ≤ x ∧ x ≤ L) ∧
  ∀ f H', H f = none → H' f = some (.lst ((wid L qs R Cm).2.map V.int)) → CameAt H' d (wid L qs R Cm).1 → (∀ b o, H b = some o → b ≠ d → H' b = some o) → Q (.ref f) H'
def sp_traced_back (C : Addr) : Sp := fun vs H Q _ => ∃ (p d : Addr) (L st : Int) (qs : DI) (Cm : CM) (i : Nat) (R : List Int), vs = [.ref p, .ref d] ∧ FormAt C H p st qs ∧ Keys3 qs ∧ CameAt H d Cm ∧ Mid qs L st i Cm R ∧ (0 : Int) ∈ ckeys Cm ∧
  ∀ c r H', H c = none → H' c = some (.dT (enc r)) → Keys3 r → Tr qs Cm 0 [] r → Same H H' → Q (.ref c) H'
def sp_fewest (C : Addr) : Sp := fun vs H Q _ => ∃ (p : Addr) (st : Int) (qs : DI), vs = [.ref p] ∧ FormAt C H p st qs ∧ Keys3 qs ∧ (-10000 ≤ st ∧ st ≤ 10000) ∧ (∀ q ∈ qs, -10000 ≤ q.2 ∧ q.2 ≤ 10000) ∧
  (∀ H', Same H H' → Few st qs none → Q .non H') ∧ ∀ c r H', H c = none → H' c = some (.dT (enc r)) → Keys3 r → Few st qs (some r) → Same H H' → Q (.ref c) H'
section
variable {P : Program} {w : World} {K : PySem.W.Frag} {mg : Str → Option Value} {base : Heap} {Z : Ad}
theorem ok_is_one_sided (T : Txt K mg Z) : FnOk P w K mg base CX0 1 Z.a_is_one_sided Z.d_is_one_sided ["form"] (sp_is_one_sided Z.c_Form) := by
  refine T.F_is_one_sided.ok sc_is_one_sided (fun vs H Q E h => ?_) (fun cdv A outer s H vs Q E hr h => ?_)
  · obtain ⟨p, st, qs, rfl, _⟩ := h
    rfl
  · obtain ⟨p, st, qs, rfl, ⟨dx, d, hp, hd⟩, hnd, hsz, q⟩ := h
    have nd := sc_is_one_sided.nd
    have hu := hu_of hr
    have cF := T.cl_Form
    have n1 := T.n_Form_start
    have n2 := T.n_Form_steps
    have lk1 := lk_start st d
    have lk2 := lk_steps st d
    refine ⟨_, (pss_cons (ps_lock (ps_setLc (i := 1) (own := [("sort", 2)]) rfl nd rfl rfl (sw_true rfl rfl rfl (by decide +kernel)) (pi_keys (pe_fld (pv 0) rfl)) (blkOk_by (N := N_is_one_sided) (sc := defScope s_is_one_sided) (by decide +kernel)) (fun _ _ _ _ _ => (pg_name (i := 2) nd rfl (Or.inl rfl))) (fun _ _ _ _ _ => pts_nil) (fun _ _ _ _ _ => (Eg.peE (pe_dget hu (pe_fld (pv 0) rfl) (pv 2) (fun _ _ => rfl)) (by walk_at "blk")))))
  (pss_cons (ps_if (pt_cmpR op_gt (pe_fld (pv 0) rfl) pe_int (nomark _))
  (pss_one (ps_ret (pe_cmpR op_eq (pe_callB Eg.cr_len (by rfl) T.u_len (by decide +kernel) (pa_cons (pe_lc (own := [("step", 3)]) rfl nd (pi_list (pv 1)) (blkOk_by (N := N_is_one_sided) (sc := defScope s_is_one_sided) (by decide +kernel)) (fun _ _ _ _ _ => (pg_name (i := 3) nd rfl (Or.inl rfl))) (fun _ _ _ _ _ => (Eg.ptsE (pts_one (pt_cmpR op_lt (pv 3) pe_int (nomark _))) (by walk_at "blk"))) (fun _ _ _ _ _ => (Eg.peE (pv 3) (by walk_at "blk")))) pa_nil)) pe_int (nomark _))))
  pss_nil)
  (pss_one (ps_ret (pe_and (pe_cmpR op_lt (pe_fld (pv 0) rfl) pe_int (nomark _)) (pe_one (pe_cmpR op_eq (pe_callB Eg.cr_len (by rfl) T.u_len (by decide +kernel) (pa_cons (pe_lc (own := [("step", 3)]) rfl nd (pi_list (pv 1)) (blkOk_by (N := N_is_one_sided) (sc := defScope s_is_one_sided) (by decide +kernel)) (fun _ _ _ _ _ => (pg_name (i := 3) nd rfl (Or.inl rfl))) (fun _ _ _ _ _ => (Eg.ptsE (pts_one (pt_cmpR op_gt (pv 3) pe_int (nomark _))) (by walk_at "blk"))) (fun _ _ _ _ _ => (Eg.peE (pv 3) (by walk_at "blk")))) pa_nil)) pe_int (nomark _)))))))), ?_⟩
    refine Eg.w_sig (σ := [some (.ref p), none, none, none]) rfl ?_
    walk_at "go"
    refine Sl.lock_intsG (F := fun _ z => z) hd hsz (fun H' R fr q => fld_steps rfl hp hd cF n2 fr q) (fun od H' k z t fr hc hm ht R q => ?_) (fun D H1 hD s1 h1D => ?_)
    · refine Eg.w_dget (fld_steps rfl hp hd cF n2 fr (Eg.w_var rfl ?_))
      exact ⟨d, _, rfl, dget_some (.inr ⟨od, hc⟩) ht (getI_mem hnd hm), q⟩
    have hp1 := s1 _ _ hp
    have done : ∀ (Pb : Int → Bool) (b : Bool) (D2 : Addr) (H2 : Hp), Same H1 H2 → H2 D2 = some (.lst (((qs.map (fun y : List Int × Int => y.2)).filter Pb).map V.int)) → (b = true ↔ OneS st qs) → Q (.bl b) H2 := fun Pb b D2 H2 s2 _ e => q b H2 (s1.trans s2) e
    have ml : (qs.map (fun y : List Int × Int => y.2)).length < 100000 := by rw [List.length_map]; omega
    have fl : ∀ Pb : Int → Bool, (decide (V.int (((((qs.map (fun y : List Int × Int => y.2)).filter Pb).map V.int).length : Nat) : Int) = V.int 0) = true) ↔ ∀ y ∈ qs, Pb y.2 = false := fun Pb => by
      rw [Eg.int_eq, decide_eq_true_iff, List.length_map]
      constructor
      · intro h y hy
        have : (qs.map (fun y : List Int × Int => y.2)).filter Pb = [] := List.length_eq_zero_iff.mp (by omega)
        cases e : Pb y.2 with
        | false => rfl
        | true =>
          have : y.2 ∈ (qs.map (fun y : List Int × Int => y.2)).filter Pb := List.mem_filter.mpr ⟨List.mem_map.mpr ⟨y, hy, rfl⟩, e⟩
          rw [List.length_eq_zero_iff.mp (show ((qs.map (fun y : List Int × Int => y.2)).filter Pb).length = 0 by omega)] at this
          cases this
      · intro h
        have : (qs.map (fun y : List Int × Int => y.2)).filter Pb = [] := by
          rw [List.filter_eq_nil_iff]
          intro z hz
          obtain ⟨y, hy, rfl⟩ := List.mem_map.mp hz
          rw [h y hy]
          exact Bool.false_ne_true
        rw [this]
        rfl
    walk_at "go"
    refine Eg.brD (fun h0 => ?_) (fun h0 => ?_)
    · walk_at "gw"
      refine Sl.filt_ints (P := fun z => decide (z < 0)) (show 3 < 4 by decide) (SqL.of h1D) ml (fun R q => Eg.w_var rfl q) (fun H' s => SqL.of (s _ _ h1D)) (fun H' z R s _ q => ?_) (fun D2 H2 hD2 s2 h2 => ?_)
      · walk_at "go"
        exact q
      walk_at "go"
      refine q _ _ (s1.trans s2) ((fl _).trans ?_)
      constructor
      · exact fun h => .inl ⟨h0, fun p hp => by have := of_decide_eq_false (h p hp); omega⟩
      · rintro (⟨_, h⟩ | ⟨h, _⟩)
        · exact fun p hp => decide_eq_false (by have := h p hp; omega)
        · omega
    · walk_at "go"
      refine Eg.brD (fun h1 => ?_) (fun h1 => ?_)
      · walk_at "gw"
        refine Sl.filt_ints (P := fun z => decide (0 < z)) (show 3 < 4 by decide) (SqL.of h1D) ml (fun R q => Eg.w_var rfl q) (fun H' s => SqL.of (s _ _ h1D)) (fun H' z R s _ q => ?_) (fun D2 H2 hD2 s2 h2 => ?_)
        · walk_at "go"
          exact q
        walk_at "go"
        refine q _ _ (s1.trans s2) ((fl _).trans ?_)
        constructor
        · exact fun h => .inr ⟨h1, fun p hp => by have := of_decide_eq_false (h p hp); omega⟩
        · rintro (⟨h, _⟩ | ⟨_, h⟩)
          · omega
          · exact fun p hp => decide_eq_false (by have := h p hp; omega)
      · walk_at "go"
        refine q _ _ s1 ?_
        constructor
        · intro h
          cases h
        · rintro (⟨h, _⟩ | ⟨h, _⟩) <;> omega
theorem ok_widened (T : Txt K mg Z) : FnOk P w K mg base CX0 1 Z.a_widened Z.d_widened ["form", "ring", "came", "limit"] (sp_widened Z.c_Form) := by
  refine T.F_widened.ok sc_widened (fun vs H Q E h => ?_) (fun cdv A outer s H vs Q E hr h => ?_)
  · obtain ⟨p, r, d, L, st, qs, R, Cm, rfl, _⟩ := h
    rfl
  · obtain ⟨p, r, d, L, st, qs, R, Cm, rfl, ⟨dx, e, hp, he⟩, hnd, hsz, hr1, hc, hL0, hL1, cnd, clim, q⟩ := h
    have nd := sc_widened.nd
    have hu := hu_of hr
    have cF := T.cl_Form
    have n2 := T.n_Form_steps
    have lk2 := lk_steps st e
    obtain ⟨kv0, hkv0⟩ := hc.ob
    refine ⟨_, (pss_cons (ps_set (i := 4) nd rfl (Or.inl rfl) (pe_lst pa_nil))
  (pss_cons (ps_for PassesOwn.never rfl (pi_list (pv 1)) (pg_name (i := 5) nd rfl (Or.inl rfl))
  (pss_one (ps_lock (ps_for PassesOwn.never rfl (pi_keys (pe_fld (pv 0) rfl)) (pg_name (i := 6) nd rfl (Or.inl rfl))
  (pss_cons (ps_set (i := 7) nd rfl (Or.inl rfl) (pe_op op_add (pv 5) (pe_dget hu (pe_fld (pv 0) rfl) (pv 6) (fun _ _ => rfl))))
  (pss_one (ps_if (PW.pt (pw_and (pt_cmpR op_le (pe_un un_neg (pv 3)) (pv 7) (nomark _)) (pw_and (pt_cmpR op_le (pv 7) (pv 3) (nomark _)) (pw_and1 (pt_cmp (pc_dnotin hu (pv 7) (pv 2)))))))
  (pss_cons (ps_dput hu (pv 2) (pv 7) (pv 6) rfl)
  (pss_one (ps_expr (pe_bm PySem.F.plainAttrs_list PySem.F.slot_list_append PySem.F.type_list_append mt_append (pv 4) (pa_cons (pv 7) pa_nil)))))
  pss_nil)))))))
  (pss_one (ps_ret (pv 4))))), ?_⟩
    refine Eg.w_sig (σ := [some (.ref p), some (.ref r), some (.ref d), some (.int L), none, none, none, none]) rfl ?_
    walk_at "go"
    intro f hf
    walk_at "go"
    have hfd : f ≠ d := (ne_of_none hkv0 hf).symm
    have hfe : f ≠ e := (ne_of_none he hf).symm
    have hde : d ≠ e := ne_of hkv0 he (fun z => nomatch z)
    refine for_list (xs := R.map V.int) (fun i σ' H' => ∃ (v1 v2 v3 : Option V) (cf : CM × List Int), σ' = [some (.ref p), some (.ref r), some (.ref d), some (.int L), some (.ref f), v1, v2, v3] ∧ (R.take i).foldl (fun cf n => rowC L qs n cf) (Cm, []) = cf ∧ OkC L cf ∧ CameAt H' d cf.1 ∧ H' f = some (.lst (cf.2.map V.int)) ∧ ∀ b o, H b = some o → b ≠ d → H' b = some o) ⟨_, _, _, (Cm, []), rfl, rfl, ⟨cnd, clim, Nat.zero_le _⟩, hc.same (Eg.tup_new hf) (upd_ne hfd.symm), upd_same, fun b o e _ => Eg.upd_old e hf⟩ ?_ ?_ ?_
    · rintro i _ H1 _ ⟨v1, v2, v3, cf, rfl, _, _, _, _, fr⟩
      exact SqL.of (fr _ _ hr1 (ne_of hr1 hkv0 (fun z => nomatch z)))
    · rintro i x _ H1 hx ⟨v1, v2, v3, cf, rfl, ecf, ok, hc1, hf1, fr⟩
      rw [List.getElem?_map] at hx
      obtain ⟨n, hn, rfl⟩ := Option.map_eq_some_iff.mp hx
      obtain ⟨hlt, hge⟩ := List.getElem?_eq_some_iff.mp hn
      have h1e := fr _ _ he hde.symm
      obtain ⟨kv1, hkv1⟩ := hc1.ob
      walk_at "go"
      refine ⟨e, _, h1e, trivial, fun od => ?_⟩
      refine Eg.w_for (Eg.w_iK (fld_steps rfl (fr _ _ hp (ne_of hp hkv0 (fun z => nomatch z))) h1e cF n2 (fun b o e hn => Eg.upd_mut hn e) (Eg.c_iKT upd_same ?_)))
      refine for_it walk_keysT (fun j σ' H' => ∃ (v2 v3 : Option V) (c2 : CM × List Int), σ' = [some (.ref p), some (.ref r), some (.ref d), some (.int L), some (.ref f), some (.int n), v2, v3] ∧ ((cands qs n).take j).foldl (stepC L) cf = c2 ∧ OkC L c2 ∧ CameAt H' d c2.1 ∧ H' f = some (.lst (c2.2.map V.int)) ∧ H' e = some (.frz od (.dT (enc qs))) ∧ ∀ b o, H b = some o → b ≠ d → b ≠ e → H' b = some o) ?_ ?_ ?_ ?_
      · exact ⟨_, _, cf, rfl, rfl, ok, hc1.same (fun b ys z => Eg.upd_mut (ne_of z h1e (fun z => nomatch z)) z) (upd_ne hde), Eg.upd_mut hfe hf1, upd_same, fun b o z h1 h2 => Eg.upd_mut h2 (fr b o z h1)⟩
      · rintro j _ H2 _ ⟨v2, v3, c2, rfl, _, _, _, _, h2e, _⟩
        exact h2e
      · rintro j y _ _ H2 hj ⟨v2, v3, c2, rfl, ec2, ok2, hc2, hf2, h2e, fr2⟩ ⟨rfl, k, v, t, hk, rfl, ht⟩
        obtain ⟨kk, z, hkz, rfl, rfl⟩ := inl_key hk
        rw [ek_kV] at ht
        obtain ⟨hlt2, hge2⟩ := List.getElem?_eq_some_iff.mp hkz
        have tk : ((cands qs n).take (j + 1)).foldl (stepC L) cf = stepC L c2 (n + z, kk) := by
          have hl : j < (cands qs n).length := by unfold cands; rw [List.length_map]; exact hlt2
          rw [List.take_succ_eq_append_getElem hl, List.foldl_append, ec2]
          have : (cands qs n)[j]? = some (n + z, kk) := by
            unfold cands
            rw [List.getElem?_map, hkz]
            rfl
          rw [(List.getElem?_eq_some_iff.mp this).2]
          rfl
        have h2p := fr2 _ _ hp (ne_of hp hkv0 (fun z => nomatch z)) (ne_of hp he (fun z => nomatch z))
        obtain ⟨kv2, hkv2⟩ := hc2.ob
        walk_at "go"
        refine ⟨e, _, rfl, dget_some (.inr ⟨od, h2e⟩) ht (getI_mem hnd (List.mem_of_getElem? hkz)), ?_⟩
        walk_at "go"
        obtain ⟨g, dg, gs⟩ := hc2.get (n + z)
        have no : ¬ (-L ≤ n + z ∧ n + z ≤ L ∧ n + z ∉ ckeys c2.1) → stepC L c2 (n + z, kk) = c2 := fun h => if_neg h
        refine Eg.brD (fun h1 => ?_) (fun h1 => ?_)
        · walk_at "go"
          refine Eg.brD (fun h2 => ?_) (fun h2 => ?_)
          · walk_at "go"
            refine Eg.c_dnin dg ?_
            rw [gs]
            walk_at "go"
            refine Eg.brDn (fun h3 => ?_) (fun h3 => ?_)
            · obtain ⟨kvs, dp, hc3⟩ := hc2.put (n := n + z) (v := .ref t) (o := some kk) h3 ⟨t, rfl, ht⟩ (by have := ok2.few hL0; omega)
              walk_at "go"
              refine ⟨d, _, rfl, dp, ?_⟩
              have hf3 : upd H2 d (.dK kvs) f = some (.lst (c2.2.map V.int)) := Eg.upd_mut hfd hf2
              have few := ok2.few hL0
              have few2 := ok2.sz
              walk_at "go"
              have es : stepC L c2 (n + z, kk) = (c2.1 ++ [(n + z, some kk)], c2.2 ++ [n + z]) := if_pos ⟨h1, h2, h3⟩
              refine ⟨_, _, _, rfl, tk, ok2.step _ , ?_, ?_, Eg.upd_mut hfe.symm (Eg.upd_mut hde.symm h2e), fun b o z h1 h2 => Eg.upd_mut (ne_of_none z hf) (Eg.upd_mut h1 (fr2 b o z h1 h2))⟩
              · rw [es]
                exact hc3.same (Eg.tup_upd hf3) (upd_ne hfd.symm)
              · rw [es, upd_same]
                simp
            · walk_at "go"
              rw [no (fun h => h.2.2 h3)] at tk
              exact ⟨_, _, _, rfl, tk, ok2, hc2, hf2, h2e, fr2⟩
          · walk_at "go"
            rw [no (fun h => h2 h.2.1)] at tk
            exact ⟨_, _, _, rfl, tk, ok2, hc2, hf2, h2e, fr2⟩
        · walk_at "go"
          rw [no (fun h => h1 h.1)] at tk
          exact ⟨_, _, _, rfl, tk, ok2, hc2, hf2, h2e, fr2⟩
      · rintro _ H2 ⟨v2, v3, c2, rfl, ec2, ok2, hc2, hf2, h2e, fr2⟩
        refine ⟨h2e, ?_⟩
        walk_at "go"
        refine ⟨_, _, _, c2, rfl, ?_, ok2, hc2.same (Eg.tup_frz h2e) (upd_ne hde), Eg.upd_mut hfe hf2, fun b o z h1 => ?_⟩
        · rw [List.take_succ_eq_append_getElem hlt, List.foldl_append, ecf, hge, ← ec2]
          have : (enc qs).length = (cands qs n).length := by unfold enc cands; rw [List.length_map, List.length_map]
          rw [this, List.take_length]
          rfl
        · by_cases h2 : b = e
          · rw [h2, upd_same]
            rw [h2, he] at z
            exact z
          · exact Eg.upd_mut h2 (fr2 b o z h1 h2)
    · rintro _ H1 ⟨v1, v2, v3, cf, rfl, ecf, ok, hc1, hf1, fr⟩
      walk_at "go"
      rw [List.length_map, List.take_length] at ecf
      have : cf = wid L qs R Cm := ecf.symm
      rw [this] at hc1 hf1
      exact q f H1 hf hf1 hc1 fr
theorem ok_traced_back (T : Txt K mg Z) : FnOk P w K mg base CX0 1 Z.a_traced_back Z.d_traced_back ["form", "came"] (sp_traced_back Z.c_Form) := by
  refine T.F_traced_back.ok sc_traced_back (fun vs H Q E h => ?_) (fun cdv A outer s H vs Q E hr h => ?_)
  · obtain ⟨p, d, L, st, qs, Cm, i, R, rfl, _⟩ := h
    rfl
  · obtain ⟨p, d, L, st, qs, Cm, i, R, rfl, ⟨dx, e, hp, he⟩, k3, hc, md, h0, q⟩ := h
    have nd := sc_traced_back.nd
    have hu := hu_of hr
    have cF := T.cl_Form
    have n2 := T.n_Form_steps
    have lk2 := lk_steps st e
    refine ⟨_, (pss_cons (ps_set (i := 2) nd rfl (Or.inl rfl) pe_dnewT)
  (pss_cons (ps_set (i := 3) nd rfl (Or.inl rfl) pe_int)
  (pss_cons (ps_while PassesOwn.never (pt_cmpR Eg.opr_notN (pe_dget hu (pv 1) (pv 3) (fun _ _ => rfl)) pe_non (nomark _))
  (pss_cons (ps_set (i := 4) nd rfl (Or.inl rfl) (pe_dget hu (pv 1) (pv 3) (fun _ _ => rfl)))
  (pss_cons (ps_dput hu (pv 2) (pv 4) (pe_op op_add (pe_dget2 hu (pv 2) (pv 4) pe_int ⟨rfl, rfl, rfl, rfl⟩) pe_int) rfl)
  (pss_one (ps_set (i := 3) nd rfl (Or.inl rfl) (pe_op op_sub (pv 3) (pe_dget hu (pe_fld (pv 0) rfl) (pv 4) (fun _ _ => rfl))))))))
  (pss_one (ps_ret (pv 2)))))), ?_⟩
    refine Eg.w_sig (σ := [some (.ref p), some (.ref d), none, none, none]) rfl ?_
    walk_at "go"
    intro c hc0
    walk_at "go"
    refine ⟨fun m σ' H' => ∃ (x : Int) (v4 : Option V) (cs : DI), σ' = [some (.ref p), some (.ref d), some (.ref c), some (.int x), v4] ∧ m ≤ i ∧ Dst (qs.map (·.2)) L st m x ∧ H' c = some (.dT (enc cs)) ∧ Keys3 cs ∧ (∀ out, Tr qs Cm x cs out → Tr qs Cm 0 [] out) ∧ Same H H',
      ⟨i, 0, _, [], rfl, Nat.le_refl _, md.fresh h0, upd_same, Keys3.nil, fun out t => t, Eg.same_new (Same.refl _) hc0⟩, ?_⟩
    rintro m _ H1 ⟨x, v4, cs, rfl, hm, hd, h1c, ks, htr, s1⟩
    obtain ⟨o, ho⟩ := getC_some ((md.lev.came x).mpr ⟨m, hm, hd.1⟩)
    have hc1 := hc.keep s1
    obtain ⟨v, hv, dg⟩ := hc1.yes ho
    walk_at "go"
    refine ⟨d, _, rfl, dg, ?_⟩
    walk_at "go"
    cases o with
    | none =>
      have hv : v = .non := hv
      subst hv
      refine Eg.brF rfl ?_
      walk_at "go"
      exact q c cs H1 hc0 h1c ks (htr _ (.stop ho)) s1
    | some k =>
      obtain ⟨t, rfl, ht⟩ := hv
      refine Eg.brT (by rw [decide_eq_false (fun z => nomatch z)]; rfl) ?_
      rcases md.back _ (getC_mem ho) with z | ⟨k', s', j, z, hq, d1, d2⟩
      · cases z.1
      cases z
      have gs := getI_mem k3.nd hq
      have mj := hd.one d1
      subst mj
      have ksz := ks.sz
      refine ⟨_, fun σ' H' h => h, ?_⟩
      walk_at "go"
      refine ⟨d, _, rfl, dg, ?_⟩
      walk_at "go"
      refine Ow.w_dget2 ?_
      walk_at "go"
      refine Ow.c_dget2T (.inl h1c) ?_
      walk_at "go"
      refine ⟨_, dget_enc (.inl h1c) ht, ?_⟩
      rw [getD_gtw]
      walk_at "go"
      refine ⟨c, _, rfl, DPut.t (k := ek k) h1c (by rw [ek_kV]; exact ht) (by unfold enc; rw [List.length_map, sizeLine_eq]; omega), ?_⟩
      have ht2 : upd H1 c (.dT (putK (enc cs) (ek k) (.int (gt cs k + 1)))) t = some (.tup (k.map V.int)) := Eg.upd_mut (ne_of ht h1c (fun z => nomatch z)) ht
      have s2 : Same H (upd H1 c (.dT (putK (enc cs) (ek k) (.int (gt cs k + 1))))) := Eg.same_mut s1 hc0
      have he2 := s2 _ _ he
      have hp2 := s2 _ _ hp
      walk_at "go"
      refine ⟨e, _, rfl, dget_some (.inl he2) ht2 gs, ?_⟩
      walk_at "go"
      refine ⟨j, Nat.lt_succ_self j, x - s', _, putI cs k (gt cs k + 1), rfl, by omega, d2, by rw [upd_same, put_enc], ks.put (k3.s3 _ hq) _, fun out t => htr out (.more ho gs t), s2⟩
set_option maxHeartbeats 8000000 in
theorem ok_fewest (T : Txt K mg Z) : FnOk P w K mg base CX0 2 Z.a_fewest Z.d_fewest ["form"] (sp_fewest Z.c_Form) := by
  refine T.F_fewest.ok sc_fewest (fun vs H Q E h => ?_) (fun cdv A outer s H vs Q E hr h => ?_)
  · obtain ⟨p, st, qs, rfl, _⟩ := h
    rfl
  · obtain ⟨p, st, qs, rfl, ⟨dx, e, hp, he⟩, k3, hst, hq, qN, qD⟩ := h
    have nd := sc_fewest.nd
    have hu := hu_of hr
    have cF := T.cl_Form
    have n1 := T.n_Form_start
    have n2 := T.n_Form_steps
    have lk1 := lk_start st e
    have lk2 := lk_steps st e
    have ksz := k3.sz
    refine ⟨_, (pss_cons (ps_if (pt_val (pe_call (ok_is_one_sided T) (hr.mono (by decide)) (by rfl) T.g_is_one_sided T.F_is_one_sided.kp T.b_is_one_sided .nil pass0 (pa_cons (pv 0) pa_nil)))
  (pss_one (ps_ret pe_non))
  pss_nil)
  (pss_cons (ps_set (i := 1) nd rfl (Or.inl rfl) (pe_callB (cr_max rfl) (by rfl) T.u_max (by decide +kernel) (pa_cons (pe_op op_cat (pe_lst (pa_cons (pe_callB Eg.cr_abs (by rfl) T.u_abs (by decide +kernel) (pa_cons (pe_fld (pv 0) rfl) pa_nil)) pa_nil)) (pe_lock (pe_lc (own := [("sort", 4)]) rfl nd (pi_keys (pe_fld (pv 0) rfl)) (blkOk_by (N := N_fewest) (sc := defScope s_fewest) (by decide +kernel)) (fun _ _ _ _ _ => (pg_name (i := 4) nd rfl (Or.inl rfl))) (fun _ _ _ _ _ => pts_nil) (fun _ _ _ _ _ => (Eg.peE (pe_callB Eg.cr_abs (by rfl) T.u_abs (by decide +kernel) (pa_cons (pe_dget hu (pe_fld (pv 0) rfl) (pv 4) (fun _ _ => rfl)) pa_nil)) (by walk_at "blk")))))) pa_nil)))
  (pss_cons (ps_set (i := 2) nd rfl (Or.inl rfl) (pe_disp (pps_cons (pe_fld (pv 0) rfl) pe_non pps_nil) rfl rfl (fun z => nomatch z) (show 1 ≤ 15 by decide)))
  (pss_cons (ps_set (i := 3) nd rfl (Or.inl rfl) (pe_lst (pa_cons (pe_fld (pv 0) rfl) pa_nil)))
  (C8.pss_cut (ps_while PassesOwn.never (PW.pt (pw_and (pt_cmpR (op_neD hr.units) (pv 3) (pe_lst pa_nil) (nomark _)) (pw_and1 (pt_cmp (pc_dnotin hu pe_int (pv 2))))))
  (pss_one (ps_set (i := 3) nd rfl (Or.inl rfl) (pe_call (ok_widened T) (hr.mono (by decide)) (by rfl) T.g_widened T.F_widened.kp T.b_widened .nil pass0 (pa_cons (pv 0) (pa_cons (pv 3) (pa_cons (pv 2) (pa_cons (pv 1) pa_nil))))))))
  (pss_cons (ps_if (pt_cmp (pc_dnotin hu pe_int (pv 2)))
  (pss_one (ps_ret pe_non))
  pss_nil)
  (pss_one (ps_ret (pe_call (ok_traced_back T) (hr.mono (by decide)) (by rfl) T.g_traced_back T.F_traced_back.kp T.b_traced_back .nil pass0 (pa_cons (pv 0) (pa_cons (pv 2) pa_nil))))))))))), ?_⟩
    refine Eg.w_sig (σ := [some (.ref p), none, none, none, none]) rfl ?_
    walk_at "go"
    refine ⟨p, st, qs, rfl, ⟨dx, e, hp, he⟩, k3.nd, by omega, fun b H1 s1 hb => ?_⟩
    walk_at "go"
    refine Eg.br (fun h1 => ?_) (fun h1 => ?_)
    · walk_at "go"
      exact qN H1 s1 (.inl (hb.mp h1))
    have nos : ¬ OneS st qs := fun z => by rw [hb.mpr z] at h1; cases h1
    have hp1 := s1 _ _ hp
    have he1 := s1 _ _ he
    walk_at "go"
    intro l hl
    walk_at "go"
    have s2 : Same H1 (upd H1 l (.lst [.int (if st < 0 then -st else st)])) := Eg.same_new (Same.refl _) hl
    have h2l : upd H1 l (.lst [.int (if st < 0 then -st else st)]) l = some (.lst [.int (if st < 0 then -st else st)]) := upd_same
    generalize upd H1 l (.lst [.int (if st < 0 then -st else st)]) = H2 at s2 h2l ⊢
    refine Sl.lock_intsG (F := fun _ z => if z < 0 then -z else z) (s2 _ _ he1) (by omega) (fun H' R fr q => fld_steps rfl (s2 _ _ hp1) (s2 _ _ he1) cF n2 fr q) (fun od H' k z t fr hc hm ht R q => ?_) (fun D H3 hD s3 h3D => ?_)
    · refine Eg.w_cb (Eg.w_cons (Eg.w_dget (fld_steps rfl (s2 _ _ hp1) (s2 _ _ he1) cF n2 fr (Eg.w_var rfl ?_))))
      exact ⟨e, _, rfl, dget_some (.inr ⟨od, hc⟩) ht (getI_mem k3.nd hm), Eg.w_nil (Eg.c_abs q)⟩
    refine Eg.c_cat (s3 _ _ h2l) h3D (by rw [List.length_map, List.length_map, List.length_singleton]; omega) fun r hr0 => ?_
    have h4r := upd_same (H := H3) (a := r) (o := .lst ([.int (if st < 0 then -st else st)] ++ List.map V.int (List.map (fun y : List Int × Int => if y.2 < 0 then -y.2 else y.2) qs)))
    have s4 := Eg.same_new (o1 := .lst ([.int (if st < 0 then -st else st)] ++ List.map V.int (List.map (fun y : List Int × Int => if y.2 < 0 then -y.2 else y.2) qs))) ((s1.trans s2).trans s3) hr0
    generalize upd H3 r (.lst ([.int (if st < 0 then -st else st)] ++ List.map V.int (List.map (fun y : List Int × Int => if y.2 < 0 then -y.2 else y.2) qs))) = H4 at h4r s4 ⊢
    walk_at "go"
    refine Eg.c_max (ns := (if st < 0 then -st else st) :: qs.map (fun y : List Int × Int => if y.2 < 0 then -y.2 else y.2)) (SqL.of h4r) (Nat.succ_pos _) fun L hL1 hL2 => ?_
    have il : IsLim L st qs := ⟨hL1, hL2⟩
    have lb : 0 ≤ L ∧ L ≤ 10000 := by
      rcases List.mem_cons.mp hL1 with e | e
      · split at e <;> omega
      · obtain ⟨y, hy, e⟩ := List.mem_map.mp e
        have := hq y hy
        split at e <;> omega
    obtain ⟨lb1, lb2⟩ := lb
    have hp4 := s4 _ _ hp
    have he4 := s4 _ _ he
    clear h4r s3 h3D h2l s2 hp1 he1 hr0 hD hl
    walk_at "go"
    intro d hd0
    have hpd : p ≠ d := ne_of_none hp4 hd0
    walk_at "go"
    intro g hg0
    have hd4 : H4 d = none := hd0
    have hdH : H d = none := s4.free hd4
    have s5 := Eg.same_new (o1 := .dK [(Sum.inl st, .non)]) s4 hd4
    have uu : upd (upd H4 d (.dK [])) d (.dK [(Sum.inl st, .non)]) = upd H4 d (.dK [(Sum.inl st, .non)]) := upd_upd
    rw [uu] at hg0 ⊢
    have hgd : g ≠ d := fun z => by rw [z, upd_same] at hg0; cases hg0
    walk_at "go"
    refine ⟨fun σ' H' => ∃ (i : Nat) (Cm : CM) (R : List Int) (rg : Addr), σ' = [some (.ref p), some (.int L), some (.ref d), some (.ref rg), none] ∧ Mid qs L st i Cm R ∧ CameAt H' d Cm ∧ (R = [] ∨ (0 : Int) ∈ ckeys Cm) ∧ Run L qs [(st, none)] [st] Cm ∧ Same H H', ?_, ?_⟩
    · refine ⟨fun m σ' H' => ∃ (i : Nat) (Cm : CM) (R : List Int) (rg : Addr), σ' = [some (.ref p), some (.int L), some (.ref d), some (.ref rg), none] ∧ Mid qs L st i Cm R ∧ CameAt H' d Cm ∧ H' rg = some (.lst (R.map V.int)) ∧ (∀ C', Run L qs Cm R C' → Run L qs [(st, none)] [st] C') ∧ Same H H' ∧
        m = 2 * (2 * L + 2 - Cm.length).toNat + (if R = [] then 0 else 1),
        ⟨_, 0, [(st, none)], [st], g, rfl, .start, ⟨_, Eg.upd_old upd_same hg0, .cons ⟨rfl, rfl⟩ .nil⟩, upd_same, fun _ h => h, Eg.same_new s5 hg0, rfl⟩, ?_⟩
      rintro m _ H5 ⟨i, Cm, R, rg, rfl, md, hc, h5g, hrun, sm, em⟩
      walk_at "go"
      intro nl hnl
      have s6 := Eg.same_new (o1 := .lst []) (Same.refl H5) hnl
      have h6n : upd H5 nl (.lst []) nl = some (.lst (([] : List Int).map V.int)) := upd_same
      generalize upd H5 nl (.lst []) = H6 at s6 h6n ⊢
      have hc6 := hc.keep s6
      have h6g := s6 _ _ h5g
      have sm6 := sm.trans s6
      have hp6 := sm6 _ _ hp
      have he6 := sm6 _ _ he
      obtain ⟨gr, dg, gs⟩ := hc6.get 0
      walk_at "go"
      refine DTx.c_neIL (SqL.of h6g) (SqL.of h6n) ?_
      walk_at "go"
      refine Eg.brDn (fun h1 => ?_) (fun h1 => ?_)
      · walk_at "go"
        refine Eg.c_dnin dg ?_
        rw [gs]
        walk_at "go"
        refine Eg.brDn (fun h0 => ?_) (fun h0 => ?_)
        · refine ⟨_, fun σ' H' h => h, ?_⟩
          walk_at "go"
          have ls := il.start
          refine ⟨p, rg, d, L, st, qs, R, Cm, rfl, ⟨dx, e, hp6, he6⟩, k3.nd, by omega, h6g, hc6, lb1, by omega, md.lev.nd, fun x hx => md.lev.lim ls hx, fun f H7 hf0 hf1 hc7 fr => ?_⟩
          walk_at "go"
          have md2 := md.next h0
          obtain ⟨T, e1, e2, _, _⟩ := wid_spec L qs R Cm
          have few := Bf.few md2.lev.nd (fun x hx => md2.lev.lim ls hx) lb1
          refine ⟨_, ?_, i + 1, _, _, f, rfl, md2, hc7, hf1, fun C' r => hrun C' (.more h1 h0 r), fun b o hb => fr b o (sm6 b o hb) (ne_of_none hb hdH), rfl⟩
          rw [em, if_neg h1]
          rw [List.length_map] at few
          rw [e1] at few ⊢
          rw [e2]
          rw [List.length_append] at few ⊢
          cases T with
          | nil =>
            rw [show ckeys ([] : CM) = [] from rfl, if_pos rfl]
            simp
          | cons t T =>
            rw [if_neg (fun z => nomatch z)]
            rw [List.length_cons] at few ⊢
            omega
        · walk_at "go"
          exact ⟨i, Cm, R, rg, rfl, md, hc6, .inr h0, hrun _ (.stop (.inr h0)), sm6⟩
      · walk_at "go"
        exact ⟨i, Cm, R, rg, rfl, md, hc6, .inl h1, hrun _ (.stop (.inl h1)), sm6⟩
    rintro _ H6 ⟨i, Cm, R, rg, rfl, md, hc6, ho, run, sm6⟩
    have hp6 := sm6 _ _ hp
    have he6 := sm6 _ _ he
    obtain ⟨gr, dg, gs⟩ := hc6.get 0
    walk_at "go"
    refine Eg.c_dnin dg ?_
    rw [gs]
    walk_at "go"
    refine Eg.brDn (fun h0 => ?_) (fun h0 => ?_)
    · walk_at "go"
      exact qN H6 sm6 (.inr ⟨nos, L, Cm, il, run, h0⟩)
    · walk_at "go"
      refine ⟨p, d, L, st, qs, Cm, i, R, rfl, ⟨dx, e, hp6, he6⟩, k3, hc6, md, h0, fun c r H7 hc0 hc1 kr tr s7 => ?_⟩
      walk_at "go"
      exact qD c r H7 (sm6.free hc0) hc1 kr ⟨nos, L, Cm, il, run, h0, tr⟩ (sm6.trans s7)
end
end LW

namespace LW
open PySem L2 Sm

open Bf Bw
theorem ones_one {st : Int} {qs : DI} : OneS st qs ↔ Wy.One st (qs.map (·.2)) := by
  constructor
  · rintro (⟨a, h⟩ | ⟨a, h⟩)
    · exact .inl ⟨a, fun s hs => by obtain ⟨p, hp, rfl⟩ := List.mem_map.mp hs; exact h p hp⟩
    · exact .inr ⟨a, fun s hs => by obtain ⟨p, hp, rfl⟩ := List.mem_map.mp hs; exact h p hp⟩
  · rintro (⟨a, h⟩ | ⟨a, h⟩)
    · exact .inl ⟨a, fun p hp => h _ (List.mem_map.mpr ⟨p, hp, rfl⟩)⟩
    · exact .inr ⟨a, fun p hp => h _ (List.mem_map.mpr ⟨p, hp, rfl⟩)⟩
/-- a reason as a value -/
def WhyAt (H : Hp) (v : V) : Wy.R → Prop
  | .no => v = .non
  | .sign => ∃ a, v = .ref a ∧ H a = some (.tup [.str "sign"])
  | .div g => ∃ a, v = .ref a ∧ H a = some (.tup [.str "divisor", .int g])
  | .gaps xs => ∃ a b, v = .ref a ∧ H a = some (.tup [.str "gaps", .ref b]) ∧ H b = some (.tup (xs.map V.int))
theorem WhyAt.keep {H H' : Hp} {v : V} {r : Wy.R} (s : Same H H') (h : WhyAt H v r) : WhyAt H' v r := by
  cases r with
  | no => exact h
  | sign =>
    obtain ⟨a, e, h⟩ := h
    exact ⟨a, e, s _ _ h⟩
  | div g =>
    obtain ⟨a, e, h⟩ := h
    exact ⟨a, e, s _ _ h⟩
  | gaps xs =>
    obtain ⟨a, b, e, h1, h2⟩ := h
    exact ⟨a, b, e, s _ _ h1, s _ _ h2⟩
/-- a reason as data -/
def dW : Wy.R → PyData
  | .no => .none
  | .sign => .tuple [.str "sign"]
  | .div g => .tuple [.str "divisor", .int g]
  | .gaps xs => .tuple [.str "gaps", DTx.tI xs]
theorem whyDp {K : PySem.W.Frag} {H : Hp} {v : V} {r : Wy.R} (h : WhyAt H v r) : Dp K H v (dW r) := by
  cases r with
  | no =>
    have h : v = .non := h
    rw [h]
    exact .non
  | sign =>
    obtain ⟨a, rfl, h⟩ := h
    exact .tup (SqT.of h) (.cons (.str _) .nil)
  | div g =>
    obtain ⟨a, rfl, h⟩ := h
    exact .tup (SqT.of h) (.cons (.str _) (.cons (.int _) .nil))
  | gaps xs =>
    obtain ⟨a, b, rfl, h1, h2⟩ := h
    exact .tup (SqT.of h1) (.cons (.str _) (.cons (.tup (SqT.of h2) (DTx.dpInts _)) .nil))
theorem dW_shaped (r : Wy.R) : SeqAt.shaped (dW r) = true := by
  cases r with
  | no => decide +kernel
  | sign => decide +kernel
  | div g =>
    unfold SeqAt.shaped dW
    rw [Bool.and_eq_true, decide_eq_true_iff]
    refine ⟨?_, by simp [PyData.depth, PyData.depthAll]⟩
    simp only [PyData.canLay0, PyData.canLayAll0, Bool.and_true]
    decide +kernel
  | gaps xs =>
    unfold SeqAt.shaped dW DTx.tI
    rw [Bool.and_eq_true, decide_eq_true_iff]
    refine ⟨?_, ?_⟩
    · simp only [PyData.canLay0, PyData.canLayAll0, Bool.and_true, DTx.ints_lay]
      decide +kernel
    · have := DTx.ints_depth xs
      simp only [PyData.depth, PyData.depthAll]
      omega
theorem dW_eqv (r : Wy.R) : PyData.eqv (dW r) (dW r) = true := SeqAt.eqv_refl _ (SeqAt.canLay_of_shaped (dW_shaped r))
theorem c_neWhy {K : PySem.W.Frag} {H : Hp} {v1 v2 : V} {r : Wy.R} {Q : VK} (h1 : WhyAt H v1 r) (h2 : WhyAt H v2 r) (q : Q (.bl false) H) : rNeD K v1 v2 H Q :=
  ⟨dW r, dW r, whyDp h1, whyDp h2, dW_shaped r, dW_shaped r, by rw [dW_eqv]; exact q⟩
theorem came_keys {H : Hp} {d : Addr} {C : CM} (h : CameAt H d C) : ∃ kvs, H d = some (.dK kvs) ∧ kvs.map (·.1) = (ckeys C).map Sum.inl := by
  obtain ⟨kvs, e, r⟩ := h
  refine ⟨kvs, e, ?_⟩
  clear e
  induction r with
  | nil => rfl
  | cons a b ih => rw [List.map_cons, ih, a.1]; rfl
theorem strict {xs ms : List Int} (nd : xs.Nodup) (p : ms.Perm xs) (s : ms.Pairwise (· ≤ ·)) : ms.Pairwise (· < ·) := by
  have nm : ms.Nodup := p.nodup_iff.mpr nd
  refine (s.and nm).imp ?_
  rintro a b ⟨h1, h2⟩
  omega
def sp_common_divisor : Sp := fun vs H Q _ => ∃ (a : Addr) (ns : List Int), vs = [.ref a] ∧ H a = some (.lst (ns.map V.int)) ∧ (∀ n ∈ ns, n.natAbs < 1073741824) ∧ Q (.int (Wy.gcdL ns : Nat)) H
def sp_why_never (C : Addr) : Sp := fun vs H Q _ => ∃ (p : Addr) (st : Int) (qs : DI), vs = [.ref p] ∧ FormAt C H p st qs ∧ Keys3 qs ∧ (-10000 ≤ st ∧ st ≤ 10000) ∧ (∀ q ∈ qs, -10000 ≤ q.2 ∧ q.2 ≤ 10000) ∧
  ∀ v r H', WhyAt H' v r → Wy.Why st (qs.map (·.2)) r → Same H H' → Q v H'
theorem fold_lt : ∀ (ns : List Int) (a B : Nat), a < B → (∀ n ∈ ns, n.natAbs < B) → 0 < B → ns.foldl (fun d n => Nat.gcd d n.natAbs) a < B
  | [], a, B, h, _, _ => h
  | n :: r, a, B, h, hn, h0 => by
    refine fold_lt r _ B ?_ (fun m hm => hn m (List.mem_cons_of_mem _ hm)) h0
    show Nat.gcd a n.natAbs < B
    by_cases c : a = 0
    · rw [c, Nat.gcd_zero_left]
      exact hn n List.mem_cons_self
    · exact Nat.lt_of_le_of_lt (Nat.gcd_le_left _ (Nat.pos_of_ne_zero c)) h
theorem gcd_lt {ns : List Int} {B : Nat} (h : ∀ n ∈ ns, n.natAbs < B) (h0 : 0 < B) : Wy.gcdL ns < B := fold_lt ns 0 B h0 h h0
section
variable {P : Program} {w : World} {K : PySem.W.Frag} {mg : Str → Option Value} {base : Heap} {Z : Ad}
theorem ok_common_divisor (T : Txt K mg Z) : FnOk P w K mg base CX0 1 Z.a_common_divisor Z.d_common_divisor ["numbers"] sp_common_divisor := by
  refine T.F_common_divisor.ok sc_common_divisor (fun vs H Q E h => ?_) (fun cdv A outer s H vs Q E hr h => ?_)
  · obtain ⟨a, ns, rfl, _⟩ := h
    rfl
  · obtain ⟨a, ns, rfl, ha, hb, q⟩ := h
    have nd := sc_common_divisor.nd
    refine ⟨_, (pss_cons (ps_set (i := 1) nd rfl (Or.inl rfl) pe_int)
  (pss_cons (ps_for PassesOwn.never rfl (pi_list (pv 0)) (pg_name (i := 2) nd rfl (Or.inl rfl))
  (pss_cons (ps_set (i := 3) nd rfl (Or.inl rfl) (pe_callB Eg.cr_abs (by rfl) T.u_abs (by decide +kernel) (pa_cons (pv 2) pa_nil)))
  (pss_one (ps_while PassesOwn.never (pt_cmpR op_ne (pv 3) pe_int (nomark _))
  (pss_one (ps_par (i := 1) (j := 3) (by rfl) nd rfl rfl (by decide) rfl rfl (pa_cons (pv 3) (pa_cons (pe_op op_mod (pv 1) (pv 3)) pa_nil)) (by rfl)))))))
  (pss_one (ps_ret (pv 1))))), ?_⟩
    refine Eg.w_sig (σ := [some (.ref a), none, none, none]) rfl ?_
    walk_at "go"
    refine for_list (xs := ns.map V.int) (fun i σ' H' => ∃ (v2 v3 : Option V), σ' = [some (.ref a), some (.int (Wy.gcdL (ns.take i) : Nat)), v2, v3] ∧ H = H') ⟨_, _, rfl, rfl⟩ ?_ ?_ ?_
    · rintro i _ _ _ ⟨v2, v3, rfl, rfl⟩
      exact SqL.of ha
    · rintro i x _ _ hx ⟨v2, v3, rfl, rfl⟩
      rw [List.getElem?_map] at hx
      obtain ⟨n, hn, rfl⟩ := Option.map_eq_some_iff.mp hx
      obtain ⟨hlt, hge⟩ := List.getElem?_eq_some_iff.mp hn
      have tk : Wy.gcdL (ns.take (i + 1)) = Nat.gcd (Wy.gcdL (ns.take i)) n.natAbs := by
        rw [List.take_succ_eq_append_getElem hlt, hge, Wy.gcdL_snoc]
      walk_at "go"
      refine ⟨fun m σ' H' => ∃ d r : Nat, σ' = [some (.ref a), some (.int (d : Nat)), some (.int n), some (.int (r : Nat))] ∧ m = r ∧ Nat.gcd d r = Wy.gcdL (ns.take (i + 1)) ∧ r < 1073741824 ∧ H = H', ⟨_, Wy.gcdL (ns.take i), n.natAbs, ?_, rfl, tk.symm, hb n (List.mem_of_getElem? hn), rfl⟩, ?_⟩
      · rw [show (if n < 0 then -n else n) = ((n.natAbs : Nat) : Int) by split <;> omega]
        rfl
      rintro m _ _ ⟨d, r, rfl, em, hg, hr1, rfl⟩
      walk_at "go"
      rw [Eg.int_eq]
      refine Eg.brDn (fun h0 => ?_) (fun h0 => ?_)
      · refine ⟨_, fun σ' H' h => h, ?_⟩
        have r0 : 0 < r := by omega
        walk_at "go"
        refine ⟨_, ?_, r, d % r, ?_, rfl, ?_, Nat.lt_of_lt_of_le (Nat.mod_lt d r0) (by omega), rfl⟩
        · rw [em]
          exact Nat.mod_lt d r0
        · rw [Int.natCast_emod]
          rfl
        · rw [← hg, Nat.gcd_comm d r, Nat.gcd_rec r d, Nat.gcd_comm]
      · have r0 : r = 0 := by omega
        subst r0
        rw [Nat.gcd_zero_right] at hg
        walk_at "go"
        exact ⟨_, _, by rw [hg], rfl⟩
    · rintro _ _ ⟨v2, v3, rfl, rfl⟩
      walk_at "go"
      rw [List.length_map, List.take_length]
      exact q
set_option maxHeartbeats 4000000 in
theorem ok_why_never (T : Txt K mg Z) : FnOk P w K mg base CX0 2 Z.a_why_never Z.d_why_never ["form"] (sp_why_never Z.c_Form) := by
  refine T.F_why_never.ok sc_why_never (fun vs H Q E h => ?_) (fun cdv A outer s H vs Q E hr h => ?_)
  · obtain ⟨p, st, qs, rfl, _⟩ := h
    rfl
  · obtain ⟨p, st, qs, rfl, ⟨dx, e, hp, he⟩, k3, hst, hq, q⟩ := h
    have nd := sc_why_never.nd
    have hu := hu_of hr
    have cF := T.cl_Form
    have n1 := T.n_Form_start
    have n2 := T.n_Form_steps
    have lk1 := lk_start st e
    have lk2 := lk_steps st e
    have ksz := k3.sz
    generalize hS : qs.map (fun y : List Int × Int => y.2) = S at q
    have hSl : S.length = qs.length := by rw [← hS, List.length_map]
    have hSb : ∀ s ∈ S, -10000 ≤ s ∧ s ≤ 10000 := fun s hs => by
      rw [← hS] at hs
      obtain ⟨y, hy, rfl⟩ := List.mem_map.mp hs
      exact hq y hy
    have hone : OneS st qs ↔ Wy.One st S := by rw [← hS]; exact ones_one
    refine ⟨_, (pss_cons (ps_if (pt_cmpR op_eq (pe_fld (pv 0) rfl) pe_int (nomark _))
  (pss_one (ps_ret pe_non))
  pss_nil)
  (pss_cons (ps_if (pt_val (pe_call (ok_is_one_sided T) (hr.mono (by decide)) (by rfl) T.g_is_one_sided T.F_is_one_sided.kp T.b_is_one_sided .nil pass0 (pa_cons (pv 0) pa_nil)))
  (pss_one (ps_ret (pe_tup (pa_cons pe_str pa_nil))))
  pss_nil)
  (pss_cons (ps_lock (ps_setLc (i := 1) (own := [("sort", 5)]) rfl nd rfl rfl (sw_true rfl rfl rfl (by decide +kernel)) (pi_keys (pe_fld (pv 0) rfl)) (blkOk_by (N := N_why_never) (sc := defScope s_why_never) (by decide +kernel)) (fun _ _ _ _ _ => (pg_name (i := 5) nd rfl (Or.inl rfl))) (fun _ _ _ _ _ => pts_nil) (fun _ _ _ _ _ => (Eg.peE (pe_dget hu (pe_fld (pv 0) rfl) (pv 5) (fun _ _ => rfl)) (by walk_at "blk")))))
  (pss_cons (ps_set (i := 2) nd rfl (Or.inl rfl) (pe_call (ok_common_divisor T) (hr.mono (by decide)) (by rfl) T.g_common_divisor T.F_common_divisor.kp T.b_common_divisor .nil pass0 (pa_cons (pv 1) pa_nil)))
  (pss_cons (ps_if (pt_cmpR op_ne (pe_op op_mod (pe_fld (pv 0) rfl) (pv 2)) pe_int (nomark _))
  (pss_one (ps_ret (pe_tup (pa_cons pe_str (pa_cons (pv 2) pa_nil)))))
  pss_nil)
  (C8.pss_cut (ps_if (PW.pt (pw_and (pt_cmpR op_lt (pe_callB (cr_min rfl) (by rfl) T.u_min (by decide +kernel) (pa_cons (pv 1) pa_nil)) pe_int (nomark _)) (pw_and1 (pt_cmpR op_gt (pe_callB (cr_max rfl) (by rfl) T.u_max (by decide +kernel) (pa_cons (pv 1) pa_nil)) pe_int (nomark _)))))
  (pss_one (ps_ret pe_non))
  pss_nil)
  (pss_cons (ps_set (i := 3) nd rfl (Or.inl rfl) (pe_disp (pps_cons (pe_fld (pv 0) rfl) pe_non pps_nil) rfl rfl (fun z => nomatch z) (show 1 ≤ 15 by decide)))
  (pss_cons (ps_set (i := 4) nd rfl (Or.inl rfl) (pe_lst (pa_cons (pe_fld (pv 0) rfl) pa_nil)))
  (C8.pss_cut (ps_while PassesOwn.never (pt_cmpR (op_neD hr.units) (pv 4) (pe_lst pa_nil) (nomark _))
  (pss_one (ps_set (i := 4) nd rfl (Or.inl rfl) (pe_call (ok_widened T) (hr.mono (by decide)) (by rfl) T.g_widened T.F_widened.kp T.b_widened .nil pass0 (pa_cons (pv 0) (pa_cons (pv 4) (pa_cons (pv 3) (pa_cons (pe_callB Eg.cr_abs (by rfl) T.u_abs (by decide +kernel) (pa_cons (pe_fld (pv 0) rfl) pa_nil)) pa_nil))))))))
  (pss_cons (ps_if (pt_cmp (pc_din hu pe_int (pv 3)))
  (pss_one (ps_ret pe_non))
  pss_nil)
  (pss_one (ps_ret (pe_tup (pa_cons pe_str (pa_cons (pe_callTy Eg.cr_tup (by rfl) T.u_tuple (by decide +kernel) (pa_cons (pe_callB cr_sortedI (by rfl) T.u_sorted (by decide +kernel) (pa_cons (pe_lock (pe_lc (own := [("number", 6)]) rfl nd (pi_keys (pv 3)) (blkOk_by (N := N_why_never) (sc := defScope s_why_never) (by decide +kernel)) (fun _ _ _ _ _ => (pg_name (i := 6) nd rfl (Or.inl rfl))) (fun _ _ _ _ _ => (Eg.ptsE (pts_one (pt_cmpR op_eq (pe_cmpR op_gt (pv 6) pe_int (nomark _)) (pe_cmpR op_gt (pe_fld (pv 0) rfl) pe_int (nomark _)) (nomark _))) (by walk_at "blk"))) (fun _ _ _ _ _ => (Eg.peE (pv 6) (by walk_at "blk"))))) pa_nil)) pa_nil)) pa_nil))))))))))))))), ?_⟩
    refine Eg.w_sig (σ := [some (.ref p), none, none, none, none, none, none]) rfl ?_
    walk_at "go"
    rw [Eg.int_eq]
    refine Eg.brD (fun hz => ?_) (fun hz => ?_)
    · walk_at "go"
      exact q .non .no H rfl (.inl hz) (Same.refl _)
    walk_at "go"
    refine ⟨p, st, qs, rfl, ⟨dx, e, hp, he⟩, k3.nd, by omega, ?_⟩
    intro b H1 s1 hb
    walk_at "go"
    refine Eg.br (fun h1 => ?_) (fun h1 => ?_)
    · walk_at "go"
      intro t ht
      walk_at "go"
      exact q (.ref t) .sign _ ⟨t, rfl, upd_same⟩ ⟨hz, hone.mp (hb.mp h1)⟩ (Eg.same_new s1 ht)
    have nos : ¬ Wy.One st S := fun z => by rw [hb.mpr (hone.mpr z)] at h1; cases h1
    have hp1 := s1 _ _ hp
    have he1 := s1 _ _ he
    clear hb h1 hone
    walk_at "go"
    refine Sl.lock_intsG (F := fun _ z => z) he1 (by omega) (fun H' R fr q => fld_steps rfl hp1 he1 cF n2 fr q) (fun od H' k z t fr hc hm ht R q => ?_) (fun D H2 hD s2 h2D => ?_)
    · refine Eg.w_dget (fld_steps rfl hp1 he1 cF n2 fr (Eg.w_var rfl ?_))
      exact ⟨e, _, rfl, dget_some (.inr ⟨od, hc⟩) ht (getI_mem k3.nd hm), q⟩
    rw [hS] at h2D
    have s02 := s1.trans s2
    have hp2 := s02 _ _ hp
    have he2 := s02 _ _ he
    obtain ⟨s0, hs0, hs0n⟩ := Wy.some_step hz nos
    have g0 := Wy.gcd_pos hs0 hs0n
    have g1 : Wy.gcdL S < 1073741824 := gcd_lt (fun n hn => by have := hSb n hn; omega) (by decide)
    have gS := Wy.isG_gcdL S
    have Sl0 : 0 < S.length := List.length_pos_of_mem hs0
    walk_at "go"
    refine ⟨D, S, rfl, h2D, fun n hn => by have := hSb n hn; omega, ?_⟩
    walk_at "go"
    rw [Eg.int_eq]
    refine Eg.brDn (fun hm => ?_) (fun hm => ?_)
    · walk_at "go"
      intro t ht
      walk_at "go"
      refine q (.ref t) (.div (Wy.gcdL S : Nat)) _ ⟨t, rfl, upd_same⟩ ⟨hz, nos, gS, fun z => hm (Int.emod_eq_zero_of_dvd z)⟩ (Eg.same_new s02 ht)
    have gd : ∀ g, Wy.IsG S g → g ∣ st := fun g hg => by
      rw [hg.one gS]
      exact Int.dvd_of_emod_eq_zero hm
    refine ⟨fun σ' H' => σ' = [some (.ref p), some (.ref D), some (.int (Wy.gcdL S : Nat)), none, none, none, none] ∧ H2 = H' ∧ ¬ Wy.Both S, ?_, ?_⟩
    · walk_at "go"
      refine Eg.c_min (SqL.of h2D) Sl0 fun mn hn1 hn2 => ?_
      walk_at "go"
      refine Eg.brD (fun h1 => ?_) (fun h1 => ?_)
      · walk_at "go"
        refine Eg.c_max (SqL.of h2D) Sl0 fun mx hx1 hx2 => ?_
        walk_at "go"
        refine Eg.brD (fun h2 => ?_) (fun h2 => ?_)
        · walk_at "go"
          exact q .non .no H2 rfl (.inr ⟨nos, gd, .inl ⟨⟨mn, hn1, h1⟩, mx, hx1, h2⟩⟩) s02
        · walk_at "go"
          exact ⟨rfl, rfl, fun ⟨_, c, hc, hc0⟩ => by have := hx2 c hc; omega⟩
      · walk_at "go"
        exact ⟨rfl, rfl, fun ⟨⟨c, hc, hc0⟩, _⟩ => by have := hn2 c hc; omega⟩
    rintro _ _ ⟨rfl, rfl, nb⟩
    have sg := Wy.one_sign hz nb nos
    generalize hL : (if st < 0 then -st else st) = L
    have L0 : 0 ≤ L ∧ L ≤ 10000 ∧ -L ≤ st ∧ st ≤ L := by split at hL <;> omega
    obtain ⟨lb1, lb2, ls⟩ := L0
    walk_at "go"
    intro d hd0
    have hpd : p ≠ d := ne_of_none hp2 hd0
    walk_at "go"
    intro g hg0
    have hd4 : H2 d = none := hd0
    have hdH : H d = none := s02.free hd4
    have s5 := Eg.same_new (o1 := .dK [(Sum.inl st, .non)]) s02 hd4
    have uu : upd (upd H2 d (.dK [])) d (.dK [(Sum.inl st, .non)]) = upd H2 d (.dK [(Sum.inl st, .non)]) := upd_upd
    rw [uu] at hg0 ⊢
    walk_at "go"
    refine ⟨fun σ' H' => ∃ (i : Nat) (Cm : CM) (rg : Addr), σ' = [some (.ref p), some (.ref D), some (.int (Wy.gcdL S : Nat)), some (.ref d), some (.ref rg), none, none] ∧ Lev S L st i (ckeys Cm) [] ∧ CameAt H' d Cm ∧ Same H H', ?_, ?_⟩
    · refine ⟨fun m σ' H' => ∃ (i : Nat) (Cm : CM) (R : List Int) (rg : Addr), σ' = [some (.ref p), some (.ref D), some (.int (Wy.gcdL S : Nat)), some (.ref d), some (.ref rg), none, none] ∧ Lev S L st i (ckeys Cm) R ∧ CameAt H' d Cm ∧ H' rg = some (.lst (R.map V.int)) ∧ Same H H' ∧
        m = 2 * (2 * L + 2 - Cm.length).toNat + (if R = [] then 0 else 1),
        ⟨_, 0, [(st, none)], [st], g, rfl, .start, ⟨_, Eg.upd_old upd_same hg0, .cons ⟨rfl, rfl⟩ .nil⟩, upd_same, Eg.same_new s5 hg0, rfl⟩, ?_⟩
      rintro m _ H5 ⟨i, Cm, R, rg, rfl, lv, hc, h5g, sm, em⟩
      walk_at "go"
      intro nl hnl
      have s6 := Eg.same_new (o1 := .lst []) (Same.refl H5) hnl
      have h6n : upd H5 nl (.lst []) nl = some (.lst (([] : List Int).map V.int)) := upd_same
      generalize upd H5 nl (.lst []) = H6 at s6 h6n ⊢
      have hc6 := hc.keep s6
      have h6g := s6 _ _ h5g
      have sm6 := sm.trans s6
      have hp6 := sm6 _ _ hp
      have he6 := sm6 _ _ he
      walk_at "go"
      refine DTx.c_neIL (SqL.of h6g) (SqL.of h6n) ?_
      walk_at "go"
      refine Eg.brDn (fun h1 => ?_) (fun h1 => ?_)
      · refine ⟨_, fun σ' H' h => h, ?_⟩
        walk_at "go"
        rw [hL]
        walk_at "go"
        refine ⟨p, rg, d, L, st, qs, R, Cm, rfl, ⟨dx, e, hp6, he6⟩, k3.nd, by omega, h6g, hc6, lb1, by omega, lv.nd, fun x hx => lv.lim ls hx, fun f H7 hf0 hf1 hc7 fr => ?_⟩
        walk_at "go"
        obtain ⟨W, e1, e2, fd, _⟩ := wid_spec L qs R Cm
        rw [show qs.map (fun x : List Int × Int => x.2) = S from hS] at fd
        have lv2 := lv.next fd
        have ek : ckeys (wid L qs R Cm).1 = ckeys Cm ++ ckeys W := by rw [e1]; exact List.map_append
        have few := Bf.few lv2.nd (fun x hx => lv2.lim ls hx) lb1
        refine ⟨_, ?_, i + 1, _, _, f, rfl, by rw [ek, e2]; exact lv2, hc7, hf1, fun b o hb => fr b o (sm6 b o hb) (ne_of_none hb hdH), rfl⟩
        rw [em, if_neg h1]
        rw [List.length_append, List.length_map, List.length_map] at few
        rw [e1, e2, List.length_append]
        cases W with
        | nil =>
          rw [show ckeys ([] : CM) = [] from rfl, if_pos rfl]
          simp
        | cons t T =>
          rw [if_neg (fun z => nomatch z)]
          rw [List.length_cons] at few ⊢
          omega
      · walk_at "go"
        subst h1
        exact ⟨i, Cm, rg, rfl, lv, hc6, sm6⟩
    rintro _ H6 ⟨i, Cm, rg, rfl, lv, hc6, sm6⟩
    have hp6 := sm6 _ _ hp
    have ex : ∀ x, -L ≤ x → x ≤ L → (x ∈ ckeys Cm ↔ ∃ n, Rch S st n x) := fun x hx1 hx2 => by
      constructor
      · intro h
        obtain ⟨j, _, r⟩ := (lv.came x).mp h
        exact ⟨j, r.un⟩
      · rintro ⟨n, r⟩
        exact lv.all n x (Wy.mono_lim sg hL.symm r ⟨hx1, hx2⟩)
    obtain ⟨gr, dg, gs⟩ := hc6.get 0
    walk_at "go"
    refine Eg.c_din dg ?_
    rw [gs]
    walk_at "go"
    refine Eg.brD (fun h0 => ?_) (fun h0 => ?_)
    · walk_at "go"
      exact q .non .no H6 rfl (.inr ⟨nos, gd, .inr ((ex 0 (by omega) lb1).mp h0)⟩) sm6
    walk_at "go"
    obtain ⟨kvs, hk1, hk2⟩ := came_keys hc6
    have few := Bf.few lv.nd (fun x hx => lv.lim ls hx) lb1
    have hpd2 : p ≠ d := hpd
    refine Sl.lock_keysI (P := fun z => decide ((0 < z) ↔ (0 < st))) (show 6 < 7 by decide) hk1 hk2 (by omega) (fun H' R fr q => Eg.w_var rfl q) (fun H' z fr hz R q => ?_) (fun D3 H7 hD3 s7 h7D => ?_)
    · have hp7 := fr _ _ hp6 hpd
      walk_at "go"
      have e1 : decide (V.bl (decide (0 < z)) = V.bl (decide (0 < st))) = decide ((0 < z) ↔ (0 < st)) := by
        by_cases c1 : 0 < z <;> by_cases c2 : 0 < st <;> simp [c1, c2]
      rw [e1]
      exact q
    walk_at "go"
    refine Eg.c_sortI (SqL.of h7D) fun ms l pm pw hl => ?_
    have s8 := Eg.same_new (o1 := .lst (ms.map V.int)) (sm6.trans s7) hl
    have h8l : upd H7 l (.lst (ms.map V.int)) l = some (.lst (ms.map V.int)) := upd_same
    generalize upd H7 l (.lst (ms.map V.int)) = H8 at s8 h8l ⊢
    walk_at "go"
    refine Eg.c_tupL (SqL.of h8l) fun b hb => ?_
    have s9 := Eg.same_new (o1 := .tup (ms.map V.int)) s8 hb
    have h9b : upd H8 b (.tup (ms.map V.int)) b = some (.tup (ms.map V.int)) := upd_same
    generalize upd H8 b (.tup (ms.map V.int)) = H9 at s9 h9b ⊢
    walk_at "go"
    intro t ht
    walk_at "go"
    refine q (.ref t) (.gaps ms) _ ⟨t, b, rfl, upd_same, Eg.upd_old h9b ht⟩ ⟨hz, nos, gd, nb, fun z => h0 ((ex 0 (by omega) lb1).mpr z), strict (lv.nd.filter _) pm pw, fun x => ?_⟩ (Eg.same_new s9 ht)
    rw [pm.mem_iff, List.mem_filter, decide_eq_true_iff]
    constructor
    · rintro ⟨h1, h2⟩
      have := lv.lim ls h1
      exact ⟨h2, (ex x this.1 this.2).mp h1⟩
    · rintro ⟨h1, n, r⟩
      have bd : -L ≤ x ∧ x ≤ L := by
        have sd := Wy.side_of sg r
        rcases sg with ⟨h, _⟩ | ⟨h, _⟩
        · have := sd.1 h
          have := h1.mpr h
          omega
        · have := sd.2 h
          rw [if_pos h] at hL
          have : ¬ 0 < x := fun z => by have := h1.mp z; omega
          omega
      exact ⟨(ex x bd.1 bd.2).mpr ⟨n, r⟩, h1⟩
end
end LW

namespace LW
open PySem L2 Sm

open Bf Bw
/-- one of some things of any kind -/
def sp_l_of : Sp := fun vs H Q _ => ∃ (a b : Addr) (k : Int) (xs : List V), vs = [.ref a, .ref b] ∧ BagAt H a k ∧ k ≤ 100000 ∧ H b = some (.lst xs) ∧ 0 < xs.length ∧ xs.length < 1000 ∧ b ≠ a ∧
  ∀ (v : V) (H' : Hp), v ∈ xs → BagAt H' a (k + 1) → (∀ c, c ≠ a → H' c = H c) → Q v H'
section
variable {P : Program} {w : World} {K : PySem.W.Frag} {mg : Str → Option Value} {base : Heap} {Z : Ad}
theorem ok_l_of (T : Txt K mg Z) : FnOk P w K mg base CX0 2 Z.a_l_of Z.d_l_of ["_law_bag_here", "_law_some"] sp_l_of := by
  refine T.F_l_of.ok sc_l_of (fun vs H Q E h => ?_) (fun cdv A outer s H vs Q E hr h => ?_)
  · obtain ⟨a, b, k, xs, rfl, _⟩ := h
    rfl
  · obtain ⟨a, b, k, xs, rfl, hb, hk, hs, h0, h1, hne, q⟩ := h
    refine ⟨_, (pss_one (ps_ret (pe_ix ix_list (pv 1) (pe_call (ok_l_take T) (hr.mono (by decide)) (by rfl) T.g_l_take T.F_l_take.kp T.b_l_take .nil pass0 (pa_cons (pv 0) (pa_cons (pe_callB Eg.cr_len (by rfl) T.u_len (by decide +kernel) (pa_cons (pv 1) pa_nil)) pa_nil))) (fun _ _ => rfl)))), ?_⟩
    refine Eg.w_sig (σ := [some (.ref a), some (.ref b)]) rfl ?_
    walk_at "go"
    refine ⟨a, k, _, rfl, hb, hk, by omega, by omega, fun r H' r0 r1 hb' fr => ?_⟩
    obtain ⟨j, rfl⟩ := Int.eq_ofNat_of_zero_le r0
    have hj : j < xs.length := by omega
    have hv : atI xs (j : Int) = some xs[j] := atI_nat (List.getElem?_eq_getElem hj)
    have hs' : H' b = some (.lst xs) := (fr b hne).trans hs
    walk_at "go"
    exact q _ H' (List.getElem_mem hj) hb' fr
end
end LW

namespace LW
open PySem L2 Sm

open Bf Bw Bp
theorem steps_same {ks : List (List Int)} {ns : List Int} (h : ks.length = ns.length) (s : Int) (h0 : s ≠ 0) : s ∈ (nz (ks.zip ns)).map (·.2) ↔ s ∈ ns := by
  have hzr : (ks.zip ns).map (·.2) = ns := List.map_snd_zip (by omega)
  constructor
  · intro hs
    obtain ⟨y, hy, rfl⟩ := List.mem_map.mp hs
    have := List.mem_map_of_mem (f := Prod.snd) (nz_sub hy)
    rw [show List.map Prod.snd (ks.zip ns) = ns from hzr] at this
    exact this
  · intro hs
    rw [← hzr] at hs
    obtain ⟨y, hy, rfl⟩ := List.mem_map.mp hs
    exact List.mem_map.mpr ⟨y, List.mem_filter.mpr ⟨hy, decide_eq_true h0⟩, rfl⟩
theorem zip_keys {ks : List (List Int)} {ns : List Int} (h : ks.length = ns.length) (nd : ks.Nodup) (s3 : ∀ k ∈ ks, Sort3 k) : Keys3 (ks.zip ns) := by
  have hzl : (ks.zip ns).map (·.1) = ks := List.map_fst_zip (by omega)
  refine ⟨by rw [hzl]; exact nd, fun p hp => s3 _ ?_⟩
  have := List.mem_map_of_mem (f := Prod.fst) hp
  rw [show List.map Prod.fst (ks.zip ns) = ks from hzl] at this
  exact this
theorem str_ne {a b : Str} (h : a ≠ b) : decide (V.str a = V.str b) = false := decide_eq_false fun e => h (V.str.inj e)
theorem gaps_few {st : Int} {S xs : List Int} (h : Wy.Why st S (.gaps xs)) (hst : -10000 ≤ st ∧ st ≤ 10000) : xs.length < 50000 := by
  obtain ⟨h0, h1, _, h2, h3, pw, mem⟩ := h
  have sg := Wy.one_sign h0 h2 h1
  have := Side.few (st := st) (C := xs) (pw.imp fun h => by omega) fun x hx => by
    obtain ⟨e, n, r⟩ := (mem x).mp hx
    have sd := Wy.side_of sg r
    rcases Int.lt_or_lt_of_ne h0 with s | s
    · have := sd.2 s
      refine .inr ⟨this, ?_⟩
      rcases Int.lt_or_le 0 x with c | c
      · have := e.mp c
        omega
      · exact c
    · have := sd.1 s
      have := e.mpr s
      exact .inl ⟨by omega, by omega⟩
  split at this <;> omega
theorem neg_alike {qs rs : DI} (h : Good qs) (h' : Good rs) (e : ∀ k, gt rs k = -gt qs k) {ns : List Int} (al : Wy.Alike (qs.map (·.2)) ns) : Wy.Alike (rs.map (·.2)) (ns.map fun z => -z) := fun s hs => by
  have key : ∀ {qs : DI}, Good qs → ∀ s : Int, s ≠ 0 → (s ∈ qs.map (·.2) ↔ ∃ k, gt qs k = s) := fun {qs} h s hs => by
    constructor
    · intro hm
      obtain ⟨p, hp, rfl⟩ := List.mem_map.mp hm
      exact ⟨p.1, gt_mem h.nd hp⟩
    · rintro ⟨k, rfl⟩
      obtain ⟨p, hp, rfl⟩ := List.mem_map.mp ((h.mem k).mpr hs)
      rw [gt_mem h.nd hp]
      exact List.mem_map.mpr ⟨p, hp, rfl⟩
  rw [key h' s hs, List.mem_map]
  have k2 := key h (-s) (by omega)
  rw [al (-s) (by omega)] at k2
  constructor
  · rintro ⟨k, hk⟩
    have := e k
    exact ⟨-s, k2.mpr ⟨k, by omega⟩, by omega⟩
  · rintro ⟨z, hz, rfl⟩
    rw [show - -z = z by omega] at k2
    obtain ⟨k, hk⟩ := k2.mp hz
    have := e k
    exact ⟨k, by omega⟩
/-- counts or None as a value -/
def CAt (H : Hp) (v : V) : Option DI → Prop
  | none => v = .non
  | some r => ∃ c, v = .ref c ∧ H c = some (.dT (enc r)) ∧ Keys3 r
theorem CAt.keep {H H' : Hp} {v : V} {o : Option DI} (s : Same H H') (h : CAt H v o) : CAt H' v o := by
  cases o with
  | none => exact h
  | some r =>
    obtain ⟨c, e, h, k⟩ := h
    exact ⟨c, e, s _ _ h, k⟩
def totV : Option DI → V
  | none => .non
  | some r => .int (tot r)
def valN : Option Nat → V
  | none => .non
  | some n => .int (n : Nat)
theorem scal_val (n : Option Nat) : scal (valN n) (valN n) = true := by cases n <;> rfl
theorem scal_tot (o : Option DI) : scal (totV o) (totV o) = true := by cases o <;> rfl
theorem few_least {st : Int} {qs : DI} {o : Option DI} (nq : (qs.map (·.1)).Nodup) (h : Few st qs o) : ∃ n, Least (qs.map (·.2)) st n ∧ totV o = valN n := by
  cases o with
  | none => exact ⟨none, h.none_least, rfl⟩
  | some r =>
    obtain ⟨i, l, t, _⟩ := h.some_spec nq
    exact ⟨some i, l, by show V.int (tot r) = V.int (i : Nat); rw [t]⟩
theorem few_one {C x : Addr} {st : Int} {qs : DI} {H : Hp} {Q : VK} {E : XK} (F : FormAt C H x st qs) (k : Keys3 qs) (h1 : -10000 ≤ st ∧ st ≤ 10000) (h2 : ∀ q ∈ qs, -10000 ≤ q.2 ∧ q.2 ≤ 10000) (q : ∀ v o H', CAt H' v o → Few st qs o → Same H H' → Q v H') : sp_fewest C [.ref x] H Q E :=
  ⟨x, st, qs, rfl, F, k, h1, h2, fun H' s f => q .non none H' rfl f s, fun c r H' _ hc kr f s => q (.ref c) (some r) H' ⟨c, rfl, hc, kr⟩ f s⟩
theorem fab_one {C x : Addr} {st : Int} {qs : DI} {H : Hp} {Q : VK} {E : XK} (F : FormAt C H x st qs) (k : FormOk qs) (h1 : -100000 ≤ st) (h2 : ∀ q ∈ qs, -100000 ≤ q.2 ∧ q.2 ≤ 100000) (q : ∀ v o H', CAt H' v o → Fa st qs o → Same H H' → Q v H') : sp_fewest_above C [.ref x] H Q E :=
  ⟨x, st, qs, rfl, F, k, h1, h2, fun H' s f => q .non none H' rfl f s, fun r d H' s _ hd f => q (.ref d) (some r) H' ⟨d, rfl, hd, by
    rcases f with ⟨_, rfl⟩ | ⟨_, kk, s, rfl, hm, _⟩
    · exact Keys3.nil
    · exact ⟨by simp, fun p hp => by
      rw [List.mem_singleton.mp hp]
      show Sort3 kk
      exact k.s3 (kk, s) hm⟩⟩ f s⟩
theorem fab_tot {st : Int} {qs rs : DI} {o o' : Option DI} (h : Fa st qs o) (h' : Fa st rs o') (al : Wy.Alike (qs.map (·.2)) (rs.map (·.2))) : totV o = totV o' := by
  have up : ∀ {qs rs : DI}, Wy.Alike (qs.map (·.2)) (rs.map (·.2)) → ∀ p ∈ qs, 0 < p.2 → ∃ p' ∈ rs, p'.2 = p.2 := fun {qs rs} al p hp h0 => by
    obtain ⟨p', hp', e⟩ := List.mem_map.mp ((al p.2 (by omega)).mp (List.mem_map.mpr ⟨p, hp, rfl⟩))
    exact ⟨p', hp', e⟩
  cases o with
  | none => cases o' with
    | none => rfl
    | some r =>
      rcases h' with ⟨a, _⟩ | ⟨_, k, s, _, hm, hs, _⟩
      · exact absurd h.1 (by omega)
      · obtain ⟨p', hp', e⟩ := up al.symm _ hm hs
        have := h.2 _ hp'
        have e : p'.2 = s := e
        omega
  | some r => cases o' with
    | none =>
      rcases h with ⟨a, _⟩ | ⟨_, k, s, _, hm, hs, _⟩
      · exact absurd h'.1 (by omega)
      · obtain ⟨p', hp', e⟩ := up al _ hm hs
        have := h'.2 _ hp'
        have e : p'.2 = s := e
        omega
    | some r' =>
      rcases h with ⟨a, rfl⟩ | ⟨a, k, s, rfl, hm, hs, mx, _⟩
      · rcases h' with ⟨_, rfl⟩ | ⟨b, _⟩
        · rfl
        · omega
      · rcases h' with ⟨b, rfl⟩ | ⟨b, k', s', rfl, hm', hs', mx', _⟩
        · omega
        · obtain ⟨p, hp, e⟩ := up al _ hm hs
          obtain ⟨p', hp', e'⟩ := up al.symm _ hm' hs'
          have := mx' _ hp
          have := mx _ hp'
          have e : p.2 = s := e
          have e' : p'.2 = s' := e'
          have : s = s' := by omega
          subst this
          rfl
def sp_l_total : Sp := fun vs H Q _ => ∃ (v : V) (o : Option DI), vs = [v] ∧ CAt H v o ∧ ∀ H', Same H H' → Q (totV o) H'
def sp_l_scaled : Sp := fun vs H Q _ => ∃ (v : V) (r : Wy.R) (f : Int), vs = [v, .int f] ∧ WhyAt H v r ∧ f ≠ 0 ∧ (-100 ≤ f ∧ f ≤ 100) ∧ (∀ xs, r = .gaps xs → xs.Pairwise (· < ·) ∧ xs.length < 50000) ∧
  ∀ v' r' H', WhyAt H' v' r' → Wy.ScR f r r' → Same H H' → Q v' H'
section
variable {P : Program} {w : World} {K : PySem.W.Frag} {mg : Str → Option Value} {base : Heap} {Z : Ad}
theorem ok_l_total (T : Txt K mg Z) : FnOk P w K mg base CX0 1 Z.a_l_total Z.d_l_total ["_law_counts"] sp_l_total := by
  refine T.F_l_total.ok sc_l_total (fun vs H Q E h => ?_) (fun cdv A outer s H vs Q E hr h => ?_)
  · obtain ⟨v, o, rfl, _⟩ := h
    rfl
  · obtain ⟨v, o, rfl, hc, q⟩ := h
    have nd := sc_l_total.nd
    have hu := hu_of hr
    refine ⟨_, (pss_one (ps_ret (pe_ifExp (pt_cmpR Eg.opr_isN (pv 0) pe_non (nomark _)) pe_non (pe_callB (cr_sum rfl) (by rfl) T.u_sum (by decide +kernel) (pa_cons (pe_lock (pe_lc (own := [("_law_sort", 1)]) rfl nd (pi_keys (pv 0)) (blkOk_by (N := N_l_total) (sc := defScope s_l_total) (by decide +kernel)) (fun _ _ _ _ _ => (pg_name (i := 1) nd rfl (Or.inl rfl))) (fun _ _ _ _ _ => pts_nil) (fun _ _ _ _ _ => (Eg.peE (pe_dget hu (pv 0) (pv 1) (fun _ _ => rfl)) (by walk_at "blk"))))) pa_nil))))), ?_⟩
    refine Eg.w_sig (σ := [some v, none]) rfl ?_
    cases o with
    | none =>
      have hc : v = .non := hc
      subst hc
      walk_at "go"
      refine Eg.brT rfl ?_
      walk_at "go"
      exact q H (Same.refl _)
    | some r =>
      obtain ⟨c, rfl, hc, kr⟩ := hc
      have rsz := kr.sz
      walk_at "go"
      refine Eg.brF (decide_eq_false (fun z => nomatch z)) ?_
      walk_at "go"
      refine Sl.lock_ints (F := fun _ z => z) rfl hc (by omega) (fun od2 H' k z t e1 e2 e3 e4 R hR => ?_) (fun D H9 hD0 s9 h9D => ?_)
      · walk_at "go"
        exact ⟨c, _, rfl, dget_some (.inr ⟨od2, e2⟩) e4 (getI_mem kr.nd e3), hR⟩
      walk_at "go"
      refine Eg.c_sum (SqL.of h9D) ?_
      walk_at "go"
      exact q _ s9
theorem ok_l_scaled (T : Txt K mg Z) : FnOk P w K mg base CX0 1 Z.a_l_scaled Z.d_l_scaled ["_law_why", "_law_factor"] sp_l_scaled := by
  refine T.F_l_scaled.ok sc_l_scaled (fun vs H Q E h => ?_) (fun cdv A outer s H vs Q E hr h => ?_)
  · obtain ⟨v, r, f, rfl, _⟩ := h
    rfl
  · obtain ⟨v, r, f, rfl, wv, f0, ⟨fb1, fb2⟩, hx, q⟩ := h
    have nd := sc_l_scaled.nd
    refine ⟨_, (pss_cons (ps_if (PW.pt (pw_or (pt_cmpR Eg.opr_isN (pv 0) pe_non (nomark _)) (pw_or1 (pt_cmpR op_eq (pe_ix ix_tup (pv 0) pe_int (fun _ _ => rfl)) pe_str (nomark _)))))
  (pss_one (ps_ret (pv 0)))
  pss_nil)
  (pss_cons (ps_if (pt_cmpR op_eq (pe_ix ix_tup (pv 0) pe_int (fun _ _ => rfl)) pe_str (nomark _))
  (pss_one (ps_ret (pe_tup (pa_cons pe_str (pa_cons (pe_op op_mul (pe_ix ix_tup (pv 0) pe_int (fun _ _ => rfl)) (pe_callB Eg.cr_abs (by rfl) T.u_abs (by decide +kernel) (pa_cons (pv 1) pa_nil))) pa_nil)))))
  pss_nil)
  (pss_one (ps_ret (pe_tup (pa_cons pe_str (pa_cons (pe_callTy Eg.cr_tup (by rfl) T.u_tuple (by decide +kernel) (pa_cons (pe_callB cr_sortedI (by rfl) T.u_sorted (by decide +kernel) (pa_cons (pe_lc (own := [("_law_one", 2)]) rfl nd (pi_tup (pe_ix ix_tup (pv 0) pe_int (fun _ _ => rfl))) (blkOk_by (N := N_l_scaled) (sc := defScope s_l_scaled) (by decide +kernel)) (fun _ _ _ _ _ => (pg_name (i := 2) nd rfl (Or.inl rfl))) (fun _ _ _ _ _ => pts_nil) (fun _ _ _ _ _ => (Eg.peE (pe_op op_mul (pv 1) (pv 2)) (by walk_at "blk")))) pa_nil)) pa_nil)) pa_nil))))))), ?_⟩
    refine Eg.w_sig (σ := [some v, some (.int f), none]) rfl ?_
    cases r with
    | no =>
      have wv : v = .non := wv
      subst wv
      walk_at "go"
      refine Eg.brT rfl ?_
      walk_at "go"
      exact q .non .no H rfl rfl (Same.refl _)
    | sign =>
      obtain ⟨p, rfl, hp⟩ := id wv
      walk_at "go"
      refine Eg.brF (decide_eq_false (fun z => nomatch z)) ?_
      walk_at "go"
      refine Eg.brT (by rw [decide_eq_true rfl]) ?_
      walk_at "go"
      exact q (.ref p) .sign H wv rfl (Same.refl _)
    | div g =>
      obtain ⟨p, rfl, hp⟩ := wv
      have fa : -100 ≤ (if f < 0 then -f else f) ∧ (if f < 0 then -f else f) ≤ 100 := by split <;> omega
      obtain ⟨fa1, fa2⟩ := fa
      walk_at "go"
      refine Eg.brF (decide_eq_false (fun z => nomatch z)) ?_
      walk_at "go"
      refine Eg.brF (str_ne (by decide +kernel)) ?_
      walk_at "go"
      refine Eg.brT (by rw [decide_eq_true rfl]) ?_
      walk_at "go"
      intro t ht
      walk_at "go"
      have e : g * (if f < 0 then -f else f) = g * f.natAbs := by
        congr 1
        split <;> omega
      rw [e]
      exact q (.ref t) (.div (g * f.natAbs)) _ ⟨t, rfl, upd_same⟩ rfl (Eg.same_new (Same.refl _) ht)
    | gaps xs =>
      obtain ⟨p, b, rfl, hp, hb⟩ := wv
      obtain ⟨pw, xl⟩ := hx xs rfl
      walk_at "go"
      refine Eg.brF (decide_eq_false (fun z => nomatch z)) ?_
      walk_at "go"
      refine Eg.brF (str_ne (by decide +kernel)) ?_
      walk_at "go"
      refine Eg.brF (str_ne (by decide +kernel)) ?_
      walk_at "go"
      intro D hD
      refine lc_tup (xs := xs.map V.int) (fun i H' => Same H H' ∧ H' D = some (.lst (((xs.take i).map fun z => f * z).map V.int))) ⟨Eg.same_new (Same.refl _) hD, upd_same⟩ (fun i H' _ h => SqT.of (h.1 _ _ hb)) ?_ ?_
      · rintro i x H3 hx ⟨s3, h3⟩
        rw [List.getElem?_map] at hx
        obtain ⟨n, hn, rfl⟩ := Option.map_eq_some_iff.mp hx
        obtain ⟨hlt, he⟩ := List.getElem?_eq_some_iff.mp hn
        walk_at "go"
        refine ⟨_, h3, ?_, Eg.same_mut s3 hD, ?_⟩
        · rw [List.length_map, List.length_map, List.length_take, sizeLine_eq]
          omega
        · rw [upd_same, List.take_succ_eq_append_getElem hlt, he]
          simp
      rintro H3 ⟨s3, h3⟩
      rw [List.length_map, List.take_length] at h3
      walk_at "go"
      refine Eg.c_sortI (SqL.of h3) fun ms l pm pw2 hl => ?_
      have s4 := Eg.same_new (o1 := .lst (ms.map V.int)) s3 hl
      have h4l : upd H3 l (.lst (ms.map V.int)) l = some (.lst (ms.map V.int)) := upd_same
      generalize upd H3 l (.lst (ms.map V.int)) = H4 at s4 h4l ⊢
      walk_at "go"
      refine Eg.c_tupL (SqL.of h4l) fun b2 hb2 => ?_
      have s5 := Eg.same_new (o1 := .tup (ms.map V.int)) s4 hb2
      have h5b : upd H4 b2 (.tup (ms.map V.int)) b2 = some (.tup (ms.map V.int)) := upd_same
      generalize upd H4 b2 (.tup (ms.map V.int)) = H5 at s5 h5b ⊢
      walk_at "go"
      intro t ht
      walk_at "go"
      have nm : (xs.map fun z => f * z).Nodup := List.pairwise_map.mpr (pw.imp fun {x y} hxy e => by
        have := Int.eq_of_mul_eq_mul_left f0 e
        omega)
      refine q (.ref t) (.gaps ms) _ ⟨t, b2, rfl, upd_same, Eg.upd_old h5b ht⟩ ⟨ms, rfl, strict nm pm pw2, fun y => ?_⟩ (Eg.same_new s5 ht)
      rw [pm.mem_iff, List.mem_map]
      exact ⟨fun ⟨x, h, e⟩ => ⟨x, h, e.symm⟩, fun ⟨x, h, e⟩ => ⟨x, h, e.symm⟩⟩
end
end LW

namespace LW
open PySem L2 Sm

open Bf Bw Bp
def sp_law (K : PySem.W.Frag) : Sp := fun vs H Q _ => ∃ (a : Addr) (ns : List Int), vs = [.ref a] ∧ SqL K H a (ns.map V.int) ∧ ns.length ≤ 63 ∧ ∀ H', Q (.bl true) H'
/-- a form made of sorts and steps -/
structure Made (C : Addr) (H : Hp) (x : Addr) (st : Int) (ns : List Int) (qs : DI) : Prop where
  at_ : FormAt C H x st qs
  good : Good qs
  al : Wy.Alike (qs.map (·.2)) ns
  st_ : -10000 ≤ st ∧ st ≤ 10000
  bd : ∀ q ∈ qs, -10000 ≤ q.2 ∧ q.2 ≤ 10000
theorem Made.keep {C x : Addr} {H H' : Hp} {st : Int} {ns : List Int} {qs : DI} (h : Made C H x st ns qs) (s : Same H H') : Made C H' x st ns qs := ⟨h.at_.keep s, h.good, h.al, h.st_, h.bd⟩
theorem Made.bag {C x b : Addr} {H H' : Hp} {st k : Int} {ns : List Int} {qs : DI} (h : Made C H x st ns qs) (hb : BagAt H b k) (e : ∀ c o, H c = some o → c ≠ b → H' c = some o) : Made C H' x st ns qs := by
  obtain ⟨bs, hb⟩ := hb.ob
  obtain ⟨dx, d, h1, h2⟩ := h.at_
  exact ⟨⟨dx, d, e _ _ h1 (ne_of h1 hb (fun z => nomatch z)), e _ _ h2 (ne_of h2 hb (fun z => nomatch z))⟩, h.good, h.al, h.st_, h.bd⟩
theorem WhyAt.tups {H H' : Hp} {v : V} {r : Wy.R} (s : ∀ c ys, H c = some (.tup ys) → H' c = some (.tup ys)) (h : WhyAt H v r) : WhyAt H' v r := by
  cases r with
  | no => exact h
  | sign =>
    obtain ⟨a, e, h⟩ := h
    exact ⟨a, e, s _ _ h⟩
  | div g =>
    obtain ⟨a, e, h⟩ := h
    exact ⟨a, e, s _ _ h⟩
  | gaps xs =>
    obtain ⟨a, b, e, h1, h2⟩ := h
    exact ⟨a, b, e, s _ _ h1, s _ _ h2⟩
theorem al_bd {qs : DI} {ns : List Int} {B : Int} (al : Wy.Alike (qs.map (·.2)) ns) (g : Good qs) (h : ∀ s ∈ ns, -B ≤ s ∧ s ≤ B) : ∀ q ∈ qs, -B ≤ q.2 ∧ q.2 ≤ B := fun q hq => h q.2 ((al q.2 (g.nz q hq)).mp (List.mem_map.mpr ⟨q, hq, rfl⟩))
theorem neg_scale (ns : List Int) : (ns.map fun z => -z) = ns.map fun z => -1 * z := List.map_congr_left fun z _ => by omega
section
variable {P : Program} {w : World} {K : PySem.W.Frag} {mg : Str → Option Value} {base : Heap} {Z : Ad}
set_option maxHeartbeats 8000000 in
theorem ok_law (T : Txt K mg Z) : FnOk P w K mg base CX0 5 Z.a_law Z.d_law ["_law_script"] (sp_law K) := by
  refine T.F_law.ok sc_law (fun vs H Q E h => ?_) (fun cdv A outer s H0 vs Q E hr h => ?_)
  · obtain ⟨a, ns, rfl, _⟩ := h
    rfl
  · obtain ⟨a, sc, rfl, hS, hlen, q⟩ := h
    have nd := sc_law.nd
    have hu := hu_of hr
    refine ⟨_, (pss_cons (ps_for PassesOwn.never rfl (pi_range1 (by rfl) T.u_range (pa_cons (pe_callB (Eg.cr_max2 rfl) (by rfl) T.u_max (by decide +kernel) (pa_cons pe_int (pa_cons (pe_callB (Eg.cr_min2 rfl) (by rfl) T.u_min (by decide +kernel) (pa_cons pe_int (pa_cons (pe_callB Eg.cr_len (by rfl) T.u_len (by decide +kernel) (pa_cons (pv 0) pa_nil)) pa_nil))) pa_nil))) pa_nil)) (pg_name (i := 1) nd rfl (Or.inl rfl))
  (pss_cons (ps_set (i := 2) nd rfl (Or.inr rfl) (pe_call (ok_l_bag T) (hr.mono (by decide)) (by rfl) T.g_l_bag T.F_l_bag.kp T.b_l_bag .nil pass0 (pa_cons (pv 0) (pa_cons (pv 1) pa_nil))))
  (pss_cons (ps_set (i := 3) nd rfl (Or.inl rfl) (pe_call (ok_l_sorts T) (hr.mono (by decide)) (by rfl) T.g_l_sorts T.F_l_sorts.kp T.b_l_sorts .nil pass0 (pa_cons (pv 2) (pa_cons (pe_call (ok_l_take T) (hr.mono (by decide)) (by rfl) T.g_l_take T.F_l_take.kp T.b_l_take .nil pass0 (pa_cons (pv 2) (pa_cons pe_int pa_nil))) pa_nil))))
  (C8.pss_cut (ps_asg (pe_tup (pa_cons (pe_op op_sub (pe_call (ok_l_take T) (hr.mono (by decide)) (by rfl) T.g_l_take T.F_l_take.kp T.b_l_take .nil pass0 (pa_cons (pv 2) (pa_cons pe_int pa_nil))) pe_int) (pa_cons (pe_lc (own := [("_law_sort", 13)]) rfl nd (pi_list (pv 3)) (blkOk_by (N := N_law) (sc := defScope s_law) (by decide +kernel)) (fun _ _ _ _ _ => (pg_name (i := 13) nd rfl (Or.inl rfl))) (fun _ _ _ _ _ => pts_nil) (fun _ _ _ _ _ => (Eg.peE (pe_op op_sub (pe_call (ok_l_take T) (hr.mono (by decide)) (by rfl) T.g_l_take T.F_l_take.kp T.b_l_take .nil pass0 (pa_cons (pv 2) (pa_cons pe_int pa_nil))) pe_int) (by walk_at "blk")))) pa_nil))) (pg_tup (by rfl) (pgs_cons (pg_name (i := 4) nd rfl (Or.inr rfl)) (pgs_cons (pg_name (i := 5) nd rfl (Or.inl rfl)) pgs_nil))))
  (C8.pss_cut (ps_if (pt_cmpR op_eq (pe_call (ok_l_take T) (hr.mono (by decide)) (by rfl) T.g_l_take T.F_l_take.kp T.b_l_take .nil pass0 (pa_cons (pv 2) (pa_cons pe_int pa_nil))) pe_int (nomark _))
  (pss_one (ps_setLc (i := 5) (own := [("_law_step", 14)]) rfl nd rfl rfl (sw_true rfl rfl rfl (by decide +kernel)) (pi_list (pv 5)) (blkOk_by (N := N_law) (sc := defScope s_law) (by decide +kernel)) (fun _ _ _ _ _ => (pg_name (i := 14) nd rfl (Or.inl rfl))) (fun _ _ _ _ _ => pts_nil) (fun _ _ _ _ _ => (Eg.peE (pe_op op_mul (pe_callB Eg.cr_abs (by rfl) T.u_abs (by decide +kernel) (pa_cons (pv 14) pa_nil)) (pe_ifExp (pt_cmpR op_gt (pv 4) pe_int (nomark _)) (pe_un un_neg pe_int) pe_int)) (by walk_at "blk")))))
  pss_nil)
  (pss_cons (ps_set (i := 6) nd rfl (Or.inr rfl) (pe_op op_add pe_int (pe_call (ok_l_take T) (hr.mono (by decide)) (by rfl) T.g_l_take T.F_l_take.kp T.b_l_take .nil pass0 (pa_cons (pv 2) (pa_cons pe_int pa_nil)))))
  (pss_cons (ps_set (i := 7) nd rfl (Or.inl rfl) (pe_make T.mk_Form (ok_Form_init T) (hr.mono (by decide)) (by rfl) T.g_Form T.b_Form_init .nil pass0 (pa_cons (pv 4) (pa_cons (pe_call (ok_l_steps_of T) (hr.mono (by decide)) (by rfl) T.g_l_steps_of T.F_l_steps_of.kp T.b_l_steps_of .nil pass0 (pa_cons (pv 3) (pa_cons (pv 5) pa_nil))) pa_nil))))
  (pss_cons (ps_set (i := 8) nd rfl (Or.inl rfl) (pe_make T.mk_Form (ok_Form_init T) (hr.mono (by decide)) (by rfl) T.g_Form T.b_Form_init .nil pass0 (pa_cons (pe_op op_mul (pv 6) (pv 4)) (pa_cons (pe_call (ok_l_steps_of T) (hr.mono (by decide)) (by rfl) T.g_l_steps_of T.F_l_steps_of.kp T.b_l_steps_of .nil pass0 (pa_cons (pv 3) (pa_cons (pe_lc (own := [("_law_step", 14)]) rfl nd (pi_list (pv 5)) (blkOk_by (N := N_law) (sc := defScope s_law) (by decide +kernel)) (fun _ _ _ _ _ => (pg_name (i := 14) nd rfl (Or.inl rfl))) (fun _ _ _ _ _ => pts_nil) (fun _ _ _ _ _ => (Eg.peE (pe_op op_mul (pv 6) (pv 14)) (by walk_at "blk")))) pa_nil))) pa_nil))))
  (C8.pss_cut (ps_par (i := 9) (j := 10) (by rfl) nd rfl rfl (by decide) rfl rfl (pa_cons (pe_call (ok_l_total T) (hr.mono (by decide)) (by rfl) T.g_l_total T.F_l_total.kp T.b_l_total .nil pass0 (pa_cons (pe_call (ok_fewest T) (hr.mono (by decide)) (by rfl) T.g_fewest T.F_fewest.kp T.b_fewest .nil pass0 (pa_cons (pv 7) pa_nil)) pa_nil)) (pa_cons (pe_call (ok_why_never T) (hr.mono (by decide)) (by rfl) T.g_why_never T.F_why_never.kp T.b_why_never .nil pass0 (pa_cons (pv 7) pa_nil)) pa_nil)) (by rfl))
  (C8.pss_cut (ps_if (PW.pt (pw_or (pt_cmpR op_ne (pe_call (ok_l_total T) (hr.mono (by decide)) (by rfl) T.g_l_total T.F_l_total.kp T.b_l_total .nil pass0 (pa_cons (pe_call (ok_fewest T) (hr.mono (by decide)) (by rfl) T.g_fewest T.F_fewest.kp T.b_fewest .nil pass0 (pa_cons (pe_un (Ow.un_own_neg (ok_Form_neg T) (hr.mono (by decide)) T.m_Form_neg T.b_Form_neg pass0) (pv 7)) pa_nil)) pa_nil)) (pv 9) (nomark _)) (pw_or (pt_cmpR op_ne (pe_call (ok_l_total T) (hr.mono (by decide)) (by rfl) T.g_l_total T.F_l_total.kp T.b_l_total .nil pass0 (pa_cons (pe_call (ok_fewest T) (hr.mono (by decide)) (by rfl) T.g_fewest T.F_fewest.kp T.b_fewest .nil pass0 (pa_cons (pv 8) pa_nil)) pa_nil)) (pv 9) (nomark _)) (pw_or1 (pt_cmpR op_ne (pe_call (ok_l_total T) (hr.mono (by decide)) (by rfl) T.g_l_total T.F_l_total.kp T.b_l_total .nil pass0 (pa_cons (pe_call (ok_fewest T) (hr.mono (by decide)) (by rfl) T.g_fewest T.F_fewest.kp T.b_fewest .nil pass0 (pa_cons (pe_un (Ow.un_own_neg (ok_Form_neg T) (hr.mono (by decide)) T.m_Form_neg T.b_Form_neg pass0) (pv 8)) pa_nil)) pa_nil)) (pv 9) (nomark _))))))
  (pss_one (ps_ret pe_bl))
  pss_nil)
  (C8.pss_cut (ps_if (PW.pt (pw_or (pt_cmpR (op_neD hr.units) (pe_call (ok_why_never T) (hr.mono (by decide)) (by rfl) T.g_why_never T.F_why_never.kp T.b_why_never .nil pass0 (pa_cons (pv 8) pa_nil)) (pe_call (ok_l_scaled T) (hr.mono (by decide)) (by rfl) T.g_l_scaled T.F_l_scaled.kp T.b_l_scaled .nil pass0 (pa_cons (pv 10) (pa_cons (pv 6) pa_nil))) (nomark _)) (pw_or1 (pt_cmpR (op_neD hr.units) (pe_call (ok_why_never T) (hr.mono (by decide)) (by rfl) T.g_why_never T.F_why_never.kp T.b_why_never .nil pass0 (pa_cons (pe_un (Ow.un_own_neg (ok_Form_neg T) (hr.mono (by decide)) T.m_Form_neg T.b_Form_neg pass0) (pv 8)) pa_nil)) (pe_call (ok_l_scaled T) (hr.mono (by decide)) (by rfl) T.g_l_scaled T.F_l_scaled.kp T.b_l_scaled .nil pass0 (pa_cons (pv 10) (pa_cons (pe_un un_neg (pv 6)) pa_nil))) (nomark _)))))
  (pss_one (ps_ret pe_bl))
  pss_nil)
  (C8.pss_cut (ps_set (i := 11) nd rfl (Or.inl rfl) (pe_op op_cat (pe_revL (pv 5)) (pe_lst (pa_cons (pe_call (ok_l_of T) (hr.mono (by decide)) (by rfl) T.g_l_of T.F_l_of.kp T.b_l_of .nil pass0 (pa_cons (pv 2) (pa_cons (pe_op op_cat (pv 5) (pe_lst (pa_cons pe_int pa_nil))) pa_nil))) pa_nil))))
  (pss_cons (ps_set (i := 12) nd rfl (Or.inl rfl) (pe_make T.mk_Form (ok_Form_init T) (hr.mono (by decide)) (by rfl) T.g_Form T.b_Form_init .nil pass0 (pa_cons (pv 4) (pa_cons (pe_call (ok_l_steps_of T) (hr.mono (by decide)) (by rfl) T.g_l_steps_of T.F_l_steps_of.kp T.b_l_steps_of .nil pass0 (pa_cons (pe_call (ok_l_sorts T) (hr.mono (by decide)) (by rfl) T.g_l_sorts T.F_l_sorts.kp T.b_l_sorts .nil pass0 (pa_cons (pv 2) (pa_cons (pe_callB Eg.cr_len (by rfl) T.u_len (by decide +kernel) (pa_cons (pv 11) pa_nil)) pa_nil))) (pa_cons (pv 11) pa_nil))) pa_nil))))
  (C8.pss_cut (ps_if (PW.pt (pw_or (pt_cmpR op_ne (pe_call (ok_l_total T) (hr.mono (by decide)) (by rfl) T.g_l_total T.F_l_total.kp T.b_l_total .nil pass0 (pa_cons (pe_call (ok_fewest T) (hr.mono (by decide)) (by rfl) T.g_fewest T.F_fewest.kp T.b_fewest .nil pass0 (pa_cons (pv 12) pa_nil)) pa_nil)) (pv 9) (nomark _)) (pw_or1 (pt_cmpR (op_neD hr.units) (pe_call (ok_why_never T) (hr.mono (by decide)) (by rfl) T.g_why_never T.F_why_never.kp T.b_why_never .nil pass0 (pa_cons (pv 12) pa_nil)) (pv 10) (nomark _)))))
  (pss_one (ps_ret pe_bl))
  pss_nil)
  (C8.pss_cut (ps_if (pt_cmpR op_ne (pe_call (ok_l_total T) (hr.mono (by decide)) (by rfl) T.g_l_total T.F_l_total.kp T.b_l_total .nil pass0 (pa_cons (pe_call (ok_fewest_above T) (hr.mono (by decide)) (by rfl) T.g_fewest_above T.F_fewest_above.kp T.b_fewest_above .nil pass0 (pa_cons (pv 12) pa_nil)) pa_nil)) (pe_call (ok_l_total T) (hr.mono (by decide)) (by rfl) T.g_l_total T.F_l_total.kp T.b_l_total .nil pass0 (pa_cons (pe_call (ok_fewest_above T) (hr.mono (by decide)) (by rfl) T.g_fewest_above T.F_fewest_above.kp T.b_fewest_above .nil pass0 (pa_cons (pv 7) pa_nil)) pa_nil)) (nomark _))
  (pss_one (ps_ret pe_bl))
  pss_nil)
  (pss_one (ps_if (PW.pt (pw_and (pt_cmpR Eg.opr_notN (pe_call (ok_fewest T) (hr.mono (by decide)) (by rfl) T.g_fewest T.F_fewest.kp T.b_fewest .nil pass0 (pa_cons (pv 7) pa_nil)) pe_non (nomark _)) (pw_and1 (pt_cmpR op_ne (StX.pe_callO (pv 7) ⟨T.m_Form_call.at_, T.m_Form_call.fn, T.fi_Form_call⟩ ((ok_Form_call T).raw T.b_Form_call .nil) (hr.mono (by decide)) pass0 (pa_cons (pe_call (ok_fewest T) (hr.mono (by decide)) (by rfl) T.g_fewest T.F_fewest.kp T.b_fewest .nil pass0 (pa_cons (pv 7) pa_nil)) pa_nil)) pe_int (nomark _)))))
  (pss_one (ps_ret pe_bl))
  pss_nil)))))))))))))))))
  (pss_one (ps_ret pe_bl))), ?_⟩
    refine Eg.w_sig (σ := [some (.ref a), none, none, none, none, none, none, none, none, none, none, none, none, none, none]) rfl ?_
    walk_at "go"
    refine for_range (lo := 0) (fun i σ' H' => ∃ v1 v2 v3 v4 v5 v6 v7 v8 v9 v10 v11 v12 v13 v14, σ' = [some (.ref a), v1, v2, v3, v4, v5, v6, v7, v8, v9, v10, v11, v12, v13, v14] ∧ Same H0 H') ⟨_, _, _, _, _, _, _, _, _, _, _, _, _, _, rfl, Same.refl _⟩ ?_ ?_
    rotate_left
    · rintro _ H1 ⟨v1, v2, v3, v4, v5, v6, v7, v8, v9, v10, v11, v12, v13, v14, rfl, _⟩
      walk_at "go"
      exact q H1
    rintro i _ H1 hi ⟨v1, v2, v3, v4, v5, v6, v7, v8, v9, v10, v11, v12, v13, v14, rfl, sm1⟩
    have hi4 : i < 4 := by
      split at hi <;> split at hi <;> omega
    walk_at "go"
    refine ⟨a, sc, 0 + (i : Int), rfl, sm1.seq hS, by omega, by omega, ?_⟩
    intro b H2 hb0 hb2 sm2
    have hb0' : H0 b = none := sm1.free hb0
    have hnb : ∀ c o, H0 c = some o → c ≠ b := fun c o e => ne_of_none e hb0'
    have s02 := sm1.trans sm2
    clear sm1 sm2 hb0 hi
    walk_at "go"
    refine ⟨b, 0, 18, rfl, hb2, by decide, by decide, by decide, ?_⟩
    intro r H3 r0 r1 hb3 f3
    walk_at "go"
    refine ⟨b, 1, r, rfl, hb3, by decide, r0, by omega, ?_⟩
    intro p xs ks H4 hp0 h4p tx4 hkl hknd hks hb4 fr34
    have s04 : Same H0 H4 := fun c o e => fr34 c o (by rw [f3 c (hnb c o e)]; exact s02 c o e) (hnb c o e)
    have hpb : p ≠ b := by
      obtain ⟨bs, e⟩ := hb3.ob
      exact (ne_of_none e hp0).symm
    have hk18 : ks.length ≤ 17 := by
      split at hkl <;> omega
    have hb4 : BagAt H4 b 20 := hb4.to rfl (by decide)
    have frame : ∀ {H H' : Hp} {k : Int}, BagAt H b k → (∀ c, c ≠ b → H' c = H c) → ∀ c ys, H c = some (.tup ys) → H' c = some (.tup ys) := fun hb f c ys e => by
      obtain ⟨bs, eb⟩ := hb.ob
      rw [f c (ne_of e eb (fun z => nomatch z))]
      exact e
    clear fr34 hp0 hb3 f3 s02 hb2 hkl
    walk_at "go"
    -- the start and the steps
    refine ⟨fun σ' H' => ∃ (st : Int) (l : Addr) (ns : List Int), σ' = [some (.ref a), some (.int (0 + (i : Nat))), some (.ref b), some (.ref p), some (.int st), some (.ref l), v6, v7, v8, v9, v10, v11, v12, v13, v14] ∧ (-40 ≤ st ∧ st ≤ 40) ∧ (∀ s ∈ ns, -20 ≤ s ∧ s ≤ 20) ∧ ns.length = ks.length ∧ l ≠ b ∧ H' l = some (.lst (ns.map V.int)) ∧ H' p = some (.lst xs) ∧ TupsAt H' xs ks ∧ BagAt H' b 41 ∧ Same H0 H', ?_, ?_⟩
    · walk_at "go"
      refine ⟨b, 20, _, rfl, hb4, by decide, by omega, by omega, ?_⟩
      intro r H5 r0 r1 hb5 f5
      have h5p : H5 p = some (.lst xs) := by rw [f5 p hpb]; exact h4p
      have tx5 := tx4.same (frame hb4 f5)
      have s05 : Same H0 H5 := fun c o e => by rw [f5 c (hnb c o e)]; exact s04 c o e
      walk_at "go"
      intro D hD
      have hDb : D ≠ b := by
        obtain ⟨bs, e⟩ := hb5.ob
        exact (ne_of_none e hD).symm
      have hDp : D ≠ p := (ne_of_none h5p hD).symm
      have hD0 := s05.free hD
      refine lc_list (xs := xs) (fun j H' => H' p = some (.lst xs) ∧ TupsAt H' xs ks ∧ BagAt H' b (21 + j) ∧ (∃ ns : List Int, H' D = some (.lst (ns.map V.int)) ∧ ns.length = j ∧ ∀ n ∈ ns, -20 ≤ n ∧ n ≤ 20) ∧ Same H0 H') ⟨Eg.upd_old h5p hD, tx5.same (Eg.tup_new hD), hb5.to (upd_ne hDb.symm) (by omega), ⟨[], upd_same, rfl, (fun _ z => nomatch z)⟩, Eg.same_new s05 hD⟩ (fun j H' _ h => SqL.of h.1) ?_ ?_
      · rintro j x H6 hx ⟨h6p, t6, b6, ⟨ns, h6D, nl, nb⟩, s6⟩
        have hj : j < xs.length := (List.getElem?_eq_some_iff.mp hx).1
        have hxl : xs.length ≤ 18 := by rw [tx4.len]; omega
        walk_at "go"
        refine ⟨b, 21 + j, _, rfl, b6, by omega, by omega, by omega, ?_⟩
        intro r H7 r0 r1 hb7 f7
        have h7D : H7 D = some (.lst (ns.map V.int)) := by rw [f7 D hDb]; exact h6D
        walk_at "go"
        refine ⟨Eg.upd_mut hDp.symm (by rw [f7 p hpb]; exact h6p), (t6.same (frame b6 f7)).same (Eg.tup_upd h7D), hb7.to (upd_ne hDb.symm) (by omega), ⟨ns ++ [r - 20], by rw [upd_same]; simp, by simp [nl], fun n hn => ?_⟩, Eg.same_mut (fun c o e => by rw [f7 c (hnb c o e)]; exact s6 c o e) hD0⟩
        rcases List.mem_append.mp hn with hn | hn
        · exact nb n hn
        · rw [List.mem_singleton.mp hn]
          omega
      · rintro H6 ⟨h6p, t6, b6, ⟨ns, h6D, nl, nb⟩, s6⟩
        walk_at "go"
        intro t ht
        have htb : t ≠ b := by
          obtain ⟨bs, e⟩ := b6.ob
          exact (ne_of_none e ht).symm
        walk_at "go"
        exact ⟨r - 40, D, ns, rfl, ⟨by omega, by omega⟩, nb, by rw [nl, tx4.len], hDb, Eg.upd_old h6D ht, Eg.upd_old h6p ht, t6.same (Eg.tup_new ht), b6.to (upd_ne htb.symm) (by have := tx4.len; omega), Eg.same_new s6 ht⟩
    clear hb4 tx4 h4p s04
    rintro _ H4 ⟨st, l, ns, rfl, hst, hns, hnl, hlb, h4l, h4p, tx4, hb4, s04⟩
    -- perhaps of one sign
    refine ⟨fun σ' H' => ∃ (l : Addr) (ns : List Int), σ' = [some (.ref a), some (.int (0 + (i : Nat))), some (.ref b), some (.ref p), some (.int st), some (.ref l), v6, v7, v8, v9, v10, v11, v12, v13, v14] ∧ (∀ s ∈ ns, -20 ≤ s ∧ s ≤ 20) ∧ ns.length = ks.length ∧ l ≠ b ∧ H' l = some (.lst (ns.map V.int)) ∧ H' p = some (.lst xs) ∧ TupsAt H' xs ks ∧ BagAt H' b 44 ∧ Same H0 H', ?_, ?_⟩
    · walk_at "go"
      refine ⟨b, 41, 2, rfl, hb4, by decide, by decide, by decide, ?_⟩
      intro r H5 r0 r1 hb5 f5
      have h5l : H5 l = some (.lst (ns.map V.int)) := by rw [f5 l hlb]; exact h4l
      have h5p : H5 p = some (.lst xs) := by rw [f5 p hpb]; exact h4p
      have tx5 := tx4.same (frame hb4 f5)
      have s05 : Same H0 H5 := fun c o e => by rw [f5 c (hnb c o e)]; exact s04 c o e
      walk_at "go"
      rw [Eg.int_eq]
      refine Eg.brD (fun h1 => ?_) (fun h1 => ?_)
      · walk_at "gw"
        refine Sl.map_ints (F := fun z => (if z < 0 then -z else z) * (if 0 < st then -1 else 1)) (SqL.of h5l) (by omega) (fun R q => Eg.w_var rfl q) (fun H' s => SqL.of (s _ _ h5l)) (fun H' z R s hm q => ?_) (fun D H6 hD s6 h6D => ?_)
        · have := hns z hm
          have hz : -100 ≤ (if z < 0 then -z else z) ∧ (if z < 0 then -z else z) ≤ 100 := by split <;> omega
          obtain ⟨hz1, hz2⟩ := hz
          walk_at "go"
          refine Eg.brD (fun h2 => ?_) (fun h2 => ?_)
          · rw [if_pos h2] at q
            walk_at "go"
            exact q
          · rw [if_neg h2] at q
            walk_at "go"
            exact q
        walk_at "go"
        obtain ⟨bs, eb⟩ := hb5.ob
        refine ⟨D, _, rfl, fun s hs => ?_, by rw [List.length_map, hnl], (ne_of_none eb hD).symm, h6D, s6 _ _ h5p, tx5.same fun c ys e => s6 _ _ e, hb5.to ((s6 _ _ eb).trans eb.symm) (by decide), s05.trans s6⟩
        obtain ⟨z, hz, rfl⟩ := List.mem_map.mp hs
        have := hns z hz
        show -20 ≤ (if z < 0 then -z else z) * (if 0 < st then -1 else 1) ∧ (if z < 0 then -z else z) * (if 0 < st then -1 else 1) ≤ 20
        split <;> split <;> omega
      · walk_at "go"
        exact ⟨l, ns, rfl, hns, hnl, hlb, h5l, h5p, tx5, hb5.to rfl (by decide), s05⟩
    clear h4l h4p tx4 s04 hns hnl hlb hb4 ns l
    rintro _ H4 ⟨l, ns, rfl, hns, hnl, hlb, h4l, h4p, tx4, hb4, s04⟩
    walk_at "go"
    refine ⟨b, 44, 19, rfl, hb4, by decide, by decide, by decide, ?_⟩
    intro r H5 r0 r1 hb5 f5
    have h5l : H5 l = some (.lst (ns.map V.int)) := by rw [f5 l hlb]; exact h4l
    have h5p : H5 p = some (.lst xs) := by rw [f5 p hpb]; exact h4p
    have tx5 := tx4.same (frame hb4 f5)
    have s05 : Same H0 H5 := fun c o e => by rw [f5 c (hnb c o e)]; exact s04 c o e
    clear hb4 f5 h4l h4p tx4 s04
    walk_at "go"
    generalize hfc : 2 + r = fc
    have c1 : 2 ≤ fc := by omega
    have c2 : fc ≤ 20 := by omega
    have fc0 : fc ≠ 0 := by omega
    -- the form
    refine ⟨p, l, xs, ks, ns, rfl, h5p, tx5, h5l, hnl.symm, hknd, by omega, ?_⟩
    intro f H6 hf0 hf6 s6
    have k3 := zip_keys hnl.symm hknd hks
    have ss := steps_same hnl.symm
    generalize hps : ks.zip ns = ps at hf6 k3 ss ⊢
    have psz := k3.sz
    walk_at "go"
    intro x dx hx hdx hne
    have sx : Same H6 (upd (upd H6 dx (.own x)) x (.ins Z.c_Form dx [])) := fun c o e => Eg.upd_mut (ne_of_none e hx) (Eg.upd_old e hdx)
    refine ⟨x, dx, f, st, ps, rfl, upd_same, sx _ _ hf6, k3.nd, by omega, ?_⟩
    intro H7 F7 k7
    refine ⟨rfl, ?_⟩
    have s7 : Same H5 H7 := s6.trans fun c o e => k7 c o (sx c o e) (ne_of_none e hx)
    have M7 : Made Z.c_Form H7 x st ns (nz ps) := ⟨F7, k3.good, ss, by omega, fun y hy => by have := al_bd (B := 20) ss k3.good hns y hy; omega⟩
    have h7l := s7 _ _ h5l
    have h7p := s7 _ _ h5p
    have tx7 := tx5.same fun c ys e => s7 c _ e
    have hb7 := hb5.to (by
      obtain ⟨bs, eb⟩ := hb5.ob
      exact (s7 _ _ eb).trans eb.symm) (Int.le_refl _)
    have s07 := s05.trans s7
    clear sx k7 hx hdx hne s6 s7 hf6 h5l h5p tx5 hb5 s05 F7 hf0
    generalize nz ps = qs at M7
    clear ss k3 psz hps
    -- the large form
    walk_at "gw"
    refine Sl.map_ints (F := fun z => fc * z) (SqL.of h7l) (by omega) (fun R q => Eg.w_var rfl q) (fun H' s => SqL.of (s _ _ h7l)) (fun H' z R s hm q => ?_) (fun D H8 hD s8 h8D => ?_)
    · have := hns z hm
      walk_at "go"
      exact q
    have lns : ∀ s ∈ ns.map (fun z => fc * z), -400 ≤ s ∧ s ≤ 400 := fun s hs => by
      obtain ⟨z, hz, rfl⟩ := List.mem_map.mp hs
      have a1 := hns z hz
      have u : fc * z ≤ fc * 20 := Int.mul_le_mul_of_nonneg_left a1.2 (by omega)
      have v : fc * (-20) ≤ fc * z := Int.mul_le_mul_of_nonneg_left a1.1 (by omega)
      show -400 ≤ fc * z ∧ fc * z ≤ 400
      omega
    have lst : -800 ≤ fc * st ∧ fc * st ≤ 800 := by
      have u : fc * st ≤ fc * 40 := Int.mul_le_mul_of_nonneg_left hst.2 (by omega)
      have v : fc * (-40) ≤ fc * st := Int.mul_le_mul_of_nonneg_left hst.1 (by omega)
      omega
    have lnl : (ns.map fun z => fc * z).length = ks.length := by rw [List.length_map, hnl]
    walk_at "go"
    refine ⟨p, D, xs, ks, _, rfl, s8 _ _ h7p, tx7.same fun c ys e => s8 c _ e, h8D, lnl.symm, hknd, by omega, ?_⟩
    intro f2 H9 hf0 hf9 s9
    have k3 := zip_keys lnl.symm hknd hks
    have ss := steps_same lnl.symm
    generalize hps : ks.zip (ns.map fun z => fc * z) = ps2 at hf9 k3 ss ⊢
    have psz := k3.sz
    walk_at "go"
    intro y dy hy hdy hne
    have sy : Same H9 (upd (upd H9 dy (.own y)) y (.ins Z.c_Form dy [])) := fun c o e => Eg.upd_mut (ne_of_none e hy) (Eg.upd_old e hdy)
    refine ⟨y, dy, f2, fc * st, ps2, rfl, upd_same, sy _ _ hf9, k3.nd, by omega, ?_⟩
    intro H10 F10 k10
    refine ⟨rfl, ?_⟩
    have s10 : Same H7 H10 := (s8.trans s9).trans fun c o e => k10 c o (sy c o e) (ne_of_none e hy)
    have L10 : Made Z.c_Form H10 y (fc * st) (ns.map fun z => fc * z) (nz ps2) := ⟨F10, k3.good, ss, by omega, fun z hz => by have := al_bd (B := 400) ss k3.good lns z hz; omega⟩
    have M10 := M7.keep s10
    have h10l := s10 _ _ h7l
    have tx10 := tx7.same fun c ys e => s10 c _ e
    have hb10 := hb7.to (by
      obtain ⟨bs, eb⟩ := hb7.ob
      exact (s10 _ _ eb).trans eb.symm) (Int.le_refl _)
    have s010 := s07.trans s10
    clear sy k10 hy hdy hne s8 s9 s10 hf9 h7l h7p tx7 hb7 s07 F10 hf0 M7 h8D hD
    generalize nz ps2 = qs2 at L10
    clear ss k3 psz hps
    walk_at "go"
    -- what is due
    refine ⟨fun σ' H' => ∃ (n0 : Option Nat) (wv : V) (r : Wy.R), σ' = [some (.ref a), some (.int (0 + (i : Nat))), some (.ref b), some (.ref p), some (.int st), some (.ref l), some (.int fc), some (.ref x), some (.ref y), some (valN n0), some (wv), v11, v12, v13, v14] ∧ Least ns st n0 ∧ WhyAt H' wv r ∧ Wy.Why st ns r ∧ Same H10 H', ?_, ?_⟩
    · walk_at "go"
      refine few_one M10.at_ M10.good.toKeys3 M10.st_ M10.bd ?_
      intro v o H11 hc fw s11
      obtain ⟨n0, le, te⟩ := few_least M10.good.nd fw
      walk_at "go"
      refine ⟨v, o, rfl, hc, ?_⟩
      intro H12 s12
      rw [te]
      walk_at "go"
      have M12 := M10.keep (s11.trans s12)
      refine ⟨x, st, _, rfl, M12.at_, M12.good.toKeys3, M12.st_, M12.bd, ?_⟩
      intro wv r H13 ww yr s13
      walk_at "go"
      exact ⟨n0, wv, r, rfl, le.steps M10.al, ww, yr.alike M10.al, s11.trans (s12.trans s13)⟩
    rintro _ H11 ⟨n0, wv, r, rfl, le, ww, yr, s11⟩
    have M11 := M10.keep s11
    have L11 := L10.keep s11
    have h11l := s11 _ _ h10l
    have hb11 := hb10.to (by
      obtain ⟨bs, eb⟩ := hb10.ob
      exact (s11 _ _ eb).trans eb.symm) (Int.le_refl _)
    have s011 := s010.trans s11
    clear M10 L10 h10l tx10 hb10 s010 s11
    have lle : Least (ns.map fun z => fc * z) (fc * st) n0 := Wy.least_scale fc0 le
    have nle : ∀ {ms : List Int} {t : Int}, Least ms t n0 → Least (ms.map fun z => -z) (-t) n0 := fun {ms t} h => by
      rw [neg_scale, show -t = -1 * t by omega]
      exact Wy.least_scale (by decide) h
    have tot0 : ∀ {qs : DI} {t : Int} {ms : List Int} {o : Option DI}, (qs.map (·.1)).Nodup → Few t qs o → Wy.Alike (qs.map (·.2)) ms → Least ms t n0 → totV o = valN n0 := fun nq fw al l => by
      obtain ⟨n, l2, te⟩ := few_least nq fw
      rw [te, (l2.steps al).one l]
    -- fewest counts of the others
    refine ⟨fun σ' H' => σ' = [some (.ref a), some (.int (0 + (i : Nat))), some (.ref b), some (.ref p), some (.int st), some (.ref l), some (.int fc), some (.ref x), some (.ref y), some (valN n0), some (wv), v11, v12, v13, v14] ∧ Same H11 H', ?_, ?_⟩
    · obtain ⟨ix, jx, hx1, hx2⟩ := id M11.at_
      walk_at "go"
      refine Ow.c_own1 hx1 ⟨x, st, _, rfl, M11.at_, M11.good, ?_⟩
      intro u rs H12 _ Fu gu eu s12
      have au := neg_alike M11.good gu eu M11.al
      walk_at "go"
      refine few_one Fu gu.toKeys3 (by omega) (fun z hz => by
        have := al_bd (B := 20) au gu (fun s hs => by
          obtain ⟨z, hz, rfl⟩ := List.mem_map.mp hs
          have := hns z hz
          show -20 ≤ -z ∧ -z ≤ 20
          omega) z hz
        omega) ?_
      intro v o H13 hc fw s13
      walk_at "go"
      refine ⟨v, o, rfl, hc, ?_⟩
      intro H14 s14
      walk_at "go"
      rw [tot0 gu.nd fw au (nle le)]
      refine Eg.w_ne (scal_val n0) ?_
      walk_at "go"
      refine Eg.brF (by rw [decide_eq_true rfl]; rfl) ?_
      have s15 := s12.trans (s13.trans s14)
      have L14 := L11.keep s15
      obtain ⟨iy, jy, hy1, hy2⟩ := id L14.at_
      clear s12 s13 s14 hc fw Fu
      walk_at "go"
      refine few_one L14.at_ L14.good.toKeys3 L14.st_ L14.bd ?_
      intro v2 o2 H16 hc2 fw2 s16
      walk_at "go"
      refine ⟨v2, o2, rfl, hc2, ?_⟩
      intro H17 s17
      walk_at "go"
      rw [tot0 L14.good.nd fw2 L14.al lle]
      refine Eg.w_ne (scal_val n0) ?_
      walk_at "go"
      refine Eg.brF (by rw [decide_eq_true rfl]; rfl) ?_
      have s18 := s15.trans (s16.trans s17)
      have L17 := L11.keep s18
      obtain ⟨iy, jy, hy1, hy2⟩ := id L17.at_
      clear s15 s16 s17 hc2 fw2
      walk_at "go"
      refine Ow.c_own1 hy1 ⟨y, fc * st, _, rfl, L17.at_, L17.good, ?_⟩
      intro u2 rs2 H19 _ Fu2 gu2 eu2 s19
      have au2 := neg_alike L17.good gu2 eu2 L17.al
      walk_at "go"
      refine few_one Fu2 gu2.toKeys3 (by omega) (fun z hz => by
        have := al_bd (B := 400) au2 gu2 (fun s hs => by
          obtain ⟨z, hz, rfl⟩ := List.mem_map.mp hs
          have := lns z hz
          show -400 ≤ -z ∧ -z ≤ 400
          omega) z hz
        omega) ?_
      intro v3 o3 H20 hc3 fw3 s20
      walk_at "go"
      refine ⟨v3, o3, rfl, hc3, ?_⟩
      intro H21 s21
      walk_at "go"
      rw [tot0 gu2.nd fw3 au2 (nle lle)]
      refine Eg.w_ne (scal_val n0) ?_
      walk_at "go"
      refine Eg.brF (by rw [decide_eq_true rfl]; rfl) ?_
      walk_at "go"
      exact ⟨rfl, s18.trans (s19.trans (s20.trans s21))⟩
    rintro _ H12 ⟨rfl, s12⟩
    have gx : ∀ xs, r = .gaps xs → xs.Pairwise (· < ·) ∧ xs.length < 50000 := fun xs e => ⟨(e ▸ yr).2.2.2.2.2.1, gaps_few (e ▸ yr) (by omega)⟩
    have M12 := M11.keep s12
    have L12 := L11.keep s12
    have h12l := s12 _ _ h11l
    have ww12 := ww.keep s12
    have hb12 := hb11.to (by
      obtain ⟨bs, eb⟩ := hb11.ob
      exact (s12 _ _ eb).trans eb.symm) (Int.le_refl _)
    have s012 := s011.trans s12
    clear M11 L11 h11l hb11 s011 s12 ww
    -- the reasons
    refine ⟨fun σ' H' => σ' = [some (.ref a), some (.int (0 + (i : Nat))), some (.ref b), some (.ref p), some (.int st), some (.ref l), some (.int fc), some (.ref x), some (.ref y), some (valN n0), some (wv), v11, v12, v13, v14] ∧ Same H12 H', ?_, ?_⟩
    · walk_at "go"
      refine ⟨y, _, _, rfl, L12.at_, L12.good.toKeys3, L12.st_, L12.bd, ?_⟩
      intro lv lr H13 lw ly s13
      walk_at "go"
      refine ⟨wv, r, fc, rfl, ww12.keep s13, fc0, by omega, gx, ?_⟩
      intro tv tr H14 tw ty s14
      have e : lr = tr := (ly.alike L12.al).one (yr.scale fc0 ty)
      subst e
      walk_at "go"
      refine c_neWhy (lw.keep s14) tw ?_
      have s15 := s13.trans s14
      have L14 := L12.keep s15
      obtain ⟨iy, jy, hy1, hy2⟩ := id L14.at_
      clear s13 s14 lw tw
      walk_at "go"
      refine Ow.c_own1 hy1 ⟨y, fc * st, _, rfl, L14.at_, L14.good, ?_⟩
      intro u2 rs2 H16 _ Fu2 gu2 eu2 s16
      have au2 := neg_alike L14.good gu2 eu2 L14.al
      walk_at "go"
      refine ⟨u2, _, _, rfl, Fu2, gu2.toKeys3, by omega, (fun z hz => by
        have := al_bd (B := 400) au2 gu2 (fun s hs => by
          obtain ⟨z, hz, rfl⟩ := List.mem_map.mp hs
          have := lns z hz
          show -400 ≤ -z ∧ -z ≤ 400
          omega) z hz
        omega), ?_⟩
      intro lv2 lr2 H17 lw2 ly2 s17
      walk_at "go"
      have s18 := s15.trans (s16.trans s17)
      refine ⟨wv, r, -fc, rfl, ww12.keep s18, by omega, by omega, gx, ?_⟩
      intro tv2 tr2 H19 tw2 ty2 s19
      have e : lr2 = tr2 := by
        have h1 := ly2.alike au2
        have h2 := yr.scale (f := -fc) (by omega) ty2
        rw [List.map_map, show ((fun z : Int => -z) ∘ fun z => fc * z) = fun z => -fc * z from funext fun z => by show -(fc * z) = -fc * z; rw [Int.neg_mul], show -(fc * st) = -fc * st by rw [Int.neg_mul]] at h1
        exact h1.one h2
      subst e
      walk_at "go"
      refine c_neWhy (lw2.keep s19) tw2 ?_
      walk_at "go"
      exact ⟨rfl, s18.trans s19⟩
    rintro _ H13 ⟨rfl, s13⟩
    have M13 := M12.keep s13
    have h13l := s13 _ _ h12l
    have ww13 := ww12.keep s13
    have hb13 := hb12.to (by
      obtain ⟨bs, eb⟩ := hb12.ob
      exact (s13 _ _ eb).trans eb.symm) (Int.le_refl _)
    have s013 := s012.trans s13
    clear M12 L12 h12l hb12 s012 s13 ww12 lle nle lns lst lnl gx
    -- the steps turned, and one more
    refine ⟨fun σ' H' => ∃ (tl : Addr) (z : Int), σ' = [some (.ref a), some (.int (0 + (i : Nat))), some (.ref b), some (.ref p), some (.int st), some (.ref l), some (.int fc), some (.ref x), some (.ref y), some (valN n0), some (wv), some (.ref tl), v12, v13, v14] ∧ (z ∈ ns ∨ z = 0) ∧ H' tl = some (.lst ((ns.reverse ++ [z]).map V.int)) ∧ tl ≠ b ∧ Made Z.c_Form H' x st ns qs ∧ WhyAt H' wv r ∧ BagAt H' b 50 ∧ Same H0 H', ?_, ?_⟩
    · walk_at "go"
      refine Eg.w_var (v := .ref l) rfl ⟨l, ns.map V.int, rfl, SqL.of h13l, fun t1 ht1 => ?_⟩
      have ht1b : t1 ≠ b := by
        obtain ⟨bs, eb⟩ := hb13.ob
        exact (ne_of_none eb ht1).symm
      have s1 := Eg.same_new (o1 := .lst (ns.map V.int).reverse) (Same.refl H13) ht1
      have h1 := upd_same (H := H13) (a := t1) (o := .lst (ns.map V.int).reverse)
      generalize upd H13 t1 (.lst (ns.map V.int).reverse) = H14 at s1 h1 ⊢
      walk_at "go"
      intro t2 ht2
      have s2 := Eg.same_new (o1 := .lst [.int 0]) s1 ht2
      have h2 := upd_same (H := H14) (a := t2) (o := .lst [.int 0])
      have h1 := Eg.upd_old (o1 := .lst [.int 0]) h1 ht2
      generalize upd H14 t2 (.lst [.int 0]) = H15 at s2 h2 h1 ⊢
      clear s1 ht1 ht2
      refine Eg.c_cat (s2 _ _ h13l) h2 (by rw [List.length_map, List.length_singleton]; omega) fun t3 ht3 => ?_
      have s3 := Eg.same_new (o1 := .lst (ns.map V.int ++ [.int 0])) s2 ht3
      have h3 := upd_same (H := H15) (a := t3) (o := .lst (ns.map V.int ++ [.int 0]))
      have h1 := Eg.upd_old (o1 := .lst (ns.map V.int ++ [.int 0])) h1 ht3
      have hb15 := hb13.to (H' := upd H15 t3 (.lst (ns.map V.int ++ [.int 0]))) (by
        obtain ⟨bs, eb⟩ := hb13.ob
        exact (s3 _ _ eb).trans eb.symm) (Int.le_refl _)
      have ht3b : t3 ≠ b := by
        obtain ⟨bs, eb⟩ := hb13.ob
        exact (ne_of_none (s2 _ _ eb) ht3).symm
      generalize upd H15 t3 (.lst (ns.map V.int ++ [.int 0])) = H16 at s3 h3 h1 hb15 ⊢
      walk_at "go"
      refine ⟨b, t3, 45, _, rfl, hb15, by decide, h3, by rw [List.length_append]; exact Nat.succ_pos _, by rw [List.length_append, List.length_map, List.length_singleton]; omega, ht3b, ?_⟩
      intro v H17 hv hb17 f17
      have hv2 : ∃ z : Int, v = .int z ∧ (z ∈ ns ∨ z = 0) := by
        rcases List.mem_append.mp hv with e | e
        · obtain ⟨z, hz, rfl⟩ := List.mem_map.mp e
          exact ⟨z, rfl, .inl hz⟩
        · exact ⟨0, List.mem_singleton.mp e, .inr rfl⟩
      obtain ⟨z, rfl, hz⟩ := hv2
      have fr17 : ∀ c o, H13 c = some o → c ≠ b → H17 c = some o := fun c o e hn => by rw [f17 c hn]; exact s3 _ _ e
      have h17 : H17 t1 = some (.lst (ns.map V.int).reverse) := by rw [f17 _ ht1b]; exact h1
      walk_at "go"
      intro t4 ht4
      have s5 := Eg.same_new (o1 := .lst [.int z]) (Same.refl H17) ht4
      have h5 := upd_same (H := H17) (a := t4) (o := .lst [.int z])
      generalize upd H17 t4 (.lst [.int z]) = H18 at s5 h5 ⊢
      refine Eg.c_cat (s5 _ _ h17) h5 (by rw [List.length_reverse, List.length_map, List.length_singleton]; omega) fun tl htl => ?_
      have s6 := Eg.same_new (o1 := .lst ((ns.map V.int).reverse ++ [.int z])) s5 htl
      have h6 := upd_same (H := H18) (a := tl) (o := .lst ((ns.map V.int).reverse ++ [.int z]))
      have htb : tl ≠ b := by
        obtain ⟨bs, eb⟩ := hb17.ob
        exact (ne_of_none (s5 _ _ eb) htl).symm
      have hb19 := hb17.to (k' := 50) (H' := upd H18 tl (.lst ((ns.map V.int).reverse ++ [.int z]))) (by
        obtain ⟨bs, eb⟩ := hb17.ob
        exact (s6 _ _ eb).trans eb.symm) (by decide)
      have fr19 : ∀ c o, H13 c = some o → c ≠ b → upd H18 tl (.lst ((ns.map V.int).reverse ++ [.int z])) c = some o := fun c o e hn => s6 _ _ (fr17 c o e hn)
      obtain ⟨bs, eb⟩ := hb13.ob
      walk_at "go"
      exact ⟨tl, z, rfl, hz, by rw [h6]; simp, htb, M13.bag hb13 fr19, ww13.tups fun c ys e => fr19 _ _ e (ne_of e eb (fun z => nomatch z)), hb19, fun c o e => fr19 _ _ (s013 c o e) (hnb c o e)⟩
    clear M13 h13l ww13 hb13 s013
    rintro _ H14 ⟨tl, z, rfl, hz, h14t, htb, M14, ww14, hb14, s014⟩
    -- the form with its steps moved
    walk_at "go"
    refine ⟨b, 50, _, rfl, hb14, by decide, by omega, by rw [List.length_map, List.length_append, List.length_reverse, List.length_singleton]; omega, ?_⟩
    intro p2 xs2 ks2 H15 hp0 h15p tx15 hkl2 hknd2 hks2 hb15 fr15
    have nl2 : ks2.length = (ns.reverse ++ [z]).length := by
      rw [List.length_map] at hkl2
      rw [List.length_append, List.length_reverse, List.length_singleton] at hkl2 ⊢
      split at hkl2 <;> omega
    have M15 := M14.bag hb14 fr15
    have ww15 := ww14.tups fun c ys e => by
      obtain ⟨bs, eb⟩ := hb14.ob
      exact fr15 _ _ e (ne_of e eb (fun z => nomatch z))
    have h15t := fr15 _ _ h14t htb
    have s015 : Same H0 H15 := fun c o e => fr15 _ _ (s014 c o e) (hnb c o e)
    have al2 : Wy.Alike (ns.reverse ++ [z]) ns := fun s hs => by
      rw [List.mem_append, List.mem_reverse, List.mem_singleton]
      exact ⟨fun h => h.elim id fun e => hz.elim (fun h => e ▸ h) (fun h => absurd (e.trans h) hs), .inl⟩
    clear M14 ww14 h14t s014 fr15 hb14
    walk_at "go"
    refine ⟨p2, tl, xs2, ks2, _, rfl, h15p, tx15, h15t, nl2, hknd2, by rw [nl2, List.length_append, List.length_reverse, List.length_singleton]; omega, ?_⟩
    intro f3 H16 hf0 hf16 s16
    have k3 := zip_keys nl2 hknd2 hks2
    have ss := steps_same nl2
    generalize hps : ks2.zip (ns.reverse ++ [z]) = ps at hf16 k3 ss ⊢
    have psz := k3.sz
    walk_at "go"
    intro m dm hm hdm hne
    have sm : Same H16 (upd (upd H16 dm (.own m)) m (.ins Z.c_Form dm [])) := fun c o e => Eg.upd_mut (ne_of_none e hm) (Eg.upd_old e hdm)
    refine ⟨m, dm, f3, st, ps, rfl, upd_same, sm _ _ hf16, k3.nd, by omega, ?_⟩
    intro H17 F17 k17
    refine ⟨rfl, ?_⟩
    have s17 : Same H15 H17 := s16.trans fun c o e => k17 c o (sm c o e) (ne_of_none e hm)
    have alm : Wy.Alike ((nz ps).map (·.2)) ns := fun s hs => (ss s hs).trans (al2 s hs)
    have X17 : Made Z.c_Form H17 m st ns (nz ps) := ⟨F17, k3.good, alm, by omega, fun y hy => by have := al_bd (B := 20) alm k3.good hns y hy; omega⟩
    have M17 := M15.keep s17
    have ww17 := ww15.keep s17
    have s017 := s015.trans s17
    clear sm k17 hm hdm hne s16 s17 hf16 F17 hf0 M15 ww15 s015 h15p tx15 h15t hb15
    generalize nz ps = qm at X17
    clear ss k3 psz hps alm al2
    walk_at "go"
    refine ⟨fun σ' H' => σ' = [some (.ref a), some (.int (0 + (i : Nat))), some (.ref b), some (.ref p), some (.int st), some (.ref l), some (.int fc), some (.ref x), some (.ref y), some (valN n0), some (wv), some (.ref tl), some (.ref m), v13, v14] ∧ Same H17 H', ?_, ?_⟩
    · walk_at "go"
      refine few_one X17.at_ X17.good.toKeys3 X17.st_ X17.bd ?_
      intro v o H18 hc fw s18
      walk_at "go"
      refine ⟨v, o, rfl, hc, ?_⟩
      intro H19 s19
      walk_at "go"
      rw [tot0 X17.good.nd fw X17.al le]
      refine Eg.w_ne (scal_val n0) ?_
      walk_at "go"
      refine Eg.brF (by rw [decide_eq_true rfl]; rfl) ?_
      have s20 := s18.trans s19
      have X20 := X17.keep s20
      clear s18 s19 hc fw
      walk_at "go"
      refine ⟨m, _, _, rfl, X20.at_, X20.good.toKeys3, X20.st_, X20.bd, ?_⟩
      intro mv mr H21 mw my s21
      have e : mr = r := (my.alike X17.al).one yr
      subst e
      walk_at "go"
      refine c_neWhy mw (ww17.keep (s20.trans s21)) ?_
      walk_at "go"
      exact ⟨rfl, s20.trans s21⟩
    rintro _ H18 ⟨rfl, s18⟩
    have X18 := X17.keep s18
    have M18 := M17.keep s18
    have s018 := s017.trans s18
    clear X17 M17 s017 s18 ww17
    have ok_of : ∀ {qs : DI}, Good qs → FormOk qs := fun g => ⟨g.nd, g.s3, by have := g.sz; omega⟩
    refine ⟨fun σ' H' => σ' = [some (.ref a), some (.int (0 + (i : Nat))), some (.ref b), some (.ref p), some (.int st), some (.ref l), some (.int fc), some (.ref x), some (.ref y), some (valN n0), some (wv), some (.ref tl), some (.ref m), v13, v14] ∧ Same H18 H', ?_, ?_⟩
    · walk_at "go"
      refine fab_one X18.at_ (ok_of X18.good) (by omega) (fun q hq => by have := X18.bd q hq; omega) ?_
      intro v o H19 hc fa s19
      walk_at "go"
      refine ⟨v, o, rfl, hc, ?_⟩
      intro H20 s20
      have M20 := M18.keep (s19.trans s20)
      walk_at "go"
      refine fab_one M20.at_ (ok_of M20.good) (by omega) (fun q hq => by have := M20.bd q hq; omega) ?_
      intro v2 o2 H21 hc2 fa2 s21
      walk_at "go"
      refine ⟨v2, o2, rfl, hc2, ?_⟩
      intro H22 s22
      walk_at "go"
      rw [fab_tot fa2 fa fun s hs => (M18.al s hs).trans (X18.al s hs).symm]
      refine Eg.w_ne (scal_tot o) ?_
      walk_at "go"
      refine Eg.brF (by rw [decide_eq_true rfl]; rfl) ?_
      walk_at "go"
      exact ⟨rfl, (s19.trans s20).trans (s21.trans s22)⟩
    rintro _ H19 ⟨rfl, s19⟩
    have M19 := M18.keep s19
    have s019 := s018.trans s19
    clear X18 M18 s018 s19
    walk_at "go"
    refine few_one M19.at_ M19.good.toKeys3 M19.st_ M19.bd ?_
    intro v o H20 hc fw s20
    cases o with
    | none =>
      have hc : v = .non := hc
      subst hc
      walk_at "go"
      refine Eg.brF rfl ?_
      walk_at "go"
      exact ⟨_, _, _, _, _, _, _, _, _, _, _, _, _, _, rfl, s019.trans s20⟩
    | some r0 =>
      obtain ⟨c, rfl, hc, kr⟩ := hc
      have M20 := M19.keep s20
      walk_at "go"
      refine Eg.brT (by rw [decide_eq_false (fun z => nomatch z)]; rfl) ?_
      walk_at "go"
      with_reducible refine Ow.w_callO ?_
      walk_at "go"
      with_reducible refine Ow.c_callO ?_
      walk_at "go"
      refine few_one M20.at_ M20.good.toKeys3 M20.st_ M20.bd ?_
      intro v2 o2 H21 hc2 fw2 s21
      have e := fw2.one fw
      subst e
      obtain ⟨c2, rfl, hc2, kr2⟩ := hc2
      obtain ⟨j, _, _, sj, _, _⟩ := fw.some_spec M20.good.nd
      have M21 := M20.keep s21
      obtain ⟨ix, jx, hx1, hx2⟩ := id M21.at_
      walk_at "go"
      refine Ow.c_callA hx1 ⟨x, c2, st, _, r0, rfl, M21.at_, hc2, kr2.nd, fw.small M20.good.nd M20.st_ M20.bd, ?_⟩
      walk_at "go"
      refine Eg.brF (by rw [Eg.int_eq, decide_eq_true sj]; rfl) ?_
      walk_at "go"
      exact ⟨_, _, _, _, _, _, _, _, _, _, _, _, _, _, rfl, (s019.trans s20).trans s21⟩
end
end LW

namespace LW
open PySem L2
theorem all_mk {l : PySem.W.OpenLaw} {w : World} {K : PySem.W.Frag} {h : Heap} {mg : Str → Option Value} {fa f0 f1 f2 f3 f4 f5 f6 f7 f8 f9 f10 f11 f12 f13 f14 f15 f16 f17 f18 C0 : Addr} (X : K.In h) (G : h.Ns mainGlobals mg) (hfa : mg "law" = some (.ref fa))
    {od0 an0 : Option Addr} {sl0 : Array (Option Value)} {oc0 kV0 dc0 pm0 cd0 ct0 : Value}
    {od1 an1 : Option Addr} {sl1 : Array (Option Value)} {oc1 kV1 dc1 pm1 cd1 ct1 : Value}
    {od2 an2 : Option Addr} {sl2 : Array (Option Value)} {oc2 kV2 dc2 pm2 cd2 ct2 : Value}
    {od3 an3 : Option Addr} {sl3 : Array (Option Value)} {oc3 kV3 dc3 pm3 cd3 ct3 : Value}
    {od4 an4 : Option Addr} {sl4 : Array (Option Value)} {oc4 kV4 dc4 pm4 cd4 ct4 : Value}
    {od5 an5 : Option Addr} {sl5 : Array (Option Value)} {oc5 kV5 dc5 pm5 cd5 ct5 : Value}
    {od6 an6 : Option Addr} {sl6 : Array (Option Value)} {oc6 kV6 dc6 pm6 cd6 ct6 : Value}
    {od7 an7 : Option Addr} {sl7 : Array (Option Value)} {oc7 kV7 dc7 pm7 cd7 ct7 : Value}
    {od8 an8 : Option Addr} {sl8 : Array (Option Value)} {oc8 kV8 dc8 pm8 cd8 ct8 : Value}
    {od9 an9 : Option Addr} {sl9 : Array (Option Value)} {oc9 kV9 dc9 pm9 cd9 ct9 : Value}
    {od10 an10 : Option Addr} {sl10 : Array (Option Value)} {oc10 kV10 dc10 pm10 cd10 ct10 : Value}
    {od11 an11 : Option Addr} {sl11 : Array (Option Value)} {oc11 kV11 dc11 pm11 cd11 ct11 : Value}
    {od12 an12 : Option Addr} {sl12 : Array (Option Value)} {oc12 kV12 dc12 pm12 cd12 ct12 : Value}
    {od13 an13 : Option Addr} {sl13 : Array (Option Value)} {oc13 kV13 dc13 pm13 cd13 ct13 : Value}
    {od14 an14 : Option Addr} {sl14 : Array (Option Value)} {oc14 kV14 dc14 pm14 cd14 ct14 : Value}
    {od15 an15 : Option Addr} {sl15 : Array (Option Value)} {oc15 kV15 dc15 pm15 cd15 ct15 : Value}
    {od16 an16 : Option Addr} {sl16 : Array (Option Value)} {oc16 kV16 dc16 pm16 cd16 ct16 : Value}
    {od17 an17 : Option Addr} {sl17 : Array (Option Value)} {oc17 kV17 dc17 pm17 cd17 ct17 : Value}
    {od18 an18 : Option Addr} {sl18 : Array (Option Value)} {oc18 kV18 dc18 pm18 cd18 ct18 : Value}
    (aC0 : PySem.W.nsIn K mainGlobals "Form" = some (some (.ref C0)))
    (a0 : PySem.W.findIn K (.ref C0) "__init__" = some (some (.ref f0)))
    (i0 : PySem.W.isFn K (.ref f0) = true)
    (l0 : K.lookup f0 = some ⟨oc0, od0, .func (PySem.W.fnOf "__init__" "Form.__init__" (defArgs s_Form_init) (defBody s_Form_init) (defScope s_Form_init) .none kV0 dc0 pm0 an0 cd0 ct0), sl0⟩)
    (c0 : PySem.W.codeIn K cd0 "Form.__init__" = true)
    (k0 : PySem.W.keepIn K (.ref f0) = true)
    (a1 : PySem.W.findIn K (.ref C0) "sorts" = some (some (.ref f1)))
    (i1 : PySem.W.isFn K (.ref f1) = true)
    (l1 : K.lookup f1 = some ⟨oc1, od1, .func (PySem.W.fnOf "sorts" "Form.sorts" (defArgs s_Form_sorts) (defBody s_Form_sorts) (defScope s_Form_sorts) .none kV1 dc1 pm1 an1 cd1 ct1), sl1⟩)
    (c1 : PySem.W.codeIn K cd1 "Form.sorts" = true)
    (k1 : PySem.W.keepIn K (.ref f1) = true)
    (a2 : PySem.W.findIn K (.ref C0) "__call__" = some (some (.ref f2)))
    (i2 : PySem.W.isFn K (.ref f2) = true)
    (l2 : K.lookup f2 = some ⟨oc2, od2, .func (PySem.W.fnOf "__call__" "Form.__call__" (defArgs s_Form_call) (defBody s_Form_call) (defScope s_Form_call) .none kV2 dc2 pm2 an2 cd2 ct2), sl2⟩)
    (c2 : PySem.W.codeIn K cd2 "Form.__call__" = true)
    (k2 : PySem.W.keepIn K (.ref f2) = true)
    (a3 : PySem.W.findIn K (.ref C0) "__neg__" = some (some (.ref f3)))
    (i3 : PySem.W.isFn K (.ref f3) = true)
    (l3 : K.lookup f3 = some ⟨oc3, od3, .func (PySem.W.fnOf "__neg__" "Form.__neg__" (defArgs s_Form_neg) (defBody s_Form_neg) (defScope s_Form_neg) .none kV3 dc3 pm3 an3 cd3 ct3), sl3⟩)
    (c3 : PySem.W.codeIn K cd3 "Form.__neg__" = true)
    (k3 : PySem.W.keepIn K (.ref f3) = true)
    (a4 : PySem.W.nsIn K mainGlobals "is_one_sided" = some (some (.ref f4)))
    (l4 : K.lookup f4 = some ⟨oc4, od4, .func (PySem.W.fnOf "is_one_sided" "is_one_sided" (defArgs s_is_one_sided) (defBody s_is_one_sided) (defScope s_is_one_sided) .none kV4 dc4 pm4 an4 cd4 ct4), sl4⟩)
    (c4 : PySem.W.codeIn K cd4 "is_one_sided" = true)
    (k4 : PySem.W.keepIn K (.ref f4) = true)
    (a5 : PySem.W.nsIn K mainGlobals "widened" = some (some (.ref f5)))
    (l5 : K.lookup f5 = some ⟨oc5, od5, .func (PySem.W.fnOf "widened" "widened" (defArgs s_widened) (defBody s_widened) (defScope s_widened) .none kV5 dc5 pm5 an5 cd5 ct5), sl5⟩)
    (c5 : PySem.W.codeIn K cd5 "widened" = true)
    (k5 : PySem.W.keepIn K (.ref f5) = true)
    (a6 : PySem.W.nsIn K mainGlobals "traced_back" = some (some (.ref f6)))
    (l6 : K.lookup f6 = some ⟨oc6, od6, .func (PySem.W.fnOf "traced_back" "traced_back" (defArgs s_traced_back) (defBody s_traced_back) (defScope s_traced_back) .none kV6 dc6 pm6 an6 cd6 ct6), sl6⟩)
    (c6 : PySem.W.codeIn K cd6 "traced_back" = true)
    (k6 : PySem.W.keepIn K (.ref f6) = true)
    (a7 : PySem.W.nsIn K mainGlobals "fewest" = some (some (.ref f7)))
    (l7 : K.lookup f7 = some ⟨oc7, od7, .func (PySem.W.fnOf "fewest" "fewest" (defArgs s_fewest) (defBody s_fewest) (defScope s_fewest) .none kV7 dc7 pm7 an7 cd7 ct7), sl7⟩)
    (c7 : PySem.W.codeIn K cd7 "fewest" = true)
    (k7 : PySem.W.keepIn K (.ref f7) = true)
    (a8 : PySem.W.nsIn K mainGlobals "fewest_above" = some (some (.ref f8)))
    (l8 : K.lookup f8 = some ⟨oc8, od8, .func (PySem.W.fnOf "fewest_above" "fewest_above" (defArgs s_fewest_above) (defBody s_fewest_above) (defScope s_fewest_above) .none kV8 dc8 pm8 an8 cd8 ct8), sl8⟩)
    (c8 : PySem.W.codeIn K cd8 "fewest_above" = true)
    (k8 : PySem.W.keepIn K (.ref f8) = true)
    (a9 : PySem.W.nsIn K mainGlobals "common_divisor" = some (some (.ref f9)))
    (l9 : K.lookup f9 = some ⟨oc9, od9, .func (PySem.W.fnOf "common_divisor" "common_divisor" (defArgs s_common_divisor) (defBody s_common_divisor) (defScope s_common_divisor) .none kV9 dc9 pm9 an9 cd9 ct9), sl9⟩)
    (c9 : PySem.W.codeIn K cd9 "common_divisor" = true)
    (k9 : PySem.W.keepIn K (.ref f9) = true)
    (a10 : PySem.W.nsIn K mainGlobals "why_never" = some (some (.ref f10)))
    (l10 : K.lookup f10 = some ⟨oc10, od10, .func (PySem.W.fnOf "why_never" "why_never" (defArgs s_why_never) (defBody s_why_never) (defScope s_why_never) .none kV10 dc10 pm10 an10 cd10 ct10), sl10⟩)
    (c10 : PySem.W.codeIn K cd10 "why_never" = true)
    (k10 : PySem.W.keepIn K (.ref f10) = true)
    (a11 : PySem.W.nsIn K mainGlobals "_law_bag" = some (some (.ref f11)))
    (l11 : K.lookup f11 = some ⟨oc11, od11, .func (PySem.W.fnOf "_law_bag" "_law_bag" (defArgs s_l_bag) (defBody s_l_bag) (defScope s_l_bag) .none kV11 dc11 pm11 an11 cd11 ct11), sl11⟩)
    (c11 : PySem.W.codeIn K cd11 "_law_bag" = true)
    (k11 : PySem.W.keepIn K (.ref f11) = true)
    (a12 : PySem.W.nsIn K mainGlobals "_law_take" = some (some (.ref f12)))
    (l12 : K.lookup f12 = some ⟨oc12, od12, .func (PySem.W.fnOf "_law_take" "_law_take" (defArgs s_l_take) (defBody s_l_take) (defScope s_l_take) .none kV12 dc12 pm12 an12 cd12 ct12), sl12⟩)
    (c12 : PySem.W.codeIn K cd12 "_law_take" = true)
    (k12 : PySem.W.keepIn K (.ref f12) = true)
    (a13 : PySem.W.nsIn K mainGlobals "_law_of" = some (some (.ref f13)))
    (l13 : K.lookup f13 = some ⟨oc13, od13, .func (PySem.W.fnOf "_law_of" "_law_of" (defArgs s_l_of) (defBody s_l_of) (defScope s_l_of) .none kV13 dc13 pm13 an13 cd13 ct13), sl13⟩)
    (c13 : PySem.W.codeIn K cd13 "_law_of" = true)
    (k13 : PySem.W.keepIn K (.ref f13) = true)
    (a14 : PySem.W.nsIn K mainGlobals "_law_sorts" = some (some (.ref f14)))
    (l14 : K.lookup f14 = some ⟨oc14, od14, .func (PySem.W.fnOf "_law_sorts" "_law_sorts" (defArgs s_l_sorts) (defBody s_l_sorts) (defScope s_l_sorts) .none kV14 dc14 pm14 an14 cd14 ct14), sl14⟩)
    (c14 : PySem.W.codeIn K cd14 "_law_sorts" = true)
    (k14 : PySem.W.keepIn K (.ref f14) = true)
    (a15 : PySem.W.nsIn K mainGlobals "_law_steps_of" = some (some (.ref f15)))
    (l15 : K.lookup f15 = some ⟨oc15, od15, .func (PySem.W.fnOf "_law_steps_of" "_law_steps_of" (defArgs s_l_steps_of) (defBody s_l_steps_of) (defScope s_l_steps_of) .none kV15 dc15 pm15 an15 cd15 ct15), sl15⟩)
    (c15 : PySem.W.codeIn K cd15 "_law_steps_of" = true)
    (k15 : PySem.W.keepIn K (.ref f15) = true)
    (a16 : PySem.W.nsIn K mainGlobals "_law_total" = some (some (.ref f16)))
    (l16 : K.lookup f16 = some ⟨oc16, od16, .func (PySem.W.fnOf "_law_total" "_law_total" (defArgs s_l_total) (defBody s_l_total) (defScope s_l_total) .none kV16 dc16 pm16 an16 cd16 ct16), sl16⟩)
    (c16 : PySem.W.codeIn K cd16 "_law_total" = true)
    (k16 : PySem.W.keepIn K (.ref f16) = true)
    (a17 : PySem.W.nsIn K mainGlobals "_law_scaled" = some (some (.ref f17)))
    (l17 : K.lookup f17 = some ⟨oc17, od17, .func (PySem.W.fnOf "_law_scaled" "_law_scaled" (defArgs s_l_scaled) (defBody s_l_scaled) (defScope s_l_scaled) .none kV17 dc17 pm17 an17 cd17 ct17), sl17⟩)
    (c17 : PySem.W.codeIn K cd17 "_law_scaled" = true)
    (k17 : PySem.W.keepIn K (.ref f17) = true)
    (a18 : PySem.W.nsIn K mainGlobals "law" = some (some (.ref f18)))
    (l18 : K.lookup f18 = some ⟨oc18, od18, .func (PySem.W.fnOf "law" "law" (defArgs s_law) (defBody s_law) (defScope s_law) .none kV18 dc18 pm18 an18 cd18 ct18), sl18⟩)
    (c18 : PySem.W.codeIn K cd18 "law" = true)
    (k18 : PySem.W.keepIn K (.ref f18) = true)
    (pg0 : PySem.W.plainGet K C0 Str.empty = true)
    (hd0 : PySem.W.hasDictIn K C0 = true)
    (po0 : PySem.W.plainOver K C0 = true)
    (sa0 : PySem.W.findIn K (.ref C0) "__setattr__" = some (some (.builtin "object.__setattr__")))
    (mk0 : PySem.W.makesIn K C0 = true)
    (kc0 : PySem.W.keepIn K (.ref C0) = true)
    (w0 : PySem.W.findIn K (.ref C0) "__class__" = some (some (.builtin "object.__class__")))
    (x0 : PySem.W.mroIn K C0 (.type "object") = some true)
    (fi2 : PySem.W.fnIn K f2 = true)
    (n0_0 : PySem.W.findIn K (.ref C0) "start" = some none)
    (n0_1 : PySem.W.findIn K (.ref C0) "steps" = some none)
    (y0 : PySem.W.specialIn K (.builtin "object.__class__") "__get__" = some (some (.builtin "getset_descriptor.__get__")))
    (y1 : PySem.W.takesIn K (.builtin "object.__class__") = some true)
    (z0 : PySem.W.nsIn K mainGlobals "abs" = some none)
    (z1 : PySem.W.nsIn K mainGlobals "int" = some none)
    (z2 : PySem.W.nsIn K mainGlobals "len" = some none)
    (z3 : PySem.W.nsIn K mainGlobals "max" = some none)
    (z4 : PySem.W.nsIn K mainGlobals "min" = some none)
    (z5 : PySem.W.nsIn K mainGlobals "range" = some none)
    (z6 : PySem.W.nsIn K mainGlobals "sorted" = some none)
    (z7 : PySem.W.nsIn K mainGlobals "sum" = some none)
    (z8 : PySem.W.nsIn K mainGlobals "tuple" = some none)
    (z9 : PySem.W.nsIn K mainGlobals "zip" = some none) :
    ∃ fd : FuncData, (∀ (s : Shared) (v : Value), BindsTo s fd ⟨[v], []⟩ [("_law_script", v)]) ∧ ∀ base : Heap, K.In base → base.Ns mainGlobals mg → FnOk l.prog w K mg base CX0 5 fa fd ["_law_script"] (sp_law K) := by
  have e := hfa.symm.trans (PySem.W.mg_of X G a18)
  cases e
  have F0 := fun_mk (st := s_Form_init) l0 c0 k0
  have F1 := fun_mk (st := s_Form_sorts) l1 c1 k1
  have F2 := fun_mk (st := s_Form_call) l2 c2 k2
  have F3 := fun_mk (st := s_Form_neg) l3 c3 k3
  have F4 := fun_mk (st := s_is_one_sided) l4 c4 k4
  have F5 := fun_mk (st := s_widened) l5 c5 k5
  have F6 := fun_mk (st := s_traced_back) l6 c6 k6
  have F7 := fun_mk (st := s_fewest) l7 c7 k7
  have F8 := fun_mk (st := s_fewest_above) l8 c8 k8
  have F9 := fun_mk (st := s_common_divisor) l9 c9 k9
  have F10 := fun_mk (st := s_why_never) l10 c10 k10
  have F11 := fun_mk (st := s_l_bag) l11 c11 k11
  have F12 := fun_mk (st := s_l_take) l12 c12 k12
  have F13 := fun_mk (st := s_l_of) l13 c13 k13
  have F14 := fun_mk (st := s_l_sorts) l14 c14 k14
  have F15 := fun_mk (st := s_l_steps_of) l15 c15 k15
  have F16 := fun_mk (st := s_l_total) l16 c16 k16
  have F17 := fun_mk (st := s_l_scaled) l17 c17 k17
  have F18 := fun_mk (st := s_law) l18 c18 k18
  have b0 := F0.binds (ps := ["self", "start", "steps"]) fun _ _ _ _ _ _ us hl => match us, hl with | [_, _, _], _ => rfl
  have b1 := F1.binds (ps := ["self"]) fun _ _ _ _ _ _ us hl => match us, hl with | [_], _ => rfl
  have b2 := F2.binds (ps := ["self", "counts"]) fun _ _ _ _ _ _ us hl => match us, hl with | [_, _], _ => rfl
  have b3 := F3.binds (ps := ["self"]) fun _ _ _ _ _ _ us hl => match us, hl with | [_], _ => rfl
  have b4 := F4.binds (ps := ["form"]) fun _ _ _ _ _ _ us hl => match us, hl with | [_], _ => rfl
  have b5 := F5.binds (ps := ["form", "ring", "came", "limit"]) fun _ _ _ _ _ _ us hl => match us, hl with | [_, _, _, _], _ => rfl
  have b6 := F6.binds (ps := ["form", "came"]) fun _ _ _ _ _ _ us hl => match us, hl with | [_, _], _ => rfl
  have b7 := F7.binds (ps := ["form"]) fun _ _ _ _ _ _ us hl => match us, hl with | [_], _ => rfl
  have b8 := F8.binds (ps := ["form"]) fun _ _ _ _ _ _ us hl => match us, hl with | [_], _ => rfl
  have b9 := F9.binds (ps := ["numbers"]) fun _ _ _ _ _ _ us hl => match us, hl with | [_], _ => rfl
  have b10 := F10.binds (ps := ["form"]) fun _ _ _ _ _ _ us hl => match us, hl with | [_], _ => rfl
  have b11 := F11.binds (ps := ["_law_script", "_law_at"]) fun _ _ _ _ _ _ us hl => match us, hl with | [_, _], _ => rfl
  have b12 := F12.binds (ps := ["_law_bag_here", "_law_many"]) fun _ _ _ _ _ _ us hl => match us, hl with | [_, _], _ => rfl
  have b13 := F13.binds (ps := ["_law_bag_here", "_law_some"]) fun _ _ _ _ _ _ us hl => match us, hl with | [_, _], _ => rfl
  have b14 := F14.binds (ps := ["_law_bag_here", "_law_many"]) fun _ _ _ _ _ _ us hl => match us, hl with | [_, _], _ => rfl
  have b15 := F15.binds (ps := ["_law_sorts_here", "_law_steps"]) fun _ _ _ _ _ _ us hl => match us, hl with | [_, _], _ => rfl
  have b16 := F16.binds (ps := ["_law_counts"]) fun _ _ _ _ _ _ us hl => match us, hl with | [_], _ => rfl
  have b17 := F17.binds (ps := ["_law_why", "_law_factor"]) fun _ _ _ _ _ _ us hl => match us, hl with | [_, _], _ => rfl
  have b18 := F18.binds (ps := ["_law_script"]) fun _ _ _ _ _ _ us hl => match us, hl with | [_], _ => rfl
  have T : Txt K mg ⟨f0, PySem.W.fnOf "__init__" "Form.__init__" (defArgs s_Form_init) (defBody s_Form_init) (defScope s_Form_init) .none kV0 dc0 pm0 an0 cd0 ct0, f1, PySem.W.fnOf "sorts" "Form.sorts" (defArgs s_Form_sorts) (defBody s_Form_sorts) (defScope s_Form_sorts) .none kV1 dc1 pm1 an1 cd1 ct1, f2, PySem.W.fnOf "__call__" "Form.__call__" (defArgs s_Form_call) (defBody s_Form_call) (defScope s_Form_call) .none kV2 dc2 pm2 an2 cd2 ct2, f3, PySem.W.fnOf "__neg__" "Form.__neg__" (defArgs s_Form_neg) (defBody s_Form_neg) (defScope s_Form_neg) .none kV3 dc3 pm3 an3 cd3 ct3, f4, PySem.W.fnOf "is_one_sided" "is_one_sided" (defArgs s_is_one_sided) (defBody s_is_one_sided) (defScope s_is_one_sided) .none kV4 dc4 pm4 an4 cd4 ct4, f5, PySem.W.fnOf "widened" "widened" (defArgs s_widened) (defBody s_widened) (defScope s_widened) .none kV5 dc5 pm5 an5 cd5 ct5, f6, PySem.W.fnOf "traced_back" "traced_back" (defArgs s_traced_back) (defBody s_traced_back) (defScope s_traced_back) .none kV6 dc6 pm6 an6 cd6 ct6, f7, PySem.W.fnOf "fewest" "fewest" (defArgs s_fewest) (defBody s_fewest) (defScope s_fewest) .none kV7 dc7 pm7 an7 cd7 ct7, f8, PySem.W.fnOf "fewest_above" "fewest_above" (defArgs s_fewest_above) (defBody s_fewest_above) (defScope s_fewest_above) .none kV8 dc8 pm8 an8 cd8 ct8, f9, PySem.W.fnOf "common_divisor" "common_divisor" (defArgs s_common_divisor) (defBody s_common_divisor) (defScope s_common_divisor) .none kV9 dc9 pm9 an9 cd9 ct9, f10, PySem.W.fnOf "why_never" "why_never" (defArgs s_why_never) (defBody s_why_never) (defScope s_why_never) .none kV10 dc10 pm10 an10 cd10 ct10, f11, PySem.W.fnOf "_law_bag" "_law_bag" (defArgs s_l_bag) (defBody s_l_bag) (defScope s_l_bag) .none kV11 dc11 pm11 an11 cd11 ct11, f12, PySem.W.fnOf "_law_take" "_law_take" (defArgs s_l_take) (defBody s_l_take) (defScope s_l_take) .none kV12 dc12 pm12 an12 cd12 ct12, f13, PySem.W.fnOf "_law_of" "_law_of" (defArgs s_l_of) (defBody s_l_of) (defScope s_l_of) .none kV13 dc13 pm13 an13 cd13 ct13, f14, PySem.W.fnOf "_law_sorts" "_law_sorts" (defArgs s_l_sorts) (defBody s_l_sorts) (defScope s_l_sorts) .none kV14 dc14 pm14 an14 cd14 ct14, f15, PySem.W.fnOf "_law_steps_of" "_law_steps_of" (defArgs s_l_steps_of) (defBody s_l_steps_of) (defScope s_l_steps_of) .none kV15 dc15 pm15 an15 cd15 ct15, f16, PySem.W.fnOf "_law_total" "_law_total" (defArgs s_l_total) (defBody s_l_total) (defScope s_l_total) .none kV16 dc16 pm16 an16 cd16 ct16, f17, PySem.W.fnOf "_law_scaled" "_law_scaled" (defArgs s_l_scaled) (defBody s_l_scaled) (defScope s_l_scaled) .none kV17 dc17 pm17 an17 cd17 ct17, fa, PySem.W.fnOf "law" "law" (defArgs s_law) (defBody s_law) (defScope s_law) .none kV18 dc18 pm18 an18 cd18 ct18, C0⟩ := {
    F_Form_init := F0,
    b_Form_init := b0,
    m_Form_init := ⟨a0, i0, k0⟩,
    F_Form_sorts := F1,
    b_Form_sorts := b1,
    m_Form_sorts := ⟨a1, i1, k1⟩,
    F_Form_call := F2,
    b_Form_call := b2,
    m_Form_call := ⟨a2, i2, k2⟩,
    F_Form_neg := F3,
    b_Form_neg := b3,
    m_Form_neg := ⟨a3, i3, k3⟩,
    F_is_one_sided := F4,
    b_is_one_sided := b4,
    g_is_one_sided := PySem.W.mg_of X G a4,
    F_widened := F5,
    b_widened := b5,
    g_widened := PySem.W.mg_of X G a5,
    F_traced_back := F6,
    b_traced_back := b6,
    g_traced_back := PySem.W.mg_of X G a6,
    F_fewest := F7,
    b_fewest := b7,
    g_fewest := PySem.W.mg_of X G a7,
    F_fewest_above := F8,
    b_fewest_above := b8,
    g_fewest_above := PySem.W.mg_of X G a8,
    F_common_divisor := F9,
    b_common_divisor := b9,
    g_common_divisor := PySem.W.mg_of X G a9,
    F_why_never := F10,
    b_why_never := b10,
    g_why_never := PySem.W.mg_of X G a10,
    F_l_bag := F11,
    b_l_bag := b11,
    g_l_bag := PySem.W.mg_of X G a11,
    F_l_take := F12,
    b_l_take := b12,
    g_l_take := PySem.W.mg_of X G a12,
    F_l_of := F13,
    b_l_of := b13,
    g_l_of := PySem.W.mg_of X G a13,
    F_l_sorts := F14,
    b_l_sorts := b14,
    g_l_sorts := PySem.W.mg_of X G a14,
    F_l_steps_of := F15,
    b_l_steps_of := b15,
    g_l_steps_of := PySem.W.mg_of X G a15,
    F_l_total := F16,
    b_l_total := b16,
    g_l_total := PySem.W.mg_of X G a16,
    F_l_scaled := F17,
    b_l_scaled := b17,
    g_l_scaled := PySem.W.mg_of X G a17,
    F_law := F18,
    b_law := b18,
    g_law := PySem.W.mg_of X G a18,
    cl_Form := ⟨pg0, hd0, po0, sa0⟩,
    g_Form := PySem.W.mg_of X G aC0,
    mk_Form := ⟨mk0, a0, i0, kc0⟩,
    n_Form_start := n0_0,
    n_Form_steps := n0_1,
    fi_Form_call := fi2,
    i_Form := fun e => .ins e ⟨pg0, hd0, po0, sa0⟩ w0 y0 y1 x0,
    u_abs := PySem.W.mg_none_of X G z0,
    u_int := PySem.W.mg_none_of X G z1,
    u_len := PySem.W.mg_none_of X G z2,
    u_max := PySem.W.mg_none_of X G z3,
    u_min := PySem.W.mg_none_of X G z4,
    u_range := PySem.W.mg_none_of X G z5,
    u_sorted := PySem.W.mg_none_of X G z6,
    u_sum := PySem.W.mg_none_of X G z7,
    u_tuple := PySem.W.mg_none_of X G z8,
    u_zip := PySem.W.mg_none_of X G z9 }
  exact ⟨PySem.W.fnOf "law" "law" (defArgs s_law) (defBody s_law) (defScope s_law) .none kV18 dc18 pm18 an18 cd18 ct18, fun s v => .of_eq rfl, fun base _ _ => ok_law T⟩
theorem walk {l : PySem.W.OpenLaw} {q : Program} {loose : List Str} {XP : (Str → Option Value) → Heap → Prop} {YP : World → Heap → Prop} {d : DefRec} {K : Params → PySem.W.Frag} (hn : l.most = some 63) (hdf : d.params.defaults = [])
    (hY : ∀ (w : World) (h : Heap), YP w h → (K w.params).In h)
    (F : ∀ (w : World) (mg : Str → Option Value) (fa : Addr) (h : Heap), (K w.params).In h → h.Ns mainGlobals mg → mg d.name = some (.ref fa) →
      ∃ fd : FuncData, (∀ (s : Shared) (u : Value), BindsTo s fd ⟨[u], []⟩ [("_law_script", u)]) ∧ ∀ base : Heap, (K w.params).In base → base.Ns mainGlobals mg → FnOk l.prog w (K w.params) mg base CX0 5 fa fd ["_law_script"] (sp_law (K w.params))) :
    PySem.W.WalkO q loose XP YP l.row.toRowW d [] (fun f vs => PySem.call f vs) :=
  L2.walk_of (n := 63) (k := 5) (x := "_law_script") (CX := fun _ => CX0) (sp := fun w => sp_law (K w.params)) hn (by decide) hdf ⟨rfl, by decide, by decide⟩ hY F (fun _ _ a ns hl _ hS => ⟨a, ns, rfl, hS, hl, fun _ => rfl⟩) fun _ _ _ _ _ z => z
end LW
open PySem PySem.W PyProof.Rows
set_option maxRecDepth 100000 in
set_option maxHeartbeats 0 in
theorem PySem.Challenge.cw_ownholes_k52_whole_fewest_kept_holds : PySem.Challenge.rw_ownholes_k52_whole_fewest_kept.Holds := by
  w_on; o_law; k_head; (case hw => w_witness2)
  k_fill
  refine LW.walk (l := PySem.Challenge.rw_ownholes_k52_whole_fewest_kept) rfl rfl (fun w h Y => PySem.W.kIn_of Y) ?F
  case F =>
    intro w mg fa h KX G hmg
    refine' LW.all_mk KX G hmg ?aC0 ?a0 ?i0 ?l0 ?c0 ?k0 ?a1 ?i1 ?l1 ?c1 ?k1 ?a2 ?i2 ?l2 ?c2 ?k2 ?a3 ?i3 ?l3 ?c3 ?k3 ?a4 ?l4 ?c4 ?k4 ?a5 ?l5 ?c5 ?k5 ?a6 ?l6 ?c6 ?k6 ?a7 ?l7 ?c7 ?k7 ?a8 ?l8 ?c8 ?k8 ?a9 ?l9 ?c9 ?k9 ?a10 ?l10 ?c10 ?k10 ?a11 ?l11 ?c11 ?k11 ?a12 ?l12 ?c12 ?k12 ?a13 ?l13 ?c13 ?k13 ?a14 ?l14 ?c14 ?k14 ?a15 ?l15 ?c15 ?k15 ?a16 ?l16 ?c16 ?k16 ?a17 ?l17 ?c17 ?k17 ?a18 ?l18 ?c18 ?k18 ?pg0 ?hd0 ?po0 ?sa0 ?mk0 ?kc0 ?w0 ?x0 ?fi2 ?n0_0 ?n0_1 ?y0 ?y1 ?z0 ?z1 ?z2 ?z3 ?z4 ?z5 ?z6 ?z7 ?z8 ?z9
    (case aC0 => k_is)
    (case a0 => k_is)
    (case i0 => k_is)
    (case l0 => k_is)
    (case c0 => k_is)
    (case k0 => k_is)
    (case a1 => k_is)
    (case i1 => k_is)
    (case l1 => k_is)
    (case c1 => k_is)
    (case k1 => k_is)
    (case a2 => k_is)
    (case i2 => k_is)
    (case l2 => k_is)
    (case c2 => k_is)
    (case k2 => k_is)
    (case a3 => k_is)
    (case i3 => k_is)
    (case l3 => k_is)
    (case c3 => k_is)
    (case k3 => k_is)
    (case a4 => k_is)
    (case l4 => k_is)
    (case c4 => k_is)
    (case k4 => k_is)
    (case a5 => k_is)
    (case l5 => k_is)
    (case c5 => k_is)
    (case k5 => k_is)
    (case a6 => k_is)
    (case l6 => k_is)
    (case c6 => k_is)
    (case k6 => k_is)
    (case a7 => k_is)
    (case l7 => k_is)
    (case c7 => k_is)
    (case k7 => k_is)
    (case a8 => k_is)
    (case l8 => k_is)
    (case c8 => k_is)
    (case k8 => k_is)
    (case a9 => k_is)
    (case l9 => k_is)
    (case c9 => k_is)
    (case k9 => k_is)
    (case a10 => k_is)
    (case l10 => k_is)
    (case c10 => k_is)
    (case k10 => k_is)
    (case a11 => k_is)
    (case l11 => k_is)
    (case c11 => k_is)
    (case k11 => k_is)
    (case a12 => k_is)
    (case l12 => k_is)
    (case c12 => k_is)
    (case k12 => k_is)
    (case a13 => k_is)
    (case l13 => k_is)
    (case c13 => k_is)
    (case k13 => k_is)
    (case a14 => k_is)
    (case l14 => k_is)
    (case c14 => k_is)
    (case k14 => k_is)
    (case a15 => k_is)
    (case l15 => k_is)
    (case c15 => k_is)
    (case k15 => k_is)
    (case a16 => k_is)
    (case l16 => k_is)
    (case c16 => k_is)
    (case k16 => k_is)
    (case a17 => k_is)
    (case l17 => k_is)
    (case c17 => k_is)
    (case k17 => k_is)
    (case a18 => k_is)
    (case l18 => k_is)
    (case c18 => k_is)
    (case k18 => k_is)
    (case pg0 => k_is)
    (case hd0 => k_is)
    (case po0 => k_is)
    (case sa0 => k_is)
    (case mk0 => k_is)
    (case kc0 => k_is)
    (case w0 => k_is)
    (case x0 => k_is)
    (case fi2 => k_is)
    (case n0_0 => k_is)
    (case n0_1 => k_is)
    (case y0 => k_is)
    (case y1 => k_is)
    (case z0 => k_is)
    (case z1 => k_is)
    (case z2 => k_is)
    (case z3 => k_is)
    (case z4 => k_is)
    (case z5 => k_is)
    (case z6 => k_is)
    (case z7 => k_is)
    (case z8 => k_is)
    (case z9 => k_is)
