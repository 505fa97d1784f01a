import PyProof.Rows.All
import Wide.All
import OpenK.AllK
import Wide.FinOn
import HandS.ForMost
import HandS.ForExc
import HandS.IsInst
import HandS.Walk
import HandS.Steps
import HandS.DictComp
import HandS.DictTup
import HandS.TupSets
import HandS.TupLen
import HandS.Conv
import HandS.OwnEq
import HandS.Codes
import HandS.Zip
import KE.KDictDisplayH
import PySem.Challenge.RW_ownholes_k49_fewest_above
set_option Elab.async false
set_option maxRecDepth 100000
/-! Eg: step lemmas: each reading of the hand layer, from the left, as one backward step. -/
namespace Eg
open PySem L2
section
variable {σ σ' : L2.St} {H H' : Hp} {Q : VK} {i : Nat} {v x y z : V} {ta tb tc te tv : TE} {r r' : R2} {K : PySem.W.Frag} {p q a C dx : Addr} {t u c : TT} {D : Ends} {t1 t2 : TS} {b : Bool} {fs : List (Str × V)} {f : Str} {o o' : HO}
/-! heaps -/
theorem upd_old {o1 : HO} (h : H p = some o) (hp : H q = none) : upd H q o1 p = some o := by
  rw [upd_ne (ne_of_none h hp)]
  exact h
theorem upd_mut {o1 : HO} (hn : p ≠ q) (h : H p = some o) : upd H q o1 p = some o := by
  rw [upd_ne hn]
  exact h
theorem upd_none {o1 : HO} (hn : p ≠ q) (h : H p = none) : upd H q o1 p = none := by
  rw [upd_ne hn]
  exact h
/-- unallocated ahead of an allocation was unallocated before -/
theorem none_back {o1 : HO} (h : upd H q o1 p = none) : H p = none := by
  unfold upd at h
  by_cases e : p = q
  · rw [if_pos e] at h
    cases h
  · rw [if_neg e] at h
    exact h
theorem none_ne {o1 : HO} (h : upd H q o1 p = none) : p ≠ q := by
  intro e
  unfold upd at h
  rw [if_pos e] at h
  cases h
/-! expressions -/
theorem w_op (h : ta σ H fun x H1 => tb σ H1 fun y H2 => r x y H2 Q) : tOp r ta tb σ H Q := h
theorem w_un {r : V → Hp → VK → Prop} (h : ta σ H fun x H1 => r x H1 Q) : tUn r ta σ H Q := h
theorem w_var (h : σ[i]? = some (some v)) (q : Q v H) : tVar i σ H Q := ⟨v, h, q⟩
theorem w_c (q : Q v H) : tC v σ H Q := q
theorem w_tup {t : TA} (h : t σ H fun xs H1 => xs.length ≤ sizeLine ∧ ∀ p, H1 p = none → Q (.ref p) (upd H1 p (.tup xs))) : tTup t σ H Q := h
theorem w_lst {t : TA} (h : t σ H fun xs H1 => xs.length ≤ sizeLine ∧ ∀ p, H1 p = none → Q (.ref p) (upd H1 p (.lst xs))) : tLst t σ H Q := h
theorem w_sz {xs : List V} {A : Prop} (h : xs.length ≤ 1000) (q : A) : xs.length ≤ sizeLine ∧ A := ⟨Nat.le_trans h (by decide), q⟩
theorem w_cb {r : List V → Hp → VK → Prop} {t : TA} (h : t σ H fun vs H1 => r vs H1 Q) : tCB r t σ H Q := h
theorem w_nil {Q : List V → Hp → Prop} (q : Q [] H) : tNil σ H Q := q
theorem w_cons {tr : TA} {Q : List V → Hp → Prop} (h : ta σ H fun x H1 => tr σ H1 fun xs H2 => Q (x :: xs) H2) : tCons ta tr σ H Q := h
theorem w_call {sp : Sp} {dvs : List V} {E : XK} {t : TA} (h : t σ H fun vs H1 => sp (vs ++ dvs) H1 Q E) : tCall sp dvs E t σ H Q := h
theorem w_bm {T : String} {r : V → List V → Hp → VK → Prop} {t : TA} (h : ta σ H fun x H1 => tyV K T x H1 ∧ t σ H1 fun xs H2 => r x xs H2 Q) : tBM K T r ta t σ H Q := h
theorem w_bm0 {T : String} {r : V → List V → Hp → VK → Prop} (h : ta σ H fun x H1 => tyV K T x H1 ∧ r x [] H1 Q) : tBM0 K T r ta σ H Q := h
theorem w_tyl {xs : List V} {A : Prop} (h : SqL K H p xs) (q : A) : tyV K "list" (.ref p) H ∧ A := ⟨.inl ⟨rfl, _, h⟩, q⟩
theorem w_if {t : TT} (h : t σ H fun c H1 => if c = true then ta σ H1 Q else tb σ H1 Q) : tIf t ta tb σ H Q := h
theorem w_sl {r : V → Option Int → Option Int → Hp → VK → Prop} {tl th : TO} (h : te σ H fun x H1 => tl σ H1 fun l H2 => th σ H2 fun u H3 => r x l u H3 Q) : tSl r te tl th σ H Q := h
theorem w_nopart {Q : Option Int → Hp → Prop} (q : Q none H) : tNoPart σ H Q := q
theorem w_chain (h : ta σ H fun x H1 => tb σ H1 fun y H2 => r x y H2 fun z H3 => ∃ k, z = .bl k ∧ (if k = true then tc σ H3 fun w' H4 => r' y w' H4 Q else Q (.bl false) H3)) : tChain r r' ta tb tc σ H Q := h
/-! operators by values -/
theorem w_rI0 {g : Int → Int → V} {i j : Int} (q : Q (g i j) H) : rI0 g (.int i) (.int j) H Q := ⟨i, j, rfl, rfl, q⟩
theorem w_rI {C : Int → Int → Prop} {g : Int → Int → V} {i j : Int} (hc : C i j) (q : Q (g i j) H) : rI C g (.int i) (.int j) H Q := ⟨i, j, rfl, rfl, hc, q⟩
theorem w_rU {g : Int → V} {i : Int} (q : Q (g i) H) : rU g (.int i) H Q := ⟨i, rfl, q⟩
theorem w_eq (h : scal x y = true) (q : Q (.bl (decide (x = y))) H) : rEq x y H Q := ⟨h, q⟩
theorem w_ne (h : scal x y = true) (q : Q (.bl (!decide (x = y))) H) : rNe x y H Q := ⟨h, q⟩
theorem w_isN (q : Q (.bl (decide (x = .non))) H) : (fun x y H Q => y = V.non ∧ Q (V.bl (decide (x = .non))) H : R2) x .non H Q := ⟨rfl, q⟩
theorem w_ixL {xs : List V} {i : Int} (hs : SqL K H p xs) (hv : atI xs i = some v) (q : Q v H) : rIxL K (.ref p) (.int i) H Q := ⟨p, xs, i, v, rfl, rfl, hs, hv, q⟩
theorem w_ixT {xs : List V} {i : Int} (hs : SqT K H p xs) (hv : atI xs i = some v) (q : Q v H) : rIxT K (.ref p) (.int i) H Q := ⟨p, xs, i, v, rfl, rfl, hs, hv, q⟩
theorem w_setL {xs : List V} {k : Int} {j : Nat} {R : Hp → Prop} (h : H p = some (.lst xs)) (hj : ixN xs.length k = some j) (q : R (upd H p (.lst (xs.set j v)))) : rSetL (.ref p) (.int k) v H R := ⟨p, xs, k, j, rfl, rfl, h, hj, q⟩
theorem w_append {xs : List V} (h : H p = some (.lst xs)) (hz : xs.length < 100000) (q : Q .non (upd H p (.lst (xs ++ [v])))) : rAppend (.ref p) [v] H Q := ⟨p, xs, v, rfl, rfl, h, Nat.lt_of_lt_of_le hz (by decide), q⟩
def fldLeaf (K : PySem.W.Frag) (f : Str) (Q : VK) (x : V) (H1 : Hp) : Prop := ∃ a C dx fs v, x = .ref a ∧ H1 a = some (.ins C dx fs) ∧ Cls K C ∧ NoAttr K C f ∧ fs.lookup f = some v ∧ Q v H1
theorem w_fld (h : ta σ H (fldLeaf K f Q)) : tFld K ta f σ H Q := h
theorem c_fld (h : H p = some (.ins C dx fs)) (hc : Cls K C) (hn : NoAttr K C f) (hl : fs.lookup f = some v) (q : Q v H) : fldLeaf K f Q (.ref p) H := ⟨p, C, dx, fs, v, rfl, h, hc, hn, hl, q⟩
/-! calls by values -/
theorem w_int1 {i : Int} (q : Q (.int i) H) : (∃ j, [V.int i] = [.int j] ∧ Q (.int j) H) ∨ ∃ k, [V.int i] = [.bl k] ∧ Q (.int (if k then 1 else 0)) H := .inl ⟨i, rfl, q⟩
theorem w_ex1 {A : Type} {mk : A → List V} {a : A} {G : A → Prop} (q : G a) : ∃ i, mk a = mk i ∧ G i := ⟨a, rfl, q⟩
/-! tests -/
theorem w_test {R : Bool → Hp → Prop} (h : te σ H fun x H' => ∃ k, x = .bl k ∧ R k H') : tTest te σ H R := h
theorem w_B {R : Bool → Hp → Prop} (h : te σ H fun x H' => ∃ k, x = .bl k ∧ R k H') : tB te σ H R := h
theorem w_bl {R : Bool → Hp → Prop} (q : R b H) : ∃ k, V.bl b = .bl k ∧ R k H := ⟨b, rfl, q⟩
theorem w_bl' {G : Bool → Prop} (q : G b) : ∃ k, V.bl b = .bl k ∧ G k := ⟨b, rfl, q⟩
theorem w_and {R : Bool → Hp → Prop} (h : t σ H fun c H1 => if c = true then u σ H1 R else R false H1) : tAnd t u σ H R := h
theorem w_or {R : Bool → Hp → Prop} (h : t σ H fun c H1 => if c = true then R true H1 else u σ H1 R) : tOr t u σ H R := h
theorem w_not {R : Bool → Hp → Prop} (h : t σ H fun c H1 => R (!c) H1) : tNot t σ H R := h
theorem w_andV (h : ta σ H fun x H1 => ∃ c, x = .bl c ∧ if c = true then tb σ H1 Q else Q (.bl false) H1) : tAndV ta tb σ H Q := h
theorem w_orV (h : ta σ H fun x H1 => ∃ c, x = .bl c ∧ if c = true then Q (.bl true) H1 else tb σ H1 Q) : tOrV ta tb σ H Q := h
theorem w_notV (h : ta σ H fun x H1 => ∃ c, x = .bl c ∧ Q (.bl (!c)) H1) : tNotV ta σ H Q := h
/-! statements -/
theorem w_seq (h : t1 { D with nx := t2 D } σ H) : tSeq t1 t2 D σ H := h
theorem w_next (h : D.nx σ H) : tNext D σ H := h
theorem w_brk (h : D.bk σ H) : tBreak D σ H := h
theorem w_cont (h : D.ct σ H) : tCont D σ H := h
theorem w_nx {f1 f3 f4 : L2.St → Hp → Prop} {f2 : VK} (h : f1 σ H) : Ends.nx ⟨f1, f2, f3, f4⟩ σ H := h
theorem w_rt {f1 f3 f4 : L2.St → Hp → Prop} {f2 : VK} (h : f2 v H) : Ends.rt ⟨f1, f2, f3, f4⟩ v H := h
theorem w_bk {f1 f3 f4 : L2.St → Hp → Prop} {f2 : VK} (h : f3 σ H) : Ends.bk ⟨f1, f2, f3, f4⟩ σ H := h
theorem w_ct {f1 f3 f4 : L2.St → Hp → Prop} {f2 : VK} (h : f4 σ H) : Ends.ct ⟨f1, f2, f3, f4⟩ σ H := h
theorem w_drop (h : te σ H fun _ H1 => D.nx σ H1) : tDrop te D σ H := h
theorem w_ret (h : te σ H D.rt) : tRet te D σ H := h
theorem w_retN (h : D.rt .non H) : tRetN D σ H := h
theorem w_ifS (h : c σ H fun b H1 => if b = true then t1 D σ H1 else t2 D σ H1) : tIfS c t1 t2 D σ H := h
theorem w_asg {g : TG} (h : te σ H fun x H1 => g x σ H1 D.nx) : tAsg te g D σ H := h
theorem w_gN {R : L2.St → Hp → Prop} (h : R (σ.set i (some v)) H) : gName i v σ H R := h
theorem w_gSub {to ti : TE} {s : TSet} {R : L2.St → Hp → Prop} (h : to σ H fun o H1 => ti σ H1 fun i H2 => s o i v H2 fun H3 => R σ H3) : gSub to ti s v σ H R := h
theorem w_gTup {n : Nat} {g : TGs} {xs : List V} {R : L2.St → Hp → Prop} (hs : SqT K H p xs) (hn : xs.length = n) (h : g xs σ H R) : gTup K n g (.ref p) σ H R := ⟨p, xs, rfl, hs, hn, h⟩
theorem w_gNil {R : L2.St → Hp → Prop} (h : R σ H) : gNil [] σ H R := ⟨rfl, h⟩
theorem w_gCons {g : TG} {gs : TGs} {xs : List V} {R : L2.St → Hp → Prop} (h : g v σ H fun σ' H' => gs xs σ' H' R) : gCons g gs (v :: xs) σ H R := ⟨v, xs, rfl, h⟩
theorem w_for {wi : TI} {g : TG} {tb : TS} (h : wi σ H fun J H1 => ∃ W : Nat → Nat → L2.St → Hp → Prop, (∃ m, W 0 m σ H1) ∧ ∀ i m σ H, W i m σ H →
    (J.stop i H ∧ D.nx σ H) ∨ (J.go i H ∧ ∃ N : L2.St → Hp → Prop, (∀ σ' H', N σ' H' → ∃ m', m' < m ∧ W (i + 1) m' σ' H') ∧ ∀ x H', J.yld i H x H' → g x σ H' fun σ2 H2 => tb { D with nx := N, ct := N, bk := D.nx } σ2 H2)) : tFor wi g tb D σ H := h
theorem w_lc {wi : TI} {g : TG} {tt : TT} {vs : List Nat} (h : wi σ H fun J H1 => ∀ D, H1 D = none → ∃ W : Nat → Nat → Hp → Prop, (∃ m, W 0 m (upd H1 D (.lst []))) ∧ ∀ i m H, W i m H →
  (J.stop i H ∧ Q (.ref D) H) ∨ (J.go i H ∧ ∃ Nx : Hp → Prop, (∀ H', Nx H' → ∃ m', m' < m ∧ W (i + 1) m' H') ∧ ∀ x H', J.yld i H x H' → g x (wipe σ vs) H' fun σ2 H2 => wipe σ2 vs = wipe σ vs ∧ tt σ2 H2 fun b H3 =>
    if b = true then te σ2 H3 fun y H4 => ∃ acc, H4 D = some (.lst acc) ∧ acc.length < sizeLine ∧ Nx (upd H4 D (.lst (acc ++ [y]))) else Nx H3)) : tLc wi g tt te vs σ H Q := h
theorem w_yes {R : Bool → Hp → Prop} (h : R true H) : tYes σ H R := h
theorem w_sig (e : σ' = σ) {t : TS} (h : t D σ H) : t D σ' H := by
  rw [e]
  exact h
theorem w_par {j : Nat} {t : TA} (h : t σ H fun vs H1 => ∃ v w, vs = [v, w] ∧ D.nx ((σ.set i (some v)).set j (some w)) H1) : tPar i j t D σ H := h
theorem c_par {G : V → V → Prop} {v w : V} (q : G v w) : ∃ x y, [v, w] = [x, y] ∧ G x y := ⟨v, w, rfl, q⟩
theorem c_max {R : VK} {ns : List Int} (h : SqL K H p (ns.map V.int)) (h0 : 0 < ns.length) (q : ∀ m, m ∈ ns → (∀ y, y ∈ ns → y ≤ m) → R (.int m) H) : rMax K [V.ref p] H R := ⟨p, ns, rfl, h, h0, q⟩
theorem c_cat {xs zs : List V} (h1 : H p = some (.lst xs)) (h2 : H q = some (.lst zs)) (hz : xs.length + zs.length < 100000) (k : ∀ r, H r = none → Q (.ref r) (upd H r (.lst (xs ++ zs)))) : rCat (.ref p) (.ref q) H Q :=
  ⟨p, q, xs, zs, rfl, rfl, h1, h2, Nat.le_trans (Nat.le_of_lt hz) (by decide), k⟩
/-! leaves by name -/
def rngLeaf (R : It → Hp → Prop) (vs : List V) (H1 : Hp) : Prop := ∃ j : Int, vs = [.int j] ∧ -(2 ^ 62) ≤ j ∧ j < 2 ^ 62 ∧ R (Itr 0 j.toNat) H1
def rng2Leaf (R : It → Hp → Prop) (vs : List V) (H1 : Hp) : Prop := ∃ i j : Int, vs = [.int i, .int j] ∧ (-(2 ^ 62) ≤ i ∧ i < 2 ^ 62 ∧ -(2 ^ 62) ≤ j ∧ j < 2 ^ 62) ∧ R (Itr i (j - i).toNat) H1
def lstLeaf (K : PySem.W.Frag) (R : It → Hp → Prop) (x : V) (H1 : Hp) : Prop := ∃ a, x = .ref a ∧ (∃ xs, SqL K H1 a xs) ∧ R (Itl K a) H1
def tupLeaf (K : PySem.W.Frag) (R : It → Hp → Prop) (x : V) (H1 : Hp) : Prop := ∃ a, x = .ref a ∧ (∃ xs, SqT K H1 a xs) ∧ R (Itt K a) H1
def zipLeaf (K : PySem.W.Frag) (R : It → Hp → Prop) (vs : List V) (H1 : Hp) : Prop := ∃ a b xs ys, vs = [.ref a, .ref b] ∧ SqL K H1 a xs ∧ SqL K H1 b ys ∧ R (Itz K a b) H1
def keysLeaf (R : It → Hp → Prop) (x : V) (H1 : Hp) : Prop := ∃ d o, x = .ref d ∧ ((∃ kvs, H1 d = some (.frz o (.dK kvs)) ∧ R (Itk d o kvs) H1) ∨ ∃ kvs, H1 d = some (.frz o (.dT kvs)) ∧ R (Itkt d o kvs) H1)
def partLeaf (Q : Option Int → Hp → Prop) (x : V) (H1 : Hp) : Prop := ∃ i, x = .int i ∧ Q (some i) H1
def dinLeaf (neg : Bool) (Q : VK) (y x : V) (H2 : Hp) : Prop := ∃ a o, x = .ref a ∧ DGet H2 a y o ∧ Q (.bl (if neg then !o.isSome else o.isSome)) H2
theorem w_part {Q : Option Int → Hp → Prop} (h : te σ H (partLeaf Q)) : tPart te σ H Q := h
theorem c_part {Q : Option Int → Hp → Prop} {j : Int} (q : Q (some j) H) : partLeaf Q (.int j) H := ⟨j, rfl, q⟩
theorem w_iL {tl : TE} {R : It → Hp → Prop} (h : tl σ H (lstLeaf K R)) : iList K tl σ H R := h
theorem c_iL {R : It → Hp → Prop} {xs : List V} (hs : SqL K H p xs) (q : R (Itl K p) H) : lstLeaf K R (.ref p) H := ⟨p, rfl, ⟨_, hs⟩, q⟩
theorem w_iT {tl : TE} {R : It → Hp → Prop} (h : tl σ H (tupLeaf K R)) : iTup K tl σ H R := h
theorem c_iT {R : It → Hp → Prop} {xs : List V} (hs : SqT K H p xs) (q : R (Itt K p) H) : tupLeaf K R (.ref p) H := ⟨p, rfl, ⟨_, hs⟩, q⟩
theorem w_iZ {t : TA} {R : It → Hp → Prop} (h : t σ H (zipLeaf K R)) : iZip K t σ H R := h
theorem c_iZ {R : It → Hp → Prop} {xs ys : List V} (h1 : SqL K H p xs) (h2 : SqL K H q ys) (k : R (Itz K p q) H) : zipLeaf K R [.ref p, .ref q] H := ⟨p, q, xs, ys, rfl, h1, h2, k⟩
theorem w_iR1 {t : TA} {R : It → Hp → Prop} (h : t σ H (rngLeaf R)) : iRng1 t σ H R := h
theorem c_iR1 {R : It → Hp → Prop} {n : Int} (h1 : -(2 ^ 62) ≤ n) (h2 : n < 2 ^ 62) (q : R (Itr 0 n.toNat) H) : rngLeaf R [.int n] H := ⟨n, rfl, h1, h2, q⟩
theorem w_iR2 {t : TA} {R : It → Hp → Prop} (h : t σ H (rng2Leaf R)) : iRng2 t σ H R := h
theorem c_iR2 {R : It → Hp → Prop} {n m : Int} (h1 : -(2 ^ 62) ≤ n ∧ n < 2 ^ 62 ∧ -(2 ^ 62) ≤ m ∧ m < 2 ^ 62) (q : R (Itr n (m - n).toNat) H) : rng2Leaf R [.int n, .int m] H := ⟨n, m, rfl, h1, q⟩
theorem w_iK {td : TE} {R : It → Hp → Prop} (h : td σ H (keysLeaf R)) : iKeys td σ H R := h
theorem c_iKT {R : It → Hp → Prop} {ob : Obj} {kvs : List (List Key × V)} (h : H p = some (.frz ob (.dT kvs))) (q : R (Itkt p ob kvs) H) : keysLeaf R (.ref p) H := ⟨p, ob, rfl, .inr ⟨kvs, h, q⟩⟩
theorem c_iKK {R : It → Hp → Prop} {ob : Obj} {kvs : List (Key × V)} (h : H p = some (.frz ob (.dK kvs))) (q : R (Itk p ob kvs) H) : keysLeaf R (.ref p) H := ⟨p, ob, rfl, .inl ⟨kvs, h, q⟩⟩
theorem w_din {ty td : TE} (h : ty σ H fun y H1 => td σ H1 fun x H2 => dinLeaf false Q y x H2) : tDIn ty td σ H Q := h
theorem w_dnin {ty td : TE} (h : ty σ H fun y H1 => td σ H1 fun x H2 => dinLeaf true Q y x H2) : tDNotIn ty td σ H Q := h
theorem c_din {r : Option V} (h : DGet H p y r) (q : Q (.bl r.isSome) H) : dinLeaf false Q y (.ref p) H := ⟨p, r, rfl, h, q⟩
theorem c_dnin {r : Option V} (h : DGet H p y r) (q : Q (.bl (!r.isSome)) H) : dinLeaf true Q y (.ref p) H := ⟨p, r, rfl, h, q⟩
theorem ans_or2 {b1 b2 : Bool} (h1 : Ans t σ H b1) (h2 : Ans u σ H b2) : Ans (tOr t u) σ H (b1 || b2) := by
  cases b1 with
  | true => exact ans_or1 h1
  | false => exact ans_or h1 h2
/-! what is known of a branch -/
theorem br {c : Bool} {A B : Prop} (h1 : c = true → A) (h2 : c = false → B) : if c = true then A else B := by
  cases c with
  | true => exact h1 rfl
  | false => exact h2 rfl
theorem brT {c : Bool} {A B : Prop} (h : c = true) (h1 : A) : if c = true then A else B := by rw [if_pos h]; exact h1
theorem brF {c : Bool} {A B : Prop} (h : c = false) (h1 : B) : if c = true then A else B := by rw [if_neg (by rw [h]; decide)]; exact h1
theorem brD {c : Prop} [Decidable c] {A B : Prop} (h1 : c → A) (h2 : ¬ c → B) : if decide c = true then A else B := br (fun h => h1 (of_decide_eq_true h)) (fun h => h2 (of_decide_eq_false h))
theorem brDn {c : Prop} [Decidable c] {A B : Prop} (h1 : ¬ c → A) (h2 : c → B) : if (!decide c) = true then A else B := br (fun h => h1 (by simpa using h)) (fun h => h2 (by simpa using h))
theorem brDT {c : Prop} [Decidable c] {A B : Prop} (h : c) (h1 : A) : if decide c = true then A else B := brT (decide_eq_true h) h1
theorem brDF {c : Prop} [Decidable c] {A B : Prop} (h : ¬ c) (h1 : B) : if decide c = true then A else B := brF (decide_eq_false h) h1
theorem int_eq {i j : Int} : decide (V.int i = V.int j) = decide (i = j) := by
  by_cases e : i = j
  · subst e; simp
  · rw [decide_eq_false e, decide_eq_false (fun h => e (V.int.inj h))]
theorem str_eq {i j : Str} : decide (V.str i = V.str j) = decide (i = j) := by
  by_cases e : i = j
  · subst e; simp
  · rw [decide_eq_false e, decide_eq_false (fun h => e (V.str.inj h))]
end
/-! calls of built-ins by named readings -/
def rLenQ (K : PySem.W.Frag) : List V → Hp → VK → Prop := fun xs H Q => ∃ p ys, xs = [V.ref p] ∧ (SqL K H p ys ∨ SqT K H p ys) ∧ Q (.int (ys.length : Nat)) H
def rAbsQ : List V → Hp → VK → Prop := fun xs H Q => ∃ i, xs = [V.int i] ∧ Q (.int (if i < 0 then -i else i)) H
def rMin2Q : List V → Hp → VK → Prop := fun xs H Q => ∃ i j, xs = [V.int i, V.int j] ∧ Q (.int (if j < i then j else i)) H
def rMax2Q : List V → Hp → VK → Prop := fun xs H Q => ∃ i j, xs = [V.int i, V.int j] ∧ Q (.int (if j > i then j else i)) H
def rIntQ : List V → Hp → VK → Prop := fun xs H Q => (∃ i, xs = [V.int i] ∧ Q (.int i) H) ∨ ∃ k, xs = [V.bl k] ∧ Q (.int (if k then 1 else 0)) H
def rIsNQ : R2 := fun x y H Q => y = .non ∧ Q (.bl (decide (x = .non))) H
def rNotNQ : R2 := fun x y H Q => y = .non ∧ Q (.bl (!decide (x = .non))) H
section
variable {X : Cx}
theorem cr_len : CallR X (.builtin "len") (rLenQ X.K) := call_len_seq
theorem cr_abs : CallR X (.builtin "abs") rAbsQ := call_abs
theorem cr_min2 (h : X.calm = true) : CallR X (.builtin "min") rMin2Q := call_min2 h
theorem cr_max2 (h : X.calm = true) : CallR X (.builtin "max") rMax2Q := call_max2 h
theorem cr_int : CallR X (.type "int") rIntQ := call_int1
theorem opr_isN : OpR X (compareOp .Is) rIsNQ := op_isN
theorem opr_notN : OpR X (compareOp .IsNot) rNotNQ := op_notN
end
section
variable {σ σ' : L2.St} {H H' : Hp} {Q : VK} {i : Nat} {v x y z : V} {ta tb tc te tv td ty : TE} {K : PySem.W.Frag} {p q a C dx : Addr} {D : Ends} {b : Bool} {o : HO} {n m : Int}
theorem c_len {ys : List V} (h : SqL K H p ys) (q : Q (.int (ys.length : Nat)) H) : rLenQ K [V.ref p] H Q := ⟨p, ys, rfl, .inl h, q⟩
theorem c_lenT {ys : List V} (h : SqT K H p ys) (q : Q (.int (ys.length : Nat)) H) : rLenQ K [V.ref p] H Q := ⟨p, ys, rfl, .inr h, q⟩
theorem c_abs (q : Q (.int (if n < 0 then -n else n)) H) : rAbsQ [V.int n] H Q := ⟨n, rfl, q⟩
theorem c_min2 (q : Q (.int (if m < n then m else n)) H) : rMin2Q [V.int n, V.int m] H Q := ⟨n, m, rfl, q⟩
theorem c_max2 (q : Q (.int (if m > n then m else n)) H) : rMax2Q [V.int n, V.int m] H Q := ⟨n, m, rfl, q⟩
theorem c_int (q : Q (.int n) H) : rIntQ [V.int n] H Q := .inl ⟨n, rfl, q⟩
theorem c_isN (q : Q (.bl (decide (x = .non))) H) : rIsNQ x .non H Q := ⟨rfl, q⟩
theorem c_notN (q : Q (.bl (!decide (x = .non))) H) : rNotNQ x .non H Q := ⟨rfl, q⟩
theorem c_isi {t u : Value} {c : V} (hc : ClsV c u) (ht : TyX K H x t) (hk : PySem.W.kitOne K t u = some b) (q : Q (.bl b) H) : rIsi K [x, c] H Q := ⟨x, c, t, u, b, rfl, hc, ht, hk, q⟩
theorem c_sum {ns : List Int} (h : SqL K H p (ns.map V.int)) (q : Q (.int ns.sum) H) : rSum K [V.ref p] H Q := ⟨p, ns, rfl, h, q⟩
theorem c_popAt {xs : List V} {k : Nat} (h : H p = some (.lst xs)) (hn : (0 : Int) ≤ n ∧ n < xs.length ∧ xs.length < 100000) (hk : n = (k : Int)) (hv : xs[k]? = some v) (q : Q v (upd H p (.lst (xs.eraseIdx k)))) : rPopAt (.ref p) [.int n] H Q := by
  refine ⟨p, xs, n, k, v, rfl, rfl, h, by omega, by omega, ?_, hv, q⟩
  subst hk
  unfold seqIndex?
  have h0 : ¬ ((k : Int) < 0) := by omega
  rw [if_neg h0]
  have h2 : (decide (0 ≤ (k : Int)) && decide ((k : Int) < (xs.length : Int))) = true := by simp; omega
  rw [if_pos h2]
  simp
/-! dicts -/
theorem w_dget (h : td σ H fun x H1 => ty σ H1 fun y H2 => ∃ a v, x = .ref a ∧ DGet H2 a y (some v) ∧ Q v H2) : tDGet td ty σ H Q := h
theorem w_dput (h : tv σ H fun v H1 => td σ H1 fun x H2 => ty σ H2 fun y H3 => ∃ a H4, x = .ref a ∧ DPut H3 a y v H4 ∧ D.nx σ H4) : sDPut td ty tv D σ H := h
theorem w_dnewT (h : ∀ p, H p = none → Q (.ref p) (upd H p (.dT []))) : tDNewT σ H Q := h
theorem w_dnewK (h : ∀ p, H p = none → Q (.ref p) (upd H p (.dK []))) : tDNewK σ H Q := h
/-! comprehensions -/
theorem w_wipe {vs : List Nat} {A : Prop} (hw : wipe σ' vs = wipe σ vs) (q : A) : wipe σ' vs = wipe σ vs ∧ A := ⟨hw, q⟩
theorem w_acc {acc : List V} {G : Hp → Prop} (h : H p = some (.lst acc)) (hz : acc.length < 100000) (q : G (upd H p (.lst (acc ++ [v])))) : ∃ acc, H p = some (.lst acc) ∧ acc.length < sizeLine ∧ G (upd H p (.lst (acc ++ [v]))) := ⟨acc, h, Nat.lt_of_lt_of_le hz (by decide), q⟩
/-! what stays of tuples -/
theorem tup_frame {xs : List V} (hf : ∀ b, b ≠ a → H' b = H b) (ha : H a = some (.lst xs)) : ∀ b ys, H b = some (.tup ys) → H' b = some (.tup ys) := fun b ys h => by
  rw [hf b (ne_of h ha (fun z => nomatch z))]
  exact h
theorem tup_upd {xs : List V} {o1 : HO} (ha : H a = some (.lst xs)) : ∀ b ys, H b = some (.tup ys) → upd H a o1 b = some (.tup ys) := fun b ys h => by
  rw [upd_ne (ne_of h ha (fun z => nomatch z))]
  exact h
theorem tup_new {o1 : HO} (ha : H a = none) : ∀ b ys, H b = some (.tup ys) → upd H a o1 b = some (.tup ys) := fun b ys h => upd_old h ha
theorem frame_at (hf : ∀ b, b ≠ a → H' b = H b) (hn : p ≠ a) (h : H p = some o) : H' p = some o := by
  rw [hf p hn]
  exact h
theorem same_new {H0 : Hp} {o1 : HO} (h : Same H0 H) (hp : H p = none) : Same H0 (upd H p o1) := fun b o hb => upd_old (h b o hb) hp
/-- changed at p, which H0 does not know -/
theorem same_mut {H0 : Hp} {o1 : HO} (h : Same H0 H) (hp : H0 p = none) : Same H0 (upd H p o1) := fun b o hb => upd_mut (ne_of_none hb hp) (h b o hb)
end
section
variable {σ σ' : L2.St} {H H' : Hp} {Q : VK} {i : Nat} {v x y z : V} {ta tb tc te tv td ty : TE} {K : PySem.W.Frag} {p q a C dx : Addr} {D : Ends} {b : Bool} {o : HO} {n m : Int} {fs : List (Str × V)} {f mm : Str} {sp : Sp} {dvs : List V} {E : XK} {t : TA}
/-! fields, methods, instances -/
def sfldLeaf (K : PySem.W.Frag) (f : Str) (y : V) (R : Hp → Prop) (x : V) (H2 : Hp) : Prop := ∃ a C dx fs, x = .ref a ∧ H2 a = some (.ins C dx fs) ∧ Cls K C ∧ NoAttr K C f ∧ fs.length < 1000 ∧ R (upd H2 a (.ins C dx (putF f y fs)))
theorem w_sfld (h : tv σ H fun y H1 => ta σ H1 (sfldLeaf K f y (D.nx σ))) : sFld K ta tv f D σ H := h
theorem c_sfld {R : Hp → Prop} (h : H p = some (.ins C dx fs)) (hc : Cls K C) (hn : NoAttr K C f) (hl : fs.length < 1000) (q : R (upd H p (.ins C dx (putF f y fs)))) : sfldLeaf K f y R (.ref p) H := ⟨p, C, dx, fs, rfl, h, hc, hn, hl, q⟩
def methLeaf (C : Addr) (mm : Str) (sp : Sp) (dvs : List V) (E : XK) (t : TA) (σ : L2.St) (Q : VK) (x : V) (H1 : Hp) : Prop := ∃ a dx fs, x = .ref a ∧ H1 a = some (.ins C dx fs) ∧ fs.lookup mm = none ∧ t σ H1 fun vs H2 => sp (x :: (vs ++ dvs)) H2 Q E
theorem w_meth (h : ta σ H (methLeaf C mm sp dvs E t σ Q)) : tMeth C mm sp dvs E ta t σ H Q := h
theorem c_meth (h : H p = some (.ins C dx fs)) (hl : fs.lookup mm = none) (q : t σ H fun vs H2 => sp (.ref p :: (vs ++ dvs)) H2 Q E) : methLeaf C mm sp dvs E t σ Q (.ref p) H := ⟨p, dx, fs, rfl, h, hl, q⟩
def makeLeaf (C : Addr) (sp : Sp) (dvs : List V) (E : XK) (Q : VK) (vs : List V) (H1 : Hp) : Prop := ∀ x dx, H1 x = none → H1 dx = none → dx ≠ x → sp (.ref x :: (vs ++ dvs)) (upd (upd H1 dx (.own x)) x (.ins C dx [])) (fun v H2 => v = .non ∧ Q (.ref x) H2) E
theorem w_make {t : TA} (h : t σ H (makeLeaf C sp dvs E Q)) : tMake C sp dvs E t σ H Q := h
end
section
variable {X : Cx}
theorem peE {e : Expr} {t t' : TE} (h : PE X e t) (q : t = t') : PE X e t' := q ▸ h
theorem ptsE {e : List Expr} {t t' : TT} (h : PTs X e t) (q : t = t') : PTs X e t' := q ▸ h
theorem pgE {e : Expr} {t t' : TG} (h : PG X e t) (q : t = t') : PG X e t' := q ▸ h
end
end Eg

/-! DTx: dicts whose keys are tuples: comprehensions that make them, == and != of two, sorted of one. -/
namespace DTx
open PySem PySem.Spec PyProof.Rows L2
/-- a pair put into the dict of a comprehension, its key a tuple that stands -/
theorem d_putT {X : Cx} {pins : List (Addr × Obj)} {σ : L2.St} {H : Hp} {s : Shared} {E : Value → Shared → Prop} {D c : Addr} {ps : List (List Key × V)} {k : List Key} {y : V} {u r : Value} {Q : Unit → Shared → Prop} (hu : X.A.units < cLine) (I : Inv X pins σ H s)
    (hD : H D = some (.dT ps)) (hz : ps.length < sizeLine) (hc : H c = some (.tup (k.map kV))) (ru : RelV (.ref c) u) (ry : RelV y r) (q : ∀ s', Inv X pins σ (upd H D (.dT (putK ps k y))) s' → Q () s') :
    wpAny (model X.prog X.w) X.A (dictSet D u r) Q E s := by
  cases (show u = Value.ref c from ru)
  obtain ⟨z, hs, es, rel, dd⟩ := dt_of I.hok hD
  have hl : (putK ps k y).length ≤ sizeLine := by
    have := length_putK ps k y
    omega
  have hn : es.length ≤ sizeLine := by
    rw [← Paired.length rel]
    exact z
  refine wpAny_dictSet_heap (knd := tupleKind (mixKind X.prog X.w)) hu (key_of I.hok hc) dd (fun h' d2 sb => q _ ?_) hn
  obtain ⟨ob, fs, ep, g1, g2, g3, g4, _, g6⟩ := d2
  refine d_write I (by rw [hD]; trivial) sb ⟨ob, g1⟩ ⟨hl, hs, _, KT.keeps (KT.put rel k hc ry) fun b ys e => ?_, ob, fs, ep, g1, g2, g3, g4, g6⟩
  rw [upd_ne (ne_of e hD fun z => nomatch z)]
  exact e
/-- the reading of such a comprehension -/
def tDt (wi : TI) (g : TG) (tt : TT) (tk tv : TE) (vs : List Nat) : TE := fun σ H Q => wi σ H fun J H1 => ∀ D, H1 D = none →
  ∃ W : Nat → Nat → Hp → Prop, (∃ m, W 0 m (upd H1 D (.dT []))) ∧ ∀ i m H, W i m H → (J.stop i H ∧ Q (.ref D) H) ∨
    (J.go i H ∧ ∃ Nx : Hp → Prop, (∀ H', Nx H' → ∃ m', m' < m ∧ W (i + 1) m' H') ∧ ∀ x H', J.yld i H x H' → g x (wipe σ vs) H' fun σ2 H2 => wipe σ2 vs = wipe σ vs ∧ tt σ2 H2 fun b H3 =>
      if b = true then tk σ2 H3 fun y H4 => tv σ2 H4 fun z H5 => ∃ ps k c, y = .ref c ∧ H5 c = some (.tup (k.map kV)) ∧ H5 D = some (.dT ps) ∧ ps.length < sizeLine ∧ Nx (upd H5 D (.dT (putK ps k z))) else Nx H3)
section
variable {X : Cx}
/-- the block of a comprehension, in short -/
abbrev InBlk (X : Cx) (scope : Scope) (φ : Cx → Prop) : Prop := ∀ (s : Shared) (H : Hp) (C : Addr) (cl : List (Str × Addr)) (fp : List Addr), φ (X.blk s H scope (compEnvC scope cl C X.env) fp)
theorem pe_dcT {kx vx tg iter : Expr} {ifs : List Expr} {scope : Scope} {own : List (Str × Nat)} {pos : Pos} {wi : TI} {g : TG} {tt : TT} {tk tv : TE} (hu : X.A.units < cLine) (calm : X.calm = true) (nd : X.N.Nodup) (hi : PI X tg iter wi) (ok : BlkOk X.N X.env.scope scope own)
    (hg : InBlk X scope fun Y => PG Y tg g) (ht : InBlk X scope fun Y => PTs Y ifs tt) (hk : InBlk X scope fun Y => PE Y kx tk) (hv : InBlk X scope fun Y => PE Y vx tv) (hs : ∀ x, foldedSetIterable iter X.env x = pure x := by intro _; rfl) :
    PE X (.DictComp kx vx [⟨tg, iter, ifs, 0⟩] scope pos) (tDt wi g tt tk tv (own.map (·.2))) := by
  refine ⟨fun pins s σ H Q I h => ?_⟩
  rw [arm_eval_DictComp]
  have cells : ∀ y ∈ scope.names, y.2 = .free → ∃ c, X.env.cells.lookup y.1 = some c := fun y hy e => (ok.free y hy e).elim (fun k => I.ok.has _ (.inl k)) fun k => I.ok.has _ (.inr k)
  refine wpAny_comprehension_free rfl hs (closure_ok cells) ok.kind (fun y hy e => by rw [ok.uniq y hy, e]) (thn (hi.run pins s σ H _ I h) fun xv s1 hx => thn hx fun itv s2 h2 => ?_)
  obtain ⟨it, fp, tn, J, H2, rfl, I2, T, t2, f2, q⟩ := h2
  refine wpAny_newObj_type (newEnv_comp ?_)
  -- the new dict, at D
  obtain ⟨D, hD⟩ : ∃ D, s2.heap.objs.size = D := ⟨_, rfl⟩
  obtain ⟨W, ⟨m0, w0⟩, turn⟩ := q D (I2.hok.fresh (Nat.le_of_eq hD))
  obtain ⟨s3, es3⟩ : ∃ s3 : Shared, { s2 with heap := s2.heap.push { cls := .type "dict", data := .dict #[] } } = s3 := ⟨_, rfl⟩
  have J3 : Inv X pins σ (upd H2 D (.dT [])) s3 := by
    rw [← es3, ← hD]
    exact I2.laid (t' := s2.toks) (fun b o e => Heap.get?_push_of_some _ e) (Nat.le_refl _) (dt_empty s2.heap I2.big)
  have hp3 : s3.heap = s2.heap.push { cls := .type "dict", data := .dict #[] } := by rw [← es3]
  have low : ∀ b ∈ fp, b < s2.heap.objs.size := fun b hb => let ⟨_, e, _⟩ := T.obj _ _ t2 b hb; Heap.lt_size e
  have F3 : ∀ b ∈ fp, FpOk X pins (upd H2 D (.dT [])) b ∧ b < s3.heap.objs.size := fun b hb => by
    refine ⟨⟨?_, (f2 b hb).2⟩, ?_⟩
    · rw [upd_ne (by rw [← hD]; exact Nat.ne_of_lt (low b hb))]
      exact (f2 b hb).1
    · rw [hp3, Heap.size_push]
      exact Nat.lt_succ_of_lt (low b hb)
  have t3 : tn 0 s3.heap := T.keep _ _ _ t2 fun b _ o e => by
    rw [hp3]
    exact Heap.get?_push_of_some _ e
  have J4 := block_start J3 ok nd F3
  -- the block's context
  show codeAny _ _ (.compStart (.DictComp kx vx [⟨tg, iter, ifs, 0⟩] scope pos) 0 (.ref it) (.ref s2.heap.objs.size) _) _ _
  rw [hD]
  show codeAny _ _ (.compStart _ 0 (.ref it) (.ref D) (compEnvC scope (cellsFrom (s2.heap.push { cls := .type "dict", data := .dict #[] } |>.objs.size.succ) scope.names (cloFrom X.env.cells scope.names [])) (s2.heap.push { cls := .type "dict", data := .dict #[] }).objs.size X.env)) _
    { s2 with heap := pushCells ((s2.heap.push { cls := .type "dict", data := .dict #[] }).push { cls := .type "dict", data := .dict #[] }) scope.names }
  rw [← hp3]
  have Fn : ∀ b ∈ fp, (upd H2 D (.dT [])) b = none := fun b hb => (F3 b hb).1.1
  have Pg := hg s3 (upd H2 D (.dT [])) s3.heap.objs.size (cellsFrom (s3.heap.objs.size + 1) scope.names (cloFrom X.env.cells scope.names [])) fp
  have Pt := ht s3 (upd H2 D (.dT [])) s3.heap.objs.size (cellsFrom (s3.heap.objs.size + 1) scope.names (cloFrom X.env.cells scope.names [])) fp
  have Pk := hk s3 (upd H2 D (.dT [])) s3.heap.objs.size (cellsFrom (s3.heap.objs.size + 1) scope.names (cloFrom X.env.cells scope.names [])) fp
  have Pv := hv s3 (upd H2 D (.dT [])) s3.heap.objs.size (cellsFrom (s3.heap.objs.size + 1) scope.names (cloFrom X.env.cells scope.names [])) fp
  have e24 : ({ s2 with heap := pushCells (s3.heap.push { cls := .type "dict", data := .dict #[] }) scope.names } : Shared) = { s3 with heap := pushCells (s3.heap.push { cls := .type "dict", data := .dict #[] }) scope.names } := by rw [← es3]
  rw [e24]
  generalize ece : compEnvC scope (cellsFrom (s3.heap.objs.size + 1) scope.names (cloFrom X.env.cells scope.names [])) s3.heap.objs.size X.env = ce at J4 Pg Pt Pk Pv ⊢
  have eL : ce.locals = s3.heap.objs.size := by rw [← ece]; rfl
  generalize eH3 : upd H2 D (.dT []) = H3 at J3 J4 Pg Pt Pk Pv w0 Fn F3
  generalize es4 : ({ s3 with heap := pushCells (s3.heap.push { cls := .type "dict", data := .dict #[] }) scope.names } : Shared) = s4 at J4 ⊢
  have t4 : tn 0 s4.heap := T.keep _ _ _ t3 fun b _ o e => by
    rw [← es4]
    exact pushCells_keeps _ _ _ _ (Heap.get?_push_of_some _ e)
  have still : ∀ {σ' : L2.St} {H' : Hp} {s' : Shared}, Inv (X.blk s3 H3 scope ce fp) [] σ' H' s' → (∀ b ∈ fp, H' b = none) → ∀ b ∈ fp, FpOk (X.blk s3 H3 scope ce fp) [] H' b := fun K hn b hb =>
    ⟨hn b hb, (K.ok.exf b hb).1, K.ok.exfs b hb, .inl hb, fun x c e => (K.ok.exf b hb).2 x c e, fun p hp => absurd (show p ∈ ([] : List (Addr × Obj)) ++ [] from hp) (by simp)⟩
  have back : ∀ {H' : Hp} {s' : Shared}, Inv (X.blk s3 H3 scope ce fp) [] (wipe σ (own.map (·.2))) H' s' → Q (.ref D) H' → compPost (model X.prog X.w) X.A X.xe none (EP X pins σ Q) (.ref D) s3.heap.objs.size (.ok .next) s' := fun {H' s'} K qq => by
    have L : Inv X pins σ H' s' := J3.call' (ch := fp) K.os K.base K.hok K.bare fun b hb => ⟨(F3 b hb).1.2.2.2.1, (F3 b hb).1.2.1, (F3 b hb).1.2.2.2.2.1, (F3 b hb).1.2.2.2.2.2⟩
    have nC : H' s3.heap.objs.size = none := by
      have z : H' ce.locals = none := K.free
      rw [eL] at z
      exact z
    obtain ⟨m, hn, _⟩ := K.loc
    have hm : s'.heap.Ns ce.locals m := hn
    rw [eL] at hm
    obtain ⟨f0, f1, f2', f3, f4, f5⟩ := J3.fpOk (Nat.le_refl _) nC
    exact ⟨m, hm, fun h'' sb => ⟨.ref D, H', L.turned (t' := s'.toks) (fun b o hb e => (sb.2 b hb).trans e) f0 f1 f3 f4 f5, rfl, qq⟩⟩
  have loop : codeAny (model X.prog X.w) X.A (.compLoop (.DictComp kx vx [⟨tg, iter, ifs, 0⟩] scope pos) 0 (.ref it) (.ref D) ce) (compPost (model X.prog X.w) X.A X.xe none (EP X pins σ Q) (.ref D) s3.heap.objs.size) s4 := by
    refine compLoop_anyD (fun n s' => ∃ i H', Inv (X.blk s3 H3 scope ce fp) [] (wipe σ (own.map (·.2))) H' s' ∧ tn i s'.heap ∧ (∀ b ∈ fp, H' b = none) ∧ W i n H') ?_ m0 ⟨0, H3, J4, t4, Fn, w0⟩
    rintro n s5 ⟨i, H5, J5, t5, n5, w5⟩
    rcases turn i n H5 w5 with ⟨stop, qq⟩ | ⟨go, Nx, hNx, step⟩
    · refine thnF (T.done (X.blk s3 H3 scope ce fp) rfl rfl rfl calm i [] s5 _ H5 (fun _ _ => False) J5 (still J5 n5) t5 stop) fun r s6 ⟨hr, J6⟩ => ?_
      subst hr
      exact back J6 qq
    · refine thnF (T.item (X.blk s3 H3 scope ce fp) rfl rfl rfl calm i [] s5 _ H5 (fun _ _ => False) J5 (still J5 n5) t5 go) fun r s6 ⟨u, hr, h6⟩ => ?_
      subst hr
      refine thnF h6 fun _ s7 ⟨x, H7, J7, r7, y7, t7, n7⟩ => ?_
      refine thnF (Pg.run _ s7 _ H7 x u _ (J7.pinned (still J7 n7) (T.obj _ _ t7)) r7 (step x H7 y7)) fun _ s8 ⟨σ8, H8, J8, w8, q8⟩ => ?_
      refine thnF (Pt.run _ s8 σ8 H8 _ J8 q8) fun b s9 ⟨H9, J9, q9⟩ => ?_
      have fin : ∀ {s' : Shared} {H' : Hp}, Inv (X.blk s3 H3 scope ce fp) ([] ++ pinsAt fp s7.heap) σ8 H' s' → Nx H' →
          ∃ m, m < n ∧ ∃ i H', Inv (X.blk s3 H3 scope ce fp) [] (wipe σ (own.map (·.2))) H' s' ∧ tn i s'.heap ∧ (∀ b ∈ fp, H' b = none) ∧ W i m H' := fun {s' H'} K nx => by
        obtain ⟨m', hm, w'⟩ := hNx H' nx
        have stood : ∀ b ∈ fp, ∀ o, s7.heap.get? b = some o → s'.heap.get? b = some o ∧ H' b = none := fun b hb o e =>
          have z := K.pin (b, o) (List.mem_append_right _ (List.mem_append_right _ (mem_pinsAt hb e)))
          ⟨z.1, z.2.1⟩
        refine ⟨m', hm, i + 1, H', (K.unpinned (pins := [])).weak (by rw [← w8, wipe_length]) (fun j v e => ?_), T.keep _ _ _ t7 fun b hb o e => (stood b hb o e).1, fun b hb => ?_, w'⟩
        · rw [← w8] at e
          exact (wipe_some e).1
        · obtain ⟨o, e, _⟩ := T.obj _ _ t7 b hb
          exact (stood b hb o e).2
      cases b with
      | false =>
        simp only [Bool.false_eq_true, if_false] at q9 ⊢
        exact fin J9 q9
      | true =>
        simp only [if_true] at q9 ⊢
        refine thnF (Pk.run _ s9 σ8 H9 _ J9 q9) fun z s10 ⟨yk, H10, J10, r10, q10⟩ => ?_
        refine thnF (Pv.run _ s10 σ8 H10 _ J10 q10) fun z2 s11 ⟨yv, H11, J11, r11, ps, k, c, ek, hcK, hD11, hz11, nx⟩ => ?_
        subst ek
        exact d_putT (X := X.blk s3 H3 scope ce fp) hu J11 hD11 hz11 hcK r10 r11 fun s12 J12 => fin J12 nx
  exact codeAny_compStart_dict loop (T.self X.A 0 _ _ _ t4 loop)
/-- walked by anything -/
theorem dt_it {J : It} {n : Nat} {G : Hp → Prop} {Y : Nat → Hp → V → Hp → Prop} (w : Walk J n G Y) {g : TG} {tt : TT} {tk tv : TE} {vs : List Nat} {σ : L2.St} {H1 : Hp} {D : Addr} {Qd : Hp → Prop} (Pv : Nat → Hp → Prop) (h0 : Pv 0 (upd H1 D (.dT []))) (hG : ∀ i H, i ≤ n → Pv i H → G H)
    (turn : ∀ i x H H', i < n → Pv i H → Y i H x H' → g x (wipe σ vs) H' fun σ2 H2 => wipe σ2 vs = wipe σ vs ∧ tt σ2 H2 fun b H3 =>
      if b = true then tk σ2 H3 fun y H4 => tv σ2 H4 fun z H5 => ∃ ps k c, y = .ref c ∧ H5 c = some (.tup (k.map kV)) ∧ H5 D = some (.dT ps) ∧ ps.length < sizeLine ∧ Pv (i + 1) (upd H5 D (.dT (putK ps k z))) else Pv (i + 1) H3) (done : ∀ H, Pv n H → Qd H) :
    ∃ W : Nat → Nat → Hp → Prop, (∃ m, W 0 m (upd H1 D (.dT []))) ∧ ∀ i m H, W i m H → (J.stop i H ∧ Qd H) ∨ (J.go i H ∧ ∃ Nx : Hp → Prop, (∀ H', Nx H' → ∃ m', m' < m ∧ W (i + 1) m' H') ∧ ∀ x H', J.yld i H x H' → g x (wipe σ vs) H' fun σ2 H2 => wipe σ2 vs = wipe σ vs ∧ tt σ2 H2 fun b H3 =>
      if b = true then tk σ2 H3 fun y H4 => tv σ2 H4 fun z H5 => ∃ ps k c, y = .ref c ∧ H5 c = some (.tup (k.map kV)) ∧ H5 D = some (.dT ps) ∧ ps.length < sizeLine ∧ Nx (upd H5 D (.dT (putK ps k z))) else Nx H3) := by
  refine ⟨fun i m H => m + i = n ∧ Pv i H, ⟨n, rfl, h0⟩, fun i m H hw => ?_⟩
  obtain ⟨hm, p⟩ := hw
  by_cases hi : i < n
  · refine .inr ⟨w.goes i H hi (hG i H (by omega) p), Pv (i + 1), fun H' p' => ⟨m - 1, by omega, by omega, p'⟩, fun x H' y => ?_⟩
    exact turn i x H H' hi p (w.yields i H x H' hi (hG i H (by omega) p) y)
  · have e : i = n := by omega
    subst e
    exact .inl ⟨w.stops H (hG i H (Nat.le_refl _) p), done H p⟩
end
end DTx

/-! DTx: == and != of two dicts with tuple keys and int values; sorted of such a dict. -/
namespace DTx
open PySem PySem.Spec PyProof.Rows L2 PySem.Calls
section
variable {prog : Program} {w : World} {T : Type} [DecidableEq T] {knd : HeapKind prog w T} {A : Around} {E : Value → Shared → Prop} {s : Shared}
/-- the ints that stand as values -/
def intV : Value → Option Int
  | .int i _ => some i
  | _ => none
/-- whether all pairs of one stand in the other -/
def subD (xs ys : List (T × Addr × Value)) : Bool := xs.all fun x => decide (((atKey ys x.1).map fun p => intV p.2) = some (intV x.2.2))
theorem atKey_some {ys : List (T × Addr × Value)} {k : T} {j : Nat} {p : Addr × Value} (hn : (ys.map (·.1)).Nodup) (h : ys[j]? = some (k, p)) : atKey ys k = some p := by
  induction ys generalizing j with
  | nil => simp at h
  | cons y r ih =>
    have hn' : (y.1 :: r.map (·.1)).Nodup := hn
    obtain ⟨h1, h2⟩ := List.nodup_cons.mp hn'
    cases j with
    | zero =>
      have e : y = (k, p) := Option.some.inj h
      subst e
      simp [atKey]
    | succ j =>
      have e : r[j]? = some (k, p) := h
      have hm : k ∈ r.map (·.1) := List.mem_map.mpr ⟨(k, p), List.mem_of_getElem? e, rfl⟩
      have hne : ¬ y.1 = k := fun z => h1 (z ▸ hm)
      have := ih h2 e
      simp only [atKey, List.find?_cons] at this ⊢
      rw [decide_eq_false hne]
      exact this
theorem atKey_none {ys : List (T × Addr × Value)} {k : T} (h : ∀ (j : Nat) (p : Addr × Value), ys[j]? ≠ some (k, p)) : atKey ys k = none := by
  unfold atKey
  rw [Option.map_eq_none_iff, List.find?_eq_none]
  intro x hx e
  obtain ⟨j, hj⟩ := List.mem_iff_getElem?.mp hx
  have e2 : x.1 = k := of_decide_eq_true e
  exact h j x.2 (by rw [hj, ← e2])
theorem samePairs_heap {nm : String} {a b : Addr} {xs ys : List (T × Addr × Value)} {Q : Bool → Shared → Prop} (hu : knd.room A) (ha : (a == sysModules) = false) (hb : (b == sysModules) = false) (da : s.heap.DictOfH knd a xs) (db : s.heap.DictOfH knd b ys)
    (ix : ∀ x ∈ xs, ∃ i t, x.2.2 = Value.int i t) (iy : ∀ y ∈ ys, ∃ i t, y.2.2 = Value.int i t) (h : Q (xs.length == ys.length && subD xs ys) s) : wpAny (model prog w) A (Builtin.Dict.samePairs nm a b) Q E s := by
  obtain ⟨oa, es, ep, a1, _, a3, a4, a5, a6⟩ := da
  obtain ⟨ob, fs, fp, b1, _, b3, b4, b5, b6⟩ := db
  have la : es.size = xs.length := size_of_entries a4
  have lb : fs.size = ys.length := size_of_entries b4
  unfold Builtin.Dict.samePairs Builtin.Dict.showsAll
  rw [ha, hb, if_neg Bool.false_ne_true]
  refine wpAny_bind (wpAny_pure (wpAny_bind (wpAny_pure (wpAny_bind (wpAny_dictEntries a1 a3 ?_)))))
  dsimp only
  refine wpAny_bind (wpAny_dictEntries b1 b3 ?_)
  by_cases hz : es.size = fs.size
  · have hz' : (xs.length == ys.length) = true := by simp [← la, ← lb, hz]
    rw [hz', Bool.true_and] at h
    rw [if_neg (by rw [hz]; simp)]
    refine wpAny_bind (wpAny_dictEpoch a1 a3 (wpAny_bind ?_))
    rw [Std.Legacy.Range.forIn_eq_forIn_range']
    simp only [Std.Legacy.Range.size, Nat.sub_zero, Nat.add_sub_cancel, Nat.div_one]
    refine wpAny_forIn_list _ (fun rest q s' => s' = s ∧ q = (none, ()) ∧ ∃ i, i ≤ es.size ∧ rest = List.range' i (es.size - i) ∧ subD (xs.drop i) ys = subD xs ys) _ ?_ ?_ _ _ ⟨rfl, rfl, 0, Nat.zero_le _, by simp, rfl⟩
    · rintro j rest q s' ⟨rfl, rfl, i, hi, hr, hd⟩
      have hlt : i < es.size := by
        rcases Nat.lt_or_ge i es.size with z | z
        · exact z
        · rw [Nat.sub_eq_zero_of_le z] at hr
          simp at hr
      have er : es.size - i = (es.size - (i + 1)) + 1 := by omega
      rw [er, List.range'_succ] at hr
      injection hr with e1 e2
      subst e1
      refine wpAny_bind (wpAny_dictEntries a1 a3 ?_)
      obtain ⟨k, c, v, hx⟩ : ∃ k c v, xs[j]? = some (k, c, v) := by
        have hl : j < xs.length := by omega
        exact ⟨_, _, _, List.getElem?_eq_getElem hl⟩
      rw [entry_at a4 j, hx]
      have hm := List.mem_of_getElem? hx
      have hcut : xs.drop j = (k, c, v) :: xs.drop (j + 1) := by
        obtain ⟨hl, e⟩ := List.getElem?_eq_some_iff.mp hx
        rw [← e]
        exact List.drop_eq_getElem_cons hl
      obtain ⟨i1, t1, ev⟩ := ix _ hm
      have ev : v = Value.int i1 t1 := ev
      subst ev
      have hc : subD (xs.drop j) ys = (decide (((atKey ys k).map fun p => intV p.2) = some (some i1)) && subD (xs.drop (j + 1)) ys) := by rw [hcut]; rfl
      rw [hc] at hd
      show wpAny _ _ (holding [(entryOfKey knd (k, c, Value.int i1 t1)).key, (entryOfKey knd (k, c, Value.int i1 t1)).val] _ >>= _) _ _ _
      refine wpAny_bind (wpAny_holding (wpAny_bind (wpAny_dictFind_heap hu (a5 _ hm) b1 b3 b4 b5 b6 (fun no => ?_) fun m p hmp => ?_)))
      · refine wpAny_pure ?_
        rw [atKey_none no] at hd
        have hd' : false = subD xs ys := hd
        rw [← hd'] at h
        show wpAny _ _ (if (!false) = true then _ else _) _ _ _
        rw [if_pos (by decide)]
        exact wpAny_pure (wpAny_pure h)
      · obtain ⟨c2, v2⟩ := p
        obtain ⟨i2, t2, ev⟩ := iy _ (List.mem_of_getElem? hmp)
        have ev : v2 = Value.int i2 t2 := ev
        subst ev
        rw [atKey_some b6 hmp] at hd
        refine wpAny_bind (wpAny_dictEntries b1 b3 ?_)
        rw [entry_at b4 m, hmp]
        refine wpAny_holding ?_
        show wpAny _ _ (eqBool (Value.int i1 t1) (Value.int i2 t2)) _ _ _
        refine wpAny_eqBool_int ?_
        by_cases e : i1 = i2
        · subst e
          have hd' : subD (xs.drop (j + 1)) ys = subD xs ys := by
            rw [← hd]
            simp [intV]
          rw [beq_self_eq_true]
          show wpAny _ _ (if (!true) = true then _ else _) _ _ _
          rw [if_neg (by decide)]
          refine wpAny_bind (wpAny_dictEpoch a1 a3 ?_)
          rw [if_neg (by simp)]
          exact wpAny_pure ⟨rfl, rfl, j + 1, hlt, e2, hd'⟩
        · have hd' : subD xs ys = false := by
            rw [← hd]
            simp [intV, Ne.symm e]
          rw [beq_eq_false_iff_ne.mpr e]
          rw [hd'] at h
          show wpAny _ _ (if (!false) = true then _ else _) _ _ _
          rw [if_pos (by decide)]
          exact wpAny_pure (wpAny_pure h)
    · rintro q s' ⟨rfl, rfl, i, hi, hr, hd⟩
      have ei : i = es.size := by
        rcases Nat.lt_or_ge i es.size with z | z
        · have er : es.size - i = (es.size - (i + 1)) + 1 := by omega
          rw [er, List.range'_succ] at hr
          exact nomatch hr
        · exact Nat.le_antisymm hi z
      refine wpAny_pure ?_
      rw [ei, la, List.drop_length] at hd
      have hd' : true = subD xs ys := hd
      rw [← hd'] at h
      exact h
  · have hz' : (xs.length == ys.length) = false := by
      rw [← la, ← lb]
      simpa using hz
    rw [if_pos (by simpa using hz)]
    rw [hz', Bool.false_and] at h
    exact wpAny_bind (wpAny_rule (wpAny_pure h))
theorem eq_heap {a b : Addr} {xs ys : List (T × Addr × Value)} {Q : Value → Shared → Prop} (hu : knd.room A.in1) (hw : A.units < cLine) (ha : (a == sysModules) = false) (hb : (b == sysModules) = false) (ta : s.TypeIs (.ref a) "dict") (tb : s.TypeIs (.ref b) "dict") (da : s.heap.DictOfH knd a xs) (db : s.heap.DictOfH knd b ys)
    (ix : ∀ x ∈ xs, ∃ i t, x.2.2 = Value.int i t) (iy : ∀ y ∈ ys, ∃ i t, y.2.2 = Value.int i t) (h : Q (.bool (xs.length == ys.length && subD xs ys)) s) : wpAny (model prog w) A (compareOp .Eq (.ref a) (.ref b)) Q E s := by
  refine wpAny_richCompare_same_room (op := .Eq) ta tb PySem.F.slot_dict_eq (wpAny_call_entry PySem.F.slot_dict_eq ta PySem.F.entry_dict_eq ?_ (PySem.F.args_dict_eq_2 _ _)) hw
  show wpAny _ _ (Builtin.Dict.dictSlotArgs "__eq__" ⟨[.ref a, .ref b], []⟩ >>= _) _ _ s
  unfold Builtin.Dict.dictSlotArgs
  refine wpAny_bind (wpAny_bind (wpAny_notOrdered_dict ta ?_))
  refine (show wpAny _ _ (pure (Value.ref a, Value.ref b)) _ _ s from wpAny_pure (wpAny_bind (wpAny_isInstance (T := "dict") tb PySem.F.sub_dict_dict ?_)))
  rw [Bool.not_true, if_neg Bool.false_ne_true]
  refine wpAny_bind (wpAny_pure (wpAny_bind (wpAny_pure (wpAny_bind (samePairs_heap hu ha hb da db ix iy (wpAny_pure ⟨_, rfl, (fun z => nomatch z), ?_⟩))))))
  simpa using h
theorem ne_heap {a b : Addr} {xs ys : List (T × Addr × Value)} {Q : Value → Shared → Prop} (hu : knd.room A.in1) (hw : A.units < cLine) (ha : (a == sysModules) = false) (hb : (b == sysModules) = false) (ta : s.TypeIs (.ref a) "dict") (tb : s.TypeIs (.ref b) "dict") (da : s.heap.DictOfH knd a xs) (db : s.heap.DictOfH knd b ys)
    (ix : ∀ x ∈ xs, ∃ i t, x.2.2 = Value.int i t) (iy : ∀ y ∈ ys, ∃ i t, y.2.2 = Value.int i t) (h : Q (.bool (!(xs.length == ys.length && subD xs ys))) s) : wpAny (model prog w) A (compareOp .NotEq (.ref a) (.ref b)) Q E s := by
  refine wpAny_richCompare_same_room (op := .NotEq) ta tb PySem.F.slot_dict_ne (wpAny_call_entry PySem.F.slot_dict_ne ta PySem.F.entry_dict_ne ?_ (PySem.F.args_dict_ne_2 _ _)) hw
  show wpAny _ _ (Builtin.Dict.dictSlotArgs "__ne__" ⟨[.ref a, .ref b], []⟩ >>= _) _ _ s
  unfold Builtin.Dict.dictSlotArgs
  refine wpAny_bind (wpAny_bind (wpAny_notOrdered_dict ta ?_))
  refine (show wpAny _ _ (pure (Value.ref a, Value.ref b)) _ _ s from wpAny_pure (wpAny_bind (wpAny_isInstance (T := "dict") tb PySem.F.sub_dict_dict ?_)))
  rw [Bool.not_true, if_neg Bool.false_ne_true]
  refine wpAny_bind (wpAny_pure (wpAny_bind (wpAny_pure (wpAny_bind (samePairs_heap hu ha hb da db ix iy (wpAny_pure ⟨_, rfl, (fun z => nomatch z), ?_⟩))))))
  simpa using h
end
/-! over the layer -/
theorem pair_at {α β : Type} {F : α → β → Prop} {us : List α} {vs : List β} (r : Paired F us vs) : ∀ {j : Nat} {y : β}, vs[j]? = some y → ∃ x, us[j]? = some x ∧ F x y := by
  induction r with
  | nil => intro j y h; simp at h
  | @cons a b as bs hab t ih =>
    intro j y h
    cases j with
    | zero => exact ⟨a, rfl, by rw [← Option.some.inj (show some b = some y from h)]; exact hab⟩
    | succ j => exact ih (show bs[j]? = some y from h)
def isIntV : V → Prop := fun v => ∃ i, v = .int i
/-- the answer: the same pairs -/
def sameD (ks ls : List (List Key × V)) : Bool := ks.length == ls.length && ks.all fun p => decide (valV ls p.1 = some p.2)
def rEqT (neg : Bool) : R2 := fun x y H Q => ∃ a b ks ls, x = .ref a ∧ y = .ref b ∧ Rd H a (.dT ks) ∧ Rd H b (.dT ls) ∧ (∀ p ∈ ks, isIntV p.2) ∧ (∀ p ∈ ls, isIntV p.2) ∧ Q (.bl (if neg then !sameD ks ls else sameD ks ls)) H
theorem KT.ints {H : Hp} {ks : List (List Key × V)} {xs : List (List Key × Addr × Value)} (r : KT H ks xs) (h : ∀ p ∈ ks, isIntV p.2) : ∀ x ∈ xs, ∃ i t, x.2.2 = Value.int i t := by
  intro x hx
  obtain ⟨j, hj⟩ := List.mem_iff_getElem?.mp hx
  obtain ⟨p, hp, e⟩ := pair_at r hj
  obtain ⟨i, ei⟩ := h p (List.mem_of_getElem? hp)
  have e2 := e.2.2
  rw [ei] at e2
  obtain ⟨t, et⟩ := e2
  exact ⟨i, t, et⟩
theorem sub_same {H : Hp} {ks ls : List (List Key × V)} {xs ys : List (List Key × Addr × Value)} (rb : KT H ls ys) (ra : KT H ks xs) (h : ∀ p ∈ ks, isIntV p.2) (h' : ∀ p ∈ ls, isIntV p.2) : subD xs ys = ks.all fun p => decide (valV ls p.1 = some p.2) := by
  induction ra with
  | nil => rfl
  | @cons p q ps qs e t ih =>
    obtain ⟨e1, _, e2⟩ := e
    have ih' := ih fun p hp => h p (List.mem_cons_of_mem _ hp)
    obtain ⟨i, ei⟩ := h p List.mem_cons_self
    rw [ei] at e2
    obtain ⟨ti, et⟩ := e2
    have hk := KT.val rb p.1
    show (decide (((atKey ys q.1).map fun p => intV p.2) = some (intV q.2.2)) && subD qs ys) = (decide (valV ls p.1 = some p.2) && ps.all fun p => decide (valV ls p.1 = some p.2))
    rw [ih', ← e1, et, ei]
    congr 1
    cases hv : valV ls p.1 with
    | none =>
      rw [hv] at hk
      cases ha : atKey ys p.1 with
      | none => simp
      | some z =>
        rw [ha] at hk
        exact False.elim hk
    | some v =>
      have hm : ∃ u ∈ ls, u.2 = v := by
        unfold valV at hv
        obtain ⟨u, hu, eu⟩ := Option.map_eq_some_iff.mp hv
        exact ⟨u, List.mem_of_find?_eq_some hu, eu⟩
      obtain ⟨u, hul, eu⟩ := hm
      obtain ⟨i', ei'⟩ := h' u hul
      rw [eu] at ei'
      rw [hv] at hk
      cases ha : atKey ys p.1 with
      | none =>
        rw [ha] at hk
        exact False.elim hk
      | some z =>
        rw [ha] at hk
        have hk' : RelV v z.2 := hk
        rw [ei'] at hk'
        obtain ⟨t', et'⟩ := hk'
        rw [ei', Option.map_some, et']
        by_cases e : i' = i
        · subst e
          simp [intV]
        · rw [decide_eq_false, decide_eq_false]
          · exact fun z => e (V.int.inj (Option.some.inj z))
          · exact fun z => e (Option.some.inj (Option.some.inj z))
theorem rd_dT {X : Cx} {pins : List (Addr × Obj)} {σ : L2.St} {H : Hp} {s : Shared} {a : Addr} {ks : List (List Key × V)} (I : Inv X pins σ H s) (h : Rd H a (.dT ks)) : s.TypeIs (.ref a) "dict" ∧ (a == sysModules) = false ∧ ∃ xs, KT H ks xs ∧ s.heap.DictOfH (tupleKind (mixKind X.prog X.w)) a xs :=
  have z := isD_at I (Or.inr ⟨ks, h⟩)
  have y := dt_rd I.hok h
  ⟨z.1, z.2.2, y.2.2⟩
theorem op_eqT {X : Cx} (hu : X.A.units + 1 < cLine) : OpR X (compareOp .Eq) (rEqT false) := by
  intro pins s σ H x y v u Q I rx ry h
  obtain ⟨a, b, ks, ls, rfl, rfl, ha, hb, ia, ib, q⟩ := h
  cases (show v = Value.ref a from rx)
  cases (show u = Value.ref b from ry)
  obtain ⟨ta, na, xs, ra, da⟩ := rd_dT I ha
  obtain ⟨tb, nb, ys, rb, db⟩ := rd_dT I hb
  refine eq_heap (knd := tupleKind (mixKind X.prog X.w)) (tupleKind_room_in1 hu) (by omega) na nb ta tb da db (KT.ints ra ia) (KT.ints rb ib) (fin_bl I q ?_)
  rw [sub_same rb ra ia ib, ← Paired.length ra, ← Paired.length rb]
  all_goals rfl
theorem op_neT {X : Cx} (hu : X.A.units + 1 < cLine) : OpR X (compareOp .NotEq) (rEqT true) := by
  intro pins s σ H x y v u Q I rx ry h
  obtain ⟨a, b, ks, ls, rfl, rfl, ha, hb, ia, ib, q⟩ := h
  cases (show v = Value.ref a from rx)
  cases (show u = Value.ref b from ry)
  obtain ⟨ta, na, xs, ra, da⟩ := rd_dT I ha
  obtain ⟨tb, nb, ys, rb, db⟩ := rd_dT I hb
  refine ne_heap (knd := tupleKind (mixKind X.prog X.w)) (tupleKind_room_in1 hu) (by omega) na nb ta tb da db (KT.ints ra ia) (KT.ints rb ib) (fin_bl I q ?_)
  rw [sub_same rb ra ia ib, ← Paired.length ra, ← Paired.length rb]
  all_goals rfl
end DTx

/-! DTx: sorted of a dict whose keys are tuples of ints, fewer than 64. -/
namespace DTx
open PySem PySem.Spec PyProof.Rows L2 PySem.Calls PySem.W
section
variable {prog : Program} {w : World} {A : Around} {E : Value → Shared → Prop} {s : Shared} {T : String} {r d : Addr} {n : Nat} {P : Nat → Value → Prop} {OK : Heap → Prop}
/-- what a source gives, collected into a list of the interpreter's own -/
theorem collect_src {R : List Value → Shared → Prop} (src : KdlSrc prog w T r d n P OK) (hh : A.handled = none) (hok : OK s.heap) (hn : n ≤ sizeLine)
    (q : ∀ h' tk (acc : Array Value), (∀ b o, s.heap.get? b = some o → h'.get? b = some o) → s.heap.objs.size ≤ h'.objs.size → ItemsOf P acc n → R acc.toList { s with heap := h', toks := tk }) : wpAny (model prog w) A (collect (.ref r)) R E s := by
  obtain ⟨lr, ld⟩ := src.there _ hok
  unfold collect
  refine wpAny_bind (wpAny_runValue (codeAny_builtin entry_proto_collect' ?_))
  rw [Around.under_plainId PySem.F.plain_proto_collect _]
  show wpAny _ A.in1 (newList [] >>= fun l => again (.builtin "list.__iadd__" ⟨[l, .ref r], []⟩)) _ _ s
  refine wpAny_bind (wpAny_newObj_type (wpAny_pure ⟨plainId_quiet PySem.F.plain_list_iadd _, codeAny_builtin entry_list_iadd' ?_⟩))
  rw [Around.under_plainId PySem.F.plain_list_iadd _]
  show wpAny _ A.in1 (Builtin.List.listExtendWith (.ref s.heap.objs.size) (.ref r) (.ref s.heap.objs.size)) _ _ { s with heap := s.heap.push { cls := .type "list", data := .seq ([] : List Value).toArray } }
  have ok1 : OK (s.heap.push { cls := .type "list", data := .seq ([] : List Value).toArray }) := src.keep _ _ hok fun b _ o e => Heap.get?_push_of_some _ e
  have at1 : (s.heap.push { cls := .type "list", data := .seq ([] : List Value).toArray }).get? s.heap.objs.size = some { cls := .type "list", data := .seq #[] 0 } := Heap.get?_push_size _ rfl
  have key := kdl_extend (A := A) (s := { s with heap := s.heap.push { cls := .type "list", data := .seq ([] : List Value).toArray } })
    (R := fun (z : Result) (s' : Shared) => ∃ (h' : Heap) (tk : Nat) (acc : Array Value) (c : Nat), z = .ok (.ret (.ref s.heap.objs.size)) ∧ s' = { s with heap := h', toks := tk } ∧ (∀ b o, s.heap.get? b = some o → h'.get? b = some o) ∧
      h'.get? s.heap.objs.size = some { cls := .type "list", dict := none, data := .seq acc c, slots := #[] } ∧ ItemsOf P acc n) src hh ok1 s.heap.objs.size (Nat.ne_of_gt lr) (Nat.ne_of_gt ld) (.ref s.heap.objs.size) 0 at1
    (fun h' tk acc c hk hS it => ⟨h', tk, acc, c, rfl, rfl, fun b o e => hk b o (Nat.ne_of_lt (Heap.lt_size e)) (Heap.get?_push_of_some _ e), hS, it⟩) hn
  have fin : ∀ (z : Result) (s' : Shared), (∃ (h' : Heap) (tk : Nat) (acc : Array Value) (c : Nat), z = .ok (.ret (.ref s.heap.objs.size)) ∧ s' = { s with heap := h', toks := tk } ∧ (∀ b o, s.heap.get? b = some o → h'.get? b = some o) ∧
      h'.get? s.heap.objs.size = some { cls := .type "list", dict := none, data := .seq acc c, slots := #[] } ∧ ItemsOf P acc n) → ∃ (f : Flow), z = .ok f ∧ wpAny (model prog w) A (load s.heap.objs.size >>= fun o => match o.data with | .seq xs _ => pure xs.toList | _ => unsupported "internal:collected") R E s' := by
    rintro z s' ⟨h', tk, acc, c, rfl, rfl, hk, hS, it⟩
    exact ⟨_, rfl, wpAny_bind (wpAny_load hS (wpAny_pure (q h' tk acc hk (Nat.le_of_lt (Heap.lt_size hS)) it)))⟩
  refine wpAny_mono key (fun x s' z => ?_) fun e s' z => ?_
  · cases x with
    | done f =>
      obtain ⟨h', tk, acc, c, e, rfl, hk, hS, it⟩ := z
      cases e
      show wpAny _ A (load s.heap.objs.size >>= _) _ _ _
      exact wpAny_bind (wpAny_load hS (wpAny_pure (q h' tk acc hk (Nat.le_of_lt (Heap.lt_size hS)) it)))
    | again c1 =>
      refine ⟨z.1, codeAny_mono z.2 fun q2 s2 y => ?_⟩
      obtain ⟨h', tk, acc, c, rfl, rfl, hk, hS, it⟩ := y
      show wpAny _ A (load s.heap.objs.size >>= _) _ _ _
      exact wpAny_bind (wpAny_load hS (wpAny_pure (q h' tk acc hk (Nat.le_of_lt (Heap.lt_size hS)) it)))
  · obtain ⟨_, _, _, _, e', _⟩ := z
    cases e'
end
/-- sorted(d): the addresses of the keys, by their ints -/
def rSortD : List V → Hp → VK → Prop := fun vs H Q => ∃ (a : Addr) (ks : List (List Int × V)) (m : Nat) (B : Int), vs = [V.ref a] ∧ Rd H a (.dT (ks.map fun p => (p.1.map Sum.inl, p.2))) ∧ ks.length < 64 ∧ 1 ≤ m ∧ (∀ p ∈ ks, p.1.length = m ∧ TS.Bd B p.1) ∧
  ∀ (L : List (Addr × List Int)) (p : Addr), (L.map (·.2)).Perm (ks.map (·.1)) → L.Pairwise (fun q r => TS.code B q.2 ≤ TS.code B r.2) → (∀ q ∈ L, H q.1 = some (.tup (q.2.map V.int))) → H p = none → Q (.ref p) (upd H p (.lst (L.map fun q => V.ref q.1)))
theorem src_items {prog : Program} {w : World} {K : Type} [DecidableEq K] {knd : HeapKind prog w K} {es : Array DictEntry} {xs : List (K × Addr × Value)} {acc : Array Value} (he : es.toList = xs.map (entryOfKey knd)) (it : ItemsOf (fun i v => ∃ en : DictEntry, es[i]? = some en ∧ v = en.key) acc es.size) :
    acc.toList = xs.map fun x => Value.ref x.2.1 := by
  have l1 : es.size = xs.length := size_of_entries he
  have l2 : acc.toList.length = xs.length := by rw [Array.length_toList, it.1, l1]
  refine List.ext_getElem? fun j => ?_
  rw [List.getElem?_map]
  rcases Nat.lt_or_ge j xs.length with hj | hj
  · have ha : acc.toList[j]? = some (acc.toList[j]'(by omega)) := List.getElem?_eq_getElem (by omega)
    obtain ⟨en, he2, ev⟩ := it.2 j (acc.toList[j]'(by omega)) (by rw [← Array.getElem?_toList]; exact ha)
    have h2 := entry_at he j
    rw [he2, List.getElem?_eq_getElem hj] at h2
    have e3 : en = entryOfKey knd xs[j] := Option.some.inj h2
    rw [ha, ev, e3, List.getElem?_eq_getElem hj]
    all_goals rfl
  · rw [List.getElem?_eq_none (by omega), List.getElem?_eq_none hj]
    all_goals rfl
theorem isTup_ints {X : Cx} {pins : List (Addr × Obj)} {σ : L2.St} {H : Hp} {s : Shared} (I : Inv X pins σ H s) {t : Addr} {ns : List Int} (h : H t = some (.tup (ns.map V.int))) : TS.TupInts s.heap (.ref t) ns := tupI_raw I (SqT.of h)
theorem sort_refs {h : Heap} {B : Int} {L0 : List (Addr × List Int)} {out : List Value} (tk : ∀ q ∈ L0, TS.TupInts h (.ref q.1) q.2) (pm : out.Perm (L0.map fun q => Value.ref q.1)) (pw : out.Pairwise fun u v => TS.code B (TS.intsOf h u) ≤ TS.code B (TS.intsOf h v)) :
    ∃ L : List (Addr × List Int), out = L.map (fun q => Value.ref q.1) ∧ L.Perm L0 ∧ L.Pairwise fun q r => TS.code B q.2 ≤ TS.code B r.2 := by
  have back : ∀ vs : List Value, (∀ v ∈ vs, v ∈ L0.map fun q => Value.ref q.1) → ∃ L : List (Addr × List Int), vs = L.map (fun q => Value.ref q.1) ∧ ∀ q ∈ L, q ∈ L0 := by
    intro vs
    induction vs with
    | nil => exact fun _ => ⟨[], rfl, fun q hq => nomatch hq⟩
    | cons v r ih =>
      intro hv
      obtain ⟨q, hq, e⟩ := List.mem_map.mp (hv v List.mem_cons_self)
      obtain ⟨L, e2, hL⟩ := ih fun u hu => hv u (List.mem_cons_of_mem _ hu)
      refine ⟨q :: L, by rw [List.map_cons, e, e2], fun z hz => ?_⟩
      rcases List.mem_cons.mp hz with rfl | hz
      · exact hq
      · exact hL z hz
  obtain ⟨L, e, hL⟩ := back out fun v hv => pm.mem_iff.mp hv
  have fn : ∀ v : Value, (fun v : Value => match v with | .ref a => (a, TS.intsOf h v) | _ => ((0 : Addr), ([] : List Int))) v = (fun v : Value => match v with | .ref a => (a, TS.intsOf h v) | _ => ((0 : Addr), ([] : List Int))) v := fun _ => rfl
  have inv : ∀ M : List (Addr × List Int), (∀ q ∈ M, q ∈ L0) → (M.map fun q => Value.ref q.1).map (fun v : Value => match v with | .ref a => (a, TS.intsOf h v) | _ => ((0 : Addr), ([] : List Int))) = M := by
    intro M hM
    rw [List.map_map]
    refine (List.map_congr_left fun q hq => ?_).trans (List.map_id _)
    show (q.1, TS.intsOf h (.ref q.1)) = q
    rw [(tk q (hM q hq)).ints]
  refine ⟨L, e, ?_, ?_⟩
  · have := pm.map (fun v : Value => match v with | .ref a => (a, TS.intsOf h v) | _ => ((0 : Addr), ([] : List Int)))
    rw [e, inv L hL, inv L0 fun _ z => z] at this
    exact this
  · rw [e] at pw
    refine List.Pairwise.imp_of_mem (fun {q r} hq hr hle => ?_) (List.pairwise_map.mp pw)
    rw [(tk q (hL q hq)).ints, (tk r (hL r hr)).ints] at hle
    exact hle
theorem cr_sortedD {X : Cx} (calm : X.calm = true) : CallR X (.builtin "sorted") rSortD := by
  intro pins s σ H vs us Q I r h
  obtain ⟨a, ks, m, B, rfl, ha, hl, hm, hB, q⟩ := h
  obtain ⟨u, rfl, rx⟩ := r.one
  cases rx
  obtain ⟨z, hs, xs, pr, o, es, ep, ho, hx, hdt, he, hnd⟩ := (show ObjOk X.prog X.w H s.heap a (.dT (ks.map fun p => (p.1.map Sum.inl, p.2))) from ha.ok I.hok)
  have l1 : es.size = xs.length := size_of_entries he
  have l2 : xs.length = ks.length := by
    have := Paired.length pr
    rw [List.length_map] at this
    exact this.symm
  -- the keys' addresses with their ints
  obtain ⟨L0, e0, e0k, t0⟩ : ∃ L0 : List (Addr × List Int), xs.map (fun x => Value.ref x.2.1) = L0.map (fun q => Value.ref q.1) ∧ L0.map (·.2) = ks.map (·.1) ∧ ∀ y ∈ L0, H y.1 = some (.tup (y.2.map V.int)) := by
    clear hnd he hdt l1 l2 hl z q ho hx
    generalize hkk : (ks.map fun p => (p.1.map Sum.inl, p.2) : List (List Key × V)) = kk at pr
    clear ha
    induction pr generalizing ks with
    | nil =>
      cases ks with
      | nil => exact ⟨[], rfl, rfl, fun _ z => nomatch z⟩
      | cons => cases hkk
    | @cons p x ps ys e t ih =>
      cases ks with
      | nil => cases hkk
      | cons k kr =>
        injection hkk with e1 e2
        obtain ⟨L, f1, f2, f3⟩ := ih (ks := kr) (fun p hp => hB p (List.mem_cons_of_mem _ hp)) e2
        refine ⟨(x.2.1, k.1) :: L, by rw [List.map_cons, List.map_cons, f1], by rw [List.map_cons, List.map_cons, f2], fun y hy => ?_⟩
        rcases List.mem_cons.mp hy with rfl | hy
        · have h2 := e.2.1
          rw [← e1] at h2
          have h3 : (k.1.map Sum.inl : List Key).map kV = k.1.map V.int := by rw [List.map_map]; rfl
          rw [← h3]
          exact h2
        · exact f3 y hy
  refine call_function_entry kind_sorted plain_sorted entry_sorted (args_sorted1 _) ?_
  unfold Builtin.«sorted»
  refine wpAny_bind (m := checkCount "sorted" 1 1 _) (wpAny_pure ?_)
  refine wpAny_bind (collect_src (A := X.A.in1) (kdl_raw hs hx hdt) (I.ok.hd calm) ho (by rw [sizeLine_eq]; omega) fun h' tk acc hk hsz it => ?_)
  have eacc : acc.toList = L0.map fun q => Value.ref q.1 := (src_items he it).trans e0
  have ll : L0.length = ks.length := by
    have := congrArg List.length e0k
    rwa [List.length_map, List.length_map] at this
  rw [eacc]
  refine wpAny_bind (wpAny_newList ?_ (by rw [List.length_map, sizeLine_eq]; omega))
  have hoL : (h'.push (seqObj "list" (L0.map fun q => Value.ref q.1).toArray 0)).get? h'.objs.size = some (seqObj "list" (L0.map fun q => Value.ref q.1).toArray 0) := Heap.get?_push_size _ rfl
  have tk2 : ∀ y ∈ L0, TS.TupInts (h'.push (seqObj "list" (L0.map fun q => Value.ref q.1).toArray 0)) (.ref y.1) y.2 := fun y hy =>
    (isTup_ints I (t0 y hy)).keeps fun b u e _ => Heap.get?_push_of_some _ (hk b u e)
  have tok : TS.TupsOk (h'.push (seqObj "list" (L0.map fun q => Value.ref q.1).toArray 0)) m B (L0.map fun q => Value.ref q.1) := fun v hv => by
    obtain ⟨y, hy, rfl⟩ := List.mem_map.mp hv
    have hk2 : y.2 ∈ ks.map (·.1) := by
      rw [← e0k]
      exact List.mem_map.mpr ⟨y, hy, rfl⟩
    obtain ⟨p, hp, ep⟩ := List.mem_map.mp hk2
    have := hB p hp
    rw [ep] at this
    exact ⟨y.2, tk2 y hy, this⟩
  refine wpAny_bind (wpAny_holding (TS.call_sort_tups (s := { s with heap := h'.push (seqObj "list" (L0.map fun q => Value.ref q.1).toArray 0), toks := tk }) hoL (by rw [List.length_map]; omega) hm tok fun out a1 a2 => ?_))
  obtain ⟨c, hc⟩ := sortedHeap_at (vs := L0.map fun q => Value.ref q.1) (out := out) hoL
  obtain ⟨L, eL, pL, wL⟩ := sort_refs tk2 a1 a2
  refine wpAny_pure ⟨_, rfl, ?_⟩
  have keep : ∀ b u, s.heap.get? b = some u → (sortedHeap (h'.push (seqObj "list" (L0.map fun q => Value.ref q.1).toArray 0)) h'.objs.size (L0.map fun q => Value.ref q.1) out).get? b = some u := fun b u e => by
    have e2 := hk b u e
    have lt := Heap.lt_size e2
    rw [sortedHeap_old (Nat.ne_of_lt lt) (by rw [size_push']; exact Nat.lt_succ_of_lt lt)]
    exact Heap.get?_push_of_some _ e2
  have hn : H h'.objs.size = none := I.hok.fresh hsz
  have rv : Vals (L.map fun q => V.ref q.1) out.toList := by
    rw [eL]
    clear eL pL wL
    induction L with
    | nil => exact .nil
    | cons y r ih => exact .cons rfl ih
  have lz : (L.map fun q => V.ref q.1).length ≤ sizeLine := by
    rw [List.length_map, pL.length_eq, sizeLine_eq]
    omega
  have J : Inv X pins σ (upd H h'.objs.size (.lst (L.map fun q => V.ref q.1))) { s with heap := sortedHeap (h'.push (seqObj "list" (L0.map fun q => Value.ref q.1).toArray 0)) h'.objs.size (L0.map fun q => Value.ref q.1) out, toks := tk } :=
    I.laid (t' := tk) keep hsz ⟨lz, out.toList, c, rv, hc⟩
  refine ⟨.ref h'.objs.size, _, J, rfl, q L _ ?_ wL (fun y hy => t0 y (pL.mem_iff.mp hy)) hn⟩
  rw [← e0k]
  exact pL.map _
end DTx

/-! DTx: {k: v} with a tuple as its one key. -/
namespace DTx
open PySem PySem.Spec PyProof.Rows L2 PySem.Calls
def tOne (tk tv : TE) : TE := fun σ H Q => ∀ p, H p = none → tk σ (upd H p (.dT [])) fun y H1 => tv σ H1 fun z H2 => H2 p = some (.dT []) ∧ ∃ k c, y = .ref c ∧ H2 c = some (.tup (k.map kV)) ∧ Q (.ref p) (upd H2 p (.dT [(k, z)]))
theorem pe_one_pair {X : Cx} {pos : Pos} {kx vx : Expr} {tk tv : TE} (hu : X.A.units < cLine) (hk : PE X kx tk) (hv : PE X vx tv) : PE X (.Dict [some kx] [vx] pos) (tOne tk tv) := by
  refine ⟨fun pins s σ H Q I q => ?_⟩
  have hn := I.hok.fresh (Nat.le_refl s.heap.objs.size)
  have J := I.laid (a := s.heap.objs.size) (o := .dT []) (h' := s.heap.push { cls := .type "dict", data := .dict #[] }) (t' := s.toks) (fun _ _ e => Heap.get?_push_of_some _ e) (Nat.le_refl _) (dt_empty s.heap I.big)
  rw [arm_eval_Dict, zip_pairTrees [some kx] [vx] X.env pos rfl rfl, dictDisplay_pairs _ (fun z => by have := congrArg List.length z; rw [pairTrees_length _ _ _ _ rfl rfl] at this; cases this) (by rw [pairTrees_length _ _ _ _ rfl rfl]; show 1 < 17; decide)]
  refine wpAny_bind (wpAny_standAt (wpAny_bind (wpAny_subDictH (knd := tupleKind (mixKind X.prog X.w)) (Q := fun d s' => wpAny (model X.prog X.w) X.A (pure (Value.ref d)) (EP X pins σ Q) X.xe s') hu (by rw [pairTrees_length _ _ _ _ rfl rfl]; show 1 ≤ 15; decide) ?_)))
  refine pairTrees_cons_walk (thn (hk.run pins _ σ _ _ J (q _ hn)) fun u s1 ⟨y, H1, I1, ry, q1⟩ => thn (hv.run pins s1 σ H1 _ I1 q1) fun r s2 ⟨z, H2, I2, rz, hp, k, c, ey, hc, q2⟩ => pairTrees_nil_walk ?_)
  subst ey
  cases (show u = Value.ref c from ry)
  obtain ⟨_, hd, xs, rel, dd⟩ := dt_of I2.hok hp
  cases rel
  refine ⟨[(k, c, r)], ⟨rfl, rfl, key_of I2.hok hc, trivial⟩, dd, fun h' tk d2 sb => wpAny_pure ⟨.ref s.heap.objs.size, _, ?_, rfl, q2⟩⟩
  obtain ⟨ob, es, ep, g1, g2, g3, g4, _, g6⟩ := d2
  refine d_write I2 (by rw [hp]; trivial) sb ⟨ob, g1⟩ ⟨by show 1 ≤ sizeLine; decide, hd, [(k, c, r)], .cons ⟨rfl, ?_, rz⟩ .nil, ob, es, ep, g1, g2, g3, g4, g6⟩
  show upd H2 s.heap.objs.size (.dT [(k, z)]) c = some (.tup (k.map kV))
  rw [upd_ne (ne_of hc hp fun z => nomatch z)]
  exact hc
end DTx

/-! Sm: dicts from int lists to ints, as lists of pairs; forms. -/
namespace Sm
open PySem L2
abbrev DI := List (List Int × Int)
abbrev ek (k : List Int) : List Key := k.map Sum.inl
def enc (ps : DI) : List (List Key × V) := ps.map fun p => (ek p.1, V.int p.2)
def getI (ps : DI) (k : List Int) : Option Int := (ps.find? fun p => decide (p.1 = k)).map (·.2)
def putI (ps : DI) (k : List Int) (v : Int) : DI := if (ps.any fun p => decide (p.1 = k)) = true then ps.map (fun p => if p.1 = k then (p.1, v) else p) else ps ++ [(k, v)]
theorem ek_inj {a b : List Int} : ek a = ek b ↔ a = b := by
  constructor
  · intro h
    induction a generalizing b with
    | nil => cases b with
      | nil => rfl
      | cons y ys => cases h
    | cons x xs ih => cases b with
      | nil => cases h
      | cons y ys =>
        injection h with h1 h2
        rw [Sum.inl.inj h1, ih h2]
  · intro h; rw [h]
theorem ek_kV (k : List Int) : (ek k).map kV = k.map V.int := by
  unfold ek
  rw [List.map_map]
  rfl
theorem val_enc (ps : DI) (k : List Int) : valV (enc ps) (ek k) = (getI ps k).map V.int := by
  induction ps with
  | nil => rfl
  | cons p r ih =>
    show valV ((ek p.1, V.int p.2) :: enc r) (ek k) = _
    by_cases e : p.1 = k
    · rw [valV_pos (by rw [e])]
      simp [getI, e]
    · rw [valV_neg (fun h => e (ek_inj.mp h)), ih]
      simp [getI, e]
theorem put_enc (ps : DI) (k : List Int) (v : Int) : putK (enc ps) (ek k) (.int v) = enc (putI ps k v) := by
  have e : ((enc ps).any fun kv => decide (kv.1 = ek k)) = (ps.any fun p => decide (p.1 = k)) := by
    unfold enc
    rw [List.any_map]
    congr 1
    funext p
    exact decide_eq_decide.mpr ek_inj
  unfold putK putI
  rw [e]
  split
  · unfold enc
    rw [List.map_map, List.map_map]
    refine List.map_congr_left fun p _ => ?_
    show (if ek p.1 = ek k then (ek p.1, V.int v) else (ek p.1, V.int p.2)) = _
    by_cases h : p.1 = k
    · rw [if_pos (by rw [h])]
      simp [h]
    · rw [if_neg (fun z => h (ek_inj.mp z))]
      simp [h]
  · simp [enc]
theorem putI_new {ps : DI} {k : List Int} {v : Int} (h : k ∉ ps.map (·.1)) : putI ps k v = ps ++ [(k, v)] := by
  unfold putI
  rw [if_neg]
  intro h2
  obtain ⟨p, hp, e⟩ := List.any_eq_true.mp h2
  exact h (List.mem_map.mpr ⟨p, hp, of_decide_eq_true e⟩)
theorem getI_none {ps : DI} {k : List Int} (h : k ∉ ps.map (·.1)) : getI ps k = none := by
  unfold getI
  rw [Option.map_eq_none_iff, List.find?_eq_none]
  intro p hp e
  exact h (List.mem_map.mpr ⟨p, hp, of_decide_eq_true e⟩)
theorem getI_mem {ps : DI} (nd : (ps.map (·.1)).Nodup) {p : List Int × Int} (hp : p ∈ ps) : getI ps p.1 = some p.2 := by
  induction ps with
  | nil => cases hp
  | cons q r ih =>
    have nd' : (q.1 :: r.map (·.1)).Nodup := nd
    obtain ⟨h1, h2⟩ := List.nodup_cons.mp nd'
    rcases List.mem_cons.mp hp with rfl | hp
    · simp [getI]
    · have : ¬ q.1 = p.1 := fun e => h1 (e ▸ List.mem_map.mpr ⟨p, hp, rfl⟩)
      have ih' := ih h2 hp
      simp only [getI, List.find?_cons] at ih' ⊢
      rw [decide_eq_false this]
      exact ih'
theorem mem_getI {ps : DI} {k : List Int} {v : Int} (h : getI ps k = some v) : (k, v) ∈ ps := by
  unfold getI at h
  obtain ⟨p, hp, e⟩ := Option.map_eq_some_iff.mp h
  have h1 := List.mem_of_find?_eq_some hp
  have h2 : p.1 = k := by
    have := List.find?_some hp
    exact of_decide_eq_true this
  rw [← h2, ← e]
  exact h1
/-- the steps that are not 0 -/
def nz (ps : DI) : DI := ps.filter fun p => decide (p.2 ≠ 0)
theorem nz_sub {ps : DI} {p : List Int × Int} (h : p ∈ nz ps) : p ∈ ps := (List.mem_filter.mp h).1
theorem nd_nz {ps : DI} (nd : (ps.map (·.1)).Nodup) : ((nz ps).map (·.1)).Nodup := by
  unfold nz
  exact nd.sublist ((List.filter_sublist).map _)
theorem same_self {ps : DI} (nd : (ps.map (·.1)).Nodup) : DTx.sameD (enc ps) (enc ps) = true := by
  unfold DTx.sameD
  rw [beq_self_eq_true, Bool.true_and, List.all_eq_true]
  intro x hx
  obtain ⟨p, hp, rfl⟩ := List.mem_map.mp hx
  show decide (valV (enc ps) (ek p.1) = some (V.int p.2)) = true
  rw [val_enc, getI_mem nd hp]
  simp
theorem enc_int (ps : DI) : ∀ p ∈ enc ps, DTx.isIntV p.2 := fun x hx => by
  obtain ⟨p, _, rfl⟩ := List.mem_map.mp hx
  exact ⟨p.2, rfl⟩
/-- refs of tuples of ints -/
def TupsAt (H : Hp) : List V → List (List Int) → Prop := Paired fun v k => ∃ t, v = .ref t ∧ H t = some (.tup (k.map V.int))
theorem TupsAt.same {H H' : Hp} (e : ∀ b ys, H b = some (.tup ys) → H' b = some (.tup ys)) {xs : List V} {ks : List (List Int)} (h : TupsAt H xs ks) : TupsAt H' xs ks :=
  Paired.mapP h fun _ _ ⟨t, a, b⟩ => ⟨t, a, e _ _ b⟩
theorem TupsAt.get {H : Hp} {xs : List V} {ks : List (List Int)} (h : TupsAt H xs ks) {i : Nat} {x : V} (hx : xs[i]? = some x) : ∃ k t, ks[i]? = some k ∧ x = .ref t ∧ H t = some (.tup (k.map V.int)) := by
  induction h generalizing i with
  | nil => simp at hx
  | @cons a b as bs hab r ih =>
    cases i with
    | zero =>
      obtain ⟨t, e1, e2⟩ := hab
      have e : a = x := Option.some.inj hx
      exact ⟨b, t, rfl, by rw [← e, e1], e2⟩
    | succ i => exact ih hx
theorem TupsAt.app {H : Hp} {xs ys : List V} {ks ls : List (List Int)} (h : TupsAt H xs ks) (h' : TupsAt H ys ls) : TupsAt H (xs ++ ys) (ks ++ ls) := by
  induction h with
  | nil => exact h'
  | cons hab r ih => exact .cons hab ih
theorem TupsAt.erase {H : Hp} {xs : List V} {ks : List (List Int)} (h : TupsAt H xs ks) (j : Nat) : TupsAt H (xs.eraseIdx j) (ks.eraseIdx j) := by
  induction h generalizing j with
  | nil => exact .nil
  | cons hab r ih =>
    cases j with
    | zero => exact r
    | succ j => exact .cons hab (ih j)
theorem TupsAt.len {H : Hp} {xs : List V} {ks : List (List Int)} (h : TupsAt H xs ks) : xs.length = ks.length := Paired.length h
theorem perm_erase {α : Type} {l : List α} {j : Nat} {x : α} (h : l[j]? = some x) : (x :: l.eraseIdx j).Perm l := by
  induction l generalizing j with
  | nil => simp at h
  | cons a r ih =>
    cases j with
    | zero =>
      have e : a = x := Option.some.inj h
      rw [e]
      exact List.Perm.refl _
    | succ j =>
      have := ih (j := j) h
      show (x :: a :: r.eraseIdx j).Perm (a :: r)
      exact (List.Perm.swap _ _ _).trans (this.cons a)
/-- a sort: three ints from 0 to 2 -/
def Sort3 (k : List Int) : Prop := k.length = 3 ∧ TS.Bd 3 k
theorem code_inj {B : Int} (hB : 0 < B) : ∀ {a b : List Int}, a.length = b.length → TS.Bd B a → TS.Bd B b → TS.code B a = TS.code B b → a = b
  | [], [], _, _, _, _ => rfl
  | [], _ :: _, h, _, _, _ => by cases h
  | _ :: _, [], h, _, _, _ => by cases h
  | x :: xs, y :: ys, h, ha, hb, e => by
    have hl : xs.length = ys.length := Nat.succ.inj h
    have bound : ∀ {l : List Int}, TS.Bd B l → 0 ≤ TS.code B l ∧ TS.code B l < B ^ l.length := by
      intro l
      induction l with
      | nil => intro _; exact ⟨Int.le_refl 0, by simp [TS.code]⟩
      | cons z zs ih =>
        intro hz
        obtain ⟨i1, i2⟩ := ih hz.tail
        obtain ⟨z0, z1⟩ := hz.head
        have := TS.num1 (P := B ^ zs.length) (B := B) i1 i2 z0 z1
        refine ⟨this.1, ?_⟩
        show z * B ^ zs.length + TS.code B zs < B ^ (zs.length + 1)
        rw [Int.pow_succ]
        exact this.2
    have e2 : x * B ^ xs.length + TS.code B xs = y * B ^ ys.length + TS.code B ys := e
    rw [hl] at e2
    obtain ⟨p1, p2⟩ := bound ha.tail
    obtain ⟨q1, q2⟩ := bound hb.tail
    rw [hl] at p2
    have pp : 0 < B ^ ys.length := Int.pow_pos hB
    generalize B ^ ys.length = M at e2 p2 q2 pp
    have exy : x = y := by
      rcases Int.lt_trichotomy x y with h | h | h
      · exfalso
        have : (x + 1) * M ≤ y * M := Int.mul_le_mul_of_nonneg_right (by omega) (by omega)
        rw [Int.add_mul] at this
        omega
      · exact h
      · exfalso
        have : (y + 1) * M ≤ x * M := Int.mul_le_mul_of_nonneg_right (by omega) (by omega)
        rw [Int.add_mul] at this
        omega
    subst exy
    rw [code_inj hB hl ha.tail hb.tail (by omega)]
end Sm

/-! Sl: comprehensions of ints over the keys of a dict with int-tuple keys. -/
namespace Sl
open PySem L2 Sm
theorem inl_key {k : List Key} {ps : DI} {i : Nat} {v : V} (h : (enc ps)[i]? = some (k, v)) : ∃ ns z, ps[i]? = some (ns, z) ∧ k = ek ns ∧ v = .int z := by
  unfold enc at h
  rw [List.getElem?_map] at h
  obtain ⟨p, hp, e⟩ := Option.map_eq_some_iff.mp h
  exact ⟨p.1, p.2, hp, (Prod.mk.inj e).1.symm, (Prod.mk.inj e).2.symm⟩
theorem upd_back {H : Hp} {c : Addr} {o : HO} (h : H c = some o) : upd H c o = H := by
  funext b
  by_cases e : b = c
  · rw [e, upd_same, h]
  · rw [upd_ne e]
/-- [F for k in d] -/
theorem lock_ints {σ : L2.St} {H : Hp} {c : Addr} {r : DI} {i j : Nat} {te : TE} {F : List Int → Int → Int} {Q : VK} (hv : σ[i]? = some (some (.ref c))) (hc : H c = some (.dT (enc r))) (hsz : r.length < 1000)
    (step : ∀ (od : Obj) (H' : Hp) (k : List Int) (z : Int) (t : Addr), (∀ b o, H b = some o → b ≠ c → H' b = some o) → H' c = some (.frz od (.dT (enc r))) → (k, z) ∈ r → H' t = some (.tup (k.map V.int)) →
      ∀ R : VK, R (.int (F k z)) H' → te ((wipe σ [j]).set j (some (.ref t))) H' R)
    (done : ∀ (D : Addr) (H' : Hp), H D = none → Same H H' → H' D = some (.lst ((r.map fun y => F y.1 y.2).map V.int)) → Q (.ref D) H') : tLockE (tLc (iKeys (tVar i)) (gName j) tYes te [j]) σ H Q := by
  refine ⟨c, _, hc, trivial, fun od => ?_⟩
  refine Eg.w_lc (Eg.w_iK (Eg.w_var hv (Eg.c_iKT upd_same ?_)))
  intro D hD
  have hDc : D ≠ c := fun e => by rw [e, upd_same] at hD; cases hD
  have hD0 : H D = none := by rw [upd_ne hDc] at hD; exact hD
  refine lc_it walk_keysT (fun n H' => H' c = some (.frz od (.dT (enc r))) ∧ H' D = some (.lst (((r.take n).map fun y => F y.1 y.2).map V.int)) ∧ ∀ b o, H b = some o → b ≠ c → H' b = some o) ?_ (fun n H' _ h => h.1) ?_ ?_
  · exact ⟨Eg.upd_old upd_same hD, upd_same, fun b o e hn => Eg.upd_old (Eg.upd_mut hn e) hD⟩
  · rintro n y _ _ hn ⟨h1, h2, h3⟩ ⟨rfl, k, v, t, hk, rfl, ht⟩
    obtain ⟨kk, z, hkz, rfl, rfl⟩ := inl_key hk
    rw [ek_kV] at ht
    obtain ⟨hlt, he⟩ := List.getElem?_eq_some_iff.mp hkz
    refine Eg.w_gN (Eg.w_wipe ?_ (Eg.w_yes (iteT (step od _ kk z t h3 h1 (List.mem_of_getElem? hkz) ht _ ?_))))
    · show ((wipe σ []).set j none |>.set j (some (.ref t))).set j none = _
      show (((σ.set j none).set j (some (.ref t))).set j none) = σ.set j none
      rw [List.set_set, List.set_set]
    · refine ⟨_, h2, ?_, Eg.upd_mut hDc.symm h1, ?_, fun b o e hne => Eg.upd_mut (ne_of_none e hD0) (h3 b o e hne)⟩
      · rw [List.length_map, List.length_map, List.length_take, sizeLine_eq]
        omega
      · rw [upd_same, List.take_succ_eq_append_getElem hlt, he]
        simp
  · rintro H1 ⟨h1, h2, h3⟩
    refine ⟨h1, done D _ hD0 (fun b o e => ?_) (Eg.upd_mut hDc ?_)⟩
    · by_cases hb : b = c
      · rw [hb, upd_same]
        rw [hb, hc] at e
        exact e
      · exact Eg.upd_mut hb (h3 b o e hb)
    · rw [h2]
      unfold enc
      rw [List.length_map, List.take_length]
end Sl

local macro_rules | `(tactic| walk_at "blk") => `(tactic| first | exact rfl | dsimp only [L2.cxOf, L2.Cx.nox, L2.Cx.wish, L2.Cx.blk])
local macro_rules | `(tactic| walk_at "hp") => `(tactic| first
  | assumption
  | exact L2.upd_same
  | (refine Eg.upd_old ?_ (by assumption); walk_at "hp")
  | (refine Eg.upd_mut (by first | assumption | exact Ne.symm (by assumption)) ?_; walk_at "hp")
  | (refine Eg.frame_at (by assumption) (by first | assumption | exact Ne.symm (by assumption)) ?_; walk_at "hp")
  | ((refine (show L2.Same _ _ by assumption) _ _ ?_); walk_at "hp"))
local macro_rules | `(tactic| walk_at "sq") => `(tactic| first
  | assumption
  | exact L2.SqL.of (by walk_at "hp")
  | exact L2.SqT.of (by walk_at "hp"))
local macro_rules | `(tactic| walk_at "g0") => `(tactic| first
  | with_reducible refine Eg.w_seq ?_
  | with_reducible refine Eg.w_nx ?_
  | with_reducible refine Eg.w_asg ?_
  | with_reducible refine Eg.w_gN ?_
  | with_reducible refine Eg.w_op ?_
  | with_reducible refine Eg.w_c ?_
  | ((with_reducible refine' Eg.w_var ?hv ?_); (case hv => exact rfl))
  | with_reducible refine Eg.w_cons ?_
  | with_reducible refine Eg.w_nil ?_
  | with_reducible refine Eg.w_rI0 ?_
  | ((with_reducible refine' Eg.w_rI ?hc ?_); (case hc => walk_at "cond"))
  | with_reducible refine Eg.w_rU ?_
  | with_reducible refine Eg.w_un ?_
  | ((with_reducible refine' Eg.w_ixL ?hs ?hv ?_); (case hs => walk_at "sq"); (case hv => walk_at "at"))
  | ((with_reducible refine' Eg.w_ixT ?hs ?hv ?_); (case hs => walk_at "sq"); (case hv => walk_at "at"))
  | with_reducible refine Eg.w_cb ?_
  | with_reducible refine Eg.w_call ?_
  | with_reducible refine Eg.w_ifS ?_
  | with_reducible refine Eg.w_test ?_
  | with_reducible refine Eg.w_B ?_
  | with_reducible refine Eg.w_bl ?_
  | with_reducible refine Eg.w_bl' ?_
  | with_reducible refine Eg.w_ret ?_
  | with_reducible refine Eg.w_rt ?_
  | with_reducible refine Eg.w_next ?_
  | with_reducible refine Eg.w_drop ?_
  | with_reducible refine Eg.w_gSub ?_
  | ((with_reducible refine' Eg.w_setL ?hs ?hv ?_); (case hs => walk_at "hp"); (case hv => exact rfl))
  | with_reducible refine Eg.c_int ?_
  | with_reducible refine Eg.c_abs ?_
  | with_reducible refine Eg.c_min2 ?_
  | with_reducible refine Eg.c_max2 ?_
  | with_reducible refine Eg.c_isN ?_
  | with_reducible refine Eg.c_notN ?_
  | ((with_reducible refine' Eg.c_len ?hs ?_); (case hs => walk_at "sq"))
  | with_reducible refine Eg.w_dget ?_
  | with_reducible refine Eg.w_din ?_
  | with_reducible refine Eg.w_dnin ?_
  | with_reducible refine Eg.w_dput ?_
  | with_reducible refine Eg.w_dnewT ?_
  | with_reducible refine Eg.w_dnewK ?_
  | with_reducible refine Eg.w_iK ?_
  | ((with_reducible refine' Eg.w_eq ?hs ?_); (case hs => rfl))
  | ((with_reducible refine' Eg.w_ne ?hs ?_); (case hs => rfl))
  | with_reducible refine Eg.w_if ?_
  | with_reducible refine Eg.w_not ?_
  | with_reducible refine Eg.w_andV ?_
  | with_reducible refine Eg.w_orV ?_
  | with_reducible refine Eg.w_notV ?_
  | with_reducible refine Eg.w_chain ?_
  | with_reducible refine Eg.w_tup ?_
  | with_reducible refine Eg.w_lst ?_
  | ((with_reducible refine' Eg.w_sz ?hs ?_); (case hs => first | decide | (simp only [List.length_cons, List.length_nil]; omega)))
  | with_reducible refine Eg.w_bm ?_
  | with_reducible refine Eg.w_bm0 ?_
  | ((with_reducible refine' Eg.w_tyl ?hs ?_); (case hs => walk_at "sq"))
  | ((with_reducible refine' Eg.w_append ?hs ?hz ?_); (case hs => walk_at "hp"); (case hz => walk_at "size"))
  | with_reducible refine Eg.w_fld ?_
  | ((with_reducible refine' Eg.c_fld ?hs ?hc ?hn ?hl ?_); (case hs => walk_at "hp"); (case hc => assumption); (case hn => assumption); (case hl => walk_at "lk"))
  | with_reducible refine Eg.w_sl ?_
  | with_reducible refine Eg.w_sfld ?_
  | ((with_reducible refine' Eg.c_sfld ?hs ?hc ?hn ?hl ?_); (case hs => walk_at "hp"); (case hc => assumption); (case hn => assumption); (case hl => walk_at "few"))
  | with_reducible refine Eg.w_meth ?_
  | ((with_reducible refine' Eg.c_meth ?hs ?hl ?_); (case hs => walk_at "hp"); (case hl => walk_at "lk"))
  | with_reducible refine Eg.w_make ?_
  | with_reducible refine Eg.w_nopart ?_
  | with_reducible refine Eg.w_part ?_
  | with_reducible refine Eg.c_part ?_
  | ((with_reducible refine' Eg.w_gTup ?hs ?hn ?_); (case hs => walk_at "sq"); (case hn => exact rfl))
  | with_reducible refine Eg.w_gCons ?_
  | with_reducible refine Eg.w_gNil ?_
  | with_reducible refine Eg.w_for ?_
  | with_reducible refine Eg.w_iL ?_
  | with_reducible refine Eg.w_iR1 ?_
  | with_reducible refine Eg.w_iR2 ?_
  | ((with_reducible refine' Eg.c_iR2 ?hs ?_); (case hs => first | decide | (refine ⟨?_, ?_, ?_, ?_⟩ <;> omega)))
  | with_reducible refine Eg.w_iT ?_
  | ((with_reducible refine' Eg.c_iT ?hs ?_); (case hs => walk_at "sq"))
  | with_reducible refine Eg.w_iZ ?_
  | ((with_reducible refine' Eg.c_iZ ?hs ?hz ?_); (case hs => walk_at "sq"); (case hz => walk_at "sq"))
  | with_reducible refine Eg.w_lc ?_
  | with_reducible refine Eg.w_yes ?_
  | with_reducible refine Eg.w_par ?_
  | with_reducible refine Eg.c_par ?_
  | ((with_reducible show DTx.tDt _ _ _ _ _ _ _ _ _); unfold DTx.tDt)
  | ((with_reducible refine' Eg.w_wipe ?hs ?_); (case hs => exact rfl))
  | with_reducible refine L2.iteT ?_
  | with_reducible refine L2.iteF ?_
  | ((with_reducible show ∃ acc, _ = some (L2.HO.lst acc) ∧ acc.length < PySem.sizeLine ∧ _); (refine' ⟨_, ?hs, Nat.lt_of_lt_of_le (m := 100000) ?hz (by decide), ?_⟩); (case hs => walk_at "hp"); (case hz => walk_at "size"))
  | ((with_reducible refine' Eg.c_iR1 ?hs ?hz ?_); (case hs => first | decide | omega); (case hz => first | decide | omega))
  | ((with_reducible refine' Eg.c_iL ?hs ?_); (case hs => walk_at "sq"))
  | with_reducible refine Eg.w_retN ?_
  | with_reducible refine Eg.w_brk ?_
  | with_reducible refine Eg.w_cont ?_
  | with_reducible refine Eg.w_bk ?_
  | with_reducible refine Eg.w_ct ?_)
local macro_rules | `(tactic| walk_at "at") => `(tactic| first | exact rfl | assumption)
local macro_rules | `(tactic| walk_at "size") => `(tactic| first | decide | omega | (simp only [List.length_append, List.length_map, List.length_cons, List.length_nil]; omega))
local macro_rules | `(tactic| walk_at "cond") => `(tactic| first | assumption | decide | exact ⟨by decide, by decide⟩ | exact .inl ⟨by omega, by omega⟩ | exact .inr ⟨by omega, by omega⟩ | exact ⟨by omega, by omega⟩ | exact ⟨by omega, by omega, by omega⟩ | (show (0 : Int) < _; omega))
local macro_rules | `(tactic| walk_at "g1") => `(tactic| first | walk_at "g0" | with_reducible refine Eg.w_and ?_ | with_reducible refine Eg.w_or ?_)
local macro_rules | `(tactic| walk_at "go") => `(tactic| repeat walk_at "g1")
local macro_rules | `(tactic| walk_at "gp") => `(tactic| repeat walk_at "g0")
local macro_rules | `(tactic| walk_at "lk") => `(tactic| first | assumption | exact rfl | decide +kernel)
local macro_rules | `(tactic| walk_at "few") => `(tactic| first | decide | exact (show 1 < 1000 by decide) | exact (show 2 < 1000 by decide) | exact (show 3 < 1000 by decide) | exact (show 4 < 1000 by decide) | exact (show 5 < 1000 by decide))

namespace LW
open PySem L2 Sm
def top (i : Nat) : Stmt := PySem.Challenge.pw_ownholes_k49_fewest_above.main.body.getD i (.Pass ⟨0, 0, 0, 0⟩)
abbrev s_Form_init : Stmt := inClass (top 1) 0
abbrev N_Form_init : List Str := ["self", "start", "steps", "sort"]
theorem sc_Form_init : FnScope N_Form_init ["self", "start", "steps"] (defScope s_Form_init) := ⟨rfl, rfl, rfl, by decide +kernel, rfl, by decide +kernel, by decide +kernel⟩
abbrev s_Form_sorts : Stmt := inClass (top 1) 1
abbrev N_Form_sorts : List Str := ["self"]
theorem sc_Form_sorts : FnScope N_Form_sorts ["self"] (defScope s_Form_sorts) := ⟨rfl, rfl, rfl, by decide +kernel, rfl, by decide +kernel, by decide +kernel⟩
abbrev s_Form_eq : Stmt := inClass (top 1) 9
abbrev N_Form_eq : List Str := ["self", "other"]
theorem sc_Form_eq : FnScope N_Form_eq ["self", "other"] (defScope s_Form_eq) := ⟨rfl, rfl, rfl, by decide +kernel, rfl, by decide +kernel, by decide +kernel⟩
abbrev s_fewest_above : Stmt := top 3
abbrev N_fewest_above : List Str := ["form", "best", "sort"]
theorem sc_fewest_above : FnScope N_fewest_above ["form"] (defScope s_fewest_above) := ⟨rfl, rfl, rfl, by decide +kernel, rfl, by decide +kernel, by decide +kernel⟩
abbrev s_l_bag : Stmt := top 5
abbrev N_l_bag : List Str := ["_law_script", "_law_at", "_law_cell", "_law_digits"]
theorem sc_l_bag : FnScope N_l_bag ["_law_script", "_law_at"] (defScope s_l_bag) := ⟨rfl, rfl, rfl, by decide +kernel, rfl, by decide +kernel, by decide +kernel⟩
abbrev s_l_take : Stmt := top 6
abbrev N_l_take : List Str := ["_law_bag_here", "_law_many", "_law_digit", "_law_mixed"]
theorem sc_l_take : FnScope N_l_take ["_law_bag_here", "_law_many"] (defScope s_l_take) := ⟨rfl, rfl, rfl, by decide +kernel, rfl, by decide +kernel, by decide +kernel⟩
abbrev s_l_sorts : Stmt := top 8
abbrev N_l_sorts : List Str := ["_law_bag_here", "_law_many", "_law_left", "_law_k"]
theorem sc_l_sorts : FnScope N_l_sorts ["_law_bag_here", "_law_many"] (defScope s_l_sorts) := ⟨rfl, rfl, rfl, by decide +kernel, rfl, by decide +kernel, by decide +kernel⟩
abbrev s_l_steps_of : Stmt := top 9
abbrev N_l_steps_of : List Str := ["_law_sorts_here", "_law_steps", "_law_found", "_law_sort", "_law_step"]
theorem sc_l_steps_of : FnScope N_l_steps_of ["_law_sorts_here", "_law_steps"] (defScope s_l_steps_of) := ⟨rfl, rfl, rfl, by decide +kernel, rfl, by decide +kernel, by decide +kernel⟩
abbrev s_l_is_integer : Stmt := top 10
abbrev N_l_is_integer : List Str := ["_law_thing"]
theorem sc_l_is_integer : FnScope N_l_is_integer ["_law_thing"] (defScope s_l_is_integer) := ⟨rfl, rfl, rfl, by decide +kernel, rfl, by decide +kernel, by decide +kernel⟩
abbrev s_law : Stmt := top 11
abbrev N_law : List Str := ["_law_script", "_law_at", "_law_bag_here", "_law_sorts_here", "_law_sort", "_law_start", "_law_steps", "_law_found", "_law_form", "_law_counts", "_law_best", "_law_total", "_law_kept", "_law_step"]
theorem sc_law : FnScope N_law ["_law_script"] (defScope s_law) := ⟨rfl, rfl, rfl, by decide +kernel, rfl, by decide +kernel, by decide +kernel⟩
structure Ad where
  a_Form_init : Addr
  d_Form_init : FuncData
  a_Form_sorts : Addr
  d_Form_sorts : FuncData
  a_Form_eq : Addr
  d_Form_eq : FuncData
  a_fewest_above : Addr
  d_fewest_above : FuncData
  a_l_bag : Addr
  d_l_bag : FuncData
  a_l_take : Addr
  d_l_take : FuncData
  a_l_sorts : Addr
  d_l_sorts : FuncData
  a_l_steps_of : Addr
  d_l_steps_of : FuncData
  a_l_is_integer : Addr
  d_l_is_integer : FuncData
  a_law : Addr
  d_law : FuncData
  c_Form : Addr
structure Txt (K : PySem.W.Frag) (mg : Str → Option Value) (Z : Ad) : Prop where
  F_Form_init : Fun K "__init__" "Form.__init__" s_Form_init Z.a_Form_init Z.d_Form_init
  b_Form_init : Binds K Z.d_Form_init ["self", "start", "steps"] []
  m_Form_init : Meth K Z.c_Form "__init__" Z.a_Form_init
  F_Form_sorts : Fun K "sorts" "Form.sorts" s_Form_sorts Z.a_Form_sorts Z.d_Form_sorts
  b_Form_sorts : Binds K Z.d_Form_sorts ["self"] []
  m_Form_sorts : Meth K Z.c_Form "sorts" Z.a_Form_sorts
  F_Form_eq : Fun K "__eq__" "Form.__eq__" s_Form_eq Z.a_Form_eq Z.d_Form_eq
  b_Form_eq : Binds K Z.d_Form_eq ["self", "other"] []
  m_Form_eq : Meth K Z.c_Form "__eq__" Z.a_Form_eq
  F_fewest_above : Fun K "fewest_above" "fewest_above" s_fewest_above Z.a_fewest_above Z.d_fewest_above
  b_fewest_above : Binds K Z.d_fewest_above ["form"] []
  g_fewest_above : mg "fewest_above" = some (.ref Z.a_fewest_above)
  F_l_bag : Fun K "_law_bag" "_law_bag" s_l_bag Z.a_l_bag Z.d_l_bag
  b_l_bag : Binds K Z.d_l_bag ["_law_script", "_law_at"] []
  g_l_bag : mg "_law_bag" = some (.ref Z.a_l_bag)
  F_l_take : Fun K "_law_take" "_law_take" s_l_take Z.a_l_take Z.d_l_take
  b_l_take : Binds K Z.d_l_take ["_law_bag_here", "_law_many"] []
  g_l_take : mg "_law_take" = some (.ref Z.a_l_take)
  F_l_sorts : Fun K "_law_sorts" "_law_sorts" s_l_sorts Z.a_l_sorts Z.d_l_sorts
  b_l_sorts : Binds K Z.d_l_sorts ["_law_bag_here", "_law_many"] []
  g_l_sorts : mg "_law_sorts" = some (.ref Z.a_l_sorts)
  F_l_steps_of : Fun K "_law_steps_of" "_law_steps_of" s_l_steps_of Z.a_l_steps_of Z.d_l_steps_of
  b_l_steps_of : Binds K Z.d_l_steps_of ["_law_sorts_here", "_law_steps"] []
  g_l_steps_of : mg "_law_steps_of" = some (.ref Z.a_l_steps_of)
  F_l_is_integer : Fun K "_law_is_integer" "_law_is_integer" s_l_is_integer Z.a_l_is_integer Z.d_l_is_integer
  b_l_is_integer : Binds K Z.d_l_is_integer ["_law_thing"] []
  g_l_is_integer : mg "_law_is_integer" = some (.ref Z.a_l_is_integer)
  F_law : Fun K "law" "law" s_law Z.a_law Z.d_law
  b_law : Binds K Z.d_law ["_law_script"] []
  g_law : mg "law" = some (.ref Z.a_law)
  cl_Form : Cls K Z.c_Form
  g_Form : mg "Form" = some (.ref Z.c_Form)
  mk_Form : Mk K Z.c_Form Z.a_Form_init
  n_Form_start : NoAttr K Z.c_Form "start"
  n_Form_steps : NoAttr K Z.c_Form "steps"
  i_Form : ∀ {H : Hp} {a dx : Addr} {fs : List (Str × V)}, H a = some (.ins Z.c_Form dx fs) → TyOf K H (.ref a) (.ref Z.c_Form)
  u_abs : mg "abs" = none
  u_bool : mg "bool" = none
  u_dict : mg "dict" = none
  u_int : mg "int" = none
  u_isinstance : mg "isinstance" = none
  u_len : mg "len" = none
  u_max : mg "max" = none
  u_min : mg "min" = none
  u_range : mg "range" = none
  u_sorted : mg "sorted" = none
  u_sum : mg "sum" = none
  u_zip : mg "zip" = none

/-! what the law draws from -/
def BagAt (H : Hp) (a : Addr) (k : Int) : Prop := ∃ d m c : Int, H a = some (.lst [.int d, .int m, .int c]) ∧ 0 ≤ d ∧ 0 ≤ m ∧ m < 8000000000000000000 ∧ 0 ≤ c ∧ c ≤ k
def sp_l_bag (K : PySem.W.Frag) : Sp := fun vs H Q _ => ∃ (a : Addr) (ns : List Int) (i : Int), vs = [.ref a, .int i] ∧ SqL K H a (ns.map V.int) ∧ 0 ≤ i ∧ i < 100 ∧
  ∀ (b : Addr) (H' : Hp), H b = none → BagAt H' b 0 → Same H H' → Q (.ref b) H'
def sp_l_take : Sp := fun vs H Q _ => ∃ (a : Addr) (k n : Int), vs = [.ref a, .int n] ∧ BagAt H a k ∧ k ≤ 100000 ∧ 0 < n ∧ n < 1073741824 ∧
  ∀ (r : Int) (H' : Hp), 0 ≤ r → r < n → BagAt H' a (k + 1) → (∀ b, b ≠ a → H' b = H b) → Q (.int r) H'
def sp_l_is_integer : Sp := fun vs H Q _ => ∃ i : Int, vs = [.int i] ∧ Q (.bl true) H
section
variable {P : Program} {w : World} {K : PySem.W.Frag} {mg : Str → Option Value} {base : Heap} {Z : Ad}
theorem atI_lt {ns : List Int} {i : Int} (h0 : 0 ≤ i) (h1 : i < (ns.length : Int)) : ∃ z, atI (ns.map V.int) i = some (V.int z) := by
  obtain ⟨j, rfl⟩ := Int.eq_ofNat_of_zero_le h0
  have hj : j < ns.length := by omega
  refine ⟨ns[j], atI_nat ?_⟩
  rw [List.getElem?_map, List.getElem?_eq_getElem hj]
  rfl
theorem ok_l_bag (T : Txt K mg Z) : FnOk P w K mg base CX0 1 Z.a_l_bag Z.d_l_bag ["_law_script", "_law_at"] (sp_l_bag K) := by
  refine T.F_l_bag.ok sc_l_bag (fun vs H Q E h => ?_) (fun cdv A outer s H vs Q E hr h => ?_)
  · obtain ⟨a, ns, i, rfl, _⟩ := h
    rfl
  · obtain ⟨a, ns, i, rfl, hS, h0, h1, q⟩ := h
    have nd := sc_l_bag.nd
    refine ⟨_, (C8.pss_cut (ps_set (i := 2) nd rfl (Or.inl rfl) (pe_ifExp (pt_cmpR op_lt (pv 1) (pe_callB Eg.cr_len (by rfl) T.u_len (by decide +kernel) (pa_cons (pv 0) pa_nil)) (nomark _)) (pe_ix ix_list (pv 0) (pv 1) (fun _ _ => rfl)) pe_int))
  (C8.pss_cut (ps_set (i := 3) nd rfl (Or.inl rfl) (pe_ifExp (pt_cmpR op_ge (pe_callB Eg.cr_abs (by rfl) T.u_abs (by decide +kernel) (pa_cons (pv 2) pa_nil)) (pe_op op_pow pe_int pe_int) (nomark _)) (pe_callB Eg.cr_abs (by rfl) T.u_abs (by decide +kernel) (pa_cons (pv 2) pa_nil)) pe_int))
  (pss_one (ps_ret (pe_lst (pa_cons (pv 3) (pa_cons (pe_op op_add (pe_op op_add (pe_op op_mul (pe_op op_mod (pe_callTy Eg.cr_int (by rfl) T.u_int (by decide +kernel) (pa_cons (pv 2) pa_nil)) pe_int) pe_int) (pe_op op_mul pe_int (pv 1))) pe_int) (pa_cons pe_int pa_nil)))))))), ?_⟩
    refine Eg.w_sig (σ := [some (.ref a), some (.int i), none, none]) rfl ?_
    refine ⟨fun σ' H' => ∃ z : Int, σ' = [some (.ref a), some (.int i), some (.int z), none] ∧ H = H', ?_, ?_⟩
    · walk_at "go"
      refine Eg.brD (fun h => ?_) (fun h => ?_)
      · obtain ⟨z, hz⟩ := atI_lt h0 (by simpa using h)
        walk_at "go"
        exact ⟨z, rfl, rfl⟩
      · walk_at "go"
        exact ⟨0, rfl, rfl⟩
    rintro _ _ ⟨z, rfl, rfl⟩
    refine ⟨fun σ' H' => ∃ d : Int, 0 ≤ d ∧ σ' = [some (.ref a), some (.int i), some (.int z), some (.int d)] ∧ H = H', ?_, ?_⟩
    · walk_at "go"
      refine Eg.brD (fun h => ?_) (fun h => ?_)
      · walk_at "go"
        exact ⟨_, by split <;> omega, rfl, rfl⟩
      · walk_at "go"
        exact ⟨0, by omega, rfl, rfl⟩
    rintro _ _ ⟨d, hd, rfl, rfl⟩
    walk_at "go"
    intro p hp
    walk_at "go"
    exact q p _ hp ⟨d, _, 0, upd_same, hd, by omega, by omega, by omega, by omega⟩ (Eg.same_new (Same.refl _) hp)
theorem ok_l_take (T : Txt K mg Z) : FnOk P w K mg base CX0 1 Z.a_l_take Z.d_l_take ["_law_bag_here", "_law_many"] sp_l_take := by
  refine T.F_l_take.ok sc_l_take (fun vs H Q E h => ?_) (fun cdv A outer s H vs Q E hr h => ?_)
  · obtain ⟨a, k, n, rfl, _⟩ := h
    rfl
  · obtain ⟨a, k, n, rfl, ⟨d, m, c, ha, hd, hm, hm2, hc, hck⟩, hk, hn, hn2, q⟩ := h
    have nd := sc_l_take.nd
    refine ⟨_, (pss_cons (ps_if (pt_cmpR op_gt (pe_ix ix_list (pv 0) pe_int (fun _ _ => rfl)) pe_int (nomark _))
  (pss_cons (ps_set (i := 2) nd rfl (Or.inl rfl) (pe_op op_mod (pe_callTy Eg.cr_int (by rfl) T.u_int (by decide +kernel) (pa_cons (pe_ix ix_list (pv 0) pe_int (fun _ _ => rfl)) pa_nil)) (pv 1)))
  (pss_cons (ps_asg (pe_op op_fdiv (pe_ix ix_list (pv 0) pe_int (fun _ _ => rfl)) (pv 1)) (pg_sub (pv 0) pe_int set_list))
  (pss_one (ps_ret (pv 2)))))
  pss_nil)
  (pss_cons (ps_asg (pe_op op_add (pe_ix ix_list (pv 0) pe_int (fun _ _ => rfl)) pe_int) (pg_sub (pv 0) pe_int set_list))
  (pss_cons (ps_set (i := 3) nd rfl (Or.inl rfl) (pe_op op_mod (pe_callTy Eg.cr_int (by rfl) T.u_int (by decide +kernel) (pa_cons (pe_op op_pow (pe_op op_add (pe_ix ix_list (pv 0) pe_int (fun _ _ => rfl)) (pe_op op_mul pe_int (pe_ix ix_list (pv 0) pe_int (fun _ _ => rfl)))) pe_int) pa_nil)) pe_int))
  (pss_cons (ps_set (i := 3) nd rfl (Or.inl rfl) (pe_op op_mod (pe_callTy Eg.cr_int (by rfl) T.u_int (by decide +kernel) (pa_cons (pe_op op_pow (pe_op op_add (pv 3) (pe_op op_mul pe_int (pe_ix ix_list (pv 0) pe_int (fun _ _ => rfl)))) pe_int) pa_nil)) pe_int))
  (pss_one (ps_ret (pe_op op_mod (pe_callTy Eg.cr_int (by rfl) T.u_int (by decide +kernel) (pa_cons (pe_op op_fdiv (pv 3) pe_int) pa_nil)) (pv 1)))))))), ?_⟩
    refine Eg.w_sig (σ := [some (.ref a), some (.int n), none, none]) rfl ?_
    walk_at "go"
    refine Eg.brD (fun h => ?_) (fun h => ?_)
    · walk_at "go"
      refine q _ _ (Int.emod_nonneg _ (by omega)) (Int.emod_lt_of_pos _ hn) ⟨_, m, c, upd_same, Int.ediv_nonneg hd (by omega), hm, hm2, hc, by omega⟩ fun b hb => ?_
      rw [upd_ne hb]
    · walk_at "go"
      refine q _ _ (Int.emod_nonneg _ (by omega)) (Int.emod_lt_of_pos _ hn) ⟨d, m, c + 1, upd_same, hd, hm, hm2, by omega, by omega⟩ fun b hb => ?_
      rw [upd_ne hb]
theorem ok_l_is_integer (T : Txt K mg Z) : FnOk P w K mg base CX0 1 Z.a_l_is_integer Z.d_l_is_integer ["_law_thing"] sp_l_is_integer := by
  refine T.F_l_is_integer.ok sc_l_is_integer (fun vs H Q E h => ?_) (fun cdv A outer s H vs Q E hr h => ?_)
  · obtain ⟨i, rfl, _⟩ := h
    rfl
  · obtain ⟨i, rfl, q⟩ := h
    have nd := sc_l_is_integer.nd
    refine ⟨_, (pss_one (ps_ret (pe_and (pe_callB call_isi (by rfl) T.u_isinstance (by decide +kernel) (pa_cons (pv 0) (pa_cons (pe_bltn (v := .ty "int") (u := .type "int") (by rfl) T.u_int (by decide +kernel) rfl) pa_nil))) (pe_one (pe_not (pe_callB call_isi (by rfl) T.u_isinstance (by decide +kernel) (pa_cons (pv 0) (pa_cons (pe_bltn (v := .ty "bool") (u := .type "bool") (by rfl) T.u_bool (by decide +kernel) rfl) pa_nil)))))))), ?_⟩
    refine Eg.w_sig (σ := [some (.int i)]) rfl ?_
    walk_at "go"
    refine Eg.c_isi (.ty _) (.base (.int i)) (kit_ty (b := "int") (r := true) (by decide +kernel)) ?_
    walk_at "go"
    refine Eg.c_isi (.ty _) (.base (.int i)) (kit_ty (b := "bool") (r := false) (by decide +kernel)) ?_
    walk_at "go"
    exact q
end
end LW

namespace LW
open PySem L2 Sm
/-- the i-th sort -/
def tri (i : Nat) : List Int := [(i : Int) / 6, (i : Int) / 2 % 3, (i : Int) % 2]
def all18 : List (List Int) := (List.range 18).map tri
theorem all18_nd : all18.Nodup := by decide +kernel
theorem all18_s3 : ∀ k ∈ all18, Sort3 k := by
  intro k hk
  obtain ⟨i, hi, rfl⟩ := List.mem_map.mp hk
  have := List.mem_range.mp hi
  refine ⟨rfl, fun m hm => ?_⟩
  simp only [tri, List.mem_cons, List.not_mem_nil, or_false] at hm
  rcases hm with rfl | rfl | rfl <;> omega
def sp_l_sorts : Sp := fun vs H Q _ => ∃ (a : Addr) (k n : Int), vs = [.ref a, .int n] ∧ BagAt H a k ∧ k ≤ 1000 ∧ 0 ≤ n ∧ n ≤ 1000 ∧
  ∀ (p : Addr) (xs : List V) (ks : List (List Int)) (H' : Hp), H p = none → H' p = some (.lst xs) → TupsAt H' xs ks → (ks.length : Int) = (if 18 < n then 18 else n) → ks.Nodup → (∀ k ∈ ks, Sort3 k) → BagAt H' a (k + 18) →
    (∀ b o, H b = some o → b ≠ a → H' b = some o) → Q (.ref p) H'
def sp_l_steps_of : Sp := fun vs H Q _ => ∃ (a b : Addr) (xs : List V) (ks : List (List Int)) (ns : List Int), vs = [.ref a, .ref b] ∧ H a = some (.lst xs) ∧ TupsAt H xs ks ∧ H b = some (.lst (ns.map V.int)) ∧ ks.length = ns.length ∧ ks.Nodup ∧ ks.length < 1000 ∧
  ∀ (p : Addr) (H' : Hp), H p = none → H' p = some (.dT (enc (ks.zip ns))) → Same H H' → Q (.ref p) H'
section
variable {P : Program} {w : World} {K : PySem.W.Frag} {mg : Str → Option Value} {base : Heap} {Z : Ad}
theorem BagAt.ob {H : Hp} {a : Addr} {k : Int} (h : BagAt H a k) : ∃ xs, H a = some (.lst xs) := let ⟨_, _, _, e, _⟩ := h; ⟨_, e⟩
theorem BagAt.to {H H' : Hp} {a : Addr} {k k' : Int} (h : BagAt H a k) (e : H' a = H a) (hk : k ≤ k') : BagAt H' a k' := let ⟨d, m, c, h0, h1, h2, h3, h4, h5⟩ := h; ⟨d, m, c, e.trans h0, h1, h2, h3, h4, by omega⟩
theorem ok_l_sorts (T : Txt K mg Z) : FnOk P w K mg base CX0 2 Z.a_l_sorts Z.d_l_sorts ["_law_bag_here", "_law_many"] sp_l_sorts := by
  refine T.F_l_sorts.ok sc_l_sorts (fun vs H Q E h => ?_) (fun cdv A outer s H vs Q E hr h => ?_)
  · obtain ⟨a, k, n, rfl, _⟩ := h
    rfl
  · obtain ⟨a, k, n, rfl, hb, hk, hn, hn2, q⟩ := h
    have nd := sc_l_sorts.nd
    refine ⟨_, (pss_cons (ps_set (i := 2) nd rfl (Or.inr rfl) (pe_lc (own := [("_law_k", 3)]) rfl nd (pi_range1 (by rfl) T.u_range (pa_cons pe_int pa_nil)) (blkOk_by (N := N_l_sorts) (sc := defScope s_l_sorts) (by decide +kernel)) (fun _ _ _ _ _ => (pg_name (i := 3) nd rfl (Or.inl rfl))) (fun _ _ _ _ _ => pts_nil) (fun _ _ _ _ _ => (Eg.peE (pe_tup (pa_cons (pe_op op_fdiv (pv 3) pe_int) (pa_cons (pe_op op_mod (pe_op op_fdiv (pv 3) pe_int) pe_int) (pa_cons (pe_op op_mod (pv 3) pe_int) pa_nil)))) (by walk_at "blk")))))
  (pss_one (ps_ret (pe_lc (own := [("_law_k", 3)]) rfl nd (pi_range1 (by rfl) T.u_range (pa_cons (pe_callB (Eg.cr_min2 rfl) (by rfl) T.u_min (by decide +kernel) (pa_cons (pv 1) (pa_cons pe_int pa_nil))) pa_nil)) (blkOk_by (N := N_l_sorts) (sc := defScope s_l_sorts) (by decide +kernel)) (fun _ _ _ _ _ => (pg_name (i := 3) nd rfl (Or.inl rfl))) (fun _ _ _ _ _ => pts_nil) (fun _ _ _ _ _ => (Eg.peE (pe_bm PySem.F.plainAttrs_list PySem.F.slot_list_pop PySem.F.type_list_pop mt_popAt (pv 2) (pa_cons (pe_call (ok_l_take T) (hr.mono (by decide)) (by rfl) T.g_l_take T.F_l_take.kp T.b_l_take .nil pass0 (pa_cons (pv 0) (pa_cons (pe_callB Eg.cr_len (by rfl) T.u_len (by decide +kernel) (pa_cons (pv 2) pa_nil)) pa_nil))) pa_nil)) (by walk_at "blk"))))))), ?_⟩
    refine Eg.w_sig (σ := [some (.ref a), some (.int n), none, none]) rfl ?_
    walk_at "go"
    intro L hL
    obtain ⟨bs, ha⟩ := hb.ob
    have hLa : L ≠ a := (ne_of_none ha hL).symm
    refine lc_range (lo := 0) (n := 18) (fun i H' => Same H H' ∧ ∃ xs, H' L = some (.lst xs) ∧ TupsAt H' xs ((List.range i).map tri)) ⟨Eg.same_new (Same.refl _) hL, [], upd_same, .nil⟩ ?_ ?_
    · rintro i H1 hi ⟨hs, xs, hx, tx⟩
      have tl := tx.len
      rw [List.length_map, List.length_range] at tl
      walk_at "go"
      intro p hp
      walk_at "go"
      refine ⟨fun b o hbo => Eg.upd_mut (ne_of_none hbo hL) (Eg.upd_old (hs b o hbo) hp), _, upd_same, ?_⟩
      rw [List.range_succ, List.map_append]
      refine TupsAt.app (tx.same fun b ys e => Eg.tup_upd (a := L) (xs := xs) (by walk_at "hp") b ys (Eg.upd_old e hp)) (.cons ⟨p, rfl, ?_⟩ .nil)
      refine Eg.upd_mut (ne_of_none hx hp).symm ?_
      rw [upd_same, tri]
      simp
    · rintro H1 ⟨hs, xs, hx, tx⟩
      walk_at "go"
      intro D hD
      have hDL : D ≠ L := (ne_of_none hx hD).symm
      have hDa : D ≠ a := (ne_of_none (hs _ _ ha) hD).symm
      have h1a : H1 a = H a := (hs _ _ ha).trans ha.symm
      have hle : (if 18 < n then 18 else n) ≤ 18 := by split <;> omega
      have hge : 0 ≤ (if 18 < n then 18 else n) := by split <;> omega
      refine lc_range (lo := 0) (n := Int.toNat (if 18 < n then 18 else n)) (fun i H' => ∃ xs ks ys ls, H' L = some (.lst xs) ∧ TupsAt H' xs ks ∧ H' D = some (.lst ys) ∧ TupsAt H' ys ls ∧ (ls ++ ks).Perm all18 ∧ ls.length = i ∧ BagAt H' a (k + i) ∧
        (∀ b o, H b = some o → b ≠ a → H' b = some o)) ⟨xs, all18, [], [], Eg.upd_old hx hD, tx.same (Eg.tup_new hD), upd_same, .nil, List.Perm.refl _, rfl, hb.to ((upd_ne hDa.symm).trans h1a) (by omega), fun b o hbo _ => Eg.upd_old (hs b o hbo) hD⟩ ?_ ?_
      · rintro i H2 hi ⟨xs, ks, ys, ls, h1, t1, h2, t2, pm, hl, hbg, fr⟩
        have l1 := t1.len
        have l2 := t2.len
        have l3 := pm.length_eq
        rw [List.length_append] at l3
        have l4 : all18.length = 18 := rfl
        have i18 : i < 18 := by omega
        walk_at "go"
        refine ⟨a, k + i, _, rfl, hbg, by omega, by omega, by omega, fun r H3 r0 r1 hb3 f3 => ?_⟩
        obtain ⟨bs2, ha2⟩ := hbg.ob
        have tk := Eg.tup_frame f3 ha2
        obtain ⟨j, rfl⟩ := Int.eq_ofNat_of_zero_le r0
        have hj : j < xs.length := by omega
        obtain ⟨kj, t, hkj, ex, ht⟩ := t1.get (List.getElem?_eq_getElem hj)
        walk_at "go"
        refine Eg.c_popAt (Eg.frame_at f3 hLa h1) ⟨by omega, by omega, by omega⟩ rfl (List.getElem?_eq_getElem hj) ?_
        walk_at "go"
        have tk2 : ∀ b zs, H2 b = some (.tup zs) → upd (upd H3 L (.lst (xs.eraseIdx j))) D (.lst (ys ++ [xs[j]])) b = some (.tup zs) := fun b zs e =>
          Eg.tup_upd (a := D) (xs := ys) (by walk_at "hp") b zs (Eg.tup_upd (a := L) (xs := xs) (by walk_at "hp") b zs (tk b zs e))
        refine ⟨_, ks.eraseIdx j, _, ls ++ [kj], Eg.upd_mut hDL.symm upd_same, (t1.erase j).same tk2, upd_same, TupsAt.app (t2.same tk2) (.cons ⟨t, ex, tk2 _ _ ht⟩ .nil), ?_, by rw [List.length_append, hl]; rfl, ?_, fun b o hbo hne => ?_⟩
        · refine List.Perm.trans ?_ pm
          rw [List.append_assoc]
          exact (perm_erase hkj).append_left ls
        · refine hb3.to ?_ (by omega)
          rw [upd_ne hDa.symm, upd_ne hLa.symm]
        · refine Eg.upd_mut (ne_of_none (hs b o hbo) hD) (Eg.upd_mut (ne_of_none hbo hL) ?_)
          rw [f3 b hne]
          exact fr b o hbo hne
      · rintro H2 ⟨xs, ks, ys, ls, h1, t1, h2, t2, pm, hl, hbg, fr⟩
        have ndp : (ls ++ ks).Nodup := pm.nodup_iff.mpr all18_nd
        walk_at "go"
        refine q D ys ls H2 (hs.free hD) h2 t2 (by rw [hl]; omega) (List.nodup_append.mp ndp).1 (fun k hk => all18_s3 k (pm.mem_iff.mp (List.mem_append_left _ hk))) (hbg.to rfl (by omega)) fr
theorem ok_l_steps_of (T : Txt K mg Z) : FnOk P w K mg base CX0 1 Z.a_l_steps_of Z.d_l_steps_of ["_law_sorts_here", "_law_steps"] sp_l_steps_of := by
  refine T.F_l_steps_of.ok sc_l_steps_of (fun vs H Q E h => ?_) (fun cdv A outer s H vs Q E hr h => ?_)
  · obtain ⟨a, b, xs, ks, ns, rfl, _⟩ := h
    rfl
  · obtain ⟨a, b, xs, ks, ns, rfl, ha, ta, hb, hl, hnd, hsz, q⟩ := h
    have nd := sc_l_steps_of.nd
    have hu := hu_of hr
    refine ⟨_, (pss_cons (ps_set (i := 2) nd rfl (Or.inl rfl) pe_dnewT)
  (pss_cons (ps_for PassesOwn.never rfl (pi_zip (by rfl) T.u_zip (pa_cons (pv 0) (pa_cons (pv 1) pa_nil))) (pg_tup (by rfl) (pgs_cons (pg_name (i := 3) nd rfl (Or.inl rfl)) (pgs_cons (pg_name (i := 4) nd rfl (Or.inl rfl)) pgs_nil)))
  (pss_one (ps_dput hu (pv 2) (pv 3) (pv 4) rfl)))
  (pss_one (ps_ret (pv 2))))), ?_⟩
    refine Eg.w_sig (σ := [some (.ref a), some (.ref b), none, none, none]) rfl ?_
    walk_at "go"
    intro p hp
    walk_at "go"
    have tl := ta.len
    have hpa : p ≠ a := (ne_of_none ha hp).symm
    have hpb : p ≠ b := (ne_of_none hb hp).symm
    refine RZ.for_zipL (xs := xs) (ys := ns.map V.int) (by rw [tl, hl, List.length_map]) (fun i σ' H' => ∃ u v, σ' = [some (.ref a), some (.ref b), some (.ref p), u, v] ∧ H' p = some (.dT (enc ((ks.take i).zip (ns.take i)))) ∧ (∀ c o, H c = some o → H' c = some o))
      ⟨none, none, rfl, upd_same, fun c o e => Eg.upd_old e hp⟩ ?_ ?_ ?_
    · rintro i _ H1 ⟨u, v, rfl, h1, fr⟩
      exact ⟨SqL.of (fr _ _ ha), SqL.of (fr _ _ hb)⟩
    · rintro i x y t _ H1 hx hy ⟨u, v, rfl, h1, fr⟩ ht
      obtain ⟨k, tk, hk, rfl, htk⟩ := ta.get hx
      rw [List.getElem?_map] at hy
      obtain ⟨n, hn, rfl⟩ := Option.map_eq_some_iff.mp hy
      walk_at "go"
      have hd : upd H1 t (.tup [.ref tk, .int n]) p = some (.dT (enc ((ks.take i).zip (ns.take i)))) := Eg.upd_old h1 ht
      refine ⟨p, _, rfl, DPut.t (k := ek k) hd ?_ ?_, ?_⟩
      · rw [ek_kV]
        exact Eg.upd_old (fr _ _ htk) ht
      · have : ((ks.take i).zip (ns.take i)).length ≤ ks.length := by
          rw [List.length_zip, List.length_take]
          omega
        unfold enc
        rw [List.length_map, sizeLine_eq]
        omega
      · walk_at "go"
        refine ⟨_, _, rfl, ?_, fun c o e => Eg.upd_mut (ne_of_none e hp) (Eg.upd_old (fr c o e) ht)⟩
        rw [upd_same, put_enc, putI_new, List.take_succ_eq_append_getElem (List.getElem?_eq_some_iff.mp hk).1, List.take_succ_eq_append_getElem (List.getElem?_eq_some_iff.mp hn).1, List.zip_append]
        · have e1 : ks[i]'(List.getElem?_eq_some_iff.mp hk).1 = k := (List.getElem?_eq_some_iff.mp hk).2
          have e2 : ns[i]'(List.getElem?_eq_some_iff.mp hn).1 = n := (List.getElem?_eq_some_iff.mp hn).2
          rw [e1, e2]
          rfl
        · rw [List.length_take, List.length_take]
          omega
        · intro hm
          rw [List.map_fst_zip (by rw [List.length_take, List.length_take]; omega)] at hm
          obtain ⟨j, hj⟩ := List.mem_iff_getElem?.mp hm
          rw [List.getElem?_take] at hj
          split at hj
          · have := nd_ix hnd hj hk
            omega
          · cases hj
    · rintro _ H1 ⟨u, v, rfl, h1, fr⟩
      walk_at "go"
      refine q p H1 hp ?_ fr
      rw [h1, tl, List.take_length, hl, List.take_length]
end
end LW

namespace LW
open PySem L2 Sm
abbrev fldsF (st : Int) (d : Addr) : List (Str × V) := [("start", .int st), ("steps", .ref d)]
theorem ss1 : (("start" : Str) == ("start" : Str)) = true := by decide +kernel
theorem ss2 : (("steps" : Str) == ("start" : Str)) = false := by decide +kernel
theorem ss3 : (("steps" : Str) == ("steps" : Str)) = true := by decide +kernel
theorem ss4 : (("sorts" : Str) == ("start" : Str)) = false := by decide +kernel
theorem ss5 : (("sorts" : Str) == ("steps" : Str)) = false := by decide +kernel
theorem lk_start (st : Int) (d : Addr) : (fldsF st d).lookup ("start" : Str) = some (V.int st) := by
  rw [fldsF, List.lookup_cons, ss1]
theorem lk_steps (st : Int) (d : Addr) : (fldsF st d).lookup ("steps" : Str) = some (V.ref d) := by
  rw [fldsF, List.lookup_cons, ss2, List.lookup_cons, ss3]
theorem lk_sorts (st : Int) (d : Addr) : (fldsF st d).lookup ("sorts" : Str) = none := by
  rw [fldsF, List.lookup_cons, ss4, List.lookup_cons, ss5]
  rfl
def FormAt (C : Addr) (H : Hp) (p : Addr) (st : Int) (qs : DI) : Prop := ∃ dx d, H p = some (.ins C dx (fldsF st d)) ∧ H d = some (.dT (enc qs))
structure FormOk (qs : DI) : Prop where
  nd : (qs.map (·.1)).Nodup
  s3 : ∀ p ∈ qs, Sort3 p.1
  sz : qs.length < 60
theorem FormAt.keep {C : Addr} {H H' : Hp} {p : Addr} {st : Int} {qs : DI} (h : FormAt C H p st qs) (e : Same H H') : FormAt C H' p st qs := let ⟨dx, d, h1, h2⟩ := h; ⟨dx, d, e _ _ h1, e _ _ h2⟩
def sp_Form_init (C : Addr) : Sp := fun vs H Q _ => ∃ (p dx d : Addr) (st : Int) (ps : DI), vs = [.ref p, .int st, .ref d] ∧ H p = some (.ins C dx []) ∧ H d = some (.dT (enc ps)) ∧ (ps.map (·.1)).Nodup ∧ ps.length < 1000 ∧
  ∀ H', FormAt C H' p st (nz ps) → (∀ b o, H b = some o → b ≠ p → H' b = some o) → Q .non H'
def sp_Form_sorts (C : Addr) : Sp := fun vs H Q _ => ∃ (p : Addr) (st : Int) (qs : DI), vs = [.ref p] ∧ FormAt C H p st qs ∧ FormOk qs ∧
  ∀ (L : List (Addr × List Int)) (l : Addr), (L.map (·.2)).Perm (qs.map (·.1)) → L.Pairwise (fun q r => TS.code 3 q.2 ≤ TS.code 3 r.2) → (∀ q ∈ L, H q.1 = some (.tup (q.2.map V.int))) → H l = none → Q (.ref l) (upd H l (.lst (L.map fun q => V.ref q.1)))
def eqForm (C : Addr) (a b : Addr) (H : Hp) : Prop := ∃ st qs rs, FormAt C H a st qs ∧ FormAt C H b st rs ∧ DTx.sameD (enc qs) (enc rs) = true
/-- what the fewest counts above are -/
def Fa (st : Int) (qs : DI) : Option DI → Prop
  | none => st < 1 ∧ ∀ p ∈ qs, p.2 ≤ 0
  | some r => (1 ≤ st ∧ r = []) ∨ (st < 1 ∧ ∃ k s, r = [(k, (s - st) / s)] ∧ (k, s) ∈ qs ∧ 0 < s ∧ (∀ p ∈ qs, p.2 ≤ s) ∧ ∀ p ∈ qs, p.2 = s → TS.code 3 k ≤ TS.code 3 p.1)
theorem fa_one {st : Int} {qs : DI} (ok : FormOk qs) {r r' : Option DI} (h : Fa st qs r) (h' : Fa st qs r') : r = r' := by
  cases r with
  | none => cases r' with
    | none => rfl
    | some b =>
      rcases h' with ⟨h1, _⟩ | ⟨_, k, s, _, hm, hs, _⟩
      · exact absurd h.1 (by omega)
      · have := h.2 _ hm
        exact absurd this (by show ¬ s ≤ 0; omega)
  | some a => cases r' with
    | none =>
      rcases h with ⟨h1, _⟩ | ⟨_, k, s, _, hm, hs, _⟩
      · exact absurd h'.1 (by omega)
      · have := h'.2 _ hm
        exact absurd this (by show ¬ s ≤ 0; omega)
    | some b =>
      rcases h with ⟨h1, rfl⟩ | ⟨h1, k, s, rfl, hm, hs, hx, hl⟩
      · rcases h' with ⟨_, rfl⟩ | ⟨h2, _⟩
        · rfl
        · omega
      · rcases h' with ⟨h2, _⟩ | ⟨_, k', s', rfl, hm', hs', hx', hl'⟩
        · omega
        · have e1 : s ≤ s' := hx' _ hm
          have e2 : s' ≤ s := hx _ hm'
          have e : s = s' := by omega
          subst e
          have c1 := hl _ hm' rfl
          have c2 := hl' _ hm rfl
          have : k = k' := code_inj (B := 3) (by decide) ((ok.s3 _ hm).1.trans (ok.s3 _ hm').1.symm) (ok.s3 _ hm).2 (ok.s3 _ hm').2 (Int.le_antisymm c1 c2)
          rw [this]
def sp_fewest_above (C : Addr) : Sp := fun vs H Q _ => ∃ (p : Addr) (st : Int) (qs : DI), vs = [.ref p] ∧ FormAt C H p st qs ∧ FormOk qs ∧ -100000 ≤ st ∧ (∀ q ∈ qs, -100000 ≤ q.2 ∧ q.2 ≤ 100000) ∧
  (∀ H', Same H H' → Fa st qs none → Q .non H') ∧ ∀ r d H', Same H H' → H d = none → H' d = some (.dT (enc r)) → Fa st qs (some r) → Q (.ref d) H'
section
variable {P : Program} {w : World} {K : PySem.W.Frag} {mg : Str → Option Value} {base : Heap} {Z : Ad}
theorem dget_enc {H : Hp} {d b : Addr} {ps : DI} {k : List Int} (hd : Rd H d (.dT (enc ps))) (hb : H b = some (.tup (k.map V.int))) : DGet H d (.ref b) ((getI ps k).map V.int) :=
  .inr ⟨enc ps, ek k, b, hd, rfl, by rw [ek_kV]; exact hb, (val_enc ps k).symm⟩
theorem dget_some {H : Hp} {d b : Addr} {ps : DI} {k : List Int} {v : Int} (hd : Rd H d (.dT (enc ps))) (hb : H b = some (.tup (k.map V.int))) (hv : getI ps k = some v) : DGet H d (.ref b) (some (.int v)) := by
  have := dget_enc hd hb
  rw [hv] at this
  exact this
theorem flds_put (st : Int) (d : Addr) : putF "steps" (.ref d) (putF "start" (.int st) []) = fldsF st d := by
  rw [show putF "start" (V.int st) [] = [(("start" : Str), V.int st)] from rfl]
  show (if ("start" : Str) = "steps" then _ else (("start" : Str), V.int st) :: putF "steps" (V.ref d) []) = _
  rw [if_neg (by decide +kernel)]
  rfl
theorem inl_key {k : List Key} {ps : DI} {i : Nat} {v : V} (h : (enc ps)[i]? = some (k, v)) : ∃ ns z, ps[i]? = some (ns, z) ∧ k = ek ns ∧ v = .int z := by
  unfold enc at h
  rw [List.getElem?_map] at h
  obtain ⟨p, hp, e⟩ := Option.map_eq_some_iff.mp h
  exact ⟨p.1, p.2, hp, (Prod.mk.inj e).1.symm, (Prod.mk.inj e).2.symm⟩
theorem filt_succ {ps : DI} {i : Nat} {p : List Int × Int} (h : ps[i]? = some p) : nz (ps.take (i + 1)) = nz (ps.take i) ++ nz [p] := by
  obtain ⟨hl, e⟩ := List.getElem?_eq_some_iff.mp h
  rw [List.take_succ_eq_append_getElem hl, e, nz, List.filter_append]
  rfl
theorem ok_Form_init (T : Txt K mg Z) : FnOk P w K mg base CX0 1 Z.a_Form_init Z.d_Form_init ["self", "start", "steps"] (sp_Form_init Z.c_Form) := by
  refine T.F_Form_init.ok sc_Form_init (fun vs H Q E h => ?_) (fun cdv A outer s H vs Q E hr h => ?_)
  · obtain ⟨p, dx, d, st, ps, rfl, _⟩ := h
    rfl
  · obtain ⟨p, dx, d, st, ps, rfl, hp, hd, hnd, hsz, q⟩ := h
    have nd := sc_Form_init.nd
    have hu := hu_of hr
    have cF := T.cl_Form
    have n1 := T.n_Form_start
    have n2 := T.n_Form_steps
    have hdp : d ≠ p := ne_of hd hp (fun z => nomatch z)
    refine ⟨_, (pss_cons (ps_fld (pv 0) (pv 1) rfl)
  (pss_one (ps_fld (pv 0) (pe_lock (DTx.pe_dcT (own := [("sort", 3)]) (Nat.lt_of_succ_lt hu) rfl nd (pi_keys (pv 2)) (blkOk_by (N := N_Form_init) (sc := defScope s_Form_init) (by decide +kernel)) (fun _ _ _ _ _ => (pg_name (i := 3) nd rfl (Or.inl rfl))) (fun _ _ _ _ _ => (Eg.ptsE (pts_one (pt_cmpR op_ne (pe_dget hu (pv 2) (pv 3) (fun _ _ => rfl)) pe_int (nomark _))) (by walk_at "blk"))) (fun _ _ _ _ _ => (Eg.peE (pv 3) (by walk_at "blk"))) (fun _ _ _ _ _ => (Eg.peE (pe_dget hu (pv 2) (pv 3) (fun _ _ => rfl)) (by walk_at "blk"))))) rfl))), ?_⟩
    refine Eg.w_sig (σ := [some (.ref p), some (.int st), some (.ref d), none]) rfl ?_
    walk_at "go"
    refine ⟨d, _, Eg.upd_mut hdp hd, trivial, fun od => ?_⟩
    walk_at "go"
    refine Eg.c_iKT upd_same ?_
    walk_at "go"
    intro D hD
    have hpD : p ≠ D := fun e => by rw [e, upd_ne (by rintro rfl; rw [← e] at hdp; exact hdp rfl), ← e, upd_same] at hD; cases hD
    have hdD : d ≠ D := fun e => by rw [e, upd_same] at hD; cases hD
    refine DTx.dt_it walk_keysT (fun i H' => H' d = some (.frz od (.dT (enc ps))) ∧ H' D = some (.dT (enc (nz (ps.take i)))) ∧ H' p = some (.ins Z.c_Form dx (putF "start" (.int st) [])) ∧ ∀ b o, H b = some o → b ≠ p → b ≠ d → H' b = some o) ?_ (fun i H' _ h => h.1) ?_ ?_
    · refine ⟨Eg.upd_mut hdD upd_same, upd_same, Eg.upd_mut hpD (Eg.upd_mut hdp.symm upd_same), fun b o e h1 h2 => ?_⟩
      refine Eg.upd_old ?_ hD
      exact Eg.upd_mut h2 (Eg.upd_mut h1 e)
    · rintro i x H1 _ hi ⟨h1, h2, h3, fr⟩ ⟨rfl, k, v, t, hk, rfl, ht⟩
      obtain ⟨ns, z, hps, rfl, rfl⟩ := inl_key hk
      rw [ek_kV] at ht
      have gz : getI ps ns = some z := getI_mem hnd (List.mem_of_getElem? hps)
      have dg := dget_some (.inr ⟨od, h1⟩) ht gz
      walk_at "go"
      refine ⟨d, _, rfl, dg, ?_⟩
      walk_at "go"
      refine Eg.brDn (fun hne => ?_) (fun he => ?_)
      · walk_at "go"
        refine ⟨d, _, rfl, dg, ?_⟩
        have zne : ¬ z = 0 := fun e => hne (by rw [e])
        refine ⟨_, ek ns, t, rfl, by rw [ek_kV]; exact ht, h2, ?_, Eg.upd_mut hdD h1, ?_, Eg.upd_mut hpD h3, fun b o e e1 e2 => Eg.upd_mut ?_ (fr b o e e1 e2)⟩
        · unfold enc nz
          rw [List.length_map]
          have l1 := List.length_filter_le (fun p : List Int × Int => decide (p.2 ≠ 0)) (ps.take i)
          rw [List.length_take] at l1
          rw [sizeLine_eq]
          omega
        · rw [upd_same, put_enc, filt_succ hps, putI_new]
          · simp [nz, zne]
          · intro hm
            obtain ⟨y, hy, ey⟩ := List.mem_map.mp hm
            have hy2 := nz_sub hy
            obtain ⟨j, hj⟩ := List.mem_iff_getElem?.mp hy2
            rw [List.getElem?_take] at hj
            split at hj
            · have hj1 : (ps.map (·.1))[j]? = some ns := by rw [List.getElem?_map, hj]; simp [ey]
              have hi1 : (ps.map (·.1))[i]? = some ns := by rw [List.getElem?_map, hps]; rfl
              have := nd_ix hnd hj1 hi1
              omega
            · cases hj
        · rintro rfl
          rw [upd_ne (Ne.symm hdD), upd_ne e1] at hD
          rw [e] at hD
          cases hD
      · walk_at "go"
        have z0 : z = 0 := V.int.inj he
        refine ⟨h1, ?_, h3, fr⟩
        rw [h2, filt_succ hps, z0]
        simp [nz]
    · rintro H1 ⟨h1, h2, h3, fr⟩
      refine ⟨h1, ?_⟩
      walk_at "go"
      refine q _ ⟨dx, D, ?_, ?_⟩ fun b o e e1 => ?_
      · rw [upd_same, flds_put]
      · refine Eg.upd_mut hpD.symm (Eg.upd_mut hdD.symm ?_)
        rw [h2]
        unfold enc
        rw [List.length_map, List.take_length]
      · refine Eg.upd_mut e1 ?_
        by_cases e2 : b = d
        · rw [e2, upd_same]
          rw [e2, hd] at e
          exact e
        · exact Eg.upd_mut e2 (fr b o e e1 e2)
theorem ok_Form_sorts (T : Txt K mg Z) : FnOk P w K mg base CX0 1 Z.a_Form_sorts Z.d_Form_sorts ["self"] (sp_Form_sorts Z.c_Form) := by
  refine T.F_Form_sorts.ok sc_Form_sorts (fun vs H Q E h => ?_) (fun cdv A outer s H vs Q E hr h => ?_)
  · obtain ⟨p, st, qs, rfl, _⟩ := h
    rfl
  · obtain ⟨p, st, qs, rfl, ⟨dx, d, hp, hd⟩, ok, q⟩ := h
    have cF := T.cl_Form
    have n2 := T.n_Form_steps
    have lk2 := lk_steps st d
    refine ⟨_, (pss_one (ps_ret (pe_callB (DTx.cr_sortedD rfl) (by rfl) T.u_sorted (by decide +kernel) (pa_cons (pe_fld (pv 0) rfl) pa_nil)))), ?_⟩
    refine Eg.w_sig (σ := [some (.ref p)]) rfl ?_
    walk_at "go"
    have e : enc qs = (qs.map fun y => (y.1, V.int y.2)).map fun y => (y.1.map Sum.inl, y.2) := by
      rw [List.map_map]
      rfl
    rw [e] at hd
    refine ⟨d, qs.map fun y => (y.1, V.int y.2), 3, 3, rfl, .inl hd, ?_, by decide, fun y hy => ?_, fun L l h1 h2 h3 h4 => ?_⟩
    · rw [List.length_map]
      have := ok.sz
      omega
    · obtain ⟨z, hz, rfl⟩ := List.mem_map.mp hy
      exact ok.s3 z hz
    · walk_at "go"
      rw [List.map_map] at h1
      exact q L l h1 h2 h3 h4
theorem ok_Form_eq (T : Txt K mg Z) : FnOk P w K mg base CX0 1 Z.a_Form_eq Z.d_Form_eq ["self", "other"] (spEq (eqForm Z.c_Form)) := by
  refine T.F_Form_eq.ok sc_Form_eq (fun vs H Q E h => ?_) (fun cdv A outer s H vs Q E hr h => ?_)
  · obtain ⟨a, b, rfl, _⟩ := h
    rfl
  · obtain ⟨a, b, rfl, ⟨st, qs, rs, ⟨dx, d, ha, hd⟩, ⟨dy, e, hb, he⟩, hs⟩, q⟩ := h
    have hu := hu_of hr
    have cF := T.cl_Form
    have n1 := T.n_Form_start
    have n2 := T.n_Form_steps
    have lk1 := lk_start st d
    have lk2 := lk_steps st d
    have lk3 := lk_start st e
    have lk4 := lk_steps st e
    refine ⟨_, (pss_one (ps_ret (pe_and (pe_callB call_isi (by rfl) T.u_isinstance (by decide +kernel) (pa_cons (pv 1) (pa_cons (pe_glob (v := .ref Z.c_Form) (by rfl) T.g_Form rfl) pa_nil))) (pe_and (pe_cmpR op_eq (pe_fld (pv 0) rfl) (pe_fld (pv 1) rfl) (nomark _)) (pe_one (pe_cmpR (DTx.op_eqT hu) (pe_fld (pv 0) rfl) (pe_fld (pv 1) rfl) (nomark _))))))), ?_⟩
    refine Eg.w_sig (σ := [some (.ref a), some (.ref b)]) rfl ?_
    walk_at "go"
    refine Eg.c_isi (.own _) (.base (T.i_Form hb)) (b := true) (by unfold PySem.W.kitOne; rw [if_pos (beq_self_eq_true _)]) ?_
    walk_at "go"
    rw [decide_eq_true (show V.int st = V.int st from rfl)]
    walk_at "go"
    refine ⟨d, e, enc qs, enc rs, rfl, rfl, .inl hd, .inl he, enc_int _, enc_int _, ?_⟩
    walk_at "go"
    rw [if_neg Bool.false_ne_true, hs]
    exact q H Ext.rfl'
/-- the least best key among those that were seen -/
def Best (qs : DI) (done : List (Addr × List Int)) : V → Prop
  | .non => ∀ y ∈ done, ∀ s, getI qs y.2 = some s → s ≤ 0
  | .ref t => ∃ k s, (t, k) ∈ done ∧ getI qs k = some s ∧ 0 < s ∧ ∀ y ∈ done, ∀ z, getI qs y.2 = some z → z ≤ s ∧ (z = s → TS.code 3 k ≤ TS.code 3 y.2)
  | _ => False
theorem ok_fewest_above (T : Txt K mg Z) : FnOk P w K mg base CX0 2 Z.a_fewest_above Z.d_fewest_above ["form"] (sp_fewest_above Z.c_Form) := by
  refine T.F_fewest_above.ok sc_fewest_above (fun vs H Q E h => ?_) (fun cdv A outer s H vs Q E hr h => ?_)
  · obtain ⟨p, st, qs, rfl, _⟩ := h
    rfl
  · obtain ⟨p, st, qs, rfl, ⟨dx, d, hp, hd⟩, ok, hst, hqs, qN, qD⟩ := h
    have hu := hu_of hr
    have nd := sc_fewest_above.nd
    have cF := T.cl_Form
    have n1 := T.n_Form_start
    have n2 := T.n_Form_steps
    have lk1 := lk_start st d
    have lk2 := lk_steps st d
    have lk3 := lk_sorts st d
    refine ⟨_, (pss_cons (ps_if (pt_cmpR op_ge (pe_fld (pv 0) rfl) pe_int (nomark _))
  (pss_one (ps_ret pe_dnewT))
  pss_nil)
  (pss_cons (ps_set (i := 1) nd rfl (Or.inl rfl) pe_non)
  (pss_cons (ps_for PassesOwn.never rfl (pi_list (pe_meth0 (pv 0) T.cl_Form T.m_Form_sorts (ok_Form_sorts T) (hr.mono (by decide)) T.b_Form_sorts .nil pass0)) (pg_name (i := 2) nd rfl (Or.inl rfl))
  (pss_one (ps_if (PW.pt (pw_and (pt_cmpR op_gt (pe_dget hu (pe_fld (pv 0) rfl) (pv 2) (fun _ _ => rfl)) pe_int (nomark _)) (pw_and1 (PW.pt (pw_or (pt_cmpR Eg.opr_isN (pv 1) pe_non (nomark _)) (pw_or1 (pt_cmpR op_gt (pe_dget hu (pe_fld (pv 0) rfl) (pv 2) (fun _ _ => rfl)) (pe_dget hu (pe_fld (pv 0) rfl) (pv 1) (fun _ _ => rfl)) (nomark _))))))))
  (pss_one (ps_set (i := 1) nd rfl (Or.inl rfl) (pv 2)))
  pss_nil)))
  (pss_cons (ps_if (pt_cmpR Eg.opr_isN (pv 1) pe_non (nomark _))
  (pss_one (ps_ret pe_non))
  pss_nil)
  (pss_one (ps_ret (DTx.pe_one_pair (Nat.lt_of_succ_lt hu) (pv 1) (pe_op op_fdiv (pe_op op_sub (pe_dget hu (pe_fld (pv 0) rfl) (pv 1) (fun _ _ => rfl)) (pe_fld (pv 0) rfl)) (pe_dget hu (pe_fld (pv 0) rfl) (pv 1) (fun _ _ => rfl)))))))))), ?_⟩
    refine Eg.w_sig (σ := [some (.ref p), none, none]) rfl ?_
    walk_at "go"
    refine Eg.brD (fun h1 => ?_) (fun h1 => ?_)
    · walk_at "go"
      intro l hl
      walk_at "go"
      exact qD [] l _ (Eg.same_new (Same.refl _) hl) hl upd_same (.inl ⟨h1, rfl⟩)
    walk_at "go"
    refine ⟨p, st, qs, rfl, ⟨dx, d, hp, hd⟩, ok, fun L l pm pw hL hl => ?_⟩
    have sm : Same H (upd H l (.lst (L.map fun q => V.ref q.1))) := Eg.same_new (Same.refl _) hl
    have inq : ∀ y ∈ L, ∃ z, getI qs y.2 = some z ∧ (y.2, z) ∈ qs := fun y hy => by
      obtain ⟨x, hx, e⟩ := List.mem_map.mp (pm.mem_iff.mp (List.mem_map.mpr ⟨y, hy, rfl⟩))
      exact ⟨x.2, by rw [← e]; exact getI_mem ok.nd hx, by rw [← e]; exact hx⟩
    walk_at "go"
    refine for_list (xs := L.map fun q => V.ref q.1) (fun i σ' H' => ∃ b v, σ' = [some (.ref p), some b, v] ∧ upd H l (.lst (L.map fun q => V.ref q.1)) = H' ∧ Best qs (L.take i) b) ⟨.non, none, rfl, rfl, fun y hy => nomatch hy⟩ ?_ ?_ ?_
    · rintro i _ _ _ ⟨b, v, rfl, rfl, _⟩
      exact SqL.of upd_same
    · rintro i x _ _ hx ⟨b, v, rfl, rfl, hb⟩
      rw [List.getElem?_map] at hx
      obtain ⟨y, hy, rfl⟩ := Option.map_eq_some_iff.mp hx
      have ym := List.mem_of_getElem? hy
      obtain ⟨z, gz, _⟩ := inq y ym
      have dg := dget_some (.inl (sm _ _ hd)) (sm _ _ (hL y ym)) gz
      have tk : L.take (i + 1) = L.take i ++ [y] := by
        obtain ⟨hi, e⟩ := List.getElem?_eq_some_iff.mp hy
        rw [List.take_succ_eq_append_getElem hi, e]
      have le : ∀ x ∈ L.take i, TS.code 3 x.2 ≤ TS.code 3 y.2 := fun x hx => by
        have pw2 : (L.take (i + 1)).Pairwise (fun q r => TS.code 3 q.2 ≤ TS.code 3 r.2) := pw.sublist (List.take_sublist _ _)
        rw [tk] at pw2
        exact (List.pairwise_append.mp pw2).2.2 x hx y (by simp)
      walk_at "go"
      refine ⟨d, _, rfl, dg, ?_⟩
      walk_at "go"
      refine Eg.brD (fun hz => ?_) (fun hz => ?_)
      · walk_at "go"
        cases b with
        | non =>
          rw [decide_eq_true (show V.non = V.non from rfl)]
          walk_at "go"
          refine ⟨.ref y.1, _, rfl, rfl, y.2, z, by rw [tk]; simp, gz, hz, fun x hx z' gz' => ?_⟩
          rw [tk] at hx
          rcases List.mem_append.mp hx with hx | hx
          · have := hb x hx z' gz'
            exact ⟨by omega, fun e => by omega⟩
          · rw [List.mem_singleton.mp hx] at gz' ⊢
            rw [gz] at gz'
            have : z = z' := Option.some.inj gz'
            exact ⟨by omega, fun _ => Int.le_refl _⟩
        | ref t =>
          obtain ⟨k, sk, tm, gk, sp, hb⟩ := hb
          have tmL : (t, k) ∈ L := List.mem_of_mem_take tm
          have dk := dget_some (.inl (sm _ _ hd)) (sm _ _ (hL _ tmL)) gk
          rw [decide_eq_false (show ¬ V.ref t = V.non from fun z => nomatch z)]
          walk_at "go"
          refine ⟨d, _, rfl, dg, ?_⟩
          walk_at "go"
          refine ⟨d, _, rfl, dk, ?_⟩
          walk_at "go"
          refine Eg.brD (fun hlt => ?_) (fun hlt => ?_)
          · walk_at "go"
            refine ⟨.ref y.1, _, rfl, rfl, y.2, z, by rw [tk]; simp, gz, hz, fun x hx z' gz' => ?_⟩
            rw [tk] at hx
            rcases List.mem_append.mp hx with hx | hx
            · have := hb x hx z' gz'
              exact ⟨by omega, fun e => by omega⟩
            · rw [List.mem_singleton.mp hx] at gz' ⊢
              rw [gz] at gz'
              have : z = z' := Option.some.inj gz'
              exact ⟨by omega, fun _ => Int.le_refl _⟩
          · walk_at "go"
            refine ⟨.ref t, _, rfl, rfl, k, sk, by rw [tk]; exact List.mem_append_left _ tm, gk, sp, fun x hx z' gz' => ?_⟩
            rw [tk] at hx
            rcases List.mem_append.mp hx with hx | hx
            · exact hb x hx z' gz'
            · rw [List.mem_singleton.mp hx] at gz' ⊢
              rw [gz] at gz'
              have : z = z' := Option.some.inj gz'
              exact ⟨by omega, fun _ => le _ tm⟩
        | _ => exact hb.elim
      · walk_at "go"
        refine ⟨b, _, rfl, rfl, ?_⟩
        cases b with
        | non =>
          intro x hx z' gz'
          rw [tk] at hx
          rcases List.mem_append.mp hx with hx | hx
          · exact hb x hx z' gz'
          · rw [List.mem_singleton.mp hx, gz] at gz'
            have : z = z' := Option.some.inj gz'
            omega
        | ref t =>
          obtain ⟨k, sk, tm, gk, sp, hb⟩ := hb
          refine ⟨k, sk, by rw [tk]; exact List.mem_append_left _ tm, gk, sp, fun x hx z' gz' => ?_⟩
          rw [tk] at hx
          rcases List.mem_append.mp hx with hx | hx
          · exact hb x hx z' gz'
          · rw [List.mem_singleton.mp hx, gz] at gz'
            have : z = z' := Option.some.inj gz'
            exact ⟨by omega, fun e => by omega⟩
        | _ => exact hb.elim
    · rintro _ _ ⟨b, v, rfl, rfl, hb⟩
      rw [List.length_map, List.take_length] at hb
      have qin : ∀ x ∈ qs, ∃ y ∈ L, y.2 = x.1 := fun x hx => by
        obtain ⟨y, hy, e⟩ := List.mem_map.mp (pm.mem_iff.mpr (List.mem_map.mpr ⟨x, hx, rfl⟩))
        exact ⟨y, hy, e⟩
      walk_at "go"
      cases b with
      | non =>
        rw [decide_eq_true (show V.non = V.non from rfl)]
        walk_at "go"
        refine qN _ sm ⟨by omega, fun x hx => ?_⟩
        obtain ⟨y, hy, e⟩ := qin x hx
        exact hb y hy x.2 (by rw [e]; exact getI_mem ok.nd hx)
      | ref t =>
        obtain ⟨k, sk, tm, gk, sp, hb⟩ := hb
        have hk := hqs _ (mem_getI gk)
        have hk1 : -100000 ≤ sk ∧ sk ≤ 100000 := hk
        rw [decide_eq_false (show ¬ V.ref t = V.non from fun z => nomatch z)]
        walk_at "go"
        intro r hrn
        have sm2 := Eg.same_new (o1 := .dT []) sm hrn
        have dk := dget_some (.inl (sm2 _ _ hd)) (sm2 _ _ (hL _ tm)) gk
        walk_at "go"
        refine ⟨d, _, rfl, dk, ?_⟩
        walk_at "go"
        refine ⟨d, _, rfl, dk, ?_⟩
        walk_at "go"
        refine ⟨upd_same, ek k, t, rfl, by rw [ek_kV]; exact sm2 _ _ (hL _ tm), ?_⟩
        walk_at "go"
        refine qD [(k, (sk - st) / sk)] r _ (Eg.same_mut sm2 (sm.free hrn)) (sm.free hrn) upd_same (.inr ⟨by omega, k, sk, rfl, mem_getI gk, sp, fun x hx => ?_, fun x hx e => ?_⟩)
        · obtain ⟨y, hy, ey⟩ := qin x hx
          exact (hb y hy x.2 (by rw [ey]; exact getI_mem ok.nd hx)).1
        · obtain ⟨y, hy, ey⟩ := qin x hx
          have := (hb y hy x.2 (by rw [ey]; exact getI_mem ok.nd hx)).2 e
          rw [ey] at this
          exact this
      | _ => exact hb.elim
end
end LW

namespace LW
open PySem L2 Sm
def sp_law (K : PySem.W.Frag) : Sp := fun vs H Q _ => ∃ (a : Addr) (ns : List Int), vs = [.ref a] ∧ SqL K H a (ns.map V.int) ∧ ns.length ≤ 63 ∧ ∀ H', Q (.bl true) H'
section
variable {P : Program} {w : World} {K : PySem.W.Frag} {mg : Str → Option Value} {base : Heap} {Z : Ad}
set_option maxHeartbeats 8000000 in
theorem ok_law (T : Txt K mg Z) : FnOk P w K mg base CX0 4 Z.a_law Z.d_law ["_law_script"] (sp_law K) := by
  refine T.F_law.ok sc_law (fun vs H Q E h => ?_) (fun cdv A outer s H0 vs Q E hr h => ?_)
  · obtain ⟨a, ns, rfl, _⟩ := h
    rfl
  · obtain ⟨a, sc, rfl, hS, hlen, q⟩ := h
    have nd := sc_law.nd
    have hu := hu_of hr
    refine ⟨_, (pss_cons (ps_for PassesOwn.never rfl (pi_range1 (by rfl) T.u_range (pa_cons (pe_callB (Eg.cr_max2 rfl) (by rfl) T.u_max (by decide +kernel) (pa_cons pe_int (pa_cons (pe_callB (Eg.cr_min2 rfl) (by rfl) T.u_min (by decide +kernel) (pa_cons pe_int (pa_cons (pe_callB Eg.cr_len (by rfl) T.u_len (by decide +kernel) (pa_cons (pv 0) pa_nil)) pa_nil))) pa_nil))) pa_nil)) (pg_name (i := 1) nd rfl (Or.inl rfl))
  (pss_cons (ps_set (i := 2) nd rfl (Or.inr rfl) (pe_call (ok_l_bag T) (hr.mono (by decide)) (by rfl) T.g_l_bag T.F_l_bag.kp T.b_l_bag .nil pass0 (pa_cons (pv 0) (pa_cons (pv 1) pa_nil))))
  (pss_cons (ps_set (i := 3) nd rfl (Or.inl rfl) (pe_call (ok_l_sorts T) (hr.mono (by decide)) (by rfl) T.g_l_sorts T.F_l_sorts.kp T.b_l_sorts .nil pass0 (pa_cons (pv 2) (pa_cons (pe_call (ok_l_take T) (hr.mono (by decide)) (by rfl) T.g_l_take T.F_l_take.kp T.b_l_take .nil pass0 (pa_cons (pv 2) (pa_cons pe_int pa_nil))) pa_nil))))
  (C8.pss_cut (ps_if (pt_cmpR op_eq (pe_call (ok_l_take T) (hr.mono (by decide)) (by rfl) T.g_l_take T.F_l_take.kp T.b_l_take .nil pass0 (pa_cons (pv 2) (pa_cons pe_int pa_nil))) pe_int (nomark _))
  (pss_one (ps_par (i := 5) (j := 6) (by rfl) nd rfl rfl (by decide) rfl rfl (pa_cons (pe_op op_sub (pe_call (ok_l_take T) (hr.mono (by decide)) (by rfl) T.g_l_take T.F_l_take.kp T.b_l_take .nil pass0 (pa_cons (pv 2) (pa_cons pe_int pa_nil))) pe_int) (pa_cons (pe_lc (own := [("_law_sort", 4)]) rfl nd (pi_list (pv 3)) (blkOk_by (N := N_law) (sc := defScope s_law) (by decide +kernel)) (fun _ _ _ _ _ => (pg_name (i := 4) nd rfl (Or.inl rfl))) (fun _ _ _ _ _ => pts_nil) (fun _ _ _ _ _ => (Eg.peE (pe_op op_sub (pe_call (ok_l_take T) (hr.mono (by decide)) (by rfl) T.g_l_take T.F_l_take.kp T.b_l_take .nil pass0 (pa_cons (pv 2) (pa_cons pe_int pa_nil))) pe_int) (by walk_at "blk")))) pa_nil)) (by rfl)))
  (pss_one (ps_par (i := 5) (j := 6) (by rfl) nd rfl rfl (by decide) rfl rfl (pa_cons (pe_op op_sub (pe_call (ok_l_take T) (hr.mono (by decide)) (by rfl) T.g_l_take T.F_l_take.kp T.b_l_take .nil pass0 (pa_cons (pv 2) (pa_cons pe_int pa_nil))) pe_int) (pa_cons (pe_lc (own := [("_law_sort", 4)]) rfl nd (pi_list (pv 3)) (blkOk_by (N := N_law) (sc := defScope s_law) (by decide +kernel)) (fun _ _ _ _ _ => (pg_name (i := 4) nd rfl (Or.inl rfl))) (fun _ _ _ _ _ => pts_nil) (fun _ _ _ _ _ => (Eg.peE (pe_op op_sub (pe_call (ok_l_take T) (hr.mono (by decide)) (by rfl) T.g_l_take T.F_l_take.kp T.b_l_take .nil pass0 (pa_cons (pv 2) (pa_cons pe_int pa_nil))) pe_int) (by walk_at "blk")))) pa_nil)) (by rfl))))
  (C8.pss_cut (ps_if (pt_cmpR op_eq (pe_call (ok_l_take T) (hr.mono (by decide)) (by rfl) T.g_l_take T.F_l_take.kp T.b_l_take .nil pass0 (pa_cons (pv 2) (pa_cons pe_int pa_nil))) pe_int (nomark _))
  (pss_one (ps_setLc (i := 6) (own := [("_law_step", 13)]) rfl nd rfl rfl (sw_true rfl rfl rfl (by decide +kernel)) (pi_list (pv 6)) (blkOk_by (N := N_law) (sc := defScope s_law) (by decide +kernel)) (fun _ _ _ _ _ => (pg_name (i := 13) nd rfl (Or.inl rfl))) (fun _ _ _ _ _ => pts_nil) (fun _ _ _ _ _ => (Eg.peE (pe_un un_neg (pe_callB Eg.cr_abs (by rfl) T.u_abs (by decide +kernel) (pa_cons (pv 13) pa_nil))) (by walk_at "blk")))))
  pss_nil)
  (pss_cons (ps_set (i := 7) nd rfl (Or.inr rfl) (pe_call (ok_l_steps_of T) (hr.mono (by decide)) (by rfl) T.g_l_steps_of T.F_l_steps_of.kp T.b_l_steps_of .nil pass0 (pa_cons (pv 3) (pa_cons (pv 6) pa_nil))))
  (pss_cons (ps_set (i := 8) nd rfl (Or.inl rfl) (pe_make T.mk_Form (ok_Form_init T) (hr.mono (by decide)) (by rfl) T.g_Form T.b_Form_init .nil pass0 (pa_cons (pv 5) (pa_cons (pv 7) pa_nil))))
  (pss_cons (ps_asg (pe_tup (pa_cons (pe_call (ok_fewest_above T) (hr.mono (by decide)) (by rfl) T.g_fewest_above T.F_fewest_above.kp T.b_fewest_above .nil pass0 (pa_cons (pv 8) pa_nil)) (pa_cons (pe_callB (cr_max rfl) (by rfl) T.u_max (by decide +kernel) (pa_cons (pe_op op_cat (pe_lst (pa_cons pe_int pa_nil)) (pv 6)) pa_nil)) pa_nil))) (pg_tup (by rfl) (pgs_cons (pg_name (i := 9) nd rfl (Or.inr rfl)) (pgs_cons (pg_name (i := 10) nd rfl (Or.inl rfl)) pgs_nil))))
  (pss_cons (ps_if (PW.pt (pw_and (pt_cmpR op_lt (pv 5) pe_int (nomark _)) (pw_and1 (pt_cmpR op_eq (pv 10) pe_int (nomark _)))))
  (pss_cons (ps_if (pt_cmpR Eg.opr_notN (pv 9) pe_non (nomark _))
  (pss_one (ps_ret pe_bl))
  pss_nil)
  (pss_one ps_continue))
  pss_nil)
  (pss_cons (ps_if (pt_not (pt_val (pe_callB call_isi (by rfl) T.u_isinstance (by decide +kernel) (pa_cons (pv 9) (pa_cons (pe_bltn (v := .ty "dict") (u := .type "dict") (by rfl) T.u_dict (by decide +kernel) rfl) pa_nil)))))
  (pss_one (ps_ret pe_bl))
  pss_nil)
  (pss_cons (ps_lock (ps_for PassesOwn.never rfl (pi_keys (pv 9)) (pg_name (i := 4) nd rfl (Or.inl rfl))
  (pss_one (ps_if (PW.pt (pw_or (pt_cmp (pc_dnotin hu (pv 4) (pv 7))) (pw_or (pt_not (pt_val (pe_call (ok_l_is_integer T) (hr.mono (by decide)) (by rfl) T.g_l_is_integer T.F_l_is_integer.kp T.b_l_is_integer .nil pass0 (pa_cons (pe_dget hu (pv 9) (pv 4) (fun _ _ => rfl)) pa_nil)))) (pw_or1 (pt_cmpR op_lt (pe_dget hu (pv 9) (pv 4) (fun _ _ => rfl)) pe_int (nomark _))))))
  (pss_one (ps_ret pe_bl))
  pss_nil))))
  (pss_cons (ps_set (i := 11) nd rfl (Or.inl rfl) (pe_callB (cr_sum rfl) (by rfl) T.u_sum (by decide +kernel) (pa_cons (pe_lock (pe_lc (own := [("_law_sort", 4)]) rfl nd (pi_keys (pv 9)) (blkOk_by (N := N_law) (sc := defScope s_law) (by decide +kernel)) (fun _ _ _ _ _ => (pg_name (i := 4) nd rfl (Or.inl rfl))) (fun _ _ _ _ _ => pts_nil) (fun _ _ _ _ _ => (Eg.peE (pe_dget hu (pv 9) (pv 4) (fun _ _ => rfl)) (by walk_at "blk"))))) pa_nil)))
  (pss_cons (ps_if (pt_cmpR op_lt (pe_op op_add (pv 5) (pe_callB (cr_sum rfl) (by rfl) T.u_sum (by decide +kernel) (pa_cons (pe_lock (pe_lc (own := [("_law_sort", 4)]) rfl nd (pi_keys (pv 9)) (blkOk_by (N := N_law) (sc := defScope s_law) (by decide +kernel)) (fun _ _ _ _ _ => (pg_name (i := 4) nd rfl (Or.inl rfl))) (fun _ _ _ _ _ => pts_nil) (fun _ _ _ _ _ => (Eg.peE (pe_op op_mul (pe_dget hu (pv 7) (pv 4) (fun _ _ => rfl)) (pe_dget hu (pv 9) (pv 4) (fun _ _ => rfl))) (by walk_at "blk"))))) pa_nil))) pe_int (nomark _))
  (pss_one (ps_ret pe_bl))
  pss_nil)
  (pss_cons (ps_if (PW.pt (pw_and (pt_cmpR op_ge (pe_op op_add (pv 5) (pe_op op_mul (pv 10) (pe_callB (Eg.cr_max2 rfl) (by rfl) T.u_max (by decide +kernel) (pa_cons pe_int (pa_cons (pe_op op_sub (pv 11) pe_int) pa_nil))))) pe_int (nomark _)) (pw_and1 (pt_cmpR op_gt (pv 11) pe_int (nomark _)))))
  (pss_one (ps_ret pe_bl))
  pss_nil)
  (C8.pss_cut (ps_if (PW.pt (pw_and (pt_cmpR op_ge (pv 5) pe_int (nomark _)) (pw_and1 (PW.pt (pw_or (pt_cmpR (DTx.op_neT hu) (pv 9) pe_dnewT (nomark _)) (pw_or1 (pt_cmpR op_ne (pv 11) pe_int (nomark _))))))))
  (pss_one (ps_ret pe_bl))
  pss_nil)
  (pss_cons (ps_set (i := 12) nd rfl (Or.inl rfl) (pe_call (ok_fewest_above T) (hr.mono (by decide)) (by rfl) T.g_fewest_above T.F_fewest_above.kp T.b_fewest_above .nil pass0 (pa_cons (pv 8) pa_nil)))
  (pss_cons (ps_dput hu (pv 9) (pe_tup (pa_cons pe_int (pa_cons pe_int (pa_cons pe_int pa_nil)))) pe_int rfl)
  (pss_one (ps_if (PW.pt (pw_or (pt_cmpR (DTx.op_neT hu) (pe_call (ok_fewest_above T) (hr.mono (by decide)) (by rfl) T.g_fewest_above T.F_fewest_above.kp T.b_fewest_above .nil pass0 (pa_cons (pv 8) pa_nil)) (pv 12) (nomark _)) (pw_or1 (pt_not (pt_cmpR (op_eqG (rcG_ins (ok_Form_eq T) T.m_Form_eq.at_ T.m_Form_eq.fn T.b_Form_eq pass0) (hr.mono (by decide))) (pv 8) (pe_make T.mk_Form (ok_Form_init T) (hr.mono (by decide)) (by rfl) T.g_Form T.b_Form_init .nil pass0 (pa_cons (pv 5) (pa_cons (pv 7) pa_nil))) (nomark _))))))
  (pss_one (ps_ret pe_bl))
  pss_nil)))))))))))))))))))
  (pss_one (ps_ret pe_bl))), ?_⟩
    refine Eg.w_sig (σ := [some (.ref a), none, none, none, none, none, none, none, none, none, none, none, none, none]) rfl ?_
    walk_at "go"
    refine for_range (lo := 0) (fun i σ' H' => ∃ v1 v2 v3 v4 v5 v6 v7 v8 v9 v10 v11 v12 v13, σ' = [some (.ref a), v1, v2, v3, v4, v5, v6, v7, v8, v9, v10, v11, v12, v13] ∧ Same H0 H') ⟨_, _, _, _, _, _, _, _, _, _, _, _, _, rfl, Same.refl _⟩ ?_ ?_
    rotate_left
    · rintro _ H1 ⟨v1, v2, v3, v4, v5, v6, v7, v8, v9, v10, v11, v12, v13, rfl, _⟩
      walk_at "go"
      exact q H1
    rintro i _ H1 hi ⟨v1, v2, v3, v4, v5, v6, v7, v8, v9, v10, v11, v12, v13, rfl, sm1⟩
    have hi4 : i < 4 := by
      split at hi <;> split at hi <;> omega
    walk_at "go"
    refine ⟨a, sc, 0 + (i : Int), rfl, sm1.seq hS, by omega, by omega, fun b H2 hb0 hb2 sm2 => ?_⟩
    walk_at "go"
    refine ⟨b, 0, 19, rfl, hb2, by decide, by decide, by decide, fun r H3 r0 r1 hb3 f3 => ?_⟩
    walk_at "go"
    refine ⟨b, 1, r, rfl, hb3, by decide, r0, by omega, fun p xs ks H4 hp0 hp4 tx4 hkl hknd hks hb4' fr34 => ?_⟩
    have hb4 : BagAt H4 b 20 := hb4'.to rfl (by decide)
    have hb0' : H0 b = none := sm1.free hb0
    have hnb : ∀ c o, H0 c = some o → c ≠ b := fun c o e => ne_of_none e hb0'
    have fr4 : ∀ c o, H0 c = some o → H4 c = some o := fun c o e => fr34 c o (by rw [f3 c (hnb c o e)]; exact sm2 _ _ (sm1 _ _ e)) (hnb c o e)
    have hpb : p ≠ b := by
      obtain ⟨bs, e⟩ := hb3.ob
      exact (ne_of_none e hp0).symm
    have hbo := hb4.ob
    have hk18 : ks.length ≤ 18 := by
      split at hkl <;> omega
    walk_at "go"
    -- the start and the steps
    refine ⟨fun σ' H' => ∃ (st : Int) (l : Addr) (ns : List Int) (v1 : Option V), -1000 ≤ st ∧ st ≤ 20 ∧ σ' = [some (.ref a), v1, some (.ref b), some (.ref p), v4, some (.int st), some (.ref l), v7, v8, v9, v10, v11, v12, v13] ∧ H' p = some (.lst xs) ∧ TupsAt H' xs ks ∧ BagAt H' b 100 ∧
      H' l = some (.lst (ns.map V.int)) ∧ ns.length = ks.length ∧ (∀ n ∈ ns, -1000 ≤ n ∧ n ≤ 1000) ∧ l ≠ p ∧ l ≠ b ∧ ∀ c o, H0 c = some o → H' c = some o, ?_, ?_⟩
    · walk_at "go"
      refine ⟨b, 20, 2, rfl, hb4, by decide, by decide, by decide, fun r2 H4b _ _ hb4b f4b => ?_⟩
      have h4p : H4b p = some (.lst xs) := by walk_at "hp"
      have tx4b := tx4.same (Eg.tup_frame f4b hbo.choose_spec)
      have hbob := hb4b.ob
      have fr4b : ∀ c o, H0 c = some o → H4b c = some o := fun c o e => by rw [f4b c (hnb c o e)]; exact fr4 c o e
      walk_at "go"
      rw [Eg.int_eq]
      refine Eg.brD (fun h2 => ?_) (fun h2 => ?_)
      · skip
        walk_at "go"
        refine ⟨b, 21, 1021, rfl, hb4b, by decide, by decide, by decide, fun st H5 s0 s1 hb5 f5 => ?_⟩
        walk_at "go"
        intro D hD
        have hDb : D ≠ b := by
          obtain ⟨xs, e⟩ := hb5.ob
          exact (ne_of_none e hD).symm
        have hDp : D ≠ p := (ne_of_none (Eg.frame_at f5 hpb h4p) hD).symm
        refine lc_list (xs := xs) (fun i H' => H' p = some (.lst xs) ∧ TupsAt H' xs ks ∧ BagAt H' b (22 + i) ∧ (∃ ns : List Int, H' D = some (.lst (ns.map V.int)) ∧ ns.length = i ∧ ∀ n ∈ ns, -1000 ≤ n ∧ n ≤ 1000) ∧ ∀ c o, H0 c = some o → H' c = some o) ?_ (fun i H' _ h => SqL.of h.1) ?_ ?_
        · refine ⟨by walk_at "hp", (tx4b.same (Eg.tup_frame f5 hbob.choose_spec)).same (Eg.tup_new hD), hb5.to (upd_ne hDb.symm) (by omega), ⟨[], upd_same, rfl, fun _ z => nomatch z⟩, fun c o e => Eg.upd_old (by rw [f5 c (hnb c o e)]; exact fr4b c o e) hD⟩
        · rintro i x H6 hx ⟨h6p, t6, b6, ⟨ns, h6D, nl, nb⟩, fr6⟩
          have hi : i < xs.length := (List.getElem?_eq_some_iff.mp hx).1
          have hi18 : xs.length ≤ 18 := by rw [tx4b.len]; exact hk18
          walk_at "go"
          refine ⟨b, 22 + i, 2001, rfl, b6, by omega, by decide, by decide, fun r H7 r0 r1 hb7 f7 => ?_⟩
          obtain ⟨bx, ebx⟩ := b6.ob
          walk_at "go"
          refine ⟨by walk_at "hp", (t6.same (Eg.tup_frame f7 ebx)).same (Eg.tup_upd (a := D) (xs := ns.map V.int) (Eg.frame_at f7 hDb h6D)), hb7.to (upd_ne hDb.symm) (by omega), ⟨ns ++ [r - 1000], by rw [upd_same]; simp, by simp [nl], fun n hn => ?_⟩, fun c o e => ?_⟩
          · rcases List.mem_append.mp hn with hn | hn
            · exact nb n hn
            · rw [List.mem_singleton.mp hn]
              omega
          · refine Eg.upd_mut ?_ (by rw [f7 c (hnb c o e)]; exact fr6 c o e)
            rintro rfl
            rw [f5 c (hnb c o e), fr4b c o e] at hD
            cases hD
        · rintro H6 ⟨h6p, t6, b6, ⟨ns, h6D, nl, nb⟩, fr6⟩
          walk_at "go"
          exact ⟨st - 1000, D, ns, _, by omega, by omega, rfl, h6p, t6, b6.to rfl (by have := tx4b.len; omega), h6D, by rw [nl, tx4b.len], nb, hDp, hDb, fr6⟩
      · skip
        walk_at "go"
        refine ⟨b, 21, 34, rfl, hb4b, by decide, by decide, by decide, fun st H5 s0 s1 hb5 f5 => ?_⟩
        walk_at "go"
        intro D hD
        have hDb : D ≠ b := by
          obtain ⟨xs, e⟩ := hb5.ob
          exact (ne_of_none e hD).symm
        have hDp : D ≠ p := (ne_of_none (Eg.frame_at f5 hpb h4p) hD).symm
        refine lc_list (xs := xs) (fun i H' => H' p = some (.lst xs) ∧ TupsAt H' xs ks ∧ BagAt H' b (22 + i) ∧ (∃ ns : List Int, H' D = some (.lst (ns.map V.int)) ∧ ns.length = i ∧ ∀ n ∈ ns, -1000 ≤ n ∧ n ≤ 1000) ∧ ∀ c o, H0 c = some o → H' c = some o) ?_ (fun i H' _ h => SqL.of h.1) ?_ ?_
        · refine ⟨by walk_at "hp", (tx4b.same (Eg.tup_frame f5 hbob.choose_spec)).same (Eg.tup_new hD), hb5.to (upd_ne hDb.symm) (by omega), ⟨[], upd_same, rfl, fun _ z => nomatch z⟩, fun c o e => Eg.upd_old (by rw [f5 c (hnb c o e)]; exact fr4b c o e) hD⟩
        · rintro i x H6 hx ⟨h6p, t6, b6, ⟨ns, h6D, nl, nb⟩, fr6⟩
          have hi : i < xs.length := (List.getElem?_eq_some_iff.mp hx).1
          have hi18 : xs.length ≤ 18 := by rw [tx4b.len]; exact hk18
          walk_at "go"
          refine ⟨b, 22 + i, 9, rfl, b6, by omega, by decide, by decide, fun r H7 r0 r1 hb7 f7 => ?_⟩
          obtain ⟨bx, ebx⟩ := b6.ob
          walk_at "go"
          refine ⟨by walk_at "hp", (t6.same (Eg.tup_frame f7 ebx)).same (Eg.tup_upd (a := D) (xs := ns.map V.int) (Eg.frame_at f7 hDb h6D)), hb7.to (upd_ne hDb.symm) (by omega), ⟨ns ++ [r - 4], by rw [upd_same]; simp, by simp [nl], fun n hn => ?_⟩, fun c o e => ?_⟩
          · rcases List.mem_append.mp hn with hn | hn
            · exact nb n hn
            · rw [List.mem_singleton.mp hn]
              omega
          · refine Eg.upd_mut ?_ (by rw [f7 c (hnb c o e)]; exact fr6 c o e)
            rintro rfl
            rw [f5 c (hnb c o e), fr4b c o e] at hD
            cases hD
        · rintro H6 ⟨h6p, t6, b6, ⟨ns, h6D, nl, nb⟩, fr6⟩
          walk_at "go"
          exact ⟨st - 30, D, ns, _, by omega, by omega, rfl, h6p, t6, b6.to rfl (by have := tx4b.len; omega), h6D, by rw [nl, tx4b.len], nb, hDp, hDb, fr6⟩
    rintro _ H6 ⟨st, l, ns, v1, hst1, hst2, rfl, h6p, tx6, hb6, h6l, hnl, hnb6, hlp, hlb, fr6⟩
    walk_at "go"
    -- the steps perhaps turned
    refine ⟨fun σ' H' => ∃ (l : Addr) (ns : List Int) (v1 v2 : Option V), σ' = [some (.ref a), v1, some (.ref b), some (.ref p), v2, some (.int st), some (.ref l), v7, v8, v9, v10, v11, v12, v13] ∧ H' p = some (.lst xs) ∧ TupsAt H' xs ks ∧
      H' l = some (.lst (ns.map V.int)) ∧ ns.length = ks.length ∧ (∀ n ∈ ns, -1000 ≤ n ∧ n ≤ 1000) ∧ ∀ c o, H0 c = some o → H' c = some o, ?_, ?_⟩
    · walk_at "go"
      refine ⟨b, 100, 4, rfl, hb6, by decide, by decide, by decide, fun r2 H7 _ _ hb7 f7 => ?_⟩
      obtain ⟨bx, ebx⟩ := hb6.ob
      have h7p : H7 p = some (.lst xs) := by walk_at "hp"
      have h7l : H7 l = some (.lst (ns.map V.int)) := by walk_at "hp"
      have tx7 := tx6.same (Eg.tup_frame f7 ebx)
      have fr7 : ∀ c o, H0 c = some o → H7 c = some o := fun c o e => by rw [f7 c (hnb c o e)]; exact fr6 c o e
      walk_at "go"
      rw [Eg.int_eq]
      refine Eg.brD (fun h2 => ?_) (fun h2 => ?_)
      · walk_at "go"
        intro D hD
        refine lc_list (xs := ns.map V.int) (fun i H' => Same H7 H' ∧ H' D = some (.lst (((ns.take i).map fun n => -(if n < 0 then -n else n)).map V.int))) ⟨Eg.same_new (Same.refl _) hD, upd_same⟩ (fun i H' _ h => SqL.of (h.1 _ _ h7l)) ?_ ?_
        · rintro i x H8 hx ⟨s8, h8D⟩
          rw [List.getElem?_map] at hx
          obtain ⟨n, hn, rfl⟩ := Option.map_eq_some_iff.mp hx
          have hi : i < ns.length := (List.getElem?_eq_some_iff.mp hn).1
          have tk : ns.take (i + 1) = ns.take i ++ [n] := by rw [List.take_succ_eq_append_getElem hi, (List.getElem?_eq_some_iff.mp hn).2]
          walk_at "go"
          refine ⟨_, h8D, ?_, Eg.same_mut s8 hD, ?_⟩
          · rw [List.length_map, List.length_map, List.length_take, sizeLine_eq]
            omega
          · rw [upd_same, tk]
            simp
        · rintro H8 ⟨s8, h8D⟩
          rw [List.length_map, List.take_length] at h8D
          walk_at "go"
          refine ⟨D, _, _, _, rfl, s8 _ _ h7p, tx7.same fun b ys e => s8 _ _ e, h8D, by rw [List.length_map, hnl], fun n hn => ?_, fun c o e => s8 _ _ (fr7 c o e)⟩
          obtain ⟨m, hm, rfl⟩ := List.mem_map.mp hn
          have := hnb6 m hm
          split <;> omega
      · walk_at "go"
        exact ⟨l, ns, _, _, rfl, h7p, tx7, h7l, hnl, hnb6, fr7⟩
    clear hlp hlb hnb6 hnl h6l hb6 tx6 h6p fr6 ns l
    rintro _ H7 ⟨l, ns, v1, v2, rfl, h7p, tx7, h7l, hnl, hnb, fr7⟩
    have s07 : Same H0 H7 := fr7
    walk_at "go"
    refine ⟨p, l, xs, ks, ns, rfl, h7p, tx7, h7l, hnl.symm, hknd, by omega, fun f H8 hf0 hf8 s8 => ?_⟩
    have hzl : (ks.zip ns).map (·.1) = ks := List.map_fst_zip (by omega)
    have hzr : (ks.zip ns).map (·.2) = ns := List.map_snd_zip (by omega)
    have hznd : ((ks.zip ns).map (·.1)).Nodup := by rw [hzl]; exact hknd
    have hzlen : (ks.zip ns).length ≤ 18 := by rw [List.length_zip]; omega
    walk_at "go"
    intro x dx hx hdx hne
    have sx : Same H8 (upd (upd H8 dx (.own x)) x (.ins Z.c_Form dx [])) := fun c o e => Eg.upd_mut (ne_of_none e hx) (Eg.upd_old e hdx)
    refine ⟨x, dx, f, st, ks.zip ns, rfl, upd_same, sx _ _ hf8, hznd, by omega, fun H9 F9 k9 => ⟨rfl, ?_⟩⟩
    have s9 : Same H8 H9 := fun c o e => k9 c o (sx c o e) (ne_of_none e hx)
    have s79 : Same H7 H9 := s8.trans s9
    have h9f : H9 f = some (.dT (enc (ks.zip ns))) := s9 _ _ hf8
    have h9l : H9 l = some (.lst (ns.map V.int)) := s79 _ _ h7l
    have fok : FormOk (nz (ks.zip ns)) := ⟨nd_nz hznd, fun y hy => hks y.1 (by
      have := List.mem_map_of_mem (f := Prod.fst) (nz_sub hy)
      rw [show List.map Prod.fst (ks.zip ns) = ks from hzl] at this
      exact this), by
      have := List.length_filter_le (fun p : List Int × Int => decide (p.2 ≠ 0)) (ks.zip ns)
      unfold nz
      omega⟩
    have fbd : ∀ y ∈ nz (ks.zip ns), -100000 ≤ y.2 ∧ y.2 ≤ 100000 := fun y hy => by
      have := List.mem_map_of_mem (f := Prod.snd) (nz_sub hy)
      rw [show List.map Prod.snd (ks.zip ns) = ns from hzr] at this
      have := hnb _ this
      omega
    have innz : ∀ n ∈ ns, n ≠ 0 → ∃ k, (k, n) ∈ nz (ks.zip ns) := fun n hn h0 => by
      rw [← hzr] at hn
      obtain ⟨y, hy, rfl⟩ := List.mem_map.mp hn
      exact ⟨y.1, List.mem_filter.mpr ⟨hy, decide_eq_true h0⟩⟩
    have inns : ∀ y ∈ nz (ks.zip ns), y.2 ∈ ns := fun y hy => by
      have := List.mem_map_of_mem (f := Prod.snd) (nz_sub hy)
      rw [show List.map Prod.snd (ks.zip ns) = ns from hzr] at this
      exact this
    clear sx k9
    walk_at "go"
    refine ⟨x, st, _, rfl, F9, fok, by omega, fbd, fun H10 s10 fa => ?_, fun r c H10 s10 hc0 hc10 fa => ?_⟩
    -- no counts
    · have h10l : H10 l = some (.lst (ns.map V.int)) := s10 _ _ h9l
      walk_at "go"
      intro t ht
      have h10l' : upd H10 t (.lst [.int 0]) l = some (.lst (ns.map V.int)) := Eg.upd_old h10l ht
      walk_at "go"
      refine Eg.c_cat upd_same h10l' (by rw [List.length_map, List.length_singleton]; omega) fun t2 ht2 => ?_
      walk_at "go"
      refine Eg.c_max (ns := 0 :: ns) (SqL.of (by rw [upd_same]; rfl)) (by simp) fun m hm hmx => ?_
      walk_at "go"
      intro t3 ht3
      walk_at "go"
      refine Eg.brD (fun h1 => ?_) (fun h1 => absurd fa.1 h1)
      walk_at "go"
      rw [Eg.int_eq]
      have m0 : m = 0 := by
        rcases List.mem_cons.mp hm with e | hm
        · exact e
        · have := hmx 0 (by simp)
          by_cases h0 : m = 0
          · exact h0
          · obtain ⟨k, hk⟩ := innz m hm h0
            have := fa.2 _ hk
            have : m ≤ 0 := this
            omega
      refine Eg.brDT m0 ?_
      walk_at "go"
      rw [decide_eq_true (show V.non = V.non from rfl)]
      walk_at "go"
      refine ⟨_, _, _, _, _, _, _, _, _, _, _, _, _, rfl, ?_⟩
      exact Eg.same_new (Eg.same_new (Eg.same_new ((s07.trans s79).trans s10) ht) ht2) ht3
    -- some counts
    have h10l : H10 l = some (.lst (ns.map V.int)) := s10 _ _ h9l
    have h10f : H10 f = some (.dT (enc (ks.zip ns))) := s10 _ _ h9f
    have hcf : c ≠ f := (ne_of_none h9f hc0).symm
    walk_at "go"
    intro t ht
    have h10l' : upd H10 t (.lst [.int 0]) l = some (.lst (ns.map V.int)) := Eg.upd_old h10l ht
    walk_at "go"
    refine Eg.c_cat upd_same h10l' (by rw [List.length_map, List.length_singleton]; omega) fun t2 ht2 => ?_
    walk_at "go"
    refine Eg.c_max (ns := 0 :: ns) (SqL.of (by rw [upd_same]; rfl)) (by simp) fun m hm hmx => ?_
    walk_at "go"
    intro t3 ht3
    generalize hH11 : upd (upd (upd H10 t _) t2 _) t3 _ = H11
    have s11 : Same H10 H11 := by
      rw [← hH11]
      exact Eg.same_new (Eg.same_new (Eg.same_new (Same.refl _) ht) ht2) ht3
    have h11t : H11 t3 = some (.tup [.ref c, .int m]) := by rw [← hH11]; exact upd_same
    have h11c : H11 c = some (.dT (enc r)) := s11 _ _ hc10
    have h11f : H11 f = some (.dT (enc (ks.zip ns))) := s11 _ _ h10f
    have F11 : FormAt Z.c_Form H11 x st (nz (ks.zip ns)) := F9.keep (s10.trans s11)
    have s0b : Same H0 H11 := ((s07.trans s79).trans s10).trans s11
    have hc0b : H0 c = none := (s07.trans s79).free hc0
    clear hH11 ht ht2 ht3 h10l'
    -- what is so of the counts
    have rnd : (r.map (·.1)).Nodup := by
      rcases fa with ⟨_, rfl⟩ | ⟨_, k, s, rfl, _⟩
      · exact List.nodup_nil
      · simp
    have rlen : r.length ≤ 1 := by
      rcases fa with ⟨_, rfl⟩ | ⟨_, k, s, rfl, _⟩
      · exact Nat.zero_le _
      · exact Nat.le_refl _
    have rin : ∀ y ∈ r, (∃ z, getI (ks.zip ns) y.1 = some z ∧ -1000 ≤ z ∧ z ≤ 1000) ∧ 1 ≤ y.2 := fun y hy => by
      rcases fa with ⟨_, rfl⟩ | ⟨h1, k, s, rfl, hks', hs, _⟩
      · cases hy
      · rw [List.mem_singleton.mp hy]
        refine ⟨⟨s, getI_mem hznd (nz_sub hks'), ?_⟩, ?_⟩
        · have := hnb s (inns _ hks')
          omega
        · show 1 ≤ (s - st) / s
          exact (Int.le_ediv_iff_mul_le hs).mpr (by omega)
    have m0 : 0 ≤ m := hmx 0 (by simp)
    have m1 : m ≤ 1000 := by
      rcases List.mem_cons.mp hm with e | hm
      · omega
      · exact (hnb m hm).2
    have hno : ¬ (st < 1 ∧ m = 0) := fun ⟨h1, h2⟩ => by
      rcases fa with ⟨h, _⟩ | ⟨_, k, s, e, h3, h4, _⟩
      · omega
      · have := hmx s (List.mem_cons_of_mem _ (inns _ h3))
        omega
    walk_at "gp"
    refine ans_and2 (b1 := decide (st < 1)) (b2 := decide (m = 0)) (fun Q' q' => ?_) (fun Q' q' => ?_) _ ?_
    · walk_at "go"
      exact q'
    · walk_at "go"
      rw [Eg.int_eq]
      exact q'
    refine Eg.brF (by rw [← Bool.decide_and]; exact decide_eq_false hno) ?_
    walk_at "gp"
    refine Eg.c_isi (.ty _) (.base (.dT h11c)) (kit_ty (b := "dict") (r := true) (by decide +kernel)) ?_
    walk_at "gp"
    -- each count
    refine ⟨c, _, h11c, trivial, fun od => ?_⟩
    walk_at "gp"
    refine Eg.c_iKT upd_same ?_
    have hlc : ∀ b o, H11 b = some o → b ≠ c → upd H11 c (.frz od (.dT (enc r))) b = some o := fun b o e hn => Eg.upd_mut hn e
    refine for_it walk_keysT (fun j σ' H' => ∃ v4, σ' = [some (.ref a), v1, some (.ref b), some (.ref p), v4, some (.int st), some (.ref l), some (.ref f), some (.ref x), some (.ref c), some (.int m), v11, v12, v13] ∧ upd H11 c (.frz od (.dT (enc r))) = H') ⟨_, rfl, rfl⟩ ?_ ?_ ?_
    · rintro j _ _ _ ⟨v4, rfl, rfl⟩
      exact upd_same
    · rintro j y _ _ _ hj ⟨v4, rfl, rfl⟩ ⟨rfl, k, v, t, hk, rfl, ht⟩
      obtain ⟨kk, z, hkz, rfl, rfl⟩ := inl_key hk
      rw [ek_kV] at ht
      obtain ⟨⟨zf, hzf, _⟩, z1⟩ := rin _ (List.mem_of_getElem? hkz)
      have z1 : 1 ≤ z := z1
      have dgc := dget_some (.inr ⟨od, upd_same⟩) ht (getI_mem rnd (List.mem_of_getElem? hkz))
      have dgf := dget_some (.inl (hlc _ _ h11f hcf.symm)) ht hzf
      walk_at "gp"
      refine Eg.ans_or2 (b1 := false) (b2 := false || false) (fun Q' q' => ?_) (Eg.ans_or2 (b1 := false) (b2 := false) (fun Q' q' => ?_) (fun Q' q' => ?_)) _ ?_
      · walk_at "go"
        refine Eg.c_dnin dgf ?_
        walk_at "go"
        exact q'
      · walk_at "go"
        refine ⟨c, _, rfl, dgc, ?_⟩
        walk_at "go"
        refine ⟨z, rfl, ?_⟩
        walk_at "go"
        exact q'
      · walk_at "go"
        refine ⟨c, _, rfl, dgc, ?_⟩
        walk_at "go"
        rw [decide_eq_false (by omega)]
        exact q'
      walk_at "gp"
      exact ⟨_, rfl, rfl⟩
    rintro _ _ ⟨v4, rfl, rfl⟩
    refine ⟨upd_same, ?_⟩
    rw [upd_upd, show upd H11 c (.dT (enc r)) = H11 from by
      funext b
      by_cases e : b = c
      · rw [e, upd_same, h11c]
      · rw [upd_ne e]]
    walk_at "gp"
    -- the total
    refine Sl.lock_ints (F := fun _ z => z) rfl h11c (by omega) (fun od2 H' k z t e1 e2 e3 e4 R hR => ?_) (fun D H12 hD0 s12 h12D => ?_)
    · walk_at "gp"
      exact ⟨c, _, rfl, dget_some (.inr ⟨od2, e2⟩) e4 (getI_mem rnd e3), hR⟩
    walk_at "gp"
    refine Eg.c_sum (SqL.of h12D) ?_
    walk_at "gp"
    have h12c : H12 c = some (.dT (enc r)) := s12 _ _ h11c
    have h12f : H12 f = some (.dT (enc (ks.zip ns))) := s12 _ _ h11f
    -- the sum is at least 1
    refine Sl.lock_ints (F := fun k z => (getI (ks.zip ns) k).getD 0 * z) rfl h12c (by omega) (fun od2 H' k z t e1 e2 e3 e4 R hR => ?_) (fun D2 H13 hD2 s13 h13D => ?_)
    · obtain ⟨⟨zf, hzf, b1, b2⟩, _⟩ := rin _ e3
      have hzf : getI (ks.zip ns) k = some zf := hzf
      walk_at "gp"
      refine ⟨f, _, rfl, dget_some (.inl (e1 _ _ h12f hcf.symm)) e4 hzf, ?_⟩
      walk_at "gp"
      refine ⟨c, _, rfl, dget_some (.inr ⟨od2, e2⟩) e4 (getI_mem rnd e3), ?_⟩
      walk_at "gp"
      rw [hzf] at hR
      exact hR
    walk_at "gp"
    refine Eg.c_sum (SqL.of h13D) ?_
    walk_at "gp"
    have tot : (st ≥ 1 ∧ r = []) ∨ (st < 1 ∧ ∃ s k, 0 < s ∧ s = m ∧ r = [(k, (s - st) / s)] ∧ getI (ks.zip ns) k = some s) := by
      rcases fa with ⟨h, e⟩ | ⟨h, k, s, e, h3, h4, h5, _⟩
      · exact .inl ⟨h, e⟩
      · refine .inr ⟨h, s, k, h4, ?_, e, getI_mem hznd (nz_sub h3)⟩
        have e1 := hmx s (List.mem_cons_of_mem _ (inns _ h3))
        rcases List.mem_cons.mp hm with e | hm
        · omega
        · obtain ⟨k2, hk2⟩ := innz m hm (by omega)
          have : m ≤ s := h5 _ hk2
          omega
    have rs : st + (r.map fun y => (getI (ks.zip ns) y.1).getD 0 * y.2).sum ≥ 1 ∧ (st + m * (if (r.map fun y => y.2).sum - 1 > 0 then (r.map fun y => y.2).sum - 1 else 0) < 1 ∨ (r.map fun y => y.2).sum ≤ 0) ∧ (st ≥ 1 → (r.map fun y => y.2).sum = 0) := by
      rcases tot with ⟨h, rfl⟩ | ⟨h, s, k, hs, rfl, rfl, hk⟩
      · refine ⟨by simp; omega, .inr (by simp), fun _ => by simp⟩
      · have hq1 : 1 ≤ (s - st) / s := (Int.le_ediv_iff_mul_le hs).mpr (by omega)
        have hq2 := Int.mul_ediv_add_emod (s - st) s
        have hq3 := Int.emod_lt_of_pos (s - st) hs
        have hq4 := Int.emod_nonneg (s - st) (show s ≠ 0 by omega)
        refine ⟨?_, .inl ?_, fun _ => by omega⟩
        · simp only [List.map_cons, List.map_nil, List.sum_cons, List.sum_nil, hk, Option.getD_some]
          omega
        · simp only [List.map_cons, List.map_nil, List.sum_cons, List.sum_nil, Int.add_zero]
          have e : s * ((s - st) / s - 1) = s * ((s - st) / s) - s := by rw [Int.mul_sub, Int.mul_one]
          split
          · rw [e]
            omega
          · rw [Int.mul_zero]
            omega
    generalize (r.map fun y => y.2).sum = S at rs ⊢
    refine Eg.brDF (by omega) ?_
    walk_at "gp"
    refine ans_and2 (b1 := decide (1 ≤ st + m * (if S - 1 > 0 then S - 1 else 0))) (b2 := decide (0 < S)) (fun Q' q' => ?_) (fun Q' q' => ?_) _ ?_
    · walk_at "gp"
      exact q'
    · walk_at "gp"
      exact q'
    refine Eg.brF ?_ ?_
    · rw [← Bool.decide_and]
      exact decide_eq_false fun ⟨e1, e2⟩ => by
        rcases rs.2.1 with h | h <;> omega
    walk_at "gp"
    refine ⟨fun σ' H' => σ' = [some (.ref a), v1, some (.ref b), some (.ref p), v4, some (.int st), some (.ref l), some (.ref f), some (.ref x), some (.ref c), some (.int m), some (.int S), v12, v13] ∧ Same H13 H', ?_, ?_⟩
    · walk_at "go"
      refine Eg.brD (fun h1 => ?_) (fun h1 => ?_)
      · walk_at "go"
        intro e he
        have r0 : r = [] := by
          rcases tot with ⟨_, h⟩ | ⟨h, _⟩
          · exact h
          · omega
        subst r0
        walk_at "go"
        refine ⟨c, e, enc [], enc [], rfl, rfl, .inl (Eg.upd_old (s13 _ _ h12c) he), .inl upd_same, enc_int _, enc_int _, ?_⟩
        walk_at "go"
        rw [show (if true = true then !DTx.sameD (enc []) (enc []) else DTx.sameD (enc []) (enc [])) = false from rfl]
        walk_at "go"
        rw [Eg.int_eq, decide_eq_true (rs.2.2 h1)]
        walk_at "go"
        exact ⟨rfl, Eg.same_new (Same.refl _) he⟩
      · walk_at "go"
        exact ⟨rfl, Same.refl _⟩
    rintro _ H14 ⟨rfl, s14⟩
    have s1014 : Same H10 H14 := s11.trans (s12.trans (s13.trans s14))
    have s914 : Same H9 H14 := s10.trans s1014
    have h14c : H14 c = some (.dT (enc r)) := s1014 _ _ hc10
    walk_at "gp"
    refine ⟨x, st, _, rfl, F9.keep s914, fok, by omega, fbd, fun H15 s15 fa2 => (nomatch fa_one fok fa fa2), fun r2 c2 H15 s15 hc20 h15c2 fa2 => ?_⟩
    have er : r2 = r := (Option.some.inj (fa_one fok fa fa2)).symm
    subst er
    have hcc2 : c2 ≠ c := (ne_of_none h14c hc20).symm
    have h15c : H15 c = some (.dT (enc r2)) := s15 _ _ h14c
    walk_at "gp"
    intro t ht
    have htc : t ≠ c := (ne_of_none h15c ht).symm
    walk_at "gp"
    refine ⟨c, _, rfl, DPut.t (k := ek [2, 2, 0]) (Eg.upd_old h15c ht) (by rw [ek_kV]; exact upd_same) (by unfold enc; rw [List.length_map, sizeLine_eq]; omega), ?_⟩
    generalize hH16 : upd (upd H15 t _) c _ = H16
    have s916 : Same H9 H16 := by
      rw [← hH16]
      exact Eg.same_mut (Eg.same_new (s914.trans s15) ht) hc0
    have h16c2 : H16 c2 = some (.dT (enc r2)) := by
      rw [← hH16]
      exact Eg.upd_mut hcc2 (Eg.upd_old h15c2 ht)
    have s016 : Same H0 H16 := by
      rw [← hH16]
      exact Eg.same_mut (Eg.same_new (s0b.trans (s12.trans (s13.trans (s14.trans s15)))) ht) hc0b
    clear hH16
    walk_at "gp"
    refine Eg.w_or ?_
    walk_at "gp"
    refine ⟨x, st, _, rfl, F9.keep s916, fok, by omega, fbd, fun H17 s17 fa3 => (nomatch fa_one fok fa fa3), fun r3 c3 H17 s17 hc30 h17c3 fa3 => ?_⟩
    have er : r3 = r2 := (Option.some.inj (fa_one fok fa fa3)).symm
    subst er
    walk_at "gp"
    refine ⟨c3, c2, enc r3, enc r3, rfl, rfl, .inl h17c3, .inl (s17 _ _ h16c2), enc_int _, enc_int _, ?_⟩
    rw [same_self rnd]
    rw [show (if true = true then !true else true) = false from rfl]
    walk_at "gp"
    intro x2 dx2 hx2 hdx2 hne2
    have sx : Same H17 (upd (upd H17 dx2 (.own x2)) x2 (.ins Z.c_Form dx2 [])) := fun c o e => Eg.upd_mut (ne_of_none e hx2) (Eg.upd_old e hdx2)
    have h17f : H17 f = some (.dT (enc (ks.zip ns))) := s17 _ _ (s916 _ _ h9f)
    refine ⟨x2, dx2, f, st, ks.zip ns, rfl, upd_same, sx _ _ h17f, hznd, by omega, fun H18 F18 k18 => ⟨rfl, ?_⟩⟩
    have s1718 : Same H17 H18 := fun c o e => k18 c o (sx c o e) (ne_of_none e hx2)
    have F9' := F9.keep (s916.trans (s17.trans s1718))
    obtain ⟨ex, dd, e1, e2⟩ := id F9'
    obtain ⟨ex2, dd2, g1, g2⟩ := id F18
    walk_at "gp"
    refine ⟨⟨x, x2, _, _, _, _, rfl, rfl, e1, g1, st, _, _, F9', F18, same_self fok.nd⟩, fun H19 s19 => ?_⟩
    walk_at "gp"
    refine ⟨_, _, _, _, _, _, _, _, _, _, _, _, _, rfl, ?_⟩
    exact ((s016.trans s17).trans s1718).trans s19
end
end LW

namespace LW
open PySem L2
theorem all_mk {l : PySem.W.OpenLaw} {w : World} {K : PySem.W.Frag} {h : Heap} {mg : Str → Option Value} {fa f0 f1 f2 f3 f4 f5 f6 f7 f8 f9 C0 : Addr} (X : K.In h) (G : h.Ns mainGlobals mg) (hfa : mg "law" = some (.ref fa))
    {od0 an0 : Option Addr} {sl0 : Array (Option Value)} {oc0 kV0 dc0 pm0 cd0 ct0 : Value}
    {od1 an1 : Option Addr} {sl1 : Array (Option Value)} {oc1 kV1 dc1 pm1 cd1 ct1 : Value}
    {od2 an2 : Option Addr} {sl2 : Array (Option Value)} {oc2 kV2 dc2 pm2 cd2 ct2 : Value}
    {od3 an3 : Option Addr} {sl3 : Array (Option Value)} {oc3 kV3 dc3 pm3 cd3 ct3 : Value}
    {od4 an4 : Option Addr} {sl4 : Array (Option Value)} {oc4 kV4 dc4 pm4 cd4 ct4 : Value}
    {od5 an5 : Option Addr} {sl5 : Array (Option Value)} {oc5 kV5 dc5 pm5 cd5 ct5 : Value}
    {od6 an6 : Option Addr} {sl6 : Array (Option Value)} {oc6 kV6 dc6 pm6 cd6 ct6 : Value}
    {od7 an7 : Option Addr} {sl7 : Array (Option Value)} {oc7 kV7 dc7 pm7 cd7 ct7 : Value}
    {od8 an8 : Option Addr} {sl8 : Array (Option Value)} {oc8 kV8 dc8 pm8 cd8 ct8 : Value}
    {od9 an9 : Option Addr} {sl9 : Array (Option Value)} {oc9 kV9 dc9 pm9 cd9 ct9 : Value}
    (aC0 : PySem.W.nsIn K mainGlobals "Form" = some (some (.ref C0)))
    (a0 : PySem.W.findIn K (.ref C0) "__init__" = some (some (.ref f0)))
    (i0 : PySem.W.isFn K (.ref f0) = true)
    (l0 : K.lookup f0 = some ⟨oc0, od0, .func (PySem.W.fnOf "__init__" "Form.__init__" (defArgs s_Form_init) (defBody s_Form_init) (defScope s_Form_init) .none kV0 dc0 pm0 an0 cd0 ct0), sl0⟩)
    (c0 : PySem.W.codeIn K cd0 "Form.__init__" = true)
    (k0 : PySem.W.keepIn K (.ref f0) = true)
    (a1 : PySem.W.findIn K (.ref C0) "sorts" = some (some (.ref f1)))
    (i1 : PySem.W.isFn K (.ref f1) = true)
    (l1 : K.lookup f1 = some ⟨oc1, od1, .func (PySem.W.fnOf "sorts" "Form.sorts" (defArgs s_Form_sorts) (defBody s_Form_sorts) (defScope s_Form_sorts) .none kV1 dc1 pm1 an1 cd1 ct1), sl1⟩)
    (c1 : PySem.W.codeIn K cd1 "Form.sorts" = true)
    (k1 : PySem.W.keepIn K (.ref f1) = true)
    (a2 : PySem.W.findIn K (.ref C0) "__eq__" = some (some (.ref f2)))
    (i2 : PySem.W.isFn K (.ref f2) = true)
    (l2 : K.lookup f2 = some ⟨oc2, od2, .func (PySem.W.fnOf "__eq__" "Form.__eq__" (defArgs s_Form_eq) (defBody s_Form_eq) (defScope s_Form_eq) .none kV2 dc2 pm2 an2 cd2 ct2), sl2⟩)
    (c2 : PySem.W.codeIn K cd2 "Form.__eq__" = true)
    (k2 : PySem.W.keepIn K (.ref f2) = true)
    (a3 : PySem.W.nsIn K mainGlobals "fewest_above" = some (some (.ref f3)))
    (l3 : K.lookup f3 = some ⟨oc3, od3, .func (PySem.W.fnOf "fewest_above" "fewest_above" (defArgs s_fewest_above) (defBody s_fewest_above) (defScope s_fewest_above) .none kV3 dc3 pm3 an3 cd3 ct3), sl3⟩)
    (c3 : PySem.W.codeIn K cd3 "fewest_above" = true)
    (k3 : PySem.W.keepIn K (.ref f3) = true)
    (a4 : PySem.W.nsIn K mainGlobals "_law_bag" = some (some (.ref f4)))
    (l4 : K.lookup f4 = some ⟨oc4, od4, .func (PySem.W.fnOf "_law_bag" "_law_bag" (defArgs s_l_bag) (defBody s_l_bag) (defScope s_l_bag) .none kV4 dc4 pm4 an4 cd4 ct4), sl4⟩)
    (c4 : PySem.W.codeIn K cd4 "_law_bag" = true)
    (k4 : PySem.W.keepIn K (.ref f4) = true)
    (a5 : PySem.W.nsIn K mainGlobals "_law_take" = some (some (.ref f5)))
    (l5 : K.lookup f5 = some ⟨oc5, od5, .func (PySem.W.fnOf "_law_take" "_law_take" (defArgs s_l_take) (defBody s_l_take) (defScope s_l_take) .none kV5 dc5 pm5 an5 cd5 ct5), sl5⟩)
    (c5 : PySem.W.codeIn K cd5 "_law_take" = true)
    (k5 : PySem.W.keepIn K (.ref f5) = true)
    (a6 : PySem.W.nsIn K mainGlobals "_law_sorts" = some (some (.ref f6)))
    (l6 : K.lookup f6 = some ⟨oc6, od6, .func (PySem.W.fnOf "_law_sorts" "_law_sorts" (defArgs s_l_sorts) (defBody s_l_sorts) (defScope s_l_sorts) .none kV6 dc6 pm6 an6 cd6 ct6), sl6⟩)
    (c6 : PySem.W.codeIn K cd6 "_law_sorts" = true)
    (k6 : PySem.W.keepIn K (.ref f6) = true)
    (a7 : PySem.W.nsIn K mainGlobals "_law_steps_of" = some (some (.ref f7)))
    (l7 : K.lookup f7 = some ⟨oc7, od7, .func (PySem.W.fnOf "_law_steps_of" "_law_steps_of" (defArgs s_l_steps_of) (defBody s_l_steps_of) (defScope s_l_steps_of) .none kV7 dc7 pm7 an7 cd7 ct7), sl7⟩)
    (c7 : PySem.W.codeIn K cd7 "_law_steps_of" = true)
    (k7 : PySem.W.keepIn K (.ref f7) = true)
    (a8 : PySem.W.nsIn K mainGlobals "_law_is_integer" = some (some (.ref f8)))
    (l8 : K.lookup f8 = some ⟨oc8, od8, .func (PySem.W.fnOf "_law_is_integer" "_law_is_integer" (defArgs s_l_is_integer) (defBody s_l_is_integer) (defScope s_l_is_integer) .none kV8 dc8 pm8 an8 cd8 ct8), sl8⟩)
    (c8 : PySem.W.codeIn K cd8 "_law_is_integer" = true)
    (k8 : PySem.W.keepIn K (.ref f8) = true)
    (a9 : PySem.W.nsIn K mainGlobals "law" = some (some (.ref f9)))
    (l9 : K.lookup f9 = some ⟨oc9, od9, .func (PySem.W.fnOf "law" "law" (defArgs s_law) (defBody s_law) (defScope s_law) .none kV9 dc9 pm9 an9 cd9 ct9), sl9⟩)
    (c9 : PySem.W.codeIn K cd9 "law" = true)
    (k9 : PySem.W.keepIn K (.ref f9) = true)
    (pg0 : PySem.W.plainGet K C0 Str.empty = true)
    (hd0 : PySem.W.hasDictIn K C0 = true)
    (po0 : PySem.W.plainOver K C0 = true)
    (sa0 : PySem.W.findIn K (.ref C0) "__setattr__" = some (some (.builtin "object.__setattr__")))
    (mk0 : PySem.W.makesIn K C0 = true)
    (kc0 : PySem.W.keepIn K (.ref C0) = true)
    (w0 : PySem.W.findIn K (.ref C0) "__class__" = some (some (.builtin "object.__class__")))
    (x0 : PySem.W.mroIn K C0 (.type "object") = some true)
    (n0_0 : PySem.W.findIn K (.ref C0) "start" = some none)
    (n0_1 : PySem.W.findIn K (.ref C0) "steps" = some none)
    (y0 : PySem.W.specialIn K (.builtin "object.__class__") "__get__" = some (some (.builtin "getset_descriptor.__get__")))
    (y1 : PySem.W.takesIn K (.builtin "object.__class__") = some true)
    (z0 : PySem.W.nsIn K mainGlobals "abs" = some none)
    (z1 : PySem.W.nsIn K mainGlobals "bool" = some none)
    (z2 : PySem.W.nsIn K mainGlobals "dict" = some none)
    (z3 : PySem.W.nsIn K mainGlobals "int" = some none)
    (z4 : PySem.W.nsIn K mainGlobals "isinstance" = some none)
    (z5 : PySem.W.nsIn K mainGlobals "len" = some none)
    (z6 : PySem.W.nsIn K mainGlobals "max" = some none)
    (z7 : PySem.W.nsIn K mainGlobals "min" = some none)
    (z8 : PySem.W.nsIn K mainGlobals "range" = some none)
    (z9 : PySem.W.nsIn K mainGlobals "sorted" = some none)
    (z10 : PySem.W.nsIn K mainGlobals "sum" = some none)
    (z11 : PySem.W.nsIn K mainGlobals "zip" = some none) :
    ∃ fd : FuncData, (∀ (s : Shared) (v : Value), BindsTo s fd ⟨[v], []⟩ [("_law_script", v)]) ∧ ∀ base : Heap, K.In base → base.Ns mainGlobals mg → FnOk l.prog w K mg base CX0 4 fa fd ["_law_script"] (sp_law K) := by
  have e := hfa.symm.trans (PySem.W.mg_of X G a9)
  cases e
  have F0 := fun_mk (st := s_Form_init) l0 c0 k0
  have F1 := fun_mk (st := s_Form_sorts) l1 c1 k1
  have F2 := fun_mk (st := s_Form_eq) l2 c2 k2
  have F3 := fun_mk (st := s_fewest_above) l3 c3 k3
  have F4 := fun_mk (st := s_l_bag) l4 c4 k4
  have F5 := fun_mk (st := s_l_take) l5 c5 k5
  have F6 := fun_mk (st := s_l_sorts) l6 c6 k6
  have F7 := fun_mk (st := s_l_steps_of) l7 c7 k7
  have F8 := fun_mk (st := s_l_is_integer) l8 c8 k8
  have F9 := fun_mk (st := s_law) l9 c9 k9
  have b0 := F0.binds (ps := ["self", "start", "steps"]) fun _ _ _ _ _ _ us hl => match us, hl with | [_, _, _], _ => rfl
  have b1 := F1.binds (ps := ["self"]) fun _ _ _ _ _ _ us hl => match us, hl with | [_], _ => rfl
  have b2 := F2.binds (ps := ["self", "other"]) fun _ _ _ _ _ _ us hl => match us, hl with | [_, _], _ => rfl
  have b3 := F3.binds (ps := ["form"]) fun _ _ _ _ _ _ us hl => match us, hl with | [_], _ => rfl
  have b4 := F4.binds (ps := ["_law_script", "_law_at"]) fun _ _ _ _ _ _ us hl => match us, hl with | [_, _], _ => rfl
  have b5 := F5.binds (ps := ["_law_bag_here", "_law_many"]) fun _ _ _ _ _ _ us hl => match us, hl with | [_, _], _ => rfl
  have b6 := F6.binds (ps := ["_law_bag_here", "_law_many"]) fun _ _ _ _ _ _ us hl => match us, hl with | [_, _], _ => rfl
  have b7 := F7.binds (ps := ["_law_sorts_here", "_law_steps"]) fun _ _ _ _ _ _ us hl => match us, hl with | [_, _], _ => rfl
  have b8 := F8.binds (ps := ["_law_thing"]) fun _ _ _ _ _ _ us hl => match us, hl with | [_], _ => rfl
  have b9 := F9.binds (ps := ["_law_script"]) fun _ _ _ _ _ _ us hl => match us, hl with | [_], _ => rfl
  have T : Txt K mg ⟨f0, PySem.W.fnOf "__init__" "Form.__init__" (defArgs s_Form_init) (defBody s_Form_init) (defScope s_Form_init) .none kV0 dc0 pm0 an0 cd0 ct0, f1, PySem.W.fnOf "sorts" "Form.sorts" (defArgs s_Form_sorts) (defBody s_Form_sorts) (defScope s_Form_sorts) .none kV1 dc1 pm1 an1 cd1 ct1, f2, PySem.W.fnOf "__eq__" "Form.__eq__" (defArgs s_Form_eq) (defBody s_Form_eq) (defScope s_Form_eq) .none kV2 dc2 pm2 an2 cd2 ct2, f3, PySem.W.fnOf "fewest_above" "fewest_above" (defArgs s_fewest_above) (defBody s_fewest_above) (defScope s_fewest_above) .none kV3 dc3 pm3 an3 cd3 ct3, f4, PySem.W.fnOf "_law_bag" "_law_bag" (defArgs s_l_bag) (defBody s_l_bag) (defScope s_l_bag) .none kV4 dc4 pm4 an4 cd4 ct4, f5, PySem.W.fnOf "_law_take" "_law_take" (defArgs s_l_take) (defBody s_l_take) (defScope s_l_take) .none kV5 dc5 pm5 an5 cd5 ct5, f6, PySem.W.fnOf "_law_sorts" "_law_sorts" (defArgs s_l_sorts) (defBody s_l_sorts) (defScope s_l_sorts) .none kV6 dc6 pm6 an6 cd6 ct6, f7, PySem.W.fnOf "_law_steps_of" "_law_steps_of" (defArgs s_l_steps_of) (defBody s_l_steps_of) (defScope s_l_steps_of) .none kV7 dc7 pm7 an7 cd7 ct7, f8, PySem.W.fnOf "_law_is_integer" "_law_is_integer" (defArgs s_l_is_integer) (defBody s_l_is_integer) (defScope s_l_is_integer) .none kV8 dc8 pm8 an8 cd8 ct8, fa, PySem.W.fnOf "law" "law" (defArgs s_law) (defBody s_law) (defScope s_law) .none kV9 dc9 pm9 an9 cd9 ct9, C0⟩ := {
    F_Form_init := F0,
    b_Form_init := b0,
    m_Form_init := ⟨a0, i0, k0⟩,
    F_Form_sorts := F1,
    b_Form_sorts := b1,
    m_Form_sorts := ⟨a1, i1, k1⟩,
    F_Form_eq := F2,
    b_Form_eq := b2,
    m_Form_eq := ⟨a2, i2, k2⟩,
    F_fewest_above := F3,
    b_fewest_above := b3,
    g_fewest_above := PySem.W.mg_of X G a3,
    F_l_bag := F4,
    b_l_bag := b4,
    g_l_bag := PySem.W.mg_of X G a4,
    F_l_take := F5,
    b_l_take := b5,
    g_l_take := PySem.W.mg_of X G a5,
    F_l_sorts := F6,
    b_l_sorts := b6,
    g_l_sorts := PySem.W.mg_of X G a6,
    F_l_steps_of := F7,
    b_l_steps_of := b7,
    g_l_steps_of := PySem.W.mg_of X G a7,
    F_l_is_integer := F8,
    b_l_is_integer := b8,
    g_l_is_integer := PySem.W.mg_of X G a8,
    F_law := F9,
    b_law := b9,
    g_law := PySem.W.mg_of X G a9,
    cl_Form := ⟨pg0, hd0, po0, sa0⟩,
    g_Form := PySem.W.mg_of X G aC0,
    mk_Form := ⟨mk0, a0, i0, kc0⟩,
    n_Form_start := n0_0,
    n_Form_steps := n0_1,
    i_Form := fun e => .ins e ⟨pg0, hd0, po0, sa0⟩ w0 y0 y1 x0,
    u_abs := PySem.W.mg_none_of X G z0,
    u_bool := PySem.W.mg_none_of X G z1,
    u_dict := PySem.W.mg_none_of X G z2,
    u_int := PySem.W.mg_none_of X G z3,
    u_isinstance := PySem.W.mg_none_of X G z4,
    u_len := PySem.W.mg_none_of X G z5,
    u_max := PySem.W.mg_none_of X G z6,
    u_min := PySem.W.mg_none_of X G z7,
    u_range := PySem.W.mg_none_of X G z8,
    u_sorted := PySem.W.mg_none_of X G z9,
    u_sum := PySem.W.mg_none_of X G z10,
    u_zip := PySem.W.mg_none_of X G z11 }
  exact ⟨PySem.W.fnOf "law" "law" (defArgs s_law) (defBody s_law) (defScope s_law) .none kV9 dc9 pm9 an9 cd9 ct9, fun s v => .of_eq rfl, fun base _ _ => ok_law T⟩
theorem walk {l : PySem.W.OpenLaw} {q : Program} {loose : List Str} {XP : (Str → Option Value) → Heap → Prop} {YP : World → Heap → Prop} {d : DefRec} {K : Params → PySem.W.Frag} (hn : l.most = some 63) (hdf : d.params.defaults = [])
    (hY : ∀ (w : World) (h : Heap), YP w h → (K w.params).In h)
    (F : ∀ (w : World) (mg : Str → Option Value) (fa : Addr) (h : Heap), (K w.params).In h → h.Ns mainGlobals mg → mg d.name = some (.ref fa) →
      ∃ fd : FuncData, (∀ (s : Shared) (u : Value), BindsTo s fd ⟨[u], []⟩ [("_law_script", u)]) ∧ ∀ base : Heap, (K w.params).In base → base.Ns mainGlobals mg → FnOk l.prog w (K w.params) mg base CX0 4 fa fd ["_law_script"] (sp_law (K w.params))) :
    PySem.W.WalkO q loose XP YP l.row.toRowW d [] (fun f vs => PySem.call f vs) :=
  L2.walk_of (n := 63) (k := 4) (x := "_law_script") (CX := fun _ => CX0) (sp := fun w => sp_law (K w.params)) hn (by decide) hdf ⟨rfl, by decide, by decide⟩ hY F (fun _ _ a ns hl _ hS => ⟨a, ns, rfl, hS, hl, fun _ => rfl⟩) fun _ _ _ _ _ z => z
end LW
open PySem PySem.W PyProof.Rows
set_option maxRecDepth 100000 in
set_option maxHeartbeats 0 in
theorem PySem.Challenge.cw_ownholes_k49_fewest_above_holds : PySem.Challenge.rw_ownholes_k49_fewest_above.Holds := by
  w_on; o_law; k_head; (case hw => w_witness2)
  k_fill
  refine LW.walk (l := PySem.Challenge.rw_ownholes_k49_fewest_above) rfl rfl (fun w h Y => PySem.W.kIn_of Y) ?F
  case F =>
    intro w mg fa h KX G hmg
    refine' LW.all_mk KX G hmg ?aC0 ?a0 ?i0 ?l0 ?c0 ?k0 ?a1 ?i1 ?l1 ?c1 ?k1 ?a2 ?i2 ?l2 ?c2 ?k2 ?a3 ?l3 ?c3 ?k3 ?a4 ?l4 ?c4 ?k4 ?a5 ?l5 ?c5 ?k5 ?a6 ?l6 ?c6 ?k6 ?a7 ?l7 ?c7 ?k7 ?a8 ?l8 ?c8 ?k8 ?a9 ?l9 ?c9 ?k9 ?pg0 ?hd0 ?po0 ?sa0 ?mk0 ?kc0 ?w0 ?x0 ?n0_0 ?n0_1 ?y0 ?y1 ?z0 ?z1 ?z2 ?z3 ?z4 ?z5 ?z6 ?z7 ?z8 ?z9 ?z10 ?z11
    (case aC0 => k_is)
    (case a0 => k_is)
    (case i0 => k_is)
    (case l0 => k_is)
    (case c0 => k_is)
    (case k0 => k_is)
    (case a1 => k_is)
    (case i1 => k_is)
    (case l1 => k_is)
    (case c1 => k_is)
    (case k1 => k_is)
    (case a2 => k_is)
    (case i2 => k_is)
    (case l2 => k_is)
    (case c2 => k_is)
    (case k2 => k_is)
    (case a3 => k_is)
    (case l3 => k_is)
    (case c3 => k_is)
    (case k3 => k_is)
    (case a4 => k_is)
    (case l4 => k_is)
    (case c4 => k_is)
    (case k4 => k_is)
    (case a5 => k_is)
    (case l5 => k_is)
    (case c5 => k_is)
    (case k5 => k_is)
    (case a6 => k_is)
    (case l6 => k_is)
    (case c6 => k_is)
    (case k6 => k_is)
    (case a7 => k_is)
    (case l7 => k_is)
    (case c7 => k_is)
    (case k7 => k_is)
    (case a8 => k_is)
    (case l8 => k_is)
    (case c8 => k_is)
    (case k8 => k_is)
    (case a9 => k_is)
    (case l9 => k_is)
    (case c9 => k_is)
    (case k9 => k_is)
    (case pg0 => k_is)
    (case hd0 => k_is)
    (case po0 => k_is)
    (case sa0 => k_is)
    (case mk0 => k_is)
    (case kc0 => k_is)
    (case w0 => k_is)
    (case x0 => k_is)
    (case n0_0 => k_is)
    (case n0_1 => k_is)
    (case y0 => k_is)
    (case y1 => k_is)
    (case z0 => k_is)
    (case z1 => k_is)
    (case z2 => k_is)
    (case z3 => k_is)
    (case z4 => k_is)
    (case z5 => k_is)
    (case z6 => k_is)
    (case z7 => k_is)
    (case z8 => k_is)
    (case z9 => k_is)
    (case z10 => k_is)
    (case z11 => k_is)
