import PyProof.Rows.All
import Wide.All
import OpenK.AllK
import Wide.FinOn
import HandS.ForMost
import HandS.ForExc
import HandS.IsInst
import HandS.Walk
import HandS.Steps
import HandS.DictComp
import HandS.DictTup
import HandS.TupSets
import HandS.TupLen
import HandS.Conv
import HandS.OwnEq
import HandS.Codes
import HandS.Zip
import HandS.SortInts
import HandS.More
import HandS.Style
import HandS.Star
import KE.KDictDisplayH
import HandS.FStr
import HandS.SetKeys
import KE.KCallOwn
import PyProof.Rows.ReprR
import PyProof.DictMoreH
import KE.RegKIsAll
import PySem.Challenge.RW_ownholes_k46_forms_read
set_option Elab.async false
set_option maxRecDepth 100000
/-! Eg: step lemmas: each reading of the hand layer, from the left, as one backward step. -/
namespace Eg
open PySem L2
section
variable {σ σ' : L2.St} {H H' : Hp} {Q : VK} {i : Nat} {v x y z : V} {ta tb tc te tv : TE} {r r' : R2} {K : PySem.W.Frag} {p q a C dx : Addr} {t u c : TT} {D : Ends} {t1 t2 : TS} {b : Bool} {fs : List (Str × V)} {f : Str} {o o' : HO}
/-! heaps -/
theorem upd_old {o1 : HO} (h : H p = some o) (hp : H q = none) : upd H q o1 p = some o := by
  rw [upd_ne (ne_of_none h hp)]
  exact h
theorem upd_mut {o1 : HO} (hn : p ≠ q) (h : H p = some o) : upd H q o1 p = some o := by
  rw [upd_ne hn]
  exact h
theorem upd_none {o1 : HO} (hn : p ≠ q) (h : H p = none) : upd H q o1 p = none := by
  rw [upd_ne hn]
  exact h
/-- unallocated ahead of an allocation was unallocated before -/
theorem none_back {o1 : HO} (h : upd H q o1 p = none) : H p = none := by
  unfold upd at h
  by_cases e : p = q
  · rw [if_pos e] at h
    cases h
  · rw [if_neg e] at h
    exact h
theorem none_ne {o1 : HO} (h : upd H q o1 p = none) : p ≠ q := by
  intro e
  unfold upd at h
  rw [if_pos e] at h
  cases h
/-! expressions -/
theorem w_op (h : ta σ H fun x H1 => tb σ H1 fun y H2 => r x y H2 Q) : tOp r ta tb σ H Q := h
theorem w_un {r : V → Hp → VK → Prop} (h : ta σ H fun x H1 => r x H1 Q) : tUn r ta σ H Q := h
theorem w_var (h : σ[i]? = some (some v)) (q : Q v H) : tVar i σ H Q := ⟨v, h, q⟩
theorem w_c (q : Q v H) : tC v σ H Q := q
theorem w_tup {t : TA} (h : t σ H fun xs H1 => xs.length ≤ sizeLine ∧ ∀ p, H1 p = none → Q (.ref p) (upd H1 p (.tup xs))) : tTup t σ H Q := h
theorem w_lst {t : TA} (h : t σ H fun xs H1 => xs.length ≤ sizeLine ∧ ∀ p, H1 p = none → Q (.ref p) (upd H1 p (.lst xs))) : tLst t σ H Q := h
theorem w_sz {xs : List V} {A : Prop} (h : xs.length ≤ 1000) (q : A) : xs.length ≤ sizeLine ∧ A := ⟨Nat.le_trans h (by decide), q⟩
theorem w_cb {r : List V → Hp → VK → Prop} {t : TA} (h : t σ H fun vs H1 => r vs H1 Q) : tCB r t σ H Q := h
theorem w_nil {Q : List V → Hp → Prop} (q : Q [] H) : tNil σ H Q := q
theorem w_cons {tr : TA} {Q : List V → Hp → Prop} (h : ta σ H fun x H1 => tr σ H1 fun xs H2 => Q (x :: xs) H2) : tCons ta tr σ H Q := h
theorem w_call {sp : Sp} {dvs : List V} {E : XK} {t : TA} (h : t σ H fun vs H1 => sp (vs ++ dvs) H1 Q E) : tCall sp dvs E t σ H Q := h
theorem w_bm {T : String} {r : V → List V → Hp → VK → Prop} {t : TA} (h : ta σ H fun x H1 => tyV K T x H1 ∧ t σ H1 fun xs H2 => r x xs H2 Q) : tBM K T r ta t σ H Q := h
theorem w_bm0 {T : String} {r : V → List V → Hp → VK → Prop} (h : ta σ H fun x H1 => tyV K T x H1 ∧ r x [] H1 Q) : tBM0 K T r ta σ H Q := h
theorem w_tyl {xs : List V} {A : Prop} (h : SqL K H p xs) (q : A) : tyV K "list" (.ref p) H ∧ A := ⟨.inl ⟨rfl, _, h⟩, q⟩
theorem w_if {t : TT} (h : t σ H fun c H1 => if c = true then ta σ H1 Q else tb σ H1 Q) : tIf t ta tb σ H Q := h
theorem w_sl {r : V → Option Int → Option Int → Hp → VK → Prop} {tl th : TO} (h : te σ H fun x H1 => tl σ H1 fun l H2 => th σ H2 fun u H3 => r x l u H3 Q) : tSl r te tl th σ H Q := h
theorem w_nopart {Q : Option Int → Hp → Prop} (q : Q none H) : tNoPart σ H Q := q
theorem w_chain (h : ta σ H fun x H1 => tb σ H1 fun y H2 => r x y H2 fun z H3 => ∃ k, z = .bl k ∧ (if k = true then tc σ H3 fun w' H4 => r' y w' H4 Q else Q (.bl false) H3)) : tChain r r' ta tb tc σ H Q := h
/-! operators by values -/
theorem w_rI0 {g : Int → Int → V} {i j : Int} (q : Q (g i j) H) : rI0 g (.int i) (.int j) H Q := ⟨i, j, rfl, rfl, q⟩
theorem w_rI {C : Int → Int → Prop} {g : Int → Int → V} {i j : Int} (hc : C i j) (q : Q (g i j) H) : rI C g (.int i) (.int j) H Q := ⟨i, j, rfl, rfl, hc, q⟩
theorem w_rU {g : Int → V} {i : Int} (q : Q (g i) H) : rU g (.int i) H Q := ⟨i, rfl, q⟩
theorem w_eq (h : scal x y = true) (q : Q (.bl (decide (x = y))) H) : rEq x y H Q := ⟨h, q⟩
theorem w_ne (h : scal x y = true) (q : Q (.bl (!decide (x = y))) H) : rNe x y H Q := ⟨h, q⟩
theorem w_isN (q : Q (.bl (decide (x = .non))) H) : (fun x y H Q => y = V.non ∧ Q (V.bl (decide (x = .non))) H : R2) x .non H Q := ⟨rfl, q⟩
theorem w_ixL {xs : List V} {i : Int} (hs : SqL K H p xs) (hv : atI xs i = some v) (q : Q v H) : rIxL K (.ref p) (.int i) H Q := ⟨p, xs, i, v, rfl, rfl, hs, hv, q⟩
theorem w_ixT {xs : List V} {i : Int} (hs : SqT K H p xs) (hv : atI xs i = some v) (q : Q v H) : rIxT K (.ref p) (.int i) H Q := ⟨p, xs, i, v, rfl, rfl, hs, hv, q⟩
theorem w_setL {xs : List V} {k : Int} {j : Nat} {R : Hp → Prop} (h : H p = some (.lst xs)) (hj : ixN xs.length k = some j) (q : R (upd H p (.lst (xs.set j v)))) : rSetL (.ref p) (.int k) v H R := ⟨p, xs, k, j, rfl, rfl, h, hj, q⟩
theorem w_append {xs : List V} (h : H p = some (.lst xs)) (hz : xs.length < 100000) (q : Q .non (upd H p (.lst (xs ++ [v])))) : rAppend (.ref p) [v] H Q := ⟨p, xs, v, rfl, rfl, h, Nat.lt_of_lt_of_le hz (by decide), q⟩
def fldLeaf (K : PySem.W.Frag) (f : Str) (Q : VK) (x : V) (H1 : Hp) : Prop := ∃ a C dx fs v, x = .ref a ∧ H1 a = some (.ins C dx fs) ∧ Cls K C ∧ NoAttr K C f ∧ fs.lookup f = some v ∧ Q v H1
theorem w_fld (h : ta σ H (fldLeaf K f Q)) : tFld K ta f σ H Q := h
theorem c_fld (h : H p = some (.ins C dx fs)) (hc : Cls K C) (hn : NoAttr K C f) (hl : fs.lookup f = some v) (q : Q v H) : fldLeaf K f Q (.ref p) H := ⟨p, C, dx, fs, v, rfl, h, hc, hn, hl, q⟩
/-! calls by values -/
theorem w_int1 {i : Int} (q : Q (.int i) H) : (∃ j, [V.int i] = [.int j] ∧ Q (.int j) H) ∨ ∃ k, [V.int i] = [.bl k] ∧ Q (.int (if k then 1 else 0)) H := .inl ⟨i, rfl, q⟩
theorem w_ex1 {A : Type} {mk : A → List V} {a : A} {G : A → Prop} (q : G a) : ∃ i, mk a = mk i ∧ G i := ⟨a, rfl, q⟩
/-! tests -/
theorem w_test {R : Bool → Hp → Prop} (h : te σ H fun x H' => ∃ k, x = .bl k ∧ R k H') : tTest te σ H R := h
theorem w_B {R : Bool → Hp → Prop} (h : te σ H fun x H' => ∃ k, x = .bl k ∧ R k H') : tB te σ H R := h
theorem w_bl {R : Bool → Hp → Prop} (q : R b H) : ∃ k, V.bl b = .bl k ∧ R k H := ⟨b, rfl, q⟩
theorem w_bl' {G : Bool → Prop} (q : G b) : ∃ k, V.bl b = .bl k ∧ G k := ⟨b, rfl, q⟩
theorem w_and {R : Bool → Hp → Prop} (h : t σ H fun c H1 => if c = true then u σ H1 R else R false H1) : tAnd t u σ H R := h
theorem w_or {R : Bool → Hp → Prop} (h : t σ H fun c H1 => if c = true then R true H1 else u σ H1 R) : tOr t u σ H R := h
theorem w_not {R : Bool → Hp → Prop} (h : t σ H fun c H1 => R (!c) H1) : tNot t σ H R := h
theorem w_andV (h : ta σ H fun x H1 => ∃ c, x = .bl c ∧ if c = true then tb σ H1 Q else Q (.bl false) H1) : tAndV ta tb σ H Q := h
theorem w_orV (h : ta σ H fun x H1 => ∃ c, x = .bl c ∧ if c = true then Q (.bl true) H1 else tb σ H1 Q) : tOrV ta tb σ H Q := h
theorem w_notV (h : ta σ H fun x H1 => ∃ c, x = .bl c ∧ Q (.bl (!c)) H1) : tNotV ta σ H Q := h
/-! statements -/
theorem w_seq (h : t1 { D with nx := t2 D } σ H) : tSeq t1 t2 D σ H := h
theorem w_seqR (h : ∀ R : L2.St → Hp → Prop, t2 D = R → t1 { D with nx := R } σ H) : tSeq t1 t2 D σ H := h _ rfl
theorem w_R {R R' : L2.St → Hp → Prop} (e : R' = R) (h : R' σ H) : R σ H := e ▸ h
theorem w_next (h : D.nx σ H) : tNext D σ H := h
theorem w_brk (h : D.bk σ H) : tBreak D σ H := h
theorem w_cont (h : D.ct σ H) : tCont D σ H := h
theorem w_nx {f1 f3 f4 : L2.St → Hp → Prop} {f2 : VK} (h : f1 σ H) : Ends.nx ⟨f1, f2, f3, f4⟩ σ H := h
theorem w_rt {f1 f3 f4 : L2.St → Hp → Prop} {f2 : VK} (h : f2 v H) : Ends.rt ⟨f1, f2, f3, f4⟩ v H := h
theorem w_bk {f1 f3 f4 : L2.St → Hp → Prop} {f2 : VK} (h : f3 σ H) : Ends.bk ⟨f1, f2, f3, f4⟩ σ H := h
theorem w_ct {f1 f3 f4 : L2.St → Hp → Prop} {f2 : VK} (h : f4 σ H) : Ends.ct ⟨f1, f2, f3, f4⟩ σ H := h
theorem w_drop (h : te σ H fun _ H1 => D.nx σ H1) : tDrop te D σ H := h
theorem w_ret (h : te σ H D.rt) : tRet te D σ H := h
theorem w_retN (h : D.rt .non H) : tRetN D σ H := h
theorem w_ifS (h : c σ H fun b H1 => if b = true then t1 D σ H1 else t2 D σ H1) : tIfS c t1 t2 D σ H := h
theorem w_asg {g : TG} (h : te σ H fun x H1 => g x σ H1 D.nx) : tAsg te g D σ H := h
theorem w_gN {R : L2.St → Hp → Prop} (h : R (σ.set i (some v)) H) : gName i v σ H R := h
theorem w_gSub {to ti : TE} {s : TSet} {R : L2.St → Hp → Prop} (h : to σ H fun o H1 => ti σ H1 fun i H2 => s o i v H2 fun H3 => R σ H3) : gSub to ti s v σ H R := h
theorem w_gTup {n : Nat} {g : TGs} {xs : List V} {R : L2.St → Hp → Prop} (hs : SqT K H p xs) (hn : xs.length = n) (h : g xs σ H R) : gTup K n g (.ref p) σ H R := ⟨p, xs, rfl, hs, hn, h⟩
theorem w_gNil {R : L2.St → Hp → Prop} (h : R σ H) : gNil [] σ H R := ⟨rfl, h⟩
theorem w_gCons {g : TG} {gs : TGs} {xs : List V} {R : L2.St → Hp → Prop} (h : g v σ H fun σ' H' => gs xs σ' H' R) : gCons g gs (v :: xs) σ H R := ⟨v, xs, rfl, h⟩
theorem w_for {wi : TI} {g : TG} {tb : TS} (h : wi σ H fun J H1 => ∃ W : Nat → Nat → L2.St → Hp → Prop, (∃ m, W 0 m σ H1) ∧ ∀ i m σ H, W i m σ H →
    (J.stop i H ∧ D.nx σ H) ∨ (J.go i H ∧ ∃ N : L2.St → Hp → Prop, (∀ σ' H', N σ' H' → ∃ m', m' < m ∧ W (i + 1) m' σ' H') ∧ ∀ x H', J.yld i H x H' → g x σ H' fun σ2 H2 => tb { D with nx := N, ct := N, bk := D.nx } σ2 H2)) : tFor wi g tb D σ H := h
theorem w_lc {wi : TI} {g : TG} {tt : TT} {vs : List Nat} (h : wi σ H fun J H1 => ∀ D, H1 D = none → ∃ W : Nat → Nat → Hp → Prop, (∃ m, W 0 m (upd H1 D (.lst []))) ∧ ∀ i m H, W i m H →
  (J.stop i H ∧ Q (.ref D) H) ∨ (J.go i H ∧ ∃ Nx : Hp → Prop, (∀ H', Nx H' → ∃ m', m' < m ∧ W (i + 1) m' H') ∧ ∀ x H', J.yld i H x H' → g x (wipe σ vs) H' fun σ2 H2 => wipe σ2 vs = wipe σ vs ∧ tt σ2 H2 fun b H3 =>
    if b = true then te σ2 H3 fun y H4 => ∃ acc, H4 D = some (.lst acc) ∧ acc.length < sizeLine ∧ Nx (upd H4 D (.lst (acc ++ [y]))) else Nx H3)) : tLc wi g tt te vs σ H Q := h
theorem w_yes {R : Bool → Hp → Prop} (h : R true H) : tYes σ H R := h
theorem w_sig (e : σ' = σ) {t : TS} (h : t D σ H) : t D σ' H := by
  rw [e]
  exact h
theorem w_par {j : Nat} {t : TA} (h : t σ H fun vs H1 => ∃ v w, vs = [v, w] ∧ D.nx ((σ.set i (some v)).set j (some w)) H1) : tPar i j t D σ H := h
theorem c_par {G : V → V → Prop} {v w : V} (q : G v w) : ∃ x y, [v, w] = [x, y] ∧ G x y := ⟨v, w, rfl, q⟩
theorem c_max {R : VK} {ns : List Int} (h : SqL K H p (ns.map V.int)) (h0 : 0 < ns.length) (q : ∀ m, m ∈ ns → (∀ y, y ∈ ns → y ≤ m) → R (.int m) H) : rMax K [V.ref p] H R := ⟨p, ns, rfl, h, h0, q⟩
theorem c_cat {xs zs : List V} (h1 : H p = some (.lst xs)) (h2 : H q = some (.lst zs)) (hz : xs.length + zs.length < 100000) (k : ∀ r, H r = none → Q (.ref r) (upd H r (.lst (xs ++ zs)))) : rCat (.ref p) (.ref q) H Q :=
  ⟨p, q, xs, zs, rfl, rfl, h1, h2, Nat.le_trans (Nat.le_of_lt hz) (by decide), k⟩
/-! leaves by name -/
def rngLeaf (R : It → Hp → Prop) (vs : List V) (H1 : Hp) : Prop := ∃ j : Int, vs = [.int j] ∧ -(2 ^ 62) ≤ j ∧ j < 2 ^ 62 ∧ R (Itr 0 j.toNat) H1
def rng2Leaf (R : It → Hp → Prop) (vs : List V) (H1 : Hp) : Prop := ∃ i j : Int, vs = [.int i, .int j] ∧ (-(2 ^ 62) ≤ i ∧ i < 2 ^ 62 ∧ -(2 ^ 62) ≤ j ∧ j < 2 ^ 62) ∧ R (Itr i (j - i).toNat) H1
def lstLeaf (K : PySem.W.Frag) (R : It → Hp → Prop) (x : V) (H1 : Hp) : Prop := ∃ a, x = .ref a ∧ (∃ xs, SqL K H1 a xs) ∧ R (Itl K a) H1
def tupLeaf (K : PySem.W.Frag) (R : It → Hp → Prop) (x : V) (H1 : Hp) : Prop := ∃ a, x = .ref a ∧ (∃ xs, SqT K H1 a xs) ∧ R (Itt K a) H1
def zipLeaf (K : PySem.W.Frag) (R : It → Hp → Prop) (vs : List V) (H1 : Hp) : Prop := ∃ a b xs ys, vs = [.ref a, .ref b] ∧ SqL K H1 a xs ∧ SqL K H1 b ys ∧ R (Itz K a b) H1
def keysLeaf (R : It → Hp → Prop) (x : V) (H1 : Hp) : Prop := ∃ d o, x = .ref d ∧ ((∃ kvs, H1 d = some (.frz o (.dK kvs)) ∧ R (Itk d o kvs) H1) ∨ ∃ kvs, H1 d = some (.frz o (.dT kvs)) ∧ R (Itkt d o kvs) H1)
def partLeaf (Q : Option Int → Hp → Prop) (x : V) (H1 : Hp) : Prop := ∃ i, x = .int i ∧ Q (some i) H1
def dinLeaf (neg : Bool) (Q : VK) (y x : V) (H2 : Hp) : Prop := ∃ a o, x = .ref a ∧ DGet H2 a y o ∧ Q (.bl (if neg then !o.isSome else o.isSome)) H2
theorem w_part {Q : Option Int → Hp → Prop} (h : te σ H (partLeaf Q)) : tPart te σ H Q := h
theorem c_part {Q : Option Int → Hp → Prop} {j : Int} (q : Q (some j) H) : partLeaf Q (.int j) H := ⟨j, rfl, q⟩
theorem w_iL {tl : TE} {R : It → Hp → Prop} (h : tl σ H (lstLeaf K R)) : iList K tl σ H R := h
theorem c_iL {R : It → Hp → Prop} {xs : List V} (hs : SqL K H p xs) (q : R (Itl K p) H) : lstLeaf K R (.ref p) H := ⟨p, rfl, ⟨_, hs⟩, q⟩
theorem w_iT {tl : TE} {R : It → Hp → Prop} (h : tl σ H (tupLeaf K R)) : iTup K tl σ H R := h
theorem c_iT {R : It → Hp → Prop} {xs : List V} (hs : SqT K H p xs) (q : R (Itt K p) H) : tupLeaf K R (.ref p) H := ⟨p, rfl, ⟨_, hs⟩, q⟩
theorem w_iZ {t : TA} {R : It → Hp → Prop} (h : t σ H (zipLeaf K R)) : iZip K t σ H R := h
theorem c_iZ {R : It → Hp → Prop} {xs ys : List V} (h1 : SqL K H p xs) (h2 : SqL K H q ys) (k : R (Itz K p q) H) : zipLeaf K R [.ref p, .ref q] H := ⟨p, q, xs, ys, rfl, h1, h2, k⟩
theorem w_iR1 {t : TA} {R : It → Hp → Prop} (h : t σ H (rngLeaf R)) : iRng1 t σ H R := h
theorem c_iR1 {R : It → Hp → Prop} {n : Int} (h1 : -(2 ^ 62) ≤ n) (h2 : n < 2 ^ 62) (q : R (Itr 0 n.toNat) H) : rngLeaf R [.int n] H := ⟨n, rfl, h1, h2, q⟩
theorem w_iR2 {t : TA} {R : It → Hp → Prop} (h : t σ H (rng2Leaf R)) : iRng2 t σ H R := h
theorem c_iR2 {R : It → Hp → Prop} {n m : Int} (h1 : -(2 ^ 62) ≤ n ∧ n < 2 ^ 62 ∧ -(2 ^ 62) ≤ m ∧ m < 2 ^ 62) (q : R (Itr n (m - n).toNat) H) : rng2Leaf R [.int n, .int m] H := ⟨n, m, rfl, h1, q⟩
theorem w_iK {td : TE} {R : It → Hp → Prop} (h : td σ H (keysLeaf R)) : iKeys td σ H R := h
theorem c_iKT {R : It → Hp → Prop} {ob : Obj} {kvs : List (List Key × V)} (h : H p = some (.frz ob (.dT kvs))) (q : R (Itkt p ob kvs) H) : keysLeaf R (.ref p) H := ⟨p, ob, rfl, .inr ⟨kvs, h, q⟩⟩
theorem c_iKK {R : It → Hp → Prop} {ob : Obj} {kvs : List (Key × V)} (h : H p = some (.frz ob (.dK kvs))) (q : R (Itk p ob kvs) H) : keysLeaf R (.ref p) H := ⟨p, ob, rfl, .inl ⟨kvs, h, q⟩⟩
theorem w_din {ty td : TE} (h : ty σ H fun y H1 => td σ H1 fun x H2 => dinLeaf false Q y x H2) : tDIn ty td σ H Q := h
theorem w_dnin {ty td : TE} (h : ty σ H fun y H1 => td σ H1 fun x H2 => dinLeaf true Q y x H2) : tDNotIn ty td σ H Q := h
theorem c_din {r : Option V} (h : DGet H p y r) (q : Q (.bl r.isSome) H) : dinLeaf false Q y (.ref p) H := ⟨p, r, rfl, h, q⟩
theorem c_dnin {r : Option V} (h : DGet H p y r) (q : Q (.bl (!r.isSome)) H) : dinLeaf true Q y (.ref p) H := ⟨p, r, rfl, h, q⟩
theorem ans_or2 {b1 b2 : Bool} (h1 : Ans t σ H b1) (h2 : Ans u σ H b2) : Ans (tOr t u) σ H (b1 || b2) := by
  cases b1 with
  | true => exact ans_or1 h1
  | false => exact ans_or h1 h2
/-! what is known of a branch -/
theorem br {c : Bool} {A B : Prop} (h1 : c = true → A) (h2 : c = false → B) : if c = true then A else B := by
  cases c with
  | true => exact h1 rfl
  | false => exact h2 rfl
theorem brT {c : Bool} {A B : Prop} (h : c = true) (h1 : A) : if c = true then A else B := by rw [if_pos h]; exact h1
theorem brF {c : Bool} {A B : Prop} (h : c = false) (h1 : B) : if c = true then A else B := by rw [if_neg (by rw [h]; decide)]; exact h1
theorem brD {c : Prop} [Decidable c] {A B : Prop} (h1 : c → A) (h2 : ¬ c → B) : if decide c = true then A else B := br (fun h => h1 (of_decide_eq_true h)) (fun h => h2 (of_decide_eq_false h))
theorem brDn {c : Prop} [Decidable c] {A B : Prop} (h1 : ¬ c → A) (h2 : c → B) : if (!decide c) = true then A else B := br (fun h => h1 (by simpa using h)) (fun h => h2 (by simpa using h))
theorem brDT {c : Prop} [Decidable c] {A B : Prop} (h : c) (h1 : A) : if decide c = true then A else B := brT (decide_eq_true h) h1
theorem brDF {c : Prop} [Decidable c] {A B : Prop} (h : ¬ c) (h1 : B) : if decide c = true then A else B := brF (decide_eq_false h) h1
theorem int_eq {i j : Int} : decide (V.int i = V.int j) = decide (i = j) := by
  by_cases e : i = j
  · subst e; simp
  · rw [decide_eq_false e, decide_eq_false (fun h => e (V.int.inj h))]
theorem str_eq {i j : Str} : decide (V.str i = V.str j) = decide (i = j) := by
  by_cases e : i = j
  · subst e; simp
  · rw [decide_eq_false e, decide_eq_false (fun h => e (V.str.inj h))]
end
/-! calls of built-ins by named readings -/
def rLenQ (K : PySem.W.Frag) : List V → Hp → VK → Prop := fun xs H Q => ∃ p ys, xs = [V.ref p] ∧ (SqL K H p ys ∨ SqT K H p ys) ∧ Q (.int (ys.length : Nat)) H
def rAbsQ : List V → Hp → VK → Prop := fun xs H Q => ∃ i, xs = [V.int i] ∧ Q (.int (if i < 0 then -i else i)) H
def rMin2Q : List V → Hp → VK → Prop := fun xs H Q => ∃ i j, xs = [V.int i, V.int j] ∧ Q (.int (if j < i then j else i)) H
def rMax2Q : List V → Hp → VK → Prop := fun xs H Q => ∃ i j, xs = [V.int i, V.int j] ∧ Q (.int (if j > i then j else i)) H
def rIntQ : List V → Hp → VK → Prop := fun xs H Q => (∃ i, xs = [V.int i] ∧ Q (.int i) H) ∨ ∃ k, xs = [V.bl k] ∧ Q (.int (if k then 1 else 0)) H
def rIsNQ : R2 := fun x y H Q => y = .non ∧ Q (.bl (decide (x = .non))) H
def rNotNQ : R2 := fun x y H Q => y = .non ∧ Q (.bl (!decide (x = .non))) H
section
variable {X : Cx}
theorem cr_len : CallR X (.builtin "len") (rLenQ X.K) := call_len_seq
theorem cr_abs : CallR X (.builtin "abs") rAbsQ := call_abs
theorem cr_min2 (h : X.calm = true) : CallR X (.builtin "min") rMin2Q := call_min2 h
theorem cr_max2 (h : X.calm = true) : CallR X (.builtin "max") rMax2Q := call_max2 h
theorem cr_int : CallR X (.type "int") rIntQ := call_int1
theorem opr_isN : OpR X (compareOp .Is) rIsNQ := op_isN
theorem opr_notN : OpR X (compareOp .IsNot) rNotNQ := op_notN
end
section
variable {σ σ' : L2.St} {H H' : Hp} {Q : VK} {i : Nat} {v x y z : V} {ta tb tc te tv td ty : TE} {K : PySem.W.Frag} {p q a C dx : Addr} {D : Ends} {b : Bool} {o : HO} {n m : Int}
theorem c_len {ys : List V} (h : SqL K H p ys) (q : Q (.int (ys.length : Nat)) H) : rLenQ K [V.ref p] H Q := ⟨p, ys, rfl, .inl h, q⟩
theorem c_lenT {ys : List V} (h : SqT K H p ys) (q : Q (.int (ys.length : Nat)) H) : rLenQ K [V.ref p] H Q := ⟨p, ys, rfl, .inr h, q⟩
theorem c_abs (q : Q (.int (if n < 0 then -n else n)) H) : rAbsQ [V.int n] H Q := ⟨n, rfl, q⟩
theorem c_min2 (q : Q (.int (if m < n then m else n)) H) : rMin2Q [V.int n, V.int m] H Q := ⟨n, m, rfl, q⟩
theorem c_max2 (q : Q (.int (if m > n then m else n)) H) : rMax2Q [V.int n, V.int m] H Q := ⟨n, m, rfl, q⟩
theorem c_int (q : Q (.int n) H) : rIntQ [V.int n] H Q := .inl ⟨n, rfl, q⟩
theorem c_isN (q : Q (.bl (decide (x = .non))) H) : rIsNQ x .non H Q := ⟨rfl, q⟩
theorem c_notN (q : Q (.bl (!decide (x = .non))) H) : rNotNQ x .non H Q := ⟨rfl, q⟩
theorem c_isi {t u : Value} {c : V} (hc : ClsV c u) (ht : TyX K H x t) (hk : PySem.W.kitOne K t u = some b) (q : Q (.bl b) H) : rIsi K [x, c] H Q := ⟨x, c, t, u, b, rfl, hc, ht, hk, q⟩
theorem c_sum {ns : List Int} (h : SqL K H p (ns.map V.int)) (q : Q (.int ns.sum) H) : rSum K [V.ref p] H Q := ⟨p, ns, rfl, h, q⟩
theorem c_popAt {xs : List V} {k : Nat} (h : H p = some (.lst xs)) (hn : (0 : Int) ≤ n ∧ n < xs.length ∧ xs.length < 100000) (hk : n = (k : Int)) (hv : xs[k]? = some v) (q : Q v (upd H p (.lst (xs.eraseIdx k)))) : rPopAt (.ref p) [.int n] H Q := by
  refine ⟨p, xs, n, k, v, rfl, rfl, h, by omega, by omega, ?_, hv, q⟩
  subst hk
  unfold seqIndex?
  have h0 : ¬ ((k : Int) < 0) := by omega
  rw [if_neg h0]
  have h2 : (decide (0 ≤ (k : Int)) && decide ((k : Int) < (xs.length : Int))) = true := by simp; omega
  rw [if_pos h2]
  simp
/-! dicts -/
theorem w_dget (h : td σ H fun x H1 => ty σ H1 fun y H2 => ∃ a v, x = .ref a ∧ DGet H2 a y (some v) ∧ Q v H2) : tDGet td ty σ H Q := h
theorem w_dput (h : tv σ H fun v H1 => td σ H1 fun x H2 => ty σ H2 fun y H3 => ∃ a H4, x = .ref a ∧ DPut H3 a y v H4 ∧ D.nx σ H4) : sDPut td ty tv D σ H := h
theorem w_dnewT (h : ∀ p, H p = none → Q (.ref p) (upd H p (.dT []))) : tDNewT σ H Q := h
theorem w_dnewK (h : ∀ p, H p = none → Q (.ref p) (upd H p (.dK []))) : tDNewK σ H Q := h
/-! comprehensions -/
theorem w_wipe {vs : List Nat} {A : Prop} (hw : wipe σ' vs = wipe σ vs) (q : A) : wipe σ' vs = wipe σ vs ∧ A := ⟨hw, q⟩
theorem w_acc {acc : List V} {G : Hp → Prop} (h : H p = some (.lst acc)) (hz : acc.length < 100000) (q : G (upd H p (.lst (acc ++ [v])))) : ∃ acc, H p = some (.lst acc) ∧ acc.length < sizeLine ∧ G (upd H p (.lst (acc ++ [v]))) := ⟨acc, h, Nat.lt_of_lt_of_le hz (by decide), q⟩
/-! what stays of tuples -/
theorem tup_frame {xs : List V} (hf : ∀ b, b ≠ a → H' b = H b) (ha : H a = some (.lst xs)) : ∀ b ys, H b = some (.tup ys) → H' b = some (.tup ys) := fun b ys h => by
  rw [hf b (ne_of h ha (fun z => nomatch z))]
  exact h
theorem tup_upd {xs : List V} {o1 : HO} (ha : H a = some (.lst xs)) : ∀ b ys, H b = some (.tup ys) → upd H a o1 b = some (.tup ys) := fun b ys h => by
  rw [upd_ne (ne_of h ha (fun z => nomatch z))]
  exact h
theorem tup_new {o1 : HO} (ha : H a = none) : ∀ b ys, H b = some (.tup ys) → upd H a o1 b = some (.tup ys) := fun b ys h => upd_old h ha
theorem tup_frz {ob : Obj} {u o1 : HO} (ha : H a = some (.frz ob u)) : ∀ b ys, H b = some (.tup ys) → upd H a o1 b = some (.tup ys) := fun b ys h => by
  rw [upd_ne (ne_of h ha (fun z => nomatch z))]
  exact h
theorem frame_at (hf : ∀ b, b ≠ a → H' b = H b) (hn : p ≠ a) (h : H p = some o) : H' p = some o := by
  rw [hf p hn]
  exact h
theorem same_new {H0 : Hp} {o1 : HO} (h : Same H0 H) (hp : H p = none) : Same H0 (upd H p o1) := fun b o hb => upd_old (h b o hb) hp
/-- changed at p, which H0 does not know -/
theorem same_mut {H0 : Hp} {o1 : HO} (h : Same H0 H) (hp : H0 p = none) : Same H0 (upd H p o1) := fun b o hb => upd_mut (ne_of_none hb hp) (h b o hb)
end
section
variable {σ σ' : L2.St} {H H' : Hp} {Q : VK} {i : Nat} {v x y z : V} {ta tb tc te tv td ty : TE} {K : PySem.W.Frag} {p q a C dx : Addr} {D : Ends} {b : Bool} {o : HO} {n m : Int} {fs : List (Str × V)} {f mm : Str} {sp : Sp} {dvs : List V} {E : XK} {t : TA}
/-! fields, methods, instances -/
def sfldLeaf (K : PySem.W.Frag) (f : Str) (y : V) (R : Hp → Prop) (x : V) (H2 : Hp) : Prop := ∃ a C dx fs, x = .ref a ∧ H2 a = some (.ins C dx fs) ∧ Cls K C ∧ NoAttr K C f ∧ fs.length < 1000 ∧ R (upd H2 a (.ins C dx (putF f y fs)))
theorem w_sfld (h : tv σ H fun y H1 => ta σ H1 (sfldLeaf K f y (D.nx σ))) : sFld K ta tv f D σ H := h
theorem c_sfld {R : Hp → Prop} (h : H p = some (.ins C dx fs)) (hc : Cls K C) (hn : NoAttr K C f) (hl : fs.length < 1000) (q : R (upd H p (.ins C dx (putF f y fs)))) : sfldLeaf K f y R (.ref p) H := ⟨p, C, dx, fs, rfl, h, hc, hn, hl, q⟩
def methLeaf (C : Addr) (mm : Str) (sp : Sp) (dvs : List V) (E : XK) (t : TA) (σ : L2.St) (Q : VK) (x : V) (H1 : Hp) : Prop := ∃ a dx fs, x = .ref a ∧ H1 a = some (.ins C dx fs) ∧ fs.lookup mm = none ∧ t σ H1 fun vs H2 => sp (x :: (vs ++ dvs)) H2 Q E
theorem w_meth (h : ta σ H (methLeaf C mm sp dvs E t σ Q)) : tMeth C mm sp dvs E ta t σ H Q := h
theorem c_meth (h : H p = some (.ins C dx fs)) (hl : fs.lookup mm = none) (q : t σ H fun vs H2 => sp (.ref p :: (vs ++ dvs)) H2 Q E) : methLeaf C mm sp dvs E t σ Q (.ref p) H := ⟨p, dx, fs, rfl, h, hl, q⟩
def makeLeaf (C : Addr) (sp : Sp) (dvs : List V) (E : XK) (Q : VK) (vs : List V) (H1 : Hp) : Prop := ∀ x dx, H1 x = none → H1 dx = none → dx ≠ x → sp (.ref x :: (vs ++ dvs)) (upd (upd H1 dx (.own x)) x (.ins C dx [])) (fun v H2 => v = .non ∧ Q (.ref x) H2) E
theorem w_make {t : TA} (h : t σ H (makeLeaf C sp dvs E Q)) : tMake C sp dvs E t σ H Q := h
end
section
variable {X : Cx}
theorem peE {e : Expr} {t t' : TE} (h : PE X e t) (q : t = t') : PE X e t' := q ▸ h
theorem ptsE {e : List Expr} {t t' : TT} (h : PTs X e t) (q : t = t') : PTs X e t' := q ▸ h
theorem pgE {e : Expr} {t t' : TG} (h : PG X e t) (q : t = t') : PG X e t' := q ▸ h
end
end Eg

/-! DTx: dicts whose keys are tuples: comprehensions that make them, == and != of two, sorted of one. -/
namespace DTx
open PySem PySem.Spec PyProof.Rows L2
/-- a pair put into the dict of a comprehension, its key a tuple that stands -/
theorem d_putT {X : Cx} {pins : List (Addr × Obj)} {σ : L2.St} {H : Hp} {s : Shared} {E : Value → Shared → Prop} {D c : Addr} {ps : List (List Key × V)} {k : List Key} {y : V} {u r : Value} {Q : Unit → Shared → Prop} (hu : X.A.units < cLine) (I : Inv X pins σ H s)
    (hD : H D = some (.dT ps)) (hz : ps.length < sizeLine) (hc : H c = some (.tup (k.map kV))) (ru : RelV (.ref c) u) (ry : RelV y r) (q : ∀ s', Inv X pins σ (upd H D (.dT (putK ps k y))) s' → Q () s') :
    wpAny (model X.prog X.w) X.A (dictSet D u r) Q E s := by
  cases (show u = Value.ref c from ru)
  obtain ⟨z, hs, es, rel, dd⟩ := dt_of I.hok hD
  have hl : (putK ps k y).length ≤ sizeLine := by
    have := length_putK ps k y
    omega
  have hn : es.length ≤ sizeLine := by
    rw [← Paired.length rel]
    exact z
  refine wpAny_dictSet_heap (knd := tupleKind (mixKind X.prog X.w)) hu (key_of I.hok hc) dd (fun h' d2 sb => q _ ?_) hn
  obtain ⟨ob, fs, ep, g1, g2, g3, g4, _, g6⟩ := d2
  refine d_write I (by rw [hD]; trivial) sb ⟨ob, g1⟩ ⟨hl, hs, _, KT.keeps (KT.put rel k hc ry) fun b ys e => ?_, ob, fs, ep, g1, g2, g3, g4, g6⟩
  rw [upd_ne (ne_of e hD fun z => nomatch z)]
  exact e
/-- the reading of such a comprehension -/
def tDt (wi : TI) (g : TG) (tt : TT) (tk tv : TE) (vs : List Nat) : TE := fun σ H Q => wi σ H fun J H1 => ∀ D, H1 D = none →
  ∃ W : Nat → Nat → Hp → Prop, (∃ m, W 0 m (upd H1 D (.dT []))) ∧ ∀ i m H, W i m H → (J.stop i H ∧ Q (.ref D) H) ∨
    (J.go i H ∧ ∃ Nx : Hp → Prop, (∀ H', Nx H' → ∃ m', m' < m ∧ W (i + 1) m' H') ∧ ∀ x H', J.yld i H x H' → g x (wipe σ vs) H' fun σ2 H2 => wipe σ2 vs = wipe σ vs ∧ tt σ2 H2 fun b H3 =>
      if b = true then tk σ2 H3 fun y H4 => tv σ2 H4 fun z H5 => ∃ ps k c, y = .ref c ∧ H5 c = some (.tup (k.map kV)) ∧ H5 D = some (.dT ps) ∧ ps.length < sizeLine ∧ Nx (upd H5 D (.dT (putK ps k z))) else Nx H3)
section
variable {X : Cx}
/-- the block of a comprehension, in short -/
abbrev InBlk (X : Cx) (scope : Scope) (φ : Cx → Prop) : Prop := ∀ (s : Shared) (H : Hp) (C : Addr) (cl : List (Str × Addr)) (fp : List Addr), φ (X.blk s H scope (compEnvC scope cl C X.env) fp)
theorem dc_core {pins : List (Addr × Obj)} {s : Shared} {σ : L2.St} {H : Hp} {Q : VK} {kx vx tg iter : Expr} {ifs : List Expr} {scope : Scope} {own : List (Str × Nat)} {pos pos' : Pos} {wi : TI} {g : TG} {tt : TT} {tk tv : TE} {use : Option (Value → Sem Unit)} {Qf : Value → Shared → Prop}
    (hu : X.A.units < cLine) (calm : X.calm = true) (nd : X.N.Nodup) (I : Inv X pins σ H s) (hi : PI X tg iter wi) (ok : BlkOk X.N X.env.scope scope own)
    (hg : InBlk X scope fun Y => PG Y tg g) (ht : InBlk X scope fun Y => PTs Y ifs tt) (hk : InBlk X scope fun Y => PE Y kx tk) (hv : InBlk X scope fun Y => PE Y vx tv) (hs : ∀ x, foldedSetIterable iter X.env x = pure x)
    (h : tDt wi g tt tk tv (own.map (·.2)) σ H Q)
    (hRR : ∀ D C s' m H', Inv X pins σ H' s' → Q (.ref D) H' → s'.heap.Ns C m → FpOk X pins H' C → compPost (model X.prog X.w) X.A X.xe use Qf (.ref D) C (.ok .next) s') :
    wpAny (model X.prog X.w) X.A (comprehension (.DictComp kx vx [⟨tg, iter, ifs, 0⟩] scope pos) scope X.env pos' newDict false (eval iter X.env) use) Qf X.xe s := by
  have cells : ∀ y ∈ scope.names, y.2 = .free → ∃ c, X.env.cells.lookup y.1 = some c := fun y hy e => (ok.free y hy e).elim (fun k => I.ok.has _ (.inl k)) fun k => I.ok.has _ (.inr k)
  refine wpAny_comprehension_free (use := use) rfl hs (closure_ok cells) ok.kind (fun y hy e => by rw [ok.uniq y hy, e]) (thn (hi.run pins s σ H _ I h) fun xv s1 hx => thn hx fun itv s2 h2 => ?_)
  obtain ⟨it, fp, tn, J, H2, rfl, I2, T, t2, f2, q⟩ := h2
  refine wpAny_newObj_type (newEnv_comp ?_)
  -- the new dict, at D
  obtain ⟨D, hD⟩ : ∃ D, s2.heap.objs.size = D := ⟨_, rfl⟩
  obtain ⟨W, ⟨m0, w0⟩, turn⟩ := q D (I2.hok.fresh (Nat.le_of_eq hD))
  obtain ⟨s3, es3⟩ : ∃ s3 : Shared, { s2 with heap := s2.heap.push { cls := .type "dict", data := .dict #[] } } = s3 := ⟨_, rfl⟩
  have J3 : Inv X pins σ (upd H2 D (.dT [])) s3 := by
    rw [← es3, ← hD]
    exact I2.laid (t' := s2.toks) (fun b o e => Heap.get?_push_of_some _ e) (Nat.le_refl _) (dt_empty s2.heap I2.big)
  have hp3 : s3.heap = s2.heap.push { cls := .type "dict", data := .dict #[] } := by rw [← es3]
  have low : ∀ b ∈ fp, b < s2.heap.objs.size := fun b hb => let ⟨_, e, _⟩ := T.obj _ _ t2 b hb; Heap.lt_size e
  have F3 : ∀ b ∈ fp, FpOk X pins (upd H2 D (.dT [])) b ∧ b < s3.heap.objs.size := fun b hb => by
    refine ⟨⟨?_, (f2 b hb).2⟩, ?_⟩
    · rw [upd_ne (by rw [← hD]; exact Nat.ne_of_lt (low b hb))]
      exact (f2 b hb).1
    · rw [hp3, Heap.size_push]
      exact Nat.lt_succ_of_lt (low b hb)
  have t3 : tn 0 s3.heap := T.keep _ _ _ t2 fun b _ o e => by
    rw [hp3]
    exact Heap.get?_push_of_some _ e
  have J4 := block_start J3 ok nd F3
  -- the block's context
  show codeAny _ _ (.compStart (.DictComp kx vx [⟨tg, iter, ifs, 0⟩] scope pos) 0 (.ref it) (.ref s2.heap.objs.size) _) _ _
  rw [hD]
  show codeAny _ _ (.compStart _ 0 (.ref it) (.ref D) (compEnvC scope (cellsFrom (s2.heap.push { cls := .type "dict", data := .dict #[] } |>.objs.size.succ) scope.names (cloFrom X.env.cells scope.names [])) (s2.heap.push { cls := .type "dict", data := .dict #[] }).objs.size X.env)) _
    { s2 with heap := pushCells ((s2.heap.push { cls := .type "dict", data := .dict #[] }).push { cls := .type "dict", data := .dict #[] }) scope.names }
  rw [← hp3]
  have Fn : ∀ b ∈ fp, (upd H2 D (.dT [])) b = none := fun b hb => (F3 b hb).1.1
  have Pg := hg s3 (upd H2 D (.dT [])) s3.heap.objs.size (cellsFrom (s3.heap.objs.size + 1) scope.names (cloFrom X.env.cells scope.names [])) fp
  have Pt := ht s3 (upd H2 D (.dT [])) s3.heap.objs.size (cellsFrom (s3.heap.objs.size + 1) scope.names (cloFrom X.env.cells scope.names [])) fp
  have Pk := hk s3 (upd H2 D (.dT [])) s3.heap.objs.size (cellsFrom (s3.heap.objs.size + 1) scope.names (cloFrom X.env.cells scope.names [])) fp
  have Pv := hv s3 (upd H2 D (.dT [])) s3.heap.objs.size (cellsFrom (s3.heap.objs.size + 1) scope.names (cloFrom X.env.cells scope.names [])) fp
  have e24 : ({ s2 with heap := pushCells (s3.heap.push { cls := .type "dict", data := .dict #[] }) scope.names } : Shared) = { s3 with heap := pushCells (s3.heap.push { cls := .type "dict", data := .dict #[] }) scope.names } := by rw [← es3]
  rw [e24]
  generalize ece : compEnvC scope (cellsFrom (s3.heap.objs.size + 1) scope.names (cloFrom X.env.cells scope.names [])) s3.heap.objs.size X.env = ce at J4 Pg Pt Pk Pv ⊢
  have eL : ce.locals = s3.heap.objs.size := by rw [← ece]; rfl
  generalize eH3 : upd H2 D (.dT []) = H3 at J3 J4 Pg Pt Pk Pv w0 Fn F3
  generalize es4 : ({ s3 with heap := pushCells (s3.heap.push { cls := .type "dict", data := .dict #[] }) scope.names } : Shared) = s4 at J4 ⊢
  have t4 : tn 0 s4.heap := T.keep _ _ _ t3 fun b _ o e => by
    rw [← es4]
    exact pushCells_keeps _ _ _ _ (Heap.get?_push_of_some _ e)
  have still : ∀ {σ' : L2.St} {H' : Hp} {s' : Shared}, Inv (X.blk s3 H3 scope ce fp) [] σ' H' s' → (∀ b ∈ fp, H' b = none) → ∀ b ∈ fp, FpOk (X.blk s3 H3 scope ce fp) [] H' b := fun K hn b hb =>
    ⟨hn b hb, (K.ok.exf b hb).1, K.ok.exfs b hb, .inl hb, fun x c e => (K.ok.exf b hb).2 x c e, fun p hp => absurd (show p ∈ ([] : List (Addr × Obj)) ++ [] from hp) (by simp)⟩
  have back : ∀ {H' : Hp} {s' : Shared}, Inv (X.blk s3 H3 scope ce fp) [] (wipe σ (own.map (·.2))) H' s' → Q (.ref D) H' → compPost (model X.prog X.w) X.A X.xe use Qf (.ref D) s3.heap.objs.size (.ok .next) s' := fun {H' s'} K qq => by
    have L : Inv X pins σ H' s' := J3.call' (ch := fp) K.os K.base K.hok K.bare fun b hb => ⟨(F3 b hb).1.2.2.2.1, (F3 b hb).1.2.1, (F3 b hb).1.2.2.2.2.1, (F3 b hb).1.2.2.2.2.2⟩
    have nC : H' s3.heap.objs.size = none := by
      have z : H' ce.locals = none := K.free
      rw [eL] at z
      exact z
    obtain ⟨m, hn, _⟩ := K.loc
    have hm : s'.heap.Ns ce.locals m := hn
    rw [eL] at hm
    exact hRR D s3.heap.objs.size s' m H' L qq hm (J3.fpOk (Nat.le_refl _) nC)
  have loop : codeAny (model X.prog X.w) X.A (.compLoop (.DictComp kx vx [⟨tg, iter, ifs, 0⟩] scope pos) 0 (.ref it) (.ref D) ce) (compPost (model X.prog X.w) X.A X.xe use Qf (.ref D) s3.heap.objs.size) s4 := by
    refine compLoop_anyD (fun n s' => ∃ i H', Inv (X.blk s3 H3 scope ce fp) [] (wipe σ (own.map (·.2))) H' s' ∧ tn i s'.heap ∧ (∀ b ∈ fp, H' b = none) ∧ W i n H') ?_ m0 ⟨0, H3, J4, t4, Fn, w0⟩
    rintro n s5 ⟨i, H5, J5, t5, n5, w5⟩
    rcases turn i n H5 w5 with ⟨stop, qq⟩ | ⟨go, Nx, hNx, step⟩
    · refine thnF (T.done (X.blk s3 H3 scope ce fp) rfl rfl rfl calm i [] s5 _ H5 (fun _ _ => False) J5 (still J5 n5) t5 stop) fun r s6 ⟨hr, J6⟩ => ?_
      subst hr
      exact back J6 qq
    · refine thnF (T.item (X.blk s3 H3 scope ce fp) rfl rfl rfl calm i [] s5 _ H5 (fun _ _ => False) J5 (still J5 n5) t5 go) fun r s6 ⟨u, hr, h6⟩ => ?_
      subst hr
      refine thnF h6 fun _ s7 ⟨x, H7, J7, r7, y7, t7, n7⟩ => ?_
      refine thnF (Pg.run _ s7 _ H7 x u _ (J7.pinned (still J7 n7) (T.obj _ _ t7)) r7 (step x H7 y7)) fun _ s8 ⟨σ8, H8, J8, w8, q8⟩ => ?_
      refine thnF (Pt.run _ s8 σ8 H8 _ J8 q8) fun b s9 ⟨H9, J9, q9⟩ => ?_
      have fin : ∀ {s' : Shared} {H' : Hp}, Inv (X.blk s3 H3 scope ce fp) ([] ++ pinsAt fp s7.heap) σ8 H' s' → Nx H' →
          ∃ m, m < n ∧ ∃ i H', Inv (X.blk s3 H3 scope ce fp) [] (wipe σ (own.map (·.2))) H' s' ∧ tn i s'.heap ∧ (∀ b ∈ fp, H' b = none) ∧ W i m H' := fun {s' H'} K nx => by
        obtain ⟨m', hm, w'⟩ := hNx H' nx
        have stood : ∀ b ∈ fp, ∀ o, s7.heap.get? b = some o → s'.heap.get? b = some o ∧ H' b = none := fun b hb o e =>
          have z := K.pin (b, o) (List.mem_append_right _ (List.mem_append_right _ (mem_pinsAt hb e)))
          ⟨z.1, z.2.1⟩
        refine ⟨m', hm, i + 1, H', (K.unpinned (pins := [])).weak (by rw [← w8, wipe_length]) (fun j v e => ?_), T.keep _ _ _ t7 fun b hb o e => (stood b hb o e).1, fun b hb => ?_, w'⟩
        · rw [← w8] at e
          exact (wipe_some e).1
        · obtain ⟨o, e, _⟩ := T.obj _ _ t7 b hb
          exact (stood b hb o e).2
      cases b with
      | false =>
        simp only [Bool.false_eq_true, if_false] at q9 ⊢
        exact fin J9 q9
      | true =>
        simp only [if_true] at q9 ⊢
        refine thnF (Pk.run _ s9 σ8 H9 _ J9 q9) fun z s10 ⟨yk, H10, J10, r10, q10⟩ => ?_
        refine thnF (Pv.run _ s10 σ8 H10 _ J10 q10) fun z2 s11 ⟨yv, H11, J11, r11, ps, k, c, ek, hcK, hD11, hz11, nx⟩ => ?_
        subst ek
        exact d_putT (X := X.blk s3 H3 scope ce fp) hu J11 hD11 hz11 hcK r10 r11 fun s12 J12 => fin J12 nx
  exact codeAny_compStart_dict loop (T.self X.A 0 _ _ _ t4 loop)
theorem pe_dcT {kx vx tg iter : Expr} {ifs : List Expr} {scope : Scope} {own : List (Str × Nat)} {pos : Pos} {wi : TI} {g : TG} {tt : TT} {tk tv : TE} (hu : X.A.units < cLine) (calm : X.calm = true) (nd : X.N.Nodup) (hi : PI X tg iter wi) (ok : BlkOk X.N X.env.scope scope own)
    (hg : InBlk X scope fun Y => PG Y tg g) (ht : InBlk X scope fun Y => PTs Y ifs tt) (hk : InBlk X scope fun Y => PE Y kx tk) (hv : InBlk X scope fun Y => PE Y vx tv) (hs : ∀ x, foldedSetIterable iter X.env x = pure x := by intro _; rfl) :
    PE X (.DictComp kx vx [⟨tg, iter, ifs, 0⟩] scope pos) (tDt wi g tt tk tv (own.map (·.2))) := by
  refine ⟨fun pins s σ H Q I h => ?_⟩
  rw [arm_eval_DictComp]
  refine dc_core hu calm nd I hi ok hg ht hk hv hs h fun D C s' m H' L q hn f => ⟨m, hn, fun h'' sb => ?_⟩
  obtain ⟨f0, f1, f2, f3, f4, f5⟩ := f
  exact ⟨.ref D, H', L.turned (t' := s'.toks) (fun b o hb e => (sb.2 b hb).trans e) f0 f1 f3 f4 f5, rfl, q⟩
/-- name = {..} on one line, the name a local -/
theorem ps_setDcT {i : Nat} {y : Str} {py : Pos} {kx vx tg iter : Expr} {ifs : List Expr} {scope : Scope} {own : List (Str × Nat)} {pos spos : Pos} {wi : TI} {g : TG} {tt : TT} {tk tv : TE} (hu : X.A.units < cLine) (calm : X.calm = true) (nd : X.N.Nodup) (hy : X.N[i]? = some y) (hyl : X.env.scope.names.lookup y = some .local)
    (hsw : swapsWith (.DictComp kx vx [⟨tg, iter, ifs, 0⟩] scope pos) (some (.Name y py)) spos.line X.env = pure true) (hi : PI X tg iter wi) (ok : BlkOk X.N X.env.scope scope own)
    (hg : InBlk X scope fun Y => PG Y tg g) (ht : InBlk X scope fun Y => PTs Y ifs tt) (hk : InBlk X scope fun Y => PE Y kx tk) (hv : InBlk X scope fun Y => PE Y vx tv) (hs : ∀ x, foldedSetIterable iter X.env x = pure x := by intro _; rfl) :
    PS X (.Assign [.Name y py] (.DictComp kx vx [⟨tg, iter, ifs, 0⟩] scope pos) spos) (tAsg (tDt wi g tt tk tv (own.map (·.2))) (gName i)) := by
  refine ⟨fun pins s σ H D I h => ?_⟩
  rw [exec_Assign_Name_used _ _ _ _ hsw]
  refine wpAny_bind (wpAny_standAt (wpAny_bind ?_))
  show wpAny _ X.A (do let _ ← comprehension (.DictComp kx vx [⟨tg, iter, ifs, 0⟩] scope pos) scope X.env (firstIterPos [⟨tg, iter, ifs, 0⟩] pos) newDict false (eval iter X.env) (some (assign (.Name y py) X.env))) _ _ s
  have h : tDt wi g tt tk tv (own.map (·.2)) σ H (fun x H1 => gName i x σ H1 D.nx) := h
  refine wpAny_bind (thn (dc_core (Qf := fun _ s' => SP X pins D .next s') hu calm nd I hi ok hg ht hk hv hs h fun L C s' m H' I' q hn f => ?_) fun _ s' hq => wpAny_pure (wpAny_pure hq))
  show wpAny _ _ (assign (.Name y py) X.env (.ref L)) _ _ _
  refine wpAny_assign_Name (store_ok2 (v := V.ref L) I' nd hy (.inl hyl) rfl (fun s2 I2 ⟨a, sb, ha⟩ => ?_) (.inr hyl))
  obtain ⟨f0, f1, f2, f3, f4, f5⟩ := f
  have haC : C ≠ a := by
    rcases ha with z | z
    · rw [z]; exact f1
    · exact fun e => f4 y a z e.symm
  refine ⟨m, hn.sameBut sb haC, fun h3 sb3 => ?_⟩
  exact ⟨_, H', I2.turned (t' := s2.toks) (fun b o hb e => (sb3.2 b hb).trans e) f0 f1 f3 f4 f5, q⟩
theorem sw_trueD {kx vx : Expr} {gs : List Comprehension} {scope : Scope} {pos py : Pos} {y : Str} {l : Nat} {env : Env} (hk : env.scope.kind = .function) (hy : env.scope.names.lookup y = some .local) (hl : (py.line == pos.line) = true)
    (ha : (scope.names.any fun (n, k) => n == y && (k == .local || k == .cell)) = false) : swapsWith (.DictComp kx vx gs scope pos) (some (.Name y py)) l env = pure true := by
  have ky : env.kindOf y = some .local := hy
  have hb : env.blockKind = .function := by unfold Env.blockKind; rw [hk]; rfl
  unfold swapsWith
  simp only [hb, ky, ha, Expr.pos, hl]
  rfl
/-- walked by anything -/
theorem dt_it {J : It} {n : Nat} {G : Hp → Prop} {Y : Nat → Hp → V → Hp → Prop} (w : Walk J n G Y) {g : TG} {tt : TT} {tk tv : TE} {vs : List Nat} {σ : L2.St} {H1 : Hp} {D : Addr} {Qd : Hp → Prop} (Pv : Nat → Hp → Prop) (h0 : Pv 0 (upd H1 D (.dT []))) (hG : ∀ i H, i ≤ n → Pv i H → G H)
    (turn : ∀ i x H H', i < n → Pv i H → Y i H x H' → g x (wipe σ vs) H' fun σ2 H2 => wipe σ2 vs = wipe σ vs ∧ tt σ2 H2 fun b H3 =>
      if b = true then tk σ2 H3 fun y H4 => tv σ2 H4 fun z H5 => ∃ ps k c, y = .ref c ∧ H5 c = some (.tup (k.map kV)) ∧ H5 D = some (.dT ps) ∧ ps.length < sizeLine ∧ Pv (i + 1) (upd H5 D (.dT (putK ps k z))) else Pv (i + 1) H3) (done : ∀ H, Pv n H → Qd H) :
    ∃ W : Nat → Nat → Hp → Prop, (∃ m, W 0 m (upd H1 D (.dT []))) ∧ ∀ i m H, W i m H → (J.stop i H ∧ Qd H) ∨ (J.go i H ∧ ∃ Nx : Hp → Prop, (∀ H', Nx H' → ∃ m', m' < m ∧ W (i + 1) m' H') ∧ ∀ x H', J.yld i H x H' → g x (wipe σ vs) H' fun σ2 H2 => wipe σ2 vs = wipe σ vs ∧ tt σ2 H2 fun b H3 =>
      if b = true then tk σ2 H3 fun y H4 => tv σ2 H4 fun z H5 => ∃ ps k c, y = .ref c ∧ H5 c = some (.tup (k.map kV)) ∧ H5 D = some (.dT ps) ∧ ps.length < sizeLine ∧ Nx (upd H5 D (.dT (putK ps k z))) else Nx H3) := by
  refine ⟨fun i m H => m + i = n ∧ Pv i H, ⟨n, rfl, h0⟩, fun i m H hw => ?_⟩
  obtain ⟨hm, p⟩ := hw
  by_cases hi : i < n
  · refine .inr ⟨w.goes i H hi (hG i H (by omega) p), Pv (i + 1), fun H' p' => ⟨m - 1, by omega, by omega, p'⟩, fun x H' y => ?_⟩
    exact turn i x H H' hi p (w.yields i H x H' hi (hG i H (by omega) p) y)
  · have e : i = n := by omega
    subst e
    exact .inl ⟨w.stops H (hG i H (Nat.le_refl _) p), done H p⟩
end
end DTx

/-! DTx: == and != of two dicts with tuple keys and int values; sorted of such a dict. -/
namespace DTx
open PySem PySem.Spec PyProof.Rows L2 PySem.Calls
section
variable {prog : Program} {w : World} {T : Type} [DecidableEq T] {knd : HeapKind prog w T} {A : Around} {E : Value → Shared → Prop} {s : Shared}
/-- the ints that stand as values -/
def intV : Value → Option Int
  | .int i _ => some i
  | _ => none
/-- whether all pairs of one stand in the other -/
def subD (xs ys : List (T × Addr × Value)) : Bool := xs.all fun x => decide (((atKey ys x.1).map fun p => intV p.2) = some (intV x.2.2))
theorem atKey_some {ys : List (T × Addr × Value)} {k : T} {j : Nat} {p : Addr × Value} (hn : (ys.map (·.1)).Nodup) (h : ys[j]? = some (k, p)) : atKey ys k = some p := by
  induction ys generalizing j with
  | nil => simp at h
  | cons y r ih =>
    have hn' : (y.1 :: r.map (·.1)).Nodup := hn
    obtain ⟨h1, h2⟩ := List.nodup_cons.mp hn'
    cases j with
    | zero =>
      have e : y = (k, p) := Option.some.inj h
      subst e
      simp [atKey]
    | succ j =>
      have e : r[j]? = some (k, p) := h
      have hm : k ∈ r.map (·.1) := List.mem_map.mpr ⟨(k, p), List.mem_of_getElem? e, rfl⟩
      have hne : ¬ y.1 = k := fun z => h1 (z ▸ hm)
      have := ih h2 e
      simp only [atKey, List.find?_cons] at this ⊢
      rw [decide_eq_false hne]
      exact this
theorem atKey_none {ys : List (T × Addr × Value)} {k : T} (h : ∀ (j : Nat) (p : Addr × Value), ys[j]? ≠ some (k, p)) : atKey ys k = none := by
  unfold atKey
  rw [Option.map_eq_none_iff, List.find?_eq_none]
  intro x hx e
  obtain ⟨j, hj⟩ := List.mem_iff_getElem?.mp hx
  have e2 : x.1 = k := of_decide_eq_true e
  exact h j x.2 (by rw [hj, ← e2])
theorem samePairs_heap {nm : String} {a b : Addr} {xs ys : List (T × Addr × Value)} {Q : Bool → Shared → Prop} (hu : knd.room A) (ha : (a == sysModules) = false) (hb : (b == sysModules) = false) (da : s.heap.DictOfH knd a xs) (db : s.heap.DictOfH knd b ys)
    (ix : ∀ x ∈ xs, ∃ i t, x.2.2 = Value.int i t) (iy : ∀ y ∈ ys, ∃ i t, y.2.2 = Value.int i t) (h : Q (xs.length == ys.length && subD xs ys) s) : wpAny (model prog w) A (Builtin.Dict.samePairs nm a b) Q E s := by
  obtain ⟨oa, es, ep, a1, _, a3, a4, a5, a6⟩ := da
  obtain ⟨ob, fs, fp, b1, _, b3, b4, b5, b6⟩ := db
  have la : es.size = xs.length := size_of_entries a4
  have lb : fs.size = ys.length := size_of_entries b4
  unfold Builtin.Dict.samePairs Builtin.Dict.showsAll
  rw [ha, hb, if_neg Bool.false_ne_true]
  refine wpAny_bind (wpAny_pure (wpAny_bind (wpAny_pure (wpAny_bind (wpAny_dictEntries a1 a3 ?_)))))
  dsimp only
  refine wpAny_bind (wpAny_dictEntries b1 b3 ?_)
  by_cases hz : es.size = fs.size
  · have hz' : (xs.length == ys.length) = true := by simp [← la, ← lb, hz]
    rw [hz', Bool.true_and] at h
    rw [if_neg (by rw [hz]; simp)]
    refine wpAny_bind (wpAny_dictEpoch a1 a3 (wpAny_bind ?_))
    rw [Std.Legacy.Range.forIn_eq_forIn_range']
    simp only [Std.Legacy.Range.size, Nat.sub_zero, Nat.add_sub_cancel, Nat.div_one]
    refine wpAny_forIn_list _ (fun rest q s' => s' = s ∧ q = (none, ()) ∧ ∃ i, i ≤ es.size ∧ rest = List.range' i (es.size - i) ∧ subD (xs.drop i) ys = subD xs ys) _ ?_ ?_ _ _ ⟨rfl, rfl, 0, Nat.zero_le _, by simp, rfl⟩
    · rintro j rest q s' ⟨rfl, rfl, i, hi, hr, hd⟩
      have hlt : i < es.size := by
        rcases Nat.lt_or_ge i es.size with z | z
        · exact z
        · rw [Nat.sub_eq_zero_of_le z] at hr
          simp at hr
      have er : es.size - i = (es.size - (i + 1)) + 1 := by omega
      rw [er, List.range'_succ] at hr
      injection hr with e1 e2
      subst e1
      refine wpAny_bind (wpAny_dictEntries a1 a3 ?_)
      obtain ⟨k, c, v, hx⟩ : ∃ k c v, xs[j]? = some (k, c, v) := by
        have hl : j < xs.length := by omega
        exact ⟨_, _, _, List.getElem?_eq_getElem hl⟩
      rw [entry_at a4 j, hx]
      have hm := List.mem_of_getElem? hx
      have hcut : xs.drop j = (k, c, v) :: xs.drop (j + 1) := by
        obtain ⟨hl, e⟩ := List.getElem?_eq_some_iff.mp hx
        rw [← e]
        exact List.drop_eq_getElem_cons hl
      obtain ⟨i1, t1, ev⟩ := ix _ hm
      have ev : v = Value.int i1 t1 := ev
      subst ev
      have hc : subD (xs.drop j) ys = (decide (((atKey ys k).map fun p => intV p.2) = some (some i1)) && subD (xs.drop (j + 1)) ys) := by rw [hcut]; rfl
      rw [hc] at hd
      show wpAny _ _ (holding [(entryOfKey knd (k, c, Value.int i1 t1)).key, (entryOfKey knd (k, c, Value.int i1 t1)).val] _ >>= _) _ _ _
      refine wpAny_bind (wpAny_holding (wpAny_bind (wpAny_dictFind_heap hu (a5 _ hm) b1 b3 b4 b5 b6 (fun no => ?_) fun m p hmp => ?_)))
      · refine wpAny_pure ?_
        rw [atKey_none no] at hd
        have hd' : false = subD xs ys := hd
        rw [← hd'] at h
        show wpAny _ _ (if (!false) = true then _ else _) _ _ _
        rw [if_pos (by decide)]
        exact wpAny_pure (wpAny_pure h)
      · obtain ⟨c2, v2⟩ := p
        obtain ⟨i2, t2, ev⟩ := iy _ (List.mem_of_getElem? hmp)
        have ev : v2 = Value.int i2 t2 := ev
        subst ev
        rw [atKey_some b6 hmp] at hd
        refine wpAny_bind (wpAny_dictEntries b1 b3 ?_)
        rw [entry_at b4 m, hmp]
        refine wpAny_holding ?_
        show wpAny _ _ (eqBool (Value.int i1 t1) (Value.int i2 t2)) _ _ _
        refine wpAny_eqBool_int ?_
        by_cases e : i1 = i2
        · subst e
          have hd' : subD (xs.drop (j + 1)) ys = subD xs ys := by
            rw [← hd]
            simp [intV]
          rw [beq_self_eq_true]
          show wpAny _ _ (if (!true) = true then _ else _) _ _ _
          rw [if_neg (by decide)]
          refine wpAny_bind (wpAny_dictEpoch a1 a3 ?_)
          rw [if_neg (by simp)]
          exact wpAny_pure ⟨rfl, rfl, j + 1, hlt, e2, hd'⟩
        · have hd' : subD xs ys = false := by
            rw [← hd]
            simp [intV, Ne.symm e]
          rw [beq_eq_false_iff_ne.mpr e]
          rw [hd'] at h
          show wpAny _ _ (if (!false) = true then _ else _) _ _ _
          rw [if_pos (by decide)]
          exact wpAny_pure (wpAny_pure h)
    · rintro q s' ⟨rfl, rfl, i, hi, hr, hd⟩
      have ei : i = es.size := by
        rcases Nat.lt_or_ge i es.size with z | z
        · have er : es.size - i = (es.size - (i + 1)) + 1 := by omega
          rw [er, List.range'_succ] at hr
          exact nomatch hr
        · exact Nat.le_antisymm hi z
      refine wpAny_pure ?_
      rw [ei, la, List.drop_length] at hd
      have hd' : true = subD xs ys := hd
      rw [← hd'] at h
      exact h
  · have hz' : (xs.length == ys.length) = false := by
      rw [← la, ← lb]
      simpa using hz
    rw [if_pos (by simpa using hz)]
    rw [hz', Bool.false_and] at h
    exact wpAny_bind (wpAny_rule (wpAny_pure h))
theorem eq_heap {a b : Addr} {xs ys : List (T × Addr × Value)} {Q : Value → Shared → Prop} (hu : knd.room A.in1) (hw : A.units < cLine) (ha : (a == sysModules) = false) (hb : (b == sysModules) = false) (ta : s.TypeIs (.ref a) "dict") (tb : s.TypeIs (.ref b) "dict") (da : s.heap.DictOfH knd a xs) (db : s.heap.DictOfH knd b ys)
    (ix : ∀ x ∈ xs, ∃ i t, x.2.2 = Value.int i t) (iy : ∀ y ∈ ys, ∃ i t, y.2.2 = Value.int i t) (h : Q (.bool (xs.length == ys.length && subD xs ys)) s) : wpAny (model prog w) A (compareOp .Eq (.ref a) (.ref b)) Q E s := by
  refine wpAny_richCompare_same_room (op := .Eq) ta tb PySem.F.slot_dict_eq (wpAny_call_entry PySem.F.slot_dict_eq ta PySem.F.entry_dict_eq ?_ (PySem.F.args_dict_eq_2 _ _)) hw
  show wpAny _ _ (Builtin.Dict.dictSlotArgs "__eq__" ⟨[.ref a, .ref b], []⟩ >>= _) _ _ s
  unfold Builtin.Dict.dictSlotArgs
  refine wpAny_bind (wpAny_bind (wpAny_notOrdered_dict ta ?_))
  refine (show wpAny _ _ (pure (Value.ref a, Value.ref b)) _ _ s from wpAny_pure (wpAny_bind (wpAny_isInstance (T := "dict") tb PySem.F.sub_dict_dict ?_)))
  rw [Bool.not_true, if_neg Bool.false_ne_true]
  refine wpAny_bind (wpAny_pure (wpAny_bind (wpAny_pure (wpAny_bind (samePairs_heap hu ha hb da db ix iy (wpAny_pure ⟨_, rfl, (fun z => nomatch z), ?_⟩))))))
  simpa using h
theorem ne_heap {a b : Addr} {xs ys : List (T × Addr × Value)} {Q : Value → Shared → Prop} (hu : knd.room A.in1) (hw : A.units < cLine) (ha : (a == sysModules) = false) (hb : (b == sysModules) = false) (ta : s.TypeIs (.ref a) "dict") (tb : s.TypeIs (.ref b) "dict") (da : s.heap.DictOfH knd a xs) (db : s.heap.DictOfH knd b ys)
    (ix : ∀ x ∈ xs, ∃ i t, x.2.2 = Value.int i t) (iy : ∀ y ∈ ys, ∃ i t, y.2.2 = Value.int i t) (h : Q (.bool (!(xs.length == ys.length && subD xs ys))) s) : wpAny (model prog w) A (compareOp .NotEq (.ref a) (.ref b)) Q E s := by
  refine wpAny_richCompare_same_room (op := .NotEq) ta tb PySem.F.slot_dict_ne (wpAny_call_entry PySem.F.slot_dict_ne ta PySem.F.entry_dict_ne ?_ (PySem.F.args_dict_ne_2 _ _)) hw
  show wpAny _ _ (Builtin.Dict.dictSlotArgs "__ne__" ⟨[.ref a, .ref b], []⟩ >>= _) _ _ s
  unfold Builtin.Dict.dictSlotArgs
  refine wpAny_bind (wpAny_bind (wpAny_notOrdered_dict ta ?_))
  refine (show wpAny _ _ (pure (Value.ref a, Value.ref b)) _ _ s from wpAny_pure (wpAny_bind (wpAny_isInstance (T := "dict") tb PySem.F.sub_dict_dict ?_)))
  rw [Bool.not_true, if_neg Bool.false_ne_true]
  refine wpAny_bind (wpAny_pure (wpAny_bind (wpAny_pure (wpAny_bind (samePairs_heap hu ha hb da db ix iy (wpAny_pure ⟨_, rfl, (fun z => nomatch z), ?_⟩))))))
  simpa using h
end
/-! over the layer -/
theorem pair_at {α β : Type} {F : α → β → Prop} {us : List α} {vs : List β} (r : Paired F us vs) : ∀ {j : Nat} {y : β}, vs[j]? = some y → ∃ x, us[j]? = some x ∧ F x y := by
  induction r with
  | nil => intro j y h; simp at h
  | @cons a b as bs hab t ih =>
    intro j y h
    cases j with
    | zero => exact ⟨a, rfl, by rw [← Option.some.inj (show some b = some y from h)]; exact hab⟩
    | succ j => exact ih (show bs[j]? = some y from h)
def isIntV : V → Prop := fun v => ∃ i, v = .int i
/-- the answer: the same pairs -/
def sameD (ks ls : List (List Key × V)) : Bool := ks.length == ls.length && ks.all fun p => decide (valV ls p.1 = some p.2)
def rEqT (neg : Bool) : R2 := fun x y H Q => ∃ a b ks ls, x = .ref a ∧ y = .ref b ∧ Rd H a (.dT ks) ∧ Rd H b (.dT ls) ∧ (∀ p ∈ ks, isIntV p.2) ∧ (∀ p ∈ ls, isIntV p.2) ∧ Q (.bl (if neg then !sameD ks ls else sameD ks ls)) H
theorem KT.ints {H : Hp} {ks : List (List Key × V)} {xs : List (List Key × Addr × Value)} (r : KT H ks xs) (h : ∀ p ∈ ks, isIntV p.2) : ∀ x ∈ xs, ∃ i t, x.2.2 = Value.int i t := by
  intro x hx
  obtain ⟨j, hj⟩ := List.mem_iff_getElem?.mp hx
  obtain ⟨p, hp, e⟩ := pair_at r hj
  obtain ⟨i, ei⟩ := h p (List.mem_of_getElem? hp)
  have e2 := e.2.2
  rw [ei] at e2
  obtain ⟨t, et⟩ := e2
  exact ⟨i, t, et⟩
theorem sub_same {H : Hp} {ks ls : List (List Key × V)} {xs ys : List (List Key × Addr × Value)} (rb : KT H ls ys) (ra : KT H ks xs) (h : ∀ p ∈ ks, isIntV p.2) (h' : ∀ p ∈ ls, isIntV p.2) : subD xs ys = ks.all fun p => decide (valV ls p.1 = some p.2) := by
  induction ra with
  | nil => rfl
  | @cons p q ps qs e t ih =>
    obtain ⟨e1, _, e2⟩ := e
    have ih' := ih fun p hp => h p (List.mem_cons_of_mem _ hp)
    obtain ⟨i, ei⟩ := h p List.mem_cons_self
    rw [ei] at e2
    obtain ⟨ti, et⟩ := e2
    have hk := KT.val rb p.1
    show (decide (((atKey ys q.1).map fun p => intV p.2) = some (intV q.2.2)) && subD qs ys) = (decide (valV ls p.1 = some p.2) && ps.all fun p => decide (valV ls p.1 = some p.2))
    rw [ih', ← e1, et, ei]
    congr 1
    cases hv : valV ls p.1 with
    | none =>
      rw [hv] at hk
      cases ha : atKey ys p.1 with
      | none => simp
      | some z =>
        rw [ha] at hk
        exact False.elim hk
    | some v =>
      have hm : ∃ u ∈ ls, u.2 = v := by
        unfold valV at hv
        obtain ⟨u, hu, eu⟩ := Option.map_eq_some_iff.mp hv
        exact ⟨u, List.mem_of_find?_eq_some hu, eu⟩
      obtain ⟨u, hul, eu⟩ := hm
      obtain ⟨i', ei'⟩ := h' u hul
      rw [eu] at ei'
      rw [hv] at hk
      cases ha : atKey ys p.1 with
      | none =>
        rw [ha] at hk
        exact False.elim hk
      | some z =>
        rw [ha] at hk
        have hk' : RelV v z.2 := hk
        rw [ei'] at hk'
        obtain ⟨t', et'⟩ := hk'
        rw [ei', Option.map_some, et']
        by_cases e : i' = i
        · subst e
          simp [intV]
        · rw [decide_eq_false, decide_eq_false]
          · exact fun z => e (V.int.inj (Option.some.inj z))
          · exact fun z => e (Option.some.inj (Option.some.inj z))
theorem rd_dT {X : Cx} {pins : List (Addr × Obj)} {σ : L2.St} {H : Hp} {s : Shared} {a : Addr} {ks : List (List Key × V)} (I : Inv X pins σ H s) (h : Rd H a (.dT ks)) : s.TypeIs (.ref a) "dict" ∧ (a == sysModules) = false ∧ ∃ xs, KT H ks xs ∧ s.heap.DictOfH (tupleKind (mixKind X.prog X.w)) a xs :=
  have z := isD_at I (Or.inr ⟨ks, h⟩)
  have y := dt_rd I.hok h
  ⟨z.1, z.2.2, y.2.2⟩
theorem op_eqT {X : Cx} (hu : X.A.units + 1 < cLine) : OpR X (compareOp .Eq) (rEqT false) := by
  intro pins s σ H x y v u Q I rx ry h
  obtain ⟨a, b, ks, ls, rfl, rfl, ha, hb, ia, ib, q⟩ := h
  cases (show v = Value.ref a from rx)
  cases (show u = Value.ref b from ry)
  obtain ⟨ta, na, xs, ra, da⟩ := rd_dT I ha
  obtain ⟨tb, nb, ys, rb, db⟩ := rd_dT I hb
  refine eq_heap (knd := tupleKind (mixKind X.prog X.w)) (tupleKind_room_in1 hu) (by omega) na nb ta tb da db (KT.ints ra ia) (KT.ints rb ib) (fin_bl I q ?_)
  rw [sub_same rb ra ia ib, ← Paired.length ra, ← Paired.length rb]
  all_goals rfl
theorem op_neT {X : Cx} (hu : X.A.units + 1 < cLine) : OpR X (compareOp .NotEq) (rEqT true) := by
  intro pins s σ H x y v u Q I rx ry h
  obtain ⟨a, b, ks, ls, rfl, rfl, ha, hb, ia, ib, q⟩ := h
  cases (show v = Value.ref a from rx)
  cases (show u = Value.ref b from ry)
  obtain ⟨ta, na, xs, ra, da⟩ := rd_dT I ha
  obtain ⟨tb, nb, ys, rb, db⟩ := rd_dT I hb
  refine ne_heap (knd := tupleKind (mixKind X.prog X.w)) (tupleKind_room_in1 hu) (by omega) na nb ta tb da db (KT.ints ra ia) (KT.ints rb ib) (fin_bl I q ?_)
  rw [sub_same rb ra ia ib, ← Paired.length ra, ← Paired.length rb]
  all_goals rfl
end DTx

/-! DTx: sorted of a dict whose keys are tuples of ints, fewer than 64. -/
namespace DTx
open PySem PySem.Spec PyProof.Rows L2 PySem.Calls PySem.W
section
variable {prog : Program} {w : World} {A : Around} {E : Value → Shared → Prop} {s : Shared} {T : String} {r d : Addr} {n : Nat} {P : Nat → Value → Prop} {OK : Heap → Prop}
/-- what a source gives, collected into a list of the interpreter's own -/
theorem collect_src {R : List Value → Shared → Prop} (src : KdlSrc prog w T r d n P OK) (hh : A.handled = none) (hok : OK s.heap) (hn : n ≤ sizeLine)
    (q : ∀ h' tk (acc : Array Value), (∀ b o, s.heap.get? b = some o → h'.get? b = some o) → s.heap.objs.size ≤ h'.objs.size → ItemsOf P acc n → R acc.toList { s with heap := h', toks := tk }) : wpAny (model prog w) A (collect (.ref r)) R E s := by
  obtain ⟨lr, ld⟩ := src.there _ hok
  unfold collect
  refine wpAny_bind (wpAny_runValue (codeAny_builtin entry_proto_collect' ?_))
  rw [Around.under_plainId PySem.F.plain_proto_collect _]
  show wpAny _ A.in1 (newList [] >>= fun l => again (.builtin "list.__iadd__" ⟨[l, .ref r], []⟩)) _ _ s
  refine wpAny_bind (wpAny_newObj_type (wpAny_pure ⟨plainId_quiet PySem.F.plain_list_iadd _, codeAny_builtin entry_list_iadd' ?_⟩))
  rw [Around.under_plainId PySem.F.plain_list_iadd _]
  show wpAny _ A.in1 (Builtin.List.listExtendWith (.ref s.heap.objs.size) (.ref r) (.ref s.heap.objs.size)) _ _ { s with heap := s.heap.push { cls := .type "list", data := .seq ([] : List Value).toArray } }
  have ok1 : OK (s.heap.push { cls := .type "list", data := .seq ([] : List Value).toArray }) := src.keep _ _ hok fun b _ o e => Heap.get?_push_of_some _ e
  have at1 : (s.heap.push { cls := .type "list", data := .seq ([] : List Value).toArray }).get? s.heap.objs.size = some { cls := .type "list", data := .seq #[] 0 } := Heap.get?_push_size _ rfl
  have key := kdl_extend (A := A) (s := { s with heap := s.heap.push { cls := .type "list", data := .seq ([] : List Value).toArray } })
    (R := fun (z : Result) (s' : Shared) => ∃ (h' : Heap) (tk : Nat) (acc : Array Value) (c : Nat), z = .ok (.ret (.ref s.heap.objs.size)) ∧ s' = { s with heap := h', toks := tk } ∧ (∀ b o, s.heap.get? b = some o → h'.get? b = some o) ∧
      h'.get? s.heap.objs.size = some { cls := .type "list", dict := none, data := .seq acc c, slots := #[] } ∧ ItemsOf P acc n) src hh ok1 s.heap.objs.size (Nat.ne_of_gt lr) (Nat.ne_of_gt ld) (.ref s.heap.objs.size) 0 at1
    (fun h' tk acc c hk hS it => ⟨h', tk, acc, c, rfl, rfl, fun b o e => hk b o (Nat.ne_of_lt (Heap.lt_size e)) (Heap.get?_push_of_some _ e), hS, it⟩) hn
  have fin : ∀ (z : Result) (s' : Shared), (∃ (h' : Heap) (tk : Nat) (acc : Array Value) (c : Nat), z = .ok (.ret (.ref s.heap.objs.size)) ∧ s' = { s with heap := h', toks := tk } ∧ (∀ b o, s.heap.get? b = some o → h'.get? b = some o) ∧
      h'.get? s.heap.objs.size = some { cls := .type "list", dict := none, data := .seq acc c, slots := #[] } ∧ ItemsOf P acc n) → ∃ (f : Flow), z = .ok f ∧ wpAny (model prog w) A (load s.heap.objs.size >>= fun o => match o.data with | .seq xs _ => pure xs.toList | _ => unsupported "internal:collected") R E s' := by
    rintro z s' ⟨h', tk, acc, c, rfl, rfl, hk, hS, it⟩
    exact ⟨_, rfl, wpAny_bind (wpAny_load hS (wpAny_pure (q h' tk acc hk (Nat.le_of_lt (Heap.lt_size hS)) it)))⟩
  refine wpAny_mono key (fun x s' z => ?_) fun e s' z => ?_
  · cases x with
    | done f =>
      obtain ⟨h', tk, acc, c, e, rfl, hk, hS, it⟩ := z
      cases e
      show wpAny _ A (load s.heap.objs.size >>= _) _ _ _
      exact wpAny_bind (wpAny_load hS (wpAny_pure (q h' tk acc hk (Nat.le_of_lt (Heap.lt_size hS)) it)))
    | again c1 =>
      refine ⟨z.1, codeAny_mono z.2 fun q2 s2 y => ?_⟩
      obtain ⟨h', tk, acc, c, rfl, rfl, hk, hS, it⟩ := y
      show wpAny _ A (load s.heap.objs.size >>= _) _ _ _
      exact wpAny_bind (wpAny_load hS (wpAny_pure (q h' tk acc hk (Nat.le_of_lt (Heap.lt_size hS)) it)))
  · obtain ⟨_, _, _, _, e', _⟩ := z
    cases e'
end
/-- sorted(d): the addresses of the keys, by their ints -/
def rSortD : List V → Hp → VK → Prop := fun vs H Q => ∃ (a : Addr) (ks : List (List Int × V)) (m : Nat) (B : Int), vs = [V.ref a] ∧ Rd H a (.dT (ks.map fun p => (p.1.map Sum.inl, p.2))) ∧ ks.length < 64 ∧ 1 ≤ m ∧ (∀ p ∈ ks, p.1.length = m ∧ TS.Bd B p.1) ∧
  ∀ (L : List (Addr × List Int)) (p : Addr), (L.map (·.2)).Perm (ks.map (·.1)) → L.Pairwise (fun q r => TS.code B q.2 ≤ TS.code B r.2) → (∀ q ∈ L, H q.1 = some (.tup (q.2.map V.int))) → H p = none → Q (.ref p) (upd H p (.lst (L.map fun q => V.ref q.1)))
theorem src_items {prog : Program} {w : World} {K : Type} [DecidableEq K] {knd : HeapKind prog w K} {es : Array DictEntry} {xs : List (K × Addr × Value)} {acc : Array Value} (he : es.toList = xs.map (entryOfKey knd)) (it : ItemsOf (fun i v => ∃ en : DictEntry, es[i]? = some en ∧ v = en.key) acc es.size) :
    acc.toList = xs.map fun x => Value.ref x.2.1 := by
  have l1 : es.size = xs.length := size_of_entries he
  have l2 : acc.toList.length = xs.length := by rw [Array.length_toList, it.1, l1]
  refine List.ext_getElem? fun j => ?_
  rw [List.getElem?_map]
  rcases Nat.lt_or_ge j xs.length with hj | hj
  · have ha : acc.toList[j]? = some (acc.toList[j]'(by omega)) := List.getElem?_eq_getElem (by omega)
    obtain ⟨en, he2, ev⟩ := it.2 j (acc.toList[j]'(by omega)) (by rw [← Array.getElem?_toList]; exact ha)
    have h2 := entry_at he j
    rw [he2, List.getElem?_eq_getElem hj] at h2
    have e3 : en = entryOfKey knd xs[j] := Option.some.inj h2
    rw [ha, ev, e3, List.getElem?_eq_getElem hj]
    all_goals rfl
  · rw [List.getElem?_eq_none (by omega), List.getElem?_eq_none hj]
    all_goals rfl
theorem isTup_ints {X : Cx} {pins : List (Addr × Obj)} {σ : L2.St} {H : Hp} {s : Shared} (I : Inv X pins σ H s) {t : Addr} {ns : List Int} (h : H t = some (.tup (ns.map V.int))) : TS.TupInts s.heap (.ref t) ns := tupI_raw I (SqT.of h)
theorem sort_refs {h : Heap} {B : Int} {L0 : List (Addr × List Int)} {out : List Value} (tk : ∀ q ∈ L0, TS.TupInts h (.ref q.1) q.2) (pm : out.Perm (L0.map fun q => Value.ref q.1)) (pw : out.Pairwise fun u v => TS.code B (TS.intsOf h u) ≤ TS.code B (TS.intsOf h v)) :
    ∃ L : List (Addr × List Int), out = L.map (fun q => Value.ref q.1) ∧ L.Perm L0 ∧ L.Pairwise fun q r => TS.code B q.2 ≤ TS.code B r.2 := by
  have back : ∀ vs : List Value, (∀ v ∈ vs, v ∈ L0.map fun q => Value.ref q.1) → ∃ L : List (Addr × List Int), vs = L.map (fun q => Value.ref q.1) ∧ ∀ q ∈ L, q ∈ L0 := by
    intro vs
    induction vs with
    | nil => exact fun _ => ⟨[], rfl, fun q hq => nomatch hq⟩
    | cons v r ih =>
      intro hv
      obtain ⟨q, hq, e⟩ := List.mem_map.mp (hv v List.mem_cons_self)
      obtain ⟨L, e2, hL⟩ := ih fun u hu => hv u (List.mem_cons_of_mem _ hu)
      refine ⟨q :: L, by rw [List.map_cons, e, e2], fun z hz => ?_⟩
      rcases List.mem_cons.mp hz with rfl | hz
      · exact hq
      · exact hL z hz
  obtain ⟨L, e, hL⟩ := back out fun v hv => pm.mem_iff.mp hv
  have fn : ∀ v : Value, (fun v : Value => match v with | .ref a => (a, TS.intsOf h v) | _ => ((0 : Addr), ([] : List Int))) v = (fun v : Value => match v with | .ref a => (a, TS.intsOf h v) | _ => ((0 : Addr), ([] : List Int))) v := fun _ => rfl
  have inv : ∀ M : List (Addr × List Int), (∀ q ∈ M, q ∈ L0) → (M.map fun q => Value.ref q.1).map (fun v : Value => match v with | .ref a => (a, TS.intsOf h v) | _ => ((0 : Addr), ([] : List Int))) = M := by
    intro M hM
    rw [List.map_map]
    refine (List.map_congr_left fun q hq => ?_).trans (List.map_id _)
    show (q.1, TS.intsOf h (.ref q.1)) = q
    rw [(tk q (hM q hq)).ints]
  refine ⟨L, e, ?_, ?_⟩
  · have := pm.map (fun v : Value => match v with | .ref a => (a, TS.intsOf h v) | _ => ((0 : Addr), ([] : List Int)))
    rw [e, inv L hL, inv L0 fun _ z => z] at this
    exact this
  · rw [e] at pw
    refine List.Pairwise.imp_of_mem (fun {q r} hq hr hle => ?_) (List.pairwise_map.mp pw)
    rw [(tk q (hL q hq)).ints, (tk r (hL r hr)).ints] at hle
    exact hle
theorem cr_sortedD {X : Cx} (calm : X.calm = true) : CallR X (.builtin "sorted") rSortD := by
  intro pins s σ H vs us Q I r h
  obtain ⟨a, ks, m, B, rfl, ha, hl, hm, hB, q⟩ := h
  obtain ⟨u, rfl, rx⟩ := r.one
  cases rx
  obtain ⟨z, hs, xs, pr, o, es, ep, ho, hx, hdt, he, hnd⟩ := (show ObjOk X.prog X.w H s.heap a (.dT (ks.map fun p => (p.1.map Sum.inl, p.2))) from ha.ok I.hok)
  have l1 : es.size = xs.length := size_of_entries he
  have l2 : xs.length = ks.length := by
    have := Paired.length pr
    rw [List.length_map] at this
    exact this.symm
  -- the keys' addresses with their ints
  obtain ⟨L0, e0, e0k, t0⟩ : ∃ L0 : List (Addr × List Int), xs.map (fun x => Value.ref x.2.1) = L0.map (fun q => Value.ref q.1) ∧ L0.map (·.2) = ks.map (·.1) ∧ ∀ y ∈ L0, H y.1 = some (.tup (y.2.map V.int)) := by
    clear hnd he hdt l1 l2 hl z q ho hx
    generalize hkk : (ks.map fun p => (p.1.map Sum.inl, p.2) : List (List Key × V)) = kk at pr
    clear ha
    induction pr generalizing ks with
    | nil =>
      cases ks with
      | nil => exact ⟨[], rfl, rfl, fun _ z => nomatch z⟩
      | cons => cases hkk
    | @cons p x ps ys e t ih =>
      cases ks with
      | nil => cases hkk
      | cons k kr =>
        injection hkk with e1 e2
        obtain ⟨L, f1, f2, f3⟩ := ih (ks := kr) (fun p hp => hB p (List.mem_cons_of_mem _ hp)) e2
        refine ⟨(x.2.1, k.1) :: L, by rw [List.map_cons, List.map_cons, f1], by rw [List.map_cons, List.map_cons, f2], fun y hy => ?_⟩
        rcases List.mem_cons.mp hy with rfl | hy
        · have h2 := e.2.1
          rw [← e1] at h2
          have h3 : (k.1.map Sum.inl : List Key).map kV = k.1.map V.int := by rw [List.map_map]; rfl
          rw [← h3]
          exact h2
        · exact f3 y hy
  refine call_function_entry kind_sorted plain_sorted entry_sorted (args_sorted1 _) ?_
  unfold Builtin.«sorted»
  refine wpAny_bind (m := checkCount "sorted" 1 1 _) (wpAny_pure ?_)
  refine wpAny_bind (collect_src (A := X.A.in1) (kdl_raw hs hx hdt) (I.ok.hd calm) ho (by rw [sizeLine_eq]; omega) fun h' tk acc hk hsz it => ?_)
  have eacc : acc.toList = L0.map fun q => Value.ref q.1 := (src_items he it).trans e0
  have ll : L0.length = ks.length := by
    have := congrArg List.length e0k
    rwa [List.length_map, List.length_map] at this
  rw [eacc]
  refine wpAny_bind (wpAny_newList ?_ (by rw [List.length_map, sizeLine_eq]; omega))
  have hoL : (h'.push (seqObj "list" (L0.map fun q => Value.ref q.1).toArray 0)).get? h'.objs.size = some (seqObj "list" (L0.map fun q => Value.ref q.1).toArray 0) := Heap.get?_push_size _ rfl
  have tk2 : ∀ y ∈ L0, TS.TupInts (h'.push (seqObj "list" (L0.map fun q => Value.ref q.1).toArray 0)) (.ref y.1) y.2 := fun y hy =>
    (isTup_ints I (t0 y hy)).keeps fun b u e _ => Heap.get?_push_of_some _ (hk b u e)
  have tok : TS.TupsOk (h'.push (seqObj "list" (L0.map fun q => Value.ref q.1).toArray 0)) m B (L0.map fun q => Value.ref q.1) := fun v hv => by
    obtain ⟨y, hy, rfl⟩ := List.mem_map.mp hv
    have hk2 : y.2 ∈ ks.map (·.1) := by
      rw [← e0k]
      exact List.mem_map.mpr ⟨y, hy, rfl⟩
    obtain ⟨p, hp, ep⟩ := List.mem_map.mp hk2
    have := hB p hp
    rw [ep] at this
    exact ⟨y.2, tk2 y hy, this⟩
  refine wpAny_bind (wpAny_holding (TS.call_sort_tups (s := { s with heap := h'.push (seqObj "list" (L0.map fun q => Value.ref q.1).toArray 0), toks := tk }) hoL (by rw [List.length_map]; omega) hm tok fun out a1 a2 => ?_))
  obtain ⟨c, hc⟩ := sortedHeap_at (vs := L0.map fun q => Value.ref q.1) (out := out) hoL
  obtain ⟨L, eL, pL, wL⟩ := sort_refs tk2 a1 a2
  refine wpAny_pure ⟨_, rfl, ?_⟩
  have keep : ∀ b u, s.heap.get? b = some u → (sortedHeap (h'.push (seqObj "list" (L0.map fun q => Value.ref q.1).toArray 0)) h'.objs.size (L0.map fun q => Value.ref q.1) out).get? b = some u := fun b u e => by
    have e2 := hk b u e
    have lt := Heap.lt_size e2
    rw [sortedHeap_old (Nat.ne_of_lt lt) (by rw [size_push']; exact Nat.lt_succ_of_lt lt)]
    exact Heap.get?_push_of_some _ e2
  have hn : H h'.objs.size = none := I.hok.fresh hsz
  have rv : Vals (L.map fun q => V.ref q.1) out.toList := by
    rw [eL]
    clear eL pL wL
    induction L with
    | nil => exact .nil
    | cons y r ih => exact .cons rfl ih
  have lz : (L.map fun q => V.ref q.1).length ≤ sizeLine := by
    rw [List.length_map, pL.length_eq, sizeLine_eq]
    omega
  have J : Inv X pins σ (upd H h'.objs.size (.lst (L.map fun q => V.ref q.1))) { s with heap := sortedHeap (h'.push (seqObj "list" (L0.map fun q => Value.ref q.1).toArray 0)) h'.objs.size (L0.map fun q => Value.ref q.1) out, toks := tk } :=
    I.laid (t' := tk) keep hsz ⟨lz, out.toList, c, rv, hc⟩
  refine ⟨.ref h'.objs.size, _, J, rfl, q L _ ?_ wL (fun y hy => t0 y (pL.mem_iff.mp hy)) hn⟩
  rw [← e0k]
  exact pL.map _
end DTx

/-! DTx: {k: v} with a tuple as its one key. -/
namespace DTx
open PySem PySem.Spec PyProof.Rows L2 PySem.Calls
def tOne (tk tv : TE) : TE := fun σ H Q => ∀ p, H p = none → tk σ (upd H p (.dT [])) fun y H1 => tv σ H1 fun z H2 => H2 p = some (.dT []) ∧ ∃ k c, y = .ref c ∧ H2 c = some (.tup (k.map kV)) ∧ Q (.ref p) (upd H2 p (.dT [(k, z)]))
theorem pe_one_pair {X : Cx} {pos : Pos} {kx vx : Expr} {tk tv : TE} (hu : X.A.units < cLine) (hk : PE X kx tk) (hv : PE X vx tv) : PE X (.Dict [some kx] [vx] pos) (tOne tk tv) := by
  refine ⟨fun pins s σ H Q I q => ?_⟩
  have hn := I.hok.fresh (Nat.le_refl s.heap.objs.size)
  have J := I.laid (a := s.heap.objs.size) (o := .dT []) (h' := s.heap.push { cls := .type "dict", data := .dict #[] }) (t' := s.toks) (fun _ _ e => Heap.get?_push_of_some _ e) (Nat.le_refl _) (dt_empty s.heap I.big)
  rw [arm_eval_Dict, zip_pairTrees [some kx] [vx] X.env pos rfl rfl, dictDisplay_pairs _ (fun z => by have := congrArg List.length z; rw [pairTrees_length _ _ _ _ rfl rfl] at this; cases this) (by rw [pairTrees_length _ _ _ _ rfl rfl]; show 1 < 17; decide)]
  refine wpAny_bind (wpAny_standAt (wpAny_bind (wpAny_subDictH (knd := tupleKind (mixKind X.prog X.w)) (Q := fun d s' => wpAny (model X.prog X.w) X.A (pure (Value.ref d)) (EP X pins σ Q) X.xe s') hu (by rw [pairTrees_length _ _ _ _ rfl rfl]; show 1 ≤ 15; decide) ?_)))
  refine pairTrees_cons_walk (thn (hk.run pins _ σ _ _ J (q _ hn)) fun u s1 ⟨y, H1, I1, ry, q1⟩ => thn (hv.run pins s1 σ H1 _ I1 q1) fun r s2 ⟨z, H2, I2, rz, hp, k, c, ey, hc, q2⟩ => pairTrees_nil_walk ?_)
  subst ey
  cases (show u = Value.ref c from ry)
  obtain ⟨_, hd, xs, rel, dd⟩ := dt_of I2.hok hp
  cases rel
  refine ⟨[(k, c, r)], ⟨rfl, rfl, key_of I2.hok hc, trivial⟩, dd, fun h' tk d2 sb => wpAny_pure ⟨.ref s.heap.objs.size, _, ?_, rfl, q2⟩⟩
  obtain ⟨ob, es, ep, g1, g2, g3, g4, _, g6⟩ := d2
  refine d_write I2 (by rw [hp]; trivial) sb ⟨ob, g1⟩ ⟨by show 1 ≤ sizeLine; decide, hd, [(k, c, r)], .cons ⟨rfl, ?_, rz⟩ .nil, ob, es, ep, g1, g2, g3, g4, g6⟩
  show upd H2 s.heap.objs.size (.dT [(k, z)]) c = some (.tup (k.map kV))
  rw [upd_ne (ne_of hc hp fun z => nomatch z)]
  exact hc
end DTx

/-! Sm: dicts from int lists to ints, as lists of pairs; forms. -/
namespace Sm
open PySem L2
abbrev DI := List (List Int × Int)
abbrev ek (k : List Int) : List Key := k.map Sum.inl
def enc (ps : DI) : List (List Key × V) := ps.map fun p => (ek p.1, V.int p.2)
def getI (ps : DI) (k : List Int) : Option Int := (ps.find? fun p => decide (p.1 = k)).map (·.2)
def putI (ps : DI) (k : List Int) (v : Int) : DI := if (ps.any fun p => decide (p.1 = k)) = true then ps.map (fun p => if p.1 = k then (p.1, v) else p) else ps ++ [(k, v)]
theorem ek_inj {a b : List Int} : ek a = ek b ↔ a = b := by
  constructor
  · intro h
    induction a generalizing b with
    | nil => cases b with
      | nil => rfl
      | cons y ys => cases h
    | cons x xs ih => cases b with
      | nil => cases h
      | cons y ys =>
        injection h with h1 h2
        rw [Sum.inl.inj h1, ih h2]
  · intro h; rw [h]
theorem ek_kV (k : List Int) : (ek k).map kV = k.map V.int := by
  unfold ek
  rw [List.map_map]
  rfl
theorem val_enc (ps : DI) (k : List Int) : valV (enc ps) (ek k) = (getI ps k).map V.int := by
  induction ps with
  | nil => rfl
  | cons p r ih =>
    show valV ((ek p.1, V.int p.2) :: enc r) (ek k) = _
    by_cases e : p.1 = k
    · rw [valV_pos (by rw [e])]
      simp [getI, e]
    · rw [valV_neg (fun h => e (ek_inj.mp h)), ih]
      simp [getI, e]
theorem put_enc (ps : DI) (k : List Int) (v : Int) : putK (enc ps) (ek k) (.int v) = enc (putI ps k v) := by
  have e : ((enc ps).any fun kv => decide (kv.1 = ek k)) = (ps.any fun p => decide (p.1 = k)) := by
    unfold enc
    rw [List.any_map]
    congr 1
    funext p
    exact decide_eq_decide.mpr ek_inj
  unfold putK putI
  rw [e]
  split
  · unfold enc
    rw [List.map_map, List.map_map]
    refine List.map_congr_left fun p _ => ?_
    show (if ek p.1 = ek k then (ek p.1, V.int v) else (ek p.1, V.int p.2)) = _
    by_cases h : p.1 = k
    · rw [if_pos (by rw [h])]
      simp [h]
    · rw [if_neg (fun z => h (ek_inj.mp z))]
      simp [h]
  · simp [enc]
theorem putI_new {ps : DI} {k : List Int} {v : Int} (h : k ∉ ps.map (·.1)) : putI ps k v = ps ++ [(k, v)] := by
  unfold putI
  rw [if_neg]
  intro h2
  obtain ⟨p, hp, e⟩ := List.any_eq_true.mp h2
  exact h (List.mem_map.mpr ⟨p, hp, of_decide_eq_true e⟩)
theorem getI_none {ps : DI} {k : List Int} (h : k ∉ ps.map (·.1)) : getI ps k = none := by
  unfold getI
  rw [Option.map_eq_none_iff, List.find?_eq_none]
  intro p hp e
  exact h (List.mem_map.mpr ⟨p, hp, of_decide_eq_true e⟩)
theorem getI_mem {ps : DI} (nd : (ps.map (·.1)).Nodup) {p : List Int × Int} (hp : p ∈ ps) : getI ps p.1 = some p.2 := by
  induction ps with
  | nil => cases hp
  | cons q r ih =>
    have nd' : (q.1 :: r.map (·.1)).Nodup := nd
    obtain ⟨h1, h2⟩ := List.nodup_cons.mp nd'
    rcases List.mem_cons.mp hp with rfl | hp
    · simp [getI]
    · have : ¬ q.1 = p.1 := fun e => h1 (e ▸ List.mem_map.mpr ⟨p, hp, rfl⟩)
      have ih' := ih h2 hp
      simp only [getI, List.find?_cons] at ih' ⊢
      rw [decide_eq_false this]
      exact ih'
theorem mem_getI {ps : DI} {k : List Int} {v : Int} (h : getI ps k = some v) : (k, v) ∈ ps := by
  unfold getI at h
  obtain ⟨p, hp, e⟩ := Option.map_eq_some_iff.mp h
  have h1 := List.mem_of_find?_eq_some hp
  have h2 : p.1 = k := by
    have := List.find?_some hp
    exact of_decide_eq_true this
  rw [← h2, ← e]
  exact h1
/-- the steps that are not 0 -/
def nz (ps : DI) : DI := ps.filter fun p => decide (p.2 ≠ 0)
theorem nz_sub {ps : DI} {p : List Int × Int} (h : p ∈ nz ps) : p ∈ ps := (List.mem_filter.mp h).1
theorem nd_nz {ps : DI} (nd : (ps.map (·.1)).Nodup) : ((nz ps).map (·.1)).Nodup := by
  unfold nz
  exact nd.sublist ((List.filter_sublist).map _)
theorem same_self {ps : DI} (nd : (ps.map (·.1)).Nodup) : DTx.sameD (enc ps) (enc ps) = true := by
  unfold DTx.sameD
  rw [beq_self_eq_true, Bool.true_and, List.all_eq_true]
  intro x hx
  obtain ⟨p, hp, rfl⟩ := List.mem_map.mp hx
  show decide (valV (enc ps) (ek p.1) = some (V.int p.2)) = true
  rw [val_enc, getI_mem nd hp]
  simp
theorem enc_int (ps : DI) : ∀ p ∈ enc ps, DTx.isIntV p.2 := fun x hx => by
  obtain ⟨p, _, rfl⟩ := List.mem_map.mp hx
  exact ⟨p.2, rfl⟩
/-- refs of tuples of ints -/
def TupsAt (H : Hp) : List V → List (List Int) → Prop := Paired fun v k => ∃ t, v = .ref t ∧ H t = some (.tup (k.map V.int))
theorem TupsAt.same {H H' : Hp} (e : ∀ b ys, H b = some (.tup ys) → H' b = some (.tup ys)) {xs : List V} {ks : List (List Int)} (h : TupsAt H xs ks) : TupsAt H' xs ks :=
  Paired.mapP h fun _ _ ⟨t, a, b⟩ => ⟨t, a, e _ _ b⟩
theorem TupsAt.get {H : Hp} {xs : List V} {ks : List (List Int)} (h : TupsAt H xs ks) {i : Nat} {x : V} (hx : xs[i]? = some x) : ∃ k t, ks[i]? = some k ∧ x = .ref t ∧ H t = some (.tup (k.map V.int)) := by
  induction h generalizing i with
  | nil => simp at hx
  | @cons a b as bs hab r ih =>
    cases i with
    | zero =>
      obtain ⟨t, e1, e2⟩ := hab
      have e : a = x := Option.some.inj hx
      exact ⟨b, t, rfl, by rw [← e, e1], e2⟩
    | succ i => exact ih hx
theorem TupsAt.app {H : Hp} {xs ys : List V} {ks ls : List (List Int)} (h : TupsAt H xs ks) (h' : TupsAt H ys ls) : TupsAt H (xs ++ ys) (ks ++ ls) := by
  induction h with
  | nil => exact h'
  | cons hab r ih => exact .cons hab ih
theorem TupsAt.erase {H : Hp} {xs : List V} {ks : List (List Int)} (h : TupsAt H xs ks) (j : Nat) : TupsAt H (xs.eraseIdx j) (ks.eraseIdx j) := by
  induction h generalizing j with
  | nil => exact .nil
  | cons hab r ih =>
    cases j with
    | zero => exact r
    | succ j => exact .cons hab (ih j)
theorem TupsAt.len {H : Hp} {xs : List V} {ks : List (List Int)} (h : TupsAt H xs ks) : xs.length = ks.length := Paired.length h
theorem perm_erase {α : Type} {l : List α} {j : Nat} {x : α} (h : l[j]? = some x) : (x :: l.eraseIdx j).Perm l := by
  induction l generalizing j with
  | nil => simp at h
  | cons a r ih =>
    cases j with
    | zero =>
      have e : a = x := Option.some.inj h
      rw [e]
      exact List.Perm.refl _
    | succ j =>
      have := ih (j := j) h
      show (x :: a :: r.eraseIdx j).Perm (a :: r)
      exact (List.Perm.swap _ _ _).trans (this.cons a)
/-- a sort: three ints from 0 to 2 -/
def Sort3 (k : List Int) : Prop := k.length = 3 ∧ TS.Bd 3 k
theorem code_inj {B : Int} (hB : 0 < B) : ∀ {a b : List Int}, a.length = b.length → TS.Bd B a → TS.Bd B b → TS.code B a = TS.code B b → a = b
  | [], [], _, _, _, _ => rfl
  | [], _ :: _, h, _, _, _ => by cases h
  | _ :: _, [], h, _, _, _ => by cases h
  | x :: xs, y :: ys, h, ha, hb, e => by
    have hl : xs.length = ys.length := Nat.succ.inj h
    have bound : ∀ {l : List Int}, TS.Bd B l → 0 ≤ TS.code B l ∧ TS.code B l < B ^ l.length := by
      intro l
      induction l with
      | nil => intro _; exact ⟨Int.le_refl 0, by simp [TS.code]⟩
      | cons z zs ih =>
        intro hz
        obtain ⟨i1, i2⟩ := ih hz.tail
        obtain ⟨z0, z1⟩ := hz.head
        have := TS.num1 (P := B ^ zs.length) (B := B) i1 i2 z0 z1
        refine ⟨this.1, ?_⟩
        show z * B ^ zs.length + TS.code B zs < B ^ (zs.length + 1)
        rw [Int.pow_succ]
        exact this.2
    have e2 : x * B ^ xs.length + TS.code B xs = y * B ^ ys.length + TS.code B ys := e
    rw [hl] at e2
    obtain ⟨p1, p2⟩ := bound ha.tail
    obtain ⟨q1, q2⟩ := bound hb.tail
    rw [hl] at p2
    have pp : 0 < B ^ ys.length := Int.pow_pos hB
    generalize B ^ ys.length = M at e2 p2 q2 pp
    have exy : x = y := by
      rcases Int.lt_trichotomy x y with h | h | h
      · exfalso
        have : (x + 1) * M ≤ y * M := Int.mul_le_mul_of_nonneg_right (by omega) (by omega)
        rw [Int.add_mul] at this
        omega
      · exact h
      · exfalso
        have : (y + 1) * M ≤ x * M := Int.mul_le_mul_of_nonneg_right (by omega) (by omega)
        rw [Int.add_mul] at this
        omega
    subst exy
    rw [code_inj hB hl ha.tail hb.tail (by omega)]
end Sm

/-! Sl: comprehensions of ints over the keys of a dict with int-tuple keys. -/
namespace Sl
open PySem L2 Sm
theorem inl_key {k : List Key} {ps : DI} {i : Nat} {v : V} (h : (enc ps)[i]? = some (k, v)) : ∃ ns z, ps[i]? = some (ns, z) ∧ k = ek ns ∧ v = .int z := by
  unfold enc at h
  rw [List.getElem?_map] at h
  obtain ⟨p, hp, e⟩ := Option.map_eq_some_iff.mp h
  exact ⟨p.1, p.2, hp, (Prod.mk.inj e).1.symm, (Prod.mk.inj e).2.symm⟩
theorem upd_back {H : Hp} {c : Addr} {o : HO} (h : H c = some o) : upd H c o = H := by
  funext b
  by_cases e : b = c
  · rw [e, upd_same, h]
  · rw [upd_ne e]
/-- [F for k in d] -/
theorem lock_ints {σ : L2.St} {H : Hp} {c : Addr} {r : DI} {i j : Nat} {te : TE} {F : List Int → Int → Int} {Q : VK} (hv : σ[i]? = some (some (.ref c))) (hc : H c = some (.dT (enc r))) (hsz : r.length < 1000)
    (step : ∀ (od : Obj) (H' : Hp) (k : List Int) (z : Int) (t : Addr), (∀ b o, H b = some o → b ≠ c → H' b = some o) → H' c = some (.frz od (.dT (enc r))) → (k, z) ∈ r → H' t = some (.tup (k.map V.int)) →
      ∀ R : VK, R (.int (F k z)) H' → te ((wipe σ [j]).set j (some (.ref t))) H' R)
    (done : ∀ (D : Addr) (H' : Hp), H D = none → Same H H' → H' D = some (.lst ((r.map fun y => F y.1 y.2).map V.int)) → Q (.ref D) H') : tLockE (tLc (iKeys (tVar i)) (gName j) tYes te [j]) σ H Q := by
  refine ⟨c, _, hc, trivial, fun od => ?_⟩
  refine Eg.w_lc (Eg.w_iK (Eg.w_var hv (Eg.c_iKT upd_same ?_)))
  intro D hD
  have hDc : D ≠ c := fun e => by rw [e, upd_same] at hD; cases hD
  have hD0 : H D = none := by rw [upd_ne hDc] at hD; exact hD
  refine lc_it walk_keysT (fun n H' => H' c = some (.frz od (.dT (enc r))) ∧ H' D = some (.lst (((r.take n).map fun y => F y.1 y.2).map V.int)) ∧ ∀ b o, H b = some o → b ≠ c → H' b = some o) ?_ (fun n H' _ h => h.1) ?_ ?_
  · exact ⟨Eg.upd_old upd_same hD, upd_same, fun b o e hn => Eg.upd_old (Eg.upd_mut hn e) hD⟩
  · rintro n y _ _ hn ⟨h1, h2, h3⟩ ⟨rfl, k, v, t, hk, rfl, ht⟩
    obtain ⟨kk, z, hkz, rfl, rfl⟩ := inl_key hk
    rw [ek_kV] at ht
    obtain ⟨hlt, he⟩ := List.getElem?_eq_some_iff.mp hkz
    refine Eg.w_gN (Eg.w_wipe ?_ (Eg.w_yes (iteT (step od _ kk z t h3 h1 (List.mem_of_getElem? hkz) ht _ ?_))))
    · show ((wipe σ []).set j none |>.set j (some (.ref t))).set j none = _
      show (((σ.set j none).set j (some (.ref t))).set j none) = σ.set j none
      rw [List.set_set, List.set_set]
    · refine ⟨_, h2, ?_, Eg.upd_mut hDc.symm h1, ?_, fun b o e hne => Eg.upd_mut (ne_of_none e hD0) (h3 b o e hne)⟩
      · rw [List.length_map, List.length_map, List.length_take, sizeLine_eq]
        omega
      · rw [upd_same, List.take_succ_eq_append_getElem hlt, he]
        simp
  · rintro H1 ⟨h1, h2, h3⟩
    refine ⟨h1, done D _ hD0 (fun b o e => ?_) (Eg.upd_mut hDc ?_)⟩
    · by_cases hb : b = c
      · rw [hb, upd_same]
        rw [hb, hc] at e
        exact e
      · exact Eg.upd_mut hb (h3 b o e hb)
    · rw [h2]
      unfold enc
      rw [List.length_map, List.take_length]
end Sl

/-! DTx5: lists of tuples of ints: sorted, == and !=. -/
namespace DTx
open PySem PySem.Spec PyProof.Rows L2
/-- sorted(xs) of a list of tuples of ints -/
def rSortT (K : PySem.W.Frag) : List V → Hp → VK → Prop := fun vs H Q => ∃ (a : Addr) (L0 : List (Addr × List Int)) (m : Nat) (B : Int), vs = [V.ref a] ∧ SqL K H a (L0.map fun q => V.ref q.1) ∧ (∀ q ∈ L0, H q.1 = some (.tup (q.2.map V.int))) ∧ L0.length < 64 ∧ 1 ≤ m ∧ (∀ q ∈ L0, q.2.length = m ∧ TS.Bd B q.2) ∧
  ∀ (L : List (Addr × List Int)) (p : Addr), L.Perm L0 → L.Pairwise (fun q r => TS.code B q.2 ≤ TS.code B r.2) → H p = none → Q (.ref p) (upd H p (.lst (L.map fun q => V.ref q.1)))
theorem vals_refs : ∀ {L0 : List (Addr × List Int)} {us : List Value}, Vals (L0.map fun q => V.ref q.1) us → us = L0.map fun q => Value.ref q.1
  | [], _, .nil => rfl
  | q :: r, _, .cons a b => by
    cases a
    rw [vals_refs b]
    rfl
theorem cr_sortedT {X : Cx} : CallR X (.builtin "sorted") (rSortT X.K) := by
  intro pins s σ H vs us Q I r h
  obtain ⟨a, L0, m, B, rfl, hs, t0, h64, hm, hB, q⟩ := h
  obtain ⟨its, rv, hl, _⟩ := I.list hs
  rw [Vals.ref1 r]
  have ei := vals_refs rv
  subst ei
  have tk : ∀ y ∈ L0, TS.TupInts s.heap (.ref y.1) y.2 := fun y hy => isTup_ints I (t0 y hy)
  refine TS.sorted_tups (B := B) hl.isList (by rw [List.length_map]; exact h64) hm (fun v hv => ?_) fun out h1 h2 => ?_
  · obtain ⟨y, hy, rfl⟩ := List.mem_map.mp hv
    exact ⟨y.2, tk y hy, hB y hy⟩
  · obtain ⟨L, eL, pL, wL⟩ := sort_refs tk h1 h2
    obtain ⟨ep, he'⟩ := PyProof.Rows.sortedAll_at s.heap (L0.map fun q => Value.ref q.1) out
    have rv2 : Vals (L.map fun q => V.ref q.1) out.toList := by
      rw [eL]
      clear eL pL wL
      induction L with
      | nil => exact .nil
      | cons y r ih => exact .cons rfl ih
    have hlen : (L.map fun q => V.ref q.1).length ≤ sizeLine := by rw [List.length_map, pL.length_eq, sizeLine_eq]; omega
    exact ⟨.ref _, upd H (s.heap.objs.size + 1) (.lst (L.map fun q => V.ref q.1)), I.laid (t' := s.toks) (fun _ _ => PyProof.Rows.sortedAll_old) (Nat.le_succ _) ⟨hlen, out.toList, ep, rv2, he'⟩, rfl, q L _ pL wL (I.hok.fresh (Nat.le_succ _))⟩
/-! equality of data -/
def tI (k : List Int) : PyData := .tuple (k.map .int)
def lT (ks : List (List Int)) : PyData := .list (ks.map tI)
def lI (ns : List Int) : PyData := .list (ns.map .int)
theorem ints_lay : ∀ ns : List Int, PyData.canLayAll0 (ns.map .int) = true
  | [] => rfl
  | n :: r => by
    rw [List.map_cons, PyData.canLayAll0, ints_lay r]
    simp [PyData.canLay0]
theorem ints_depth : ∀ ns : List Int, PyData.depthAll (ns.map .int) ≤ 1
  | [] => by simp [PyData.depthAll]
  | n :: r => by
    have := ints_depth r
    simp only [List.map_cons, PyData.depthAll, PyData.depth]
    omega
theorem tups_lay : ∀ ks : List (List Int), PyData.canLayAll0 (ks.map tI) = true
  | [] => rfl
  | k :: r => by
    rw [List.map_cons, PyData.canLayAll0, tups_lay r]
    simp [tI, PyData.canLay0, ints_lay]
theorem tups_depth : ∀ ks : List (List Int), PyData.depthAll (ks.map tI) ≤ 3
  | [] => by simp [PyData.depthAll]
  | k :: r => by
    have := tups_depth r
    have := ints_depth k
    simp only [List.map_cons, PyData.depthAll, PyData.depth, tI]
    omega
theorem shaped_lT (ks : List (List Int)) : SeqAt.shaped (lT ks) = true := by
  unfold SeqAt.shaped lT
  rw [PyData.canLay0, tups_lay, Bool.true_and, decide_eq_true_eq]
  have := tups_depth ks
  simp only [PyData.depth]
  omega
theorem shaped_lI (ns : List Int) : SeqAt.shaped (lI ns) = true := by
  unfold SeqAt.shaped lI
  rw [PyData.canLay0, ints_lay, Bool.true_and, decide_eq_true_eq]
  have := ints_depth ns
  simp only [PyData.depth]
  omega
theorem shaped_tI (ns : List Int) : SeqAt.shaped (tI ns) = true := by
  unfold SeqAt.shaped tI
  rw [PyData.canLay0, ints_lay, Bool.true_and, decide_eq_true_eq]
  have := ints_depth ns
  simp only [PyData.depth]
  omega
theorem eqv_ints : ∀ ns ms : List Int, PyData.eqvAll (ns.map .int) (ms.map .int) = decide (ns = ms)
  | [], [] => by simp [PyData.eqvAll]
  | [], _ :: _ => by simp [PyData.eqvAll]
  | _ :: _, [] => by simp [PyData.eqvAll]
  | n :: r, m :: t => by
    rw [List.map_cons, List.map_cons, PyData.eqvAll, eqv_ints r t, PyData.eqv]
    by_cases e : n = m <;> by_cases f : r = t <;> simp [e, f]
theorem eqv_lI (ns ms : List Int) : PyData.eqv (lI ns) (lI ms) = decide (ns = ms) := by
  unfold lI
  rw [PyData.eqv, eqv_ints]
theorem eqv_tI (ns ms : List Int) : PyData.eqv (tI ns) (tI ms) = decide (ns = ms) := by
  unfold tI
  rw [PyData.eqv, eqv_ints]
theorem eqv_tups : ∀ ks ls : List (List Int), PyData.eqvAll (ks.map tI) (ls.map tI) = decide (ks = ls)
  | [], [] => by simp [PyData.eqvAll]
  | [], _ :: _ => by simp [PyData.eqvAll]
  | _ :: _, [] => by simp [PyData.eqvAll]
  | n :: r, m :: t => by
    rw [List.map_cons, List.map_cons, PyData.eqvAll, eqv_tups r t, eqv_tI]
    by_cases e : n = m <;> by_cases f : r = t <;> simp [e, f]
theorem eqv_lT (ks ls : List (List Int)) : PyData.eqv (lT ks) (lT ls) = decide (ks = ls) := by
  unfold lT
  rw [PyData.eqv, eqv_tups]
section
variable {K : PySem.W.Frag} {H : Hp} {a b : Addr} {xs ys : List V} {ks ls : List (List Int)} {ns ms : List Int} {Q : VK}
theorem dpInts : ∀ ns : List Int, DpAll K H (ns.map V.int) (ns.map .int)
  | [] => .nil
  | n :: r => .cons (.int n) (dpInts r)
theorem dpTups (h : Sm.TupsAt H xs ks) : DpAll K H xs (ks.map tI) := by
  induction h with
  | nil => exact .nil
  | cons hab r ih =>
    obtain ⟨t, rfl, ht⟩ := hab
    exact .cons (.tup (SqT.of ht) (dpInts _)) ih
theorem c_neTL (h1 : SqL K H a xs) (t1 : Sm.TupsAt H xs ks) (h2 : SqL K H b ys) (t2 : Sm.TupsAt H ys ls) (q : Q (.bl (!decide (ks = ls))) H) : rNeD K (.ref a) (.ref b) H Q :=
  ⟨lT ks, lT ls, .lst h1 (dpTups t1), .lst h2 (dpTups t2), shaped_lT _, shaped_lT _, by rw [eqv_lT]; exact q⟩
theorem c_eqTL (h1 : SqL K H a xs) (t1 : Sm.TupsAt H xs ks) (h2 : SqL K H b ys) (t2 : Sm.TupsAt H ys ls) (q : Q (.bl (decide (ks = ls))) H) : rEqD K (.ref a) (.ref b) H Q :=
  ⟨lT ks, lT ls, .lst h1 (dpTups t1), .lst h2 (dpTups t2), shaped_lT _, shaped_lT _, by rw [eqv_lT]; exact q⟩
theorem c_neIL (h1 : SqL K H a (ns.map V.int)) (h2 : SqL K H b (ms.map V.int)) (q : Q (.bl (!decide (ns = ms))) H) : rNeD K (.ref a) (.ref b) H Q :=
  ⟨lI ns, lI ms, .lst h1 (dpInts _), .lst h2 (dpInts _), shaped_lI _, shaped_lI _, by rw [eqv_lI]; exact q⟩
theorem c_eqIL (h1 : SqL K H a (ns.map V.int)) (h2 : SqL K H b (ms.map V.int)) (q : Q (.bl (decide (ns = ms))) H) : rEqD K (.ref a) (.ref b) H Q :=
  ⟨lI ns, lI ms, .lst h1 (dpInts _), .lst h2 (dpInts _), shaped_lI _, shaped_lI _, by rw [eqv_lI]; exact q⟩
end
end DTx

/-! Gt: what a dict of steps gives for each sort. -/
namespace Sm
open PySem L2
def gt (qs : DI) (k : List Int) : Int := (getI qs k).getD 0
theorem getI_cons (p : List Int × Int) (r : DI) (k : List Int) : getI (p :: r) k = if p.1 = k then some p.2 else getI r k := by
  unfold getI
  rw [List.find?_cons]
  by_cases e : p.1 = k
  · rw [if_pos e, decide_eq_true e]
    rfl
  · rw [if_neg e, decide_eq_false e]
theorem getI_append (a b : DI) (k : List Int) : getI (a ++ b) k = (getI a k).or (getI b k) := by
  induction a with
  | nil => rfl
  | cons p r ih =>
    rw [List.cons_append, getI_cons, getI_cons]
    split
    · rfl
    · exact ih
theorem getI_iff {ps : DI} {k : List Int} : (getI ps k).isSome = true ↔ k ∈ ps.map (·.1) := by
  constructor
  · intro h
    obtain ⟨v, hv⟩ := Option.isSome_iff_exists.mp h
    exact List.mem_map.mpr ⟨_, mem_getI hv, rfl⟩
  · intro h
    induction ps with
    | nil => cases h
    | cons p r ih =>
      rw [getI_cons]
      split
      · rfl
      · next e =>
        rcases List.mem_cons.mp h with h | h
        · exact absurd h.symm e
        · exact ih h
theorem getI_none_iff {ps : DI} {k : List Int} : getI ps k = none ↔ k ∉ ps.map (·.1) := by
  rw [← getI_iff]
  cases getI ps k <;> simp
theorem getI_map (F : List Int → Int) (ks : List (List Int)) (k : List Int) : getI (ks.map fun k => (k, F k)) k = if k ∈ ks then some (F k) else none := by
  induction ks with
  | nil => rfl
  | cons a r ih =>
    rw [List.map_cons, getI_cons, ih]
    by_cases e : a = k
    · subst e
      simp
    · have : k ≠ a := fun z => e z.symm
      simp [e, this]
theorem getI_putI {ps : DI} {k k' : List Int} {v : Int} : getI (putI ps k v) k' = if k' = k then some v else getI ps k' := by
  unfold putI
  split
  · next h =>
    obtain ⟨p, hp, e⟩ := List.any_eq_true.mp h
    have e' : p.1 = k := of_decide_eq_true e
    clear h
    have mem : k ∈ ps.map (·.1) := List.mem_map.mpr ⟨p, hp, e'⟩
    clear hp e e' p
    induction ps with
    | nil => cases mem
    | cons q r ih =>
      rw [List.map_cons, getI_cons, getI_cons]
      by_cases e : q.1 = k
      · rw [if_pos e]
        by_cases e2 : k' = k
        · subst e2
          simp [e]
        · have n1 : ¬ q.1 = k' := fun z => e2 (z.symm.trans e)
          simp only [n1, e2, if_false]
          by_cases m : k ∈ r.map (·.1)
          · rw [ih m, if_neg e2]
          · rw [show (r.map fun p => if p.1 = k then (p.1, v) else p) = r from ?_]
            refine (List.map_congr_left fun x hx => ?_).trans (List.map_id r)
            rw [if_neg fun z => m (List.mem_map.mpr ⟨x, hx, z⟩)]
            rfl
      · rw [if_neg e]
        have m : k ∈ r.map (·.1) := by
          rcases List.mem_cons.mp mem with h | h
          · exact absurd h.symm e
          · exact h
        by_cases e3 : q.1 = k'
        · have : ¬ k' = k := fun z => e (e3.trans z)
          rw [if_pos e3, if_neg this, if_pos e3]
        · rw [if_neg e3, ih m, if_neg e3]
  · next h =>
    have mem : k ∉ ps.map (·.1) := fun m => h (by
      obtain ⟨p, hp, e⟩ := List.mem_map.mp m
      exact List.any_eq_true.mpr ⟨p, hp, decide_eq_true e⟩)
    rw [getI_append, getI_cons]
    by_cases e2 : k' = k
    · subst e2
      rw [getI_none mem]
      simp
    · have : ¬ k = k' := fun z => e2 z.symm
      rw [if_neg e2]
      simp only [this, if_false]
      show (getI ps k').or none = _
      cases getI ps k' <;> rfl
theorem keys_putI {ps : DI} {k : List Int} {v : Int} : (putI ps k v).map (·.1) = if k ∈ ps.map (·.1) then ps.map (·.1) else ps.map (·.1) ++ [k] := by
  have e : (ps.any fun p => decide (p.1 = k)) = true ↔ k ∈ ps.map (·.1) := by
    rw [List.any_eq_true, List.mem_map]
    exact ⟨fun ⟨p, h, e⟩ => ⟨p, h, of_decide_eq_true e⟩, fun ⟨p, h, e⟩ => ⟨p, h, decide_eq_true e⟩⟩
  unfold putI
  by_cases h : k ∈ ps.map (·.1)
  · rw [if_pos (e.mpr h), if_pos h, List.map_map]
    refine List.map_congr_left fun p _ => ?_
    show (if p.1 = k then (p.1, v) else p).1 = p.1
    split <;> rfl
  · rw [if_neg (fun z => h (e.mp z)), if_neg h, List.map_append]
    rfl
theorem nd_putI {ps : DI} {k : List Int} {v : Int} (h : (ps.map (·.1)).Nodup) : ((putI ps k v).map (·.1)).Nodup := by
  rw [keys_putI]
  split
  · exact h
  · next n =>
    rw [List.nodup_append]
    exact ⟨h, by simp, fun a ha b hb e => n (by rw [List.mem_singleton.mp hb] at e; exact e ▸ ha)⟩
theorem gt_mem {ps : DI} (nd : (ps.map (·.1)).Nodup) {p : List Int × Int} (hp : p ∈ ps) : gt ps p.1 = p.2 := by
  unfold gt
  rw [getI_mem nd hp]
  rfl
theorem gt_none {ps : DI} {k : List Int} (h : k ∉ ps.map (·.1)) : gt ps k = 0 := by
  unfold gt
  rw [getI_none h]
  rfl
theorem getI_nz {ps : DI} (nd : (ps.map (·.1)).Nodup) (k : List Int) : getI (nz ps) k = if gt ps k = 0 then none else some (gt ps k) := by
  induction ps with
  | nil => rfl
  | cons p r ih =>
    have nd' : (p.1 :: r.map (·.1)).Nodup := nd
    obtain ⟨h1, h2⟩ := List.nodup_cons.mp nd'
    have ih := ih h2
    have gc : gt (p :: r) k = if p.1 = k then p.2 else gt r k := by
      unfold gt
      rw [getI_cons]
      split <;> rfl
    rw [gc]
    unfold nz at ih ⊢
    rw [List.filter_cons]
    by_cases z : p.2 = 0
    · rw [if_neg (by simp [z]), ih]
      by_cases e : p.1 = k
      · subst e
        rw [gt_none h1, if_pos rfl, if_pos rfl, z, if_pos rfl]
      · rw [if_neg e]
    · rw [if_pos (by simp [z]), getI_cons, ih]
      by_cases e : p.1 = k
      · rw [if_pos e, if_pos e, if_neg z]
      · rw [if_neg e, if_neg e]
theorem gt_nz {ps : DI} (nd : (ps.map (·.1)).Nodup) (k : List Int) : gt (nz ps) k = gt ps k := by
  show (getI (nz ps) k).getD 0 = _
  rw [getI_nz nd]
  split
  · next h => exact h.symm
  · rfl
theorem nodup_len {α : Type} [BEq α] [LawfulBEq α] : ∀ (l D : List α), l.Nodup → (∀ x ∈ l, x ∈ D) → l.length ≤ D.length
  | [], _, _, _ => Nat.zero_le _
  | x :: l, D, hn, hs => by
    obtain ⟨h1, h2⟩ := List.nodup_cons.mp hn
    have hx : x ∈ D := hs x List.mem_cons_self
    have ih := nodup_len l (D.erase x) h2 fun y hy => by
      have hne : y ≠ x := fun e => h1 (e ▸ hy)
      exact (List.mem_erase_of_ne hne).2 (hs y (List.mem_cons_of_mem _ hy))
    have e := List.length_erase_of_mem hx
    have hp : 0 < D.length := List.length_pos_of_mem hx
    rw [List.length_cons]
    omega
def all27 : List (List Int) := (List.range 27).map fun (i : Nat) => [(i : Int) / 9, (i : Int) / 3 % 3, (i : Int) % 3]
theorem mem27 {k : List Int} (h : Sort3 k) : k ∈ all27 := by
  obtain ⟨hl, hb⟩ := h
  match k, hl with
  | [a, b, c], _ =>
    have ha := hb a (by simp)
    have hb' := hb b (by simp)
    have hc := hb c (by simp)
    refine List.mem_map.mpr ⟨(a * 9 + b * 3 + c).toNat, List.mem_range.mpr (by omega), ?_⟩
    have e : (((a * 9 + b * 3 + c).toNat : Nat) : Int) = a * 9 + b * 3 + c := by omega
    rw [e]
    have e1 : (a * 9 + b * 3 + c) / 9 = a := by omega
    have e2 : (a * 9 + b * 3 + c) / 3 % 3 = b := by omega
    have e3 : (a * 9 + b * 3 + c) % 3 = c := by omega
    rw [e1, e2, e3]
/-- steps as dicts have them: each sort once -/
structure Keys3 (ps : DI) : Prop where
  nd : (ps.map (·.1)).Nodup
  s3 : ∀ p ∈ ps, Sort3 p.1
theorem Keys3.sz {ps : DI} (h : Keys3 ps) : ps.length ≤ 27 := by
  have := nodup_len (ps.map (·.1)) all27 h.nd fun k hk => by
    obtain ⟨p, hp, rfl⟩ := List.mem_map.mp hk
    exact mem27 (h.s3 p hp)
  rw [List.length_map] at this
  exact this
theorem Keys3.nil : Keys3 [] := ⟨List.nodup_nil, fun _ h => nomatch h⟩
theorem Keys3.nz {ps : DI} (h : Keys3 ps) : Keys3 (nz ps) := ⟨nd_nz h.nd, fun p hp => h.s3 p (nz_sub hp)⟩
theorem Keys3.put {ps : DI} (h : Keys3 ps) {k : List Int} (hk : Sort3 k) (v : Int) : Keys3 (putI ps k v) := ⟨nd_putI h.nd, fun p hp => by
  have : p.1 ∈ (putI ps k v).map (·.1) := List.mem_map.mpr ⟨p, hp, rfl⟩
  rw [keys_putI] at this
  have h2 : p.1 ∈ ps.map (·.1) ∨ p.1 = k := by
    split at this
    · exact .inl this
    · rcases List.mem_append.mp this with h | h
      · exact .inl h
      · exact .inr (List.mem_singleton.mp h)
  rcases h2 with h2 | h2
  · obtain ⟨q, hq, e⟩ := List.mem_map.mp h2
    rw [← e]
    exact h.s3 q hq
  · rw [h2]
    exact hk⟩
/-- the steps of a form -/
structure Good (qs : DI) : Prop extends Keys3 qs where
  nz : ∀ p ∈ qs, p.2 ≠ 0
theorem Keys3.good {ps : DI} (h : Keys3 ps) : Good (Sm.nz ps) := ⟨h.nz, fun p hp => by
  have := (List.mem_filter.mp hp).2
  exact of_decide_eq_true this⟩
theorem Good.mem {qs : DI} (h : Good qs) (k : List Int) : k ∈ qs.map (·.1) ↔ gt qs k ≠ 0 := by
  constructor
  · intro hk
    obtain ⟨p, hp, rfl⟩ := List.mem_map.mp hk
    rw [gt_mem h.nd hp]
    exact h.nz p hp
  · intro hk
    rcases Classical.em (k ∈ qs.map (·.1)) with c | c
    · exact c
    · exact absurd (gt_none c) hk
theorem perm_of {α : Type} [BEq α] [LawfulBEq α] : ∀ {l m : List α}, l.Nodup → m.Nodup → (∀ x, x ∈ l ↔ x ∈ m) → l.Perm m
  | [], m, _, _, h => by
    cases m with
    | nil => exact List.Perm.refl _
    | cons y r => exact absurd ((h y).mpr List.mem_cons_self) (fun z => nomatch z)
  | x :: l, m, h1, h2, h => by
    obtain ⟨a1, a2⟩ := List.nodup_cons.mp h1
    have hx : x ∈ m := (h x).mp List.mem_cons_self
    have ih := perm_of (l := l) (m := m.erase x) a2 (h2.erase x) fun y => by
      rw [h2.mem_erase_iff, ← h y, List.mem_cons]
      constructor
      · intro hy
        exact ⟨fun e => a1 (e ▸ hy), .inr hy⟩
      · rintro ⟨n, e | e⟩
        · exact absurd e n
        · exact e
    exact (ih.cons x).trans (List.perm_cons_erase hx).symm
theorem good_perm {qs rs : DI} (h : Good qs) (h' : Good rs) (e : ∀ k, gt qs k = gt rs k) : (qs.map (·.1)).Perm (rs.map (·.1)) :=
  perm_of h.nd h'.nd fun k => by rw [h.mem, h'.mem, e k]
theorem good_same {qs rs : DI} (h : Good qs) (h' : Good rs) (e : ∀ k, gt qs k = gt rs k) : DTx.sameD (enc qs) (enc rs) = true := by
  have pm := (good_perm h h' e).length_eq
  rw [List.length_map, List.length_map] at pm
  unfold DTx.sameD
  rw [Bool.and_eq_true]
  refine ⟨?_, ?_⟩
  · unfold enc
    rw [List.length_map, List.length_map, pm]
    exact beq_self_eq_true _
  · rw [List.all_eq_true]
    intro x hx
    obtain ⟨p, hp, rfl⟩ := List.mem_map.mp hx
    show decide (valV (enc rs) (ek p.1) = some (V.int p.2)) = true
    have g1 := gt_mem h.nd hp
    have g2 := h.nz p hp
    rw [val_enc]
    rw [e] at g1
    unfold gt at g1
    cases hg : getI rs p.1 with
    | none =>
      rw [hg] at g1
      exact absurd g1.symm g2
    | some v =>
      rw [hg] at g1
      have : v = p.2 := g1
      simp [this]
theorem sorted_one : ∀ {l m : List (List Int)}, l.Perm m → (∀ k ∈ l, Sort3 k) → l.Pairwise (fun a b => TS.code 3 a ≤ TS.code 3 b) → m.Pairwise (fun a b => TS.code 3 a ≤ TS.code 3 b) → l = m
  | [], m, h, _, _, _ => by rw [List.nil_perm.mp h]
  | x :: l, [], h, _, _, _ => absurd h.length_eq (by simp)
  | x :: l, y :: m, h, s, p1, p2 => by
    obtain ⟨a1, a2⟩ := List.pairwise_cons.mp p1
    obtain ⟨b1, b2⟩ := List.pairwise_cons.mp p2
    have hx : x ∈ y :: m := h.mem_iff.mp List.mem_cons_self
    have hy : y ∈ x :: l := h.mem_iff.mpr List.mem_cons_self
    have c1 : TS.code 3 x ≤ TS.code 3 y := by
      rcases List.mem_cons.mp hy with e | e
      · rw [e]; exact Int.le_refl _
      · exact a1 y e
    have c2 : TS.code 3 y ≤ TS.code 3 x := by
      rcases List.mem_cons.mp hx with e | e
      · rw [e]; exact Int.le_refl _
      · exact b1 x e
    have sx := s x List.mem_cons_self
    have sy := s y hy
    have e : x = y := code_inj (B := 3) (by decide) (sx.1.trans sy.1.symm) sx.2 sy.2 (Int.le_antisymm c1 c2)
    subst e
    rw [sorted_one ((List.perm_cons x).mp h) (fun k hk => s k (List.mem_cons_of_mem _ hk)) a2 b2]
/-- the sum of a form at counts -/
def atC (qs cs : DI) : Int := (cs.map fun y => gt qs y.1 * y.2).sum
theorem atC_lin {qs q1 q2 : DI} {f g : Int} (h : ∀ k, gt qs k = f * gt q1 k + g * gt q2 k) (cs : DI) : atC qs cs = f * atC q1 cs + g * atC q2 cs := by
  induction cs with
  | nil => simp [atC]
  | cons y r ih =>
    unfold atC at ih ⊢
    rw [List.map_cons, List.map_cons, List.map_cons, List.sum_cons, List.sum_cons, List.sum_cons, ih, h, Int.add_mul, Int.mul_add, Int.mul_add, Int.mul_assoc, Int.mul_assoc]
    omega
end Sm

/-! Bf: breadth first over sums: what is reached by n steps, with and without a limit. -/
namespace Bf
/-- x is reached from a by n steps out of S -/
inductive Rch (S : List Int) (a : Int) : Nat → Int → Prop
  | zero : Rch S a 0 a
  | succ {n : Nat} {x s : Int} : Rch S a n x → s ∈ S → Rch S a (n + 1) (x + s)
/-- the same, no number behind a beyond the limit -/
inductive RchB (S : List Int) (L : Int) (a : Int) : Nat → Int → Prop
  | zero : RchB S L a 0 a
  | succ {n : Nat} {x s : Int} : RchB S L a n x → s ∈ S → -L ≤ x + s → x + s ≤ L → RchB S L a (n + 1) (x + s)
/-- x is reached by i steps and by no fewer -/
def Dst (S : List Int) (L a : Int) (i : Nat) (x : Int) : Prop := RchB S L a i x ∧ ∀ j, j < i → ¬ RchB S L a j x
section
variable {S S' : List Int} {L L' a : Int} {i j n : Nat} {x y : Int}
theorem RchB.un (h : RchB S L a n x) : Rch S a n x := by
  induction h with
  | zero => exact .zero
  | succ _ hs _ _ ih => exact .succ ih hs
theorem RchB.lim (h : RchB S L a n x) (ha : -L ≤ a ∧ a ≤ L) : -L ≤ x ∧ x ≤ L := by
  cases h with
  | zero => exact ha
  | succ _ _ h1 h2 => exact ⟨h1, h2⟩
theorem Rch.sub (h : Rch S a n x) (hs : ∀ s ∈ S, s ∈ S') : Rch S' a n x := by
  induction h with
  | zero => exact .zero
  | succ _ h ih => exact .succ ih (hs _ h)
theorem RchB.sub (h : RchB S L a n x) (hs : ∀ s ∈ S, s ∈ S') : RchB S' L a n x := by
  induction h with
  | zero => exact .zero
  | succ _ h h1 h2 ih => exact .succ ih (hs _ h) h1 h2
/-- steps of 0 may be left out -/
theorem Rch.drop (h : Rch S a n x) (hs : ∀ s ∈ S, s ≠ 0 → s ∈ S') : ∃ m, m ≤ n ∧ Rch S' a m x := by
  induction h with
  | zero => exact ⟨0, Nat.le_refl _, .zero⟩
  | @succ n x s _ h ih =>
    obtain ⟨m, hm, r⟩ := ih
    by_cases e : s = 0
    · exact ⟨m, by omega, by rw [e, Int.add_zero]; exact r⟩
    · exact ⟨m + 1, by omega, .succ r (hs s h e)⟩
theorem Rch.list (h : Rch S a n x) : ∃ l : List Int, l.length = n ∧ (∀ s ∈ l, s ∈ S) ∧ a + l.sum = x := by
  induction h with
  | zero => exact ⟨[], rfl, (fun _ h => nomatch h), by simp⟩
  | @succ n x s _ hs ih =>
    obtain ⟨l, h1, h2, h3⟩ := ih
    refine ⟨s :: l, by simp [h1], fun t ht => ?_, by rw [List.sum_cons]; omega⟩
    rcases List.mem_cons.mp ht with e | ht
    · rw [e]; exact hs
    · exact h2 t ht
theorem Rch.front {s : Int} (h : Rch S (a + s) n x) (hs : s ∈ S) : Rch S a (n + 1) x := by
  induction h with
  | zero => exact .succ .zero hs
  | succ _ h ih => exact .succ ih h
theorem RchB.front {s : Int} (h : RchB S L (a + s) n x) (hs : s ∈ S) (h1 : -L ≤ a + s) (h2 : a + s ≤ L) : RchB S L a (n + 1) x := by
  induction h with
  | zero => exact .succ .zero hs h1 h2
  | succ _ h h3 h4 ih => exact .succ ih h h3 h4
theorem rch_of_list : ∀ (l : List Int) (a : Int), (∀ s ∈ l, s ∈ S) → Rch S a l.length (a + l.sum)
  | [], a, _ => by
    rw [List.sum_nil, Int.add_zero]
    exact .zero
  | s :: l, a, h => by
    have := rch_of_list l (a + s) fun t ht => h t (List.mem_cons_of_mem _ ht)
    rw [List.sum_cons, ← Int.add_assoc]
    exact this.front (h s List.mem_cons_self)
theorem sum_erase {s : Int} : ∀ {l : List Int}, s ∈ l → (l.erase s).sum + s = l.sum
  | x :: l, h => by
    by_cases e : x = s
    · subst e
      rw [List.erase_cons_head, List.sum_cons]
      omega
    · rcases List.mem_cons.mp h with h | h
      · exact absurd h.symm e
      · rw [List.erase_cons_tail (by simpa using e), List.sum_cons, List.sum_cons]
        have := sum_erase h
        omega
theorem neg_of_sum : ∀ {l : List Int}, l.sum < 0 → ∃ s ∈ l, s < 0
  | [], h => by simp at h
  | x :: l, h => by
    by_cases e : x < 0
    · exact ⟨x, List.mem_cons_self, e⟩
    · rw [List.sum_cons] at h
      obtain ⟨s, hs, h0⟩ := neg_of_sum (l := l) (by omega)
      exact ⟨s, List.mem_cons_of_mem _ hs, h0⟩
theorem pos_of_sum : ∀ {l : List Int}, 0 < l.sum → ∃ s ∈ l, 0 < s
  | [], h => by simp at h
  | x :: l, h => by
    by_cases e : 0 < x
    · exact ⟨x, List.mem_cons_self, e⟩
    · rw [List.sum_cons] at h
      obtain ⟨s, hs, h0⟩ := pos_of_sum (l := l) (by omega)
      exact ⟨s, List.mem_cons_of_mem _ hs, h0⟩
/-- steps with the sum -a can be taken in an order that stays within the limit -/
theorem order (hS : ∀ s ∈ S, -L ≤ s ∧ s ≤ L) : ∀ (n : Nat) (l : List Int) (a : Int), l.length = n → (∀ s ∈ l, s ∈ S) → a + l.sum = 0 → -L ≤ a → a ≤ L → ∃ m, m ≤ n ∧ RchB S L a m 0
  | 0, l, a, hl, hm, h0, h1, h2 => by
    have : l = [] := List.length_eq_zero_iff.mp hl
    subst this
    have : a = 0 := by simpa using h0
    subst this
    exact ⟨0, Nat.le_refl _, .zero⟩
  | n + 1, l, a, hl, hm, h0, h1, h2 => by
    have go : ∀ s ∈ l, -L ≤ a + s → a + s ≤ L → ∃ m, m ≤ n + 1 ∧ RchB S L a m 0 := fun s hs g1 g2 => by
      have e := sum_erase hs
      obtain ⟨m, hmn, r⟩ := order hS n (l.erase s) (a + s) (by rw [List.length_erase_of_mem hs, hl]; rfl) (fun t ht => hm t (List.mem_of_mem_erase ht)) (by omega) g1 g2
      exact ⟨m + 1, by omega, r.front (hm s hs) g1 g2⟩
    by_cases c0 : a = 0
    · subst c0
      exact ⟨0, Nat.zero_le _, .zero⟩
    by_cases c : 0 < a
    · obtain ⟨s, hs, hn⟩ := neg_of_sum (l := l) (by omega)
      have := hS s (hm s hs)
      exact go s hs (by omega) (by omega)
    · obtain ⟨s, hs, hn⟩ := pos_of_sum (l := l) (by omega)
      have := hS s (hm s hs)
      exact go s hs (by omega) (by omega)
theorem Rch.within (h : Rch S a n 0) (hS : ∀ s ∈ S, -L ≤ s ∧ s ≤ L) (ha : -L ≤ a ∧ a ≤ L) : ∃ m, m ≤ n ∧ RchB S L a m 0 := by
  obtain ⟨l, h1, h2, h3⟩ := h.list
  exact order hS n l a h1 h2 h3 ha.1 ha.2
theorem Dst.one (h : Dst S L a i x) (h' : Dst S L a j x) : i = j := by
  rcases Nat.lt_trichotomy i j with c | c | c
  · exact absurd h.1 (h'.2 i c)
  · exact c
  · exact absurd h'.1 (h.2 j c)
theorem RchB.dst : ∀ {n : Nat} {x : Int}, RchB S L a n x → ∃ j, j ≤ n ∧ Dst S L a j x := by
  intro n
  induction n using Nat.strongRecOn with
  | _ n ih =>
    intro x h
    rcases Classical.em (∃ j, j < n ∧ RchB S L a j x) with ⟨j, hj, r⟩ | c
    · obtain ⟨k, hk, d⟩ := ih j hj r
      exact ⟨k, by omega, d⟩
    · exact ⟨n, Nat.le_refl _, h, fun j hj r => c ⟨j, hj, r⟩⟩
theorem dst0 (h : Dst S L a i a) : i = 0 := by
  cases i with
  | zero => rfl
  | succ i => exact absurd RchB.zero (h.2 0 (Nat.succ_pos _))
/-- what is known behind i turns: C what came, R the ring -/
structure Lev (S : List Int) (L a : Int) (i : Nat) (C R : List Int) : Prop where
  came : ∀ x, x ∈ C ↔ ∃ j, j ≤ i ∧ RchB S L a j x
  ring : ∀ x, x ∈ R ↔ Dst S L a i x
  nd : C.Nodup
theorem Lev.start : Lev S L a 0 [a] [a] := by
  refine ⟨fun x => ?_, fun x => ?_, by simp⟩
  · rw [List.mem_singleton]
    constructor
    · rintro rfl
      exact ⟨0, Nat.le_refl _, .zero⟩
    · rintro ⟨j, hj, h⟩
      have : j = 0 := by omega
      subst this
      cases h
      rfl
  · rw [List.mem_singleton]
    constructor
    · rintro rfl
      exact ⟨.zero, fun j hj => absurd hj (Nat.not_lt_zero _)⟩
    · rintro ⟨h, _⟩
      cases h
      rfl
/-- what is found in a turn -/
structure Found (S : List Int) (L : Int) (C R F : List Int) : Prop where
  mem : ∀ x, x ∈ F ↔ (x ∉ C ∧ -L ≤ x ∧ x ≤ L ∧ ∃ n ∈ R, ∃ s ∈ S, x = n + s)
  nd : F.Nodup
theorem Lev.next {C R F : List Int} (h : Lev S L a i C R) (f : Found S L C R F) : Lev S L a (i + 1) (C ++ F) F := by
  have key : ∀ x, x ∈ F ↔ Dst S L a (i + 1) x := fun x => by
    rw [f.mem]
    constructor
    · rintro ⟨hc, h1, h2, n, hn, s, hs, rfl⟩
      refine ⟨.succ ((h.ring n).mp hn).1 hs h1 h2, fun j hj r => hc ((h.came _).mpr ⟨j, by omega, r⟩)⟩
    · rintro ⟨r, hmin⟩
      cases r with
      | @succ _ n s r hs h1 h2 =>
        refine ⟨fun hc => ?_, h1, h2, n, (h.ring n).mpr ⟨r, fun j hj r' => ?_⟩, s, hs, rfl⟩
        · obtain ⟨j, hj, r'⟩ := (h.came _).mp hc
          exact hmin j (by omega) r'
        · exact hmin (j + 1) (by omega) (.succ r' hs h1 h2)
  refine ⟨fun x => ?_, key, ?_⟩
  · rw [List.mem_append]
    constructor
    · rintro (hx | hx)
      · obtain ⟨j, hj, r⟩ := (h.came x).mp hx
        exact ⟨j, by omega, r⟩
      · exact ⟨i + 1, Nat.le_refl _, ((key x).mp hx).1⟩
    · rintro ⟨j, hj, r⟩
      obtain ⟨k, hk, d⟩ := r.dst
      by_cases e : k = i + 1
      · exact .inr ((key x).mpr (e ▸ d))
      · exact .inl ((h.came x).mpr ⟨k, by omega, d.1⟩)
  · rw [List.nodup_append]
    refine ⟨h.nd, f.nd, fun x hx y hy e => ?_⟩
    exact ((f.mem y).mp hy).1 (e ▸ hx)
/-- the ring is empty: everything came -/
theorem Lev.all {C : List Int} (h : Lev S L a i C []) : ∀ n x, RchB S L a n x → x ∈ C := by
  intro n x r
  induction r with
  | zero => exact (h.came a).mpr ⟨0, Nat.zero_le _, .zero⟩
  | @succ n x s _ hs h1 h2 ih =>
    obtain ⟨j, hj, r⟩ := (h.came x).mp ih
    obtain ⟨k, hk, d⟩ := r.dst
    have : k ≠ i := fun e => by
      have := (h.ring x).mpr (e ▸ d)
      cases this
    exact (h.came _).mpr ⟨k + 1, by omega, .succ d.1 hs h1 h2⟩
theorem Lev.lim {C R : List Int} (h : Lev S L a i C R) (ha : -L ≤ a ∧ a ≤ L) {x : Int} (hx : x ∈ C) : -L ≤ x ∧ x ≤ L := by
  obtain ⟨j, _, r⟩ := (h.came x).mp hx
  exact r.lim ha
theorem Lev.sub {C R : List Int} (h : Lev S L a i C R) : ∀ x ∈ R, x ∈ C := fun x hx => (h.came x).mpr ⟨i, Nat.le_refl _, ((h.ring x).mp hx).1⟩
/-- a list of different numbers within the limit is no longer than the limit allows -/
theorem few {C : List Int} (nd : C.Nodup) (h : ∀ x ∈ C, -L ≤ x ∧ x ≤ L) (hL : 0 ≤ L) : (C.length : Int) ≤ 2 * L + 1 := by
  have key : ∀ (D : List Int) (k : Nat), D.Nodup → (∀ x ∈ D, 0 ≤ x ∧ x < (k : Int)) → D.length ≤ k := by
    intro D k
    induction k generalizing D with
    | zero =>
      intro _ hb
      cases D with
      | nil => exact Nat.le_refl _
      | cons x D =>
        have := hb x List.mem_cons_self
        omega
    | succ k ih =>
      intro hn hb
      have := ih (D.erase (k : Int)) (hn.erase _) fun x hx => by
        have h1 := hb x (List.mem_of_mem_erase hx)
        have h2 := (hn.mem_erase_iff.mp hx).1
        omega
      have l := List.length_erase (a := (k : Int)) (l := D)
      split at l <;> omega
  have := key (C.map fun x => x + L) (2 * L + 1).toNat (by
    refine List.pairwise_map.mpr (nd.imp ?_)
    intro x y hxy e
    omega) (fun x hx => by
      obtain ⟨y, hy, rfl⟩ := List.mem_map.mp hx
      have := h y hy
      omega)
  rw [List.length_map] at this
  omega
/-- a number that is reached by i steps and no fewer has i others before it -/
theorem dst_len : ∀ {i : Nat} {x : Int}, Dst S L a i x → ∃ l : List Int, l.length = i + 1 ∧ l.Nodup ∧ ∀ y ∈ l, ∃ j, j ≤ i ∧ Dst S L a j y
  | 0, x, d => ⟨[x], rfl, by simp, fun y hy => ⟨0, Nat.le_refl _, by rw [List.mem_singleton.mp hy]; exact d⟩⟩
  | i + 1, x, d => by
    have p : ∃ y, Dst S L a i y := by
      obtain ⟨r, hm⟩ := d
      cases r with
      | @succ _ n s r hs h1 h2 => exact ⟨n, r, fun j hj r' => hm (j + 1) (by omega) (.succ r' hs h1 h2)⟩
    obtain ⟨y, hy⟩ := p
    obtain ⟨l, h1, h2, h3⟩ := dst_len hy
    refine ⟨x :: l, by rw [List.length_cons, h1], List.nodup_cons.mpr ⟨fun hx => ?_, h2⟩, fun z hz => ?_⟩
    · obtain ⟨j, hj, dj⟩ := h3 x hx
      have := d.one dj
      omega
    · rcases List.mem_cons.mp hz with e | hz
      · exact ⟨i + 1, Nat.le_refl _, e ▸ d⟩
      · obtain ⟨j, hj, dj⟩ := h3 z hz
        exact ⟨j, by omega, dj⟩
theorem Dst.le2 (d : Dst S L a i x) (ha : -L ≤ a ∧ a ≤ L) : (i : Int) ≤ 2 * L := by
  obtain ⟨l, h1, h2, h3⟩ := dst_len d
  have := Bf.few (L := L) h2 (fun y hy => by
    obtain ⟨j, _, dj⟩ := h3 y hy
    exact dj.1.lim ha) (by omega)
  omega
/-- the least number of steps that lead to 0 -/
def Least (S : List Int) (a : Int) : Option Nat → Prop
  | none => ∀ n, ¬ Rch S a n 0
  | some m => Rch S a m 0 ∧ ∀ n, Rch S a n 0 → m ≤ n
theorem Least.one {o o' : Option Nat} (h : Least S a o) (h' : Least S a o') : o = o' := by
  cases o with
  | none => cases o' with
    | none => rfl
    | some m => exact absurd h'.1 (h m)
  | some m => cases o' with
    | none => exact absurd h.1 (h' m)
    | some k =>
      have h1 := h.2 k h'.1
      have h2 := h'.2 m h.1
      rw [show m = k by omega]
theorem least_some (hS : ∀ s ∈ S, -L ≤ s ∧ s ≤ L) (ha : -L ≤ a ∧ a ≤ L) (h : Dst S L a i 0) : Least S a (some i) := by
  refine ⟨h.1.un, fun n r => ?_⟩
  obtain ⟨m, hm, r⟩ := r.within hS ha
  rcases Nat.lt_or_ge m i with c | c
  · exact absurd r (h.2 m c)
  · omega
theorem least_none (hS : ∀ s ∈ S, -L ≤ s ∧ s ≤ L) (ha : -L ≤ a ∧ a ≤ L) {C : List Int} (h : Lev S L a i C []) (h0 : (0 : Int) ∉ C) : Least S a none := fun n r => by
  obtain ⟨m, _, r⟩ := r.within hS ha
  exact h0 (h.all m 0 r)
/-- the same steps but 0 -/
theorem Least.steps {o : Option Nat} (h : Least S a o) (e : ∀ s, s ≠ 0 → (s ∈ S ↔ s ∈ S')) : Least S' a o := by
  have f : ∀ n, Rch S' a n 0 → ∃ m, m ≤ n ∧ Rch S a m 0 := fun n r => r.drop fun s hs hn => (e s hn).mpr hs
  have g : ∀ n, Rch S a n 0 → ∃ m, m ≤ n ∧ Rch S' a m 0 := fun n r => r.drop fun s hs hn => (e s hn).mp hs
  cases o with
  | none =>
    intro n r
    obtain ⟨m, _, r⟩ := f n r
    exact h m r
  | some k =>
    obtain ⟨m, hm, r⟩ := g k h.1
    obtain ⟨m', hm', r'⟩ := f m r
    have := h.2 m' r'
    have e : m = k := by omega
    subst e
    refine ⟨r, fun n r => ?_⟩
    obtain ⟨m2, hm2, r2⟩ := f n r
    have := h.2 m2 r2
    omega
end
end Bf

/-! Bw: breadth first over the steps of a form: the mirror, what it finds, and dicts with int keys that hold it. -/
namespace Bw
open PySem L2 Sm Bf
abbrev CM := List (Int × Option (List Int))
abbrev ckeys (C : CM) : List Int := C.map (·.1)
def getC (C : CM) (n : Int) : Option (Option (List Int)) := (C.find? fun p => decide (p.1 = n)).map (·.2)
theorem getC_none {C : CM} {n : Int} : getC C n = none ↔ n ∉ ckeys C := by
  unfold getC
  rw [Option.map_eq_none_iff, List.find?_eq_none]
  constructor
  · intro h hm
    obtain ⟨p, hp, e⟩ := List.mem_map.mp hm
    exact h p hp (decide_eq_true e)
  · intro h p hp e
    exact h (List.mem_map.mpr ⟨p, hp, of_decide_eq_true e⟩)
theorem getC_mem {C : CM} {n : Int} {o : Option (List Int)} (h : getC C n = some o) : (n, o) ∈ C := by
  unfold getC at h
  obtain ⟨p, hp, e⟩ := Option.map_eq_some_iff.mp h
  have h2 : p.1 = n := by
    have := List.find?_some hp
    exact of_decide_eq_true this
  rw [← h2, ← e]
  exact List.mem_of_find?_eq_some hp
theorem getC_some {C : CM} {n : Int} (h : n ∈ ckeys C) : ∃ o, getC C n = some o := by
  cases e : getC C n with
  | none => exact absurd h (getC_none.mp e)
  | some o => exact ⟨o, rfl⟩
/-! the heap -/
def OptAt (H : Hp) (v : V) : Option (List Int) → Prop
  | none => v = .non
  | some k => ∃ t, v = .ref t ∧ H t = some (.tup (k.map V.int))
abbrev CRel (H : Hp) (p : Int × Option (List Int)) (q : Key × V) : Prop := q.1 = Sum.inl p.1 ∧ OptAt H q.2 p.2
def CameAt (H : Hp) (d : Addr) (C : CM) : Prop := ∃ kvs, H d = some (.dK kvs) ∧ Paired (CRel H) C kvs
theorem OptAt.same {H H' : Hp} (e : ∀ b ys, H b = some (.tup ys) → H' b = some (.tup ys)) {v : V} {o : Option (List Int)} (h : OptAt H v o) : OptAt H' v o := by
  cases o with
  | none => exact h
  | some k =>
    obtain ⟨t, h1, h2⟩ := h
    exact ⟨t, h1, e _ _ h2⟩
theorem CameAt.ob {H : Hp} {d : Addr} {C : CM} (h : CameAt H d C) : ∃ kvs, H d = some (.dK kvs) := let ⟨kvs, e, _⟩ := h; ⟨kvs, e⟩
theorem CameAt.same {H H' : Hp} {d : Addr} {C : CM} (h : CameAt H d C) (e : ∀ b ys, H b = some (.tup ys) → H' b = some (.tup ys)) (hd : H' d = H d) : CameAt H' d C := by
  obtain ⟨kvs, h1, h2⟩ := h
  exact ⟨kvs, hd.trans h1, L2.Paired.mapP h2 fun p q r => ⟨r.1, r.2.same e⟩⟩
theorem CameAt.keep {H H' : Hp} {d : Addr} {C : CM} (h : CameAt H d C) (e : Same H H') : CameAt H' d C := by
  obtain ⟨kvs, h1, h2⟩ := h
  exact ⟨kvs, e _ _ h1, L2.Paired.mapP h2 fun p q r => ⟨r.1, r.2.same fun b ys z => e _ _ z⟩⟩
theorem rel_val {H : Hp} {n : Int} {C : CM} {kvs : List (Key × V)} (h : Paired (CRel H) C kvs) : (getC C n = none → valV kvs (Sum.inl n) = none) ∧ ∀ o, getC C n = some o → ∃ v, valV kvs (Sum.inl n) = some v ∧ OptAt H v o := by
  induction h with
  | nil => exact ⟨fun _ => rfl, fun o h => nomatch h⟩
  | @cons p q C kvs h t ih =>
    by_cases e : p.1 = n
    · have e2 : q.1 = Sum.inl n := by rw [h.1, e]
      rw [valV_pos e2]
      have g : getC (p :: C) n = some p.2 := by simp [getC, e]
      rw [g]
      refine ⟨fun z => (nomatch z), fun o z => ⟨q.2, rfl, ?_⟩⟩
      rw [← Option.some.inj z]
      exact h.2
    · have e2 : ¬ q.1 = Sum.inl n := fun z => e (Sum.inl.inj (h.1.symm.trans z))
      rw [valV_neg e2]
      have g : getC (p :: C) n = getC C n := by simp [getC, e]
      rw [g]
      exact ih
theorem CameAt.no {H : Hp} {d : Addr} {C : CM} {n : Int} (h : CameAt H d C) (hn : n ∉ ckeys C) : DGet H d (.int n) none := by
  obtain ⟨kvs, e, r⟩ := h
  have := DGet.k (k := Sum.inl n) e
  rw [(rel_val r).1 (getC_none.mpr hn)] at this
  exact this
theorem CameAt.yes {H : Hp} {d : Addr} {C : CM} {n : Int} {o : Option (List Int)} (h : CameAt H d C) (hn : getC C n = some o) : ∃ v, OptAt H v o ∧ DGet H d (.int n) (some v) := by
  obtain ⟨kvs, e, r⟩ := h
  obtain ⟨v, h1, h2⟩ := (rel_val r).2 o hn
  have := DGet.k (k := Sum.inl n) e
  rw [h1] at this
  exact ⟨v, h2, this⟩
theorem CameAt.get {H : Hp} {d : Addr} {C : CM} (h : CameAt H d C) (n : Int) : ∃ r, DGet H d (.int n) r ∧ r.isSome = decide (n ∈ ckeys C) := by
  by_cases c : n ∈ ckeys C
  · obtain ⟨o, g⟩ := getC_some c
    obtain ⟨v, _, g⟩ := h.yes g
    exact ⟨_, g, by rw [decide_eq_true c]; rfl⟩
  · exact ⟨_, h.no c, by rw [decide_eq_false c]; rfl⟩
theorem paired_snoc {α β : Type} {F : α → β → Prop} {a : α} {b : β} {l : List α} {m : List β} (h : Paired F l m) (q : F a b) : Paired F (l ++ [a]) (m ++ [b]) := by
  induction h with
  | nil => exact .cons q .nil
  | cons r _ ih => exact .cons r ih
theorem CameAt.put {H : Hp} {d : Addr} {C : CM} {n : Int} {v : V} {o : Option (List Int)} (h : CameAt H d C) (hn : n ∉ ckeys C) (hv : OptAt H v o) (hs : C.length < 100000) :
    ∃ kvs, DPut H d (.int n) v (upd H d (.dK kvs)) ∧ CameAt (upd H d (.dK kvs)) d (C ++ [(n, o)]) := by
  obtain ⟨kvs, e, r⟩ := h
  have hl : kvs.length < sizeLine := by
    rw [← Paired.length r, sizeLine_eq]
    omega
  have p := DPut.k (k := Sum.inl n) (v := v) e hl
  rw [putK_new v ((rel_val r).1 (getC_none.mpr hn))] at p
  have tk : ∀ b ys, H b = some (.tup ys) → upd H d (.dK (kvs ++ [(Sum.inl n, v)])) b = some (.tup ys) := fun b ys z => by
    rw [upd_ne (ne_of z e (fun z => nomatch z))]
    exact z
  exact ⟨_, p, _, upd_same, paired_snoc (L2.Paired.mapP r fun p q r => ⟨r.1, r.2.same tk⟩) ⟨rfl, hv.same tk⟩⟩
/-! the mirror of a turn -/
def stepC (L : Int) (cf : CM × List Int) (c : Int × List Int) : CM × List Int :=
  if -L ≤ c.1 ∧ c.1 ≤ L ∧ c.1 ∉ ckeys cf.1 then (cf.1 ++ [(c.1, some c.2)], cf.2 ++ [c.1]) else cf
def cands (qs : DI) (n : Int) : List (Int × List Int) := qs.map fun q => (n + q.2, q.1)
def rowC (L : Int) (qs : DI) (n : Int) (cf : CM × List Int) : CM × List Int := (cands qs n).foldl (stepC L) cf
def wid (L : Int) (qs : DI) (R : List Int) (C : CM) : CM × List Int := R.foldl (fun cf n => rowC L qs n cf) (C, [])
theorem wid_flat {L : Int} {qs : DI} (R : List Int) (cf : CM × List Int) : R.foldl (fun cf n => rowC L qs n cf) cf = (R.flatMap (cands qs)).foldl (stepC L) cf := by
  induction R generalizing cf with
  | nil => rfl
  | cons n R ih => rw [List.foldl_cons, List.flatMap_cons, List.foldl_append, ih]; rfl
theorem fold_spec {L : Int} : ∀ (cs : List (Int × List Int)) (C : CM) (F : List Int), ∃ (T : CM) (G : List Int), cs.foldl (stepC L) (C, F) = (C ++ T, F ++ G) ∧ ckeys T = G ∧
    (∀ x, x ∈ G ↔ (x ∉ ckeys C ∧ -L ≤ x ∧ x ≤ L ∧ x ∈ cs.map (·.1))) ∧ G.Nodup ∧ ∀ p ∈ T, ∃ k, p.2 = some k ∧ (p.1, k) ∈ cs
  | [], C, F => ⟨[], [], by simp, rfl, by simp, by simp, (fun _ h => nomatch h)⟩
  | c :: cs, C, F => by
    rw [List.foldl_cons]
    by_cases e : -L ≤ c.1 ∧ c.1 ≤ L ∧ c.1 ∉ ckeys C
    · have s : stepC L (C, F) c = (C ++ [(c.1, some c.2)], F ++ [c.1]) := if_pos e
      rw [s]
      obtain ⟨T, G, h1, h2, h3, h4, h5⟩ := fold_spec cs (C ++ [(c.1, some c.2)]) (F ++ [c.1])
      refine ⟨(c.1, some c.2) :: T, c.1 :: G, by rw [h1]; simp, by rw [← h2]; rfl, fun x => ?_, ?_, fun p hp => ?_⟩
      · rw [List.mem_cons, h3, List.map_cons, List.mem_cons]
        unfold ckeys
        rw [List.map_append, List.mem_append]
        constructor
        · rintro (rfl | ⟨a, b, d, f⟩)
          · exact ⟨e.2.2, e.1, e.2.1, .inl rfl⟩
          · exact ⟨fun z => a (.inl z), b, d, .inr f⟩
        · rintro ⟨a, b, d, f⟩
          by_cases q : x = c.1
          · exact .inl q
          · rcases f with f | f
            · exact absurd f q
            · refine .inr ⟨fun z => ?_, b, d, f⟩
              rcases z with z | z
              · exact a z
              · exact q (by simpa using z)
      · refine List.nodup_cons.mpr ⟨fun z => ?_, h4⟩
        have := ((h3 _).mp z).1
        unfold ckeys at this
        rw [List.map_append, List.mem_append] at this
        exact this (.inr (by simp))
      · rcases List.mem_cons.mp hp with rfl | hp
        · exact ⟨c.2, rfl, List.mem_cons_self⟩
        · obtain ⟨k, a, b⟩ := h5 p hp
          exact ⟨k, a, List.mem_cons_of_mem _ b⟩
    · have s : stepC L (C, F) c = (C, F) := if_neg e
      rw [s]
      obtain ⟨T, G, h1, h2, h3, h4, h5⟩ := fold_spec cs C F
      refine ⟨T, G, h1, h2, fun x => ?_, h4, fun p hp => ?_⟩
      · rw [h3, List.map_cons, List.mem_cons]
        constructor
        · rintro ⟨a, b, d, f⟩
          exact ⟨a, b, d, .inr f⟩
        · rintro ⟨a, b, d, f⟩
          rcases f with f | f
          · exact absurd ⟨f ▸ b, f ▸ d, f ▸ a⟩ e
          · exact ⟨a, b, d, f⟩
      · obtain ⟨k, a, b⟩ := h5 p hp
        exact ⟨k, a, List.mem_cons_of_mem _ b⟩
theorem mem_cands {qs : DI} {R : List Int} {x : Int} : x ∈ (R.flatMap (cands qs)).map (·.1) ↔ ∃ n ∈ R, ∃ s ∈ qs.map (·.2), x = n + s := by
  rw [List.mem_map]
  constructor
  · rintro ⟨p, hp, rfl⟩
    obtain ⟨n, hn, hp⟩ := List.mem_flatMap.mp hp
    obtain ⟨q, hq, rfl⟩ := List.mem_map.mp hp
    exact ⟨n, hn, q.2, List.mem_map.mpr ⟨q, hq, rfl⟩, rfl⟩
  · rintro ⟨n, hn, s, hs, rfl⟩
    obtain ⟨q, hq, rfl⟩ := List.mem_map.mp hs
    exact ⟨(n + q.2, q.1), List.mem_flatMap.mpr ⟨n, hn, List.mem_map.mpr ⟨q, hq, rfl⟩⟩, rfl⟩
/-- what a turn finds -/
theorem wid_spec (L : Int) (qs : DI) (R : List Int) (C : CM) : ∃ T : CM, (wid L qs R C).1 = C ++ T ∧ (wid L qs R C).2 = ckeys T ∧ Found (qs.map (·.2)) L (ckeys C) R (ckeys T) ∧ ∀ p ∈ T, ∃ k s n, p = (n + s, some k) ∧ (k, s) ∈ qs ∧ n ∈ R := by
  obtain ⟨T, G, h1, h2, h3, h4, h5⟩ := fold_spec (L := L) (R.flatMap (cands qs)) C []
  refine ⟨T, by unfold wid; rw [wid_flat, h1], by unfold wid; rw [wid_flat, h1, h2]; rfl, ⟨fun x => by rw [h2, h3, mem_cands], by rw [h2]; exact h4⟩, fun p hp => ?_⟩
  obtain ⟨k, e, hm⟩ := h5 p hp
  obtain ⟨n, hn, hm⟩ := List.mem_flatMap.mp hm
  obtain ⟨q, hq, e2⟩ := List.mem_map.mp hm
  have e3 := (Prod.mk.inj e2).1
  have e4 := (Prod.mk.inj e2).2
  exact ⟨k, q.2, n, Prod.ext e3.symm e, by rw [← e4]; exact hq, hn⟩
/-! the whole search -/
inductive Run (L : Int) (qs : DI) : CM → List Int → CM → Prop
  | stop {C : CM} {R : List Int} : (R = [] ∨ (0 : Int) ∈ ckeys C) → Run L qs C R C
  | more {C C' : CM} {R : List Int} : R ≠ [] → (0 : Int) ∉ ckeys C → Run L qs (wid L qs R C).1 (wid L qs R C).2 C' → Run L qs C R C'
theorem Run.one {L : Int} {qs : DI} {C C1 C2 : CM} {R : List Int} (h : Run L qs C R C1) (h' : Run L qs C R C2) : C1 = C2 := by
  induction h with
  | stop e => cases h' with
    | stop _ => rfl
    | more a b _ => exact absurd e (fun z => z.elim a b)
  | more a b _ ih => cases h' with
    | stop e => exact absurd e (fun z => z.elim a b)
    | more _ _ r => exact ih r
/-- each number that came tells the step that led to it -/
def Back (qs : DI) (L a : Int) (C : CM) : Prop := ∀ p ∈ C, (p.2 = none ∧ p.1 = a) ∨ ∃ k s i, p.2 = some k ∧ (k, s) ∈ qs ∧ Dst (qs.map (·.2)) L a (i + 1) p.1 ∧ Dst (qs.map (·.2)) L a i (p.1 - s)
structure Mid (qs : DI) (L a : Int) (i : Nat) (C : CM) (R : List Int) : Prop where
  lev : Lev (qs.map (·.2)) L a i (ckeys C) R
  back : Back qs L a C
  fresh : (0 : Int) ∈ ckeys C → Dst (qs.map (·.2)) L a i 0
theorem Mid.start {qs : DI} {L a : Int} : Mid qs L a 0 [(a, none)] [a] := by
  refine ⟨.start, fun p hp => ?_, fun h => ?_⟩
  · rw [List.mem_singleton.mp hp]
    exact .inl ⟨rfl, rfl⟩
  · have : (0 : Int) = a := by simpa using h
    rw [← this]
    exact ⟨.zero, fun j hj => absurd hj (Nat.not_lt_zero _)⟩
theorem Mid.next {qs : DI} {L a : Int} {i : Nat} {C : CM} {R : List Int} (h : Mid qs L a i C R) (h0 : (0 : Int) ∉ ckeys C) : Mid qs L a (i + 1) (wid L qs R C).1 (wid L qs R C).2 := by
  obtain ⟨T, e1, e2, f, t⟩ := wid_spec L qs R C
  have nx := h.lev.next f
  rw [e1, e2]
  have ek : ckeys (C ++ T) = ckeys C ++ ckeys T := List.map_append
  refine ⟨by rw [ek]; exact nx, fun p hp => ?_, fun z => ?_⟩
  · rcases List.mem_append.mp hp with hp | hp
    · exact h.back p hp
    · obtain ⟨k, s, n, rfl, hq, hn⟩ := t p hp
      refine .inr ⟨k, s, i, rfl, hq, (nx.ring _).mp (List.mem_map.mpr ⟨_, hp, rfl⟩), ?_⟩
      have : n + s - s = n := by omega
      show Dst _ L a i (n + s - s)
      rw [this]
      exact (h.lev.ring n).mp hn
  · rw [ek] at z
    rcases List.mem_append.mp z with z | z
    · exact absurd z h0
    · exact (nx.ring 0).mp z
theorem Run.mid {qs : DI} {L a : Int} {C C' : CM} {R : List Int} (r : Run L qs C R C') : ∀ i, Mid qs L a i C R → ∃ j R', Mid qs L a j C' R' ∧ (R' = [] ∨ (0 : Int) ∈ ckeys C') := by
  induction r with
  | stop e => exact fun i h => ⟨i, _, h, e⟩
  | more a b _ ih => exact fun i h => ih (i + 1) (h.next b)
/-! tracing back -/
inductive Tr (qs : DI) (C : CM) : Int → DI → DI → Prop
  | stop {x : Int} {cs : DI} : getC C x = some none → Tr qs C x cs cs
  | more {x s : Int} {cs out : DI} {k : List Int} : getC C x = some (some k) → getI qs k = some s → Tr qs C (x - s) (putI cs k ((getI cs k).getD 0 + 1)) out → Tr qs C x cs out
theorem Tr.one {qs : DI} {C : CM} {x : Int} {cs o1 o2 : DI} (h : Tr qs C x cs o1) (h' : Tr qs C x cs o2) : o1 = o2 := by
  induction h with
  | stop e => cases h' with
    | stop _ => rfl
    | more a _ _ => rw [e] at a; cases a
  | more a b _ ih => cases h' with
    | stop e => rw [a] at e; cases e
    | more a' b' r =>
      rw [a] at a'
      cases a'
      rw [b] at b'
      cases b'
      exact ih r
def tot (cs : DI) : Int := (cs.map (·.2)).sum
theorem sum_putI (f : List Int → Int) {cs : DI} {k : List Int} (nd : (cs.map (·.1)).Nodup) (v : Int) : ((putI cs k v).map fun y => f y.1 * y.2).sum = (cs.map fun y => f y.1 * y.2).sum + f k * (v - (getI cs k).getD 0) := by
  by_cases c : k ∈ cs.map (·.1)
  · unfold putI
    rw [if_pos (by
      obtain ⟨p, hp, e⟩ := List.mem_map.mp c
      exact List.any_eq_true.mpr ⟨p, hp, decide_eq_true e⟩)]
    induction cs with
    | nil => cases c
    | cons q r ih =>
      have nd' : (q.1 :: r.map (·.1)).Nodup := nd
      obtain ⟨n1, n2⟩ := List.nodup_cons.mp nd'
      rw [List.map_cons, List.map_cons, List.map_cons, List.sum_cons, List.sum_cons]
      by_cases e : q.1 = k
      · have e2 : r.map (fun p => if p.1 = k then (p.1, v) else p) = r := by
          conv => rhs; rw [← List.map_id r]
          refine List.map_congr_left fun p hp => ?_
          have : ¬ p.1 = k := fun z => n1 (by rw [e, ← z]; exact List.mem_map.mpr ⟨p, hp, rfl⟩)
          rw [if_neg this]
          rfl
        rw [e2, if_pos e]
        have g : getI (q :: r) k = some q.2 := by simp [getI, e]
        rw [g]
        show f q.1 * v + _ = f q.1 * q.2 + _ + f k * (v - q.2)
        rw [e, Int.mul_sub]
        omega
      · rw [if_neg e]
        have g : getI (q :: r) k = getI r k := by simp [getI, e]
        rw [g]
        have c2 : k ∈ r.map (·.1) := by
          rcases List.mem_cons.mp c with c | c
          · exact absurd c.symm e
          · exact c
        have := ih n2 c2
        omega
  · rw [putI_new c, getI_none c, List.map_append, List.sum_append]
    simp
theorem Tr.spec {qs : DI} {L a : Int} {C : CM} (hC : (ckeys C).Nodup) (hb : Back qs L a C) (nq : (qs.map (·.1)).Nodup) {x : Int} {cs out : DI} (t : Tr qs C x cs out) :
    ∀ i, Dst (qs.map (·.2)) L a i x → (cs.map (·.1)).Nodup → (∀ p ∈ cs, 1 ≤ p.2 ∧ p.1 ∈ qs.map (·.1)) →
    tot out = tot cs + i ∧ atC qs out = atC qs cs + (x - a) ∧ (out.map (·.1)).Nodup ∧ ∀ p ∈ out, 1 ≤ p.2 ∧ p.1 ∈ qs.map (·.1) := by
  induction t with
  | @stop x cs e =>
    intro i d nd hp
    have : x = a := by
      rcases hb _ (getC_mem e) with h | ⟨_, _, _, h, _⟩
      · exact h.2
      · cases h
    subst this
    have := dst0 d
    subst this
    exact ⟨by simp, by omega, nd, hp⟩
  | @more x s cs out k e g _ ih =>
    intro i d nd hp
    rcases hb _ (getC_mem e) with h | ⟨k', s', j, h, hm, d1, d2⟩
    · cases h.1
    · cases h
      have gs : getI qs k = some s' := getI_mem nq hm
      rw [g] at gs
      cases gs
      have ij := d.one d1
      subst ij
      have nx : ∀ p ∈ putI cs k ((getI cs k).getD 0 + 1), 1 ≤ p.2 ∧ p.1 ∈ qs.map (·.1) := fun p hp2 => by
        have g2 := getI_mem (nd_putI nd) hp2
        rw [getI_putI] at g2
        split at g2
        · next e3 =>
          have e4 := Option.some.inj g2
          refine ⟨?_, by rw [e3]; exact List.mem_map.mpr ⟨_, hm, rfl⟩⟩
          cases g5 : getI cs k with
          | none =>
            rw [g5] at e4
            have : p.2 = 1 := e4.symm
            omega
          | some z =>
            rw [g5] at e4
            have h6 := (hp _ (mem_getI g5)).1
            have : p.2 = z + 1 := e4.symm
            have h7 : 1 ≤ z := h6
            omega
        · exact hp _ (mem_getI g2)
      obtain ⟨i1, i2, i3, i4⟩ := ih j d2 (nd_putI nd) nx
      have s1 := sum_putI (fun _ => 1) (k := k) nd ((getI cs k).getD 0 + 1)
      have s2 := sum_putI (gt qs) (k := k) nd ((getI cs k).getD 0 + 1)
      have gg : gt qs k = s := by unfold gt; rw [g]; rfl
      rw [gg, show (getI cs k).getD 0 + 1 - (getI cs k).getD 0 = 1 by omega, Int.mul_one] at s2
      simp only [Int.one_mul] at s1
      unfold tot at i1 ⊢
      unfold atC at i2 ⊢
      exact ⟨by omega, by omega, i3, i4⟩
/-! fewest -/
def OneS (st : Int) (qs : DI) : Prop := (0 < st ∧ ∀ p ∈ qs, 0 ≤ p.2) ∨ (st < 0 ∧ ∀ p ∈ qs, p.2 ≤ 0)
def IsLim (L st : Int) (qs : DI) : Prop := L ∈ (if st < 0 then -st else st) :: qs.map (fun p => if p.2 < 0 then -p.2 else p.2) ∧ ∀ y ∈ (if st < 0 then -st else st) :: qs.map (fun p => if p.2 < 0 then -p.2 else p.2), y ≤ L
theorem IsLim.one {L L' st : Int} {qs : DI} (h : IsLim L st qs) (h' : IsLim L' st qs) : L = L' := Int.le_antisymm (h'.2 _ h.1) (h.2 _ h'.1)
theorem IsLim.start {L st : Int} {qs : DI} (h : IsLim L st qs) : -L ≤ st ∧ st ≤ L := by
  have := h.2 _ List.mem_cons_self
  split at this <;> omega
theorem IsLim.step {L st : Int} {qs : DI} (h : IsLim L st qs) : ∀ s ∈ qs.map (·.2), -L ≤ s ∧ s ≤ L := fun s hs => by
  obtain ⟨p, hp, rfl⟩ := List.mem_map.mp hs
  have := h.2 _ (List.mem_cons_of_mem _ (List.mem_map.mpr ⟨p, hp, rfl⟩))
  show -L ≤ p.2 ∧ p.2 ≤ L
  split at this <;> omega
def Few (st : Int) (qs : DI) : Option DI → Prop
  | none => OneS st qs ∨ (¬ OneS st qs ∧ ∃ L C, IsLim L st qs ∧ Run L qs [(st, none)] [st] C ∧ (0 : Int) ∉ ckeys C)
  | some r => ¬ OneS st qs ∧ ∃ L C, IsLim L st qs ∧ Run L qs [(st, none)] [st] C ∧ (0 : Int) ∈ ckeys C ∧ Tr qs C 0 [] r
theorem Few.one {st : Int} {qs : DI} {r r' : Option DI} (h : Few st qs r) (h' : Few st qs r') : r = r' := by
  cases r with
  | none => cases r' with
    | none => rfl
    | some b =>
      obtain ⟨n, L', C', l', u', m', _⟩ := h'
      rcases h with h | ⟨_, L, C, l, u, m⟩
      · exact absurd h n
      · have := l.one l'
        subst this
        have := u.one u'
        subst this
        exact absurd m' m
  | some a =>
    obtain ⟨n, L, C, l, u, m, t⟩ := h
    cases r' with
    | none =>
      rcases h' with h' | ⟨_, L', C', l', u', m'⟩
      · exact absurd h' n
      · have := l.one l'
        subst this
        have := u.one u'
        subst this
        exact absurd m m'
    | some b =>
      obtain ⟨_, L', C', l', u', m', t'⟩ := h'
      have := l.one l'
      subst this
      have := u.one u'
      subst this
      rw [t.one t']
theorem ones_never {st : Int} {qs : DI} (h : OneS st qs) {n : Nat} : ¬ Rch (qs.map (·.2)) st n 0 := fun r => by
  obtain ⟨l, _, h2, h3⟩ := r.list
  rcases h with ⟨h0, h⟩ | ⟨h0, h⟩
  · obtain ⟨s, hs, hn⟩ := neg_of_sum (l := l) (by omega)
    obtain ⟨p, hp, rfl⟩ := List.mem_map.mp (h2 s hs)
    have := h p hp
    omega
  · obtain ⟨s, hs, hn⟩ := pos_of_sum (l := l) (by omega)
    obtain ⟨p, hp, rfl⟩ := List.mem_map.mp (h2 s hs)
    have := h p hp
    omega
theorem Few.none_least {st : Int} {qs : DI} (h : Few st qs none) : Least (qs.map (·.2)) st none := by
  rcases h with h | ⟨_, L, C, l, u, m⟩
  · exact fun n => ones_never h
  · obtain ⟨j, R, md, e⟩ := u.mid (a := st) 0 .start
    rcases e with e | e
    · subst e
      exact least_none l.step l.start md.lev m
    · exact absurd e m
theorem Few.some_spec {st : Int} {qs r : DI} (nq : (qs.map (·.1)).Nodup) (h : Few st qs (some r)) : ∃ i : Nat, Least (qs.map (·.2)) st (some i) ∧ tot r = i ∧ st + atC qs r = 0 ∧ (r.map (·.1)).Nodup ∧ ∀ p ∈ r, 1 ≤ p.2 ∧ p.1 ∈ qs.map (·.1) := by
  obtain ⟨_, L, C, l, u, m, t⟩ := h
  obtain ⟨j, R, md, _⟩ := u.mid (a := st) 0 .start
  have d := md.fresh m
  obtain ⟨h1, h2, h3, h4⟩ := t.spec md.lev.nd md.back nq j d List.nodup_nil (fun _ z => nomatch z)
  refine ⟨j, least_some l.step l.start d, ?_, ?_, h3, h4⟩
  · rw [h1]
    show (0 : Int) + j = j
    omega
  · have : atC qs [] = 0 := rfl
    rw [this] at h2
    omega
theorem le_tot : ∀ {cs : DI}, (∀ p ∈ cs, 1 ≤ p.2) → ∀ p ∈ cs, p.2 ≤ tot cs
  | [], _, p, hp => by cases hp
  | q :: r, h, p, hp => by
    have nn : ∀ {cs : DI}, (∀ p ∈ cs, 1 ≤ p.2) → 0 ≤ tot cs := by
      intro cs
      induction cs with
      | nil => exact fun _ => Int.le_refl _
      | cons q r ih =>
        intro h
        have a := h q List.mem_cons_self
        have b := ih fun p hp => h p (List.mem_cons_of_mem _ hp)
        unfold tot at b ⊢
        rw [List.map_cons, List.sum_cons]
        omega
    have a := h q List.mem_cons_self
    have b := nn fun p hp => h p (List.mem_cons_of_mem q hp)
    have e : tot (q :: r) = q.2 + tot r := by unfold tot; rw [List.map_cons, List.sum_cons]
    rw [e]
    rcases List.mem_cons.mp hp with rfl | hp
    · omega
    · have := le_tot (fun p hp => h p (List.mem_cons_of_mem q hp)) p hp
      omega
theorem Few.small {st : Int} {qs r : DI} (nq : (qs.map (·.1)).Nodup) (h : Few st qs (some r)) (hst : -10000 ≤ st ∧ st ≤ 10000) (hq : ∀ q ∈ qs, -10000 ≤ q.2 ∧ q.2 ≤ 10000) : ∀ p ∈ r, -100000 ≤ p.2 ∧ p.2 ≤ 100000 := by
  obtain ⟨_, L, C, l, u, m, t⟩ := h
  obtain ⟨j, R, md, _⟩ := u.mid (a := st) 0 .start
  have d := md.fresh m
  obtain ⟨h1, h2, h3, h4⟩ := t.spec md.lev.nd md.back nq j d List.nodup_nil (fun _ z => nomatch z)
  have fw := d.le2 l.start
  have Lb : L ≤ 10000 := by
    rcases List.mem_cons.mp l.1 with e | e
    · split at e <;> omega
    · obtain ⟨y, hy, e⟩ := List.mem_map.mp e
      have := hq y hy
      split at e <;> omega
  intro p hp
  have a := (h4 p hp).1
  have b := le_tot (fun p hp => (h4 p hp).1) p hp
  rw [h1] at b
  have e0 : tot [] = 0 := rfl
  rw [e0] at b
  omega
end Bw

/-! Sl2: comprehensions of ints over a locked dict told by any expression, over lists of ints. -/
namespace Sl
open PySem L2 Sm
/-- [F for k in d], d told by td -/
theorem lock_intsG {σ : L2.St} {H : Hp} {c : Addr} {r : DI} {j : Nat} {te td : TE} {F : List Int → Int → Int} {Q : VK} (hc : H c = some (.dT (enc r))) (hsz : r.length < 1000)
    (hd : ∀ (H' : Hp) (R : VK), (∀ b o, H b = some o → b ≠ c → H' b = some o) → R (.ref c) H' → td σ H' R)
    (step : ∀ (od : Obj) (H' : Hp) (k : List Int) (z : Int) (t : Addr), (∀ b o, H b = some o → b ≠ c → H' b = some o) → H' c = some (.frz od (.dT (enc r))) → (k, z) ∈ r → H' t = some (.tup (k.map V.int)) →
      ∀ R : VK, R (.int (F k z)) H' → te ((wipe σ [j]).set j (some (.ref t))) H' R)
    (done : ∀ (D : Addr) (H' : Hp), H D = none → Same H H' → H' D = some (.lst ((r.map fun y => F y.1 y.2).map V.int)) → Q (.ref D) H') : tLockE (tLc (iKeys td) (gName j) tYes te [j]) σ H Q := by
  refine ⟨c, _, hc, trivial, fun od => ?_⟩
  refine Eg.w_lc (Eg.w_iK (hd _ _ (fun b o e hn => Eg.upd_mut hn e) (Eg.c_iKT upd_same ?_)))
  intro D hD
  have hDc : D ≠ c := fun e => by rw [e, upd_same] at hD; cases hD
  have hD0 : H D = none := by rw [upd_ne hDc] at hD; exact hD
  refine lc_it walk_keysT (fun n H' => H' c = some (.frz od (.dT (enc r))) ∧ H' D = some (.lst (((r.take n).map fun y => F y.1 y.2).map V.int)) ∧ ∀ b o, H b = some o → b ≠ c → H' b = some o) ?_ (fun n H' _ h => h.1) ?_ ?_
  · exact ⟨Eg.upd_old upd_same hD, upd_same, fun b o e hn => Eg.upd_old (Eg.upd_mut hn e) hD⟩
  · rintro n y _ _ hn ⟨h1, h2, h3⟩ ⟨rfl, k, v, t, hk, rfl, ht⟩
    obtain ⟨kk, z, hkz, rfl, rfl⟩ := inl_key hk
    rw [ek_kV] at ht
    obtain ⟨hlt, he⟩ := List.getElem?_eq_some_iff.mp hkz
    refine Eg.w_gN (Eg.w_wipe ?_ (Eg.w_yes (iteT (step od _ kk z t h3 h1 (List.mem_of_getElem? hkz) ht _ ?_))))
    · show (((σ.set j none).set j (some (.ref t))).set j none) = σ.set j none
      rw [List.set_set, List.set_set]
    · refine ⟨_, h2, ?_, Eg.upd_mut hDc.symm h1, ?_, fun b o e hne => Eg.upd_mut (ne_of_none e hD0) (h3 b o e hne)⟩
      · rw [List.length_map, List.length_map, List.length_take, sizeLine_eq]
        omega
      · rw [upd_same, List.take_succ_eq_append_getElem hlt, he]
        simp
  · rintro H1 ⟨h1, h2, h3⟩
    refine ⟨h1, done D _ hD0 (fun b o e => ?_) (Eg.upd_mut hDc ?_)⟩
    · by_cases hb : b = c
      · rw [hb, upd_same]
        rw [hb, hc] at e
        exact e
      · exact Eg.upd_mut hb (h3 b o e hb)
    · rw [h2]
      unfold enc
      rw [List.length_map, List.take_length]
theorem tups_pairs {H : Hp} {xs : List V} {ks : List (List Int)} (h : TupsAt H xs ks) : ∃ L : List (Addr × List Int), xs = L.map (fun q => V.ref q.1) ∧ L.map (·.2) = ks ∧ ∀ q ∈ L, H q.1 = some (.tup (q.2.map V.int)) := by
  induction h with
  | nil => exact ⟨[], rfl, rfl, fun _ z => nomatch z⟩
  | @cons a b as bs hab r ih =>
    obtain ⟨t, rfl, ht⟩ := hab
    obtain ⟨L, e1, e2, e3⟩ := ih
    refine ⟨(t, b) :: L, by rw [List.map_cons, e1], by rw [List.map_cons, e2], fun q hq => ?_⟩
    rcases List.mem_cons.mp hq with rfl | hq
    · exact ht
    · exact e3 q hq
theorem pairs_tups {H : Hp} {L : List (Addr × List Int)} (h : ∀ q ∈ L, H q.1 = some (.tup (q.2.map V.int))) : TupsAt H (L.map fun q => V.ref q.1) (L.map (·.2)) := by
  induction L with
  | nil => exact .nil
  | cons q r ih => exact .cons ⟨q.1, rfl, h q List.mem_cons_self⟩ (ih fun y hy => h y (List.mem_cons_of_mem _ hy))
theorem nz_succ {ps : DI} {i : Nat} {p : List Int × Int} (h : ps[i]? = some p) : nz (ps.take (i + 1)) = nz (ps.take i) ++ nz [p] := by
  obtain ⟨hl, e⟩ := List.getElem?_eq_some_iff.mp h
  rw [List.take_succ_eq_append_getElem hl, e, nz, List.filter_append]
  rfl
/-- [k for k in d if d[k] != 0] -/
theorem lock_keysG {σ : L2.St} {H : Hp} {c : Addr} {r : DI} {j : Nat} {td : TE} {tt : TT} {Q : VK} (hj : j < σ.length) (hc : H c = some (.dT (enc r))) (hsz : r.length < 1000)
    (hd : ∀ (H' : Hp) (R : VK), (∀ b o, H b = some o → b ≠ c → H' b = some o) → R (.ref c) H' → td σ H' R)
    (test : ∀ (od : Obj) (H' : Hp) (k : List Int) (z : Int) (t : Addr), (∀ b o, H b = some o → b ≠ c → H' b = some o) → H' c = some (.frz od (.dT (enc r))) → (k, z) ∈ r → H' t = some (.tup (k.map V.int)) →
      ∀ R : Bool → Hp → Prop, R (decide (z ≠ 0)) H' → tt ((wipe σ [j]).set j (some (.ref t))) H' R)
    (done : ∀ (D : Addr) (ys : List V) (H' : Hp), H D = none → Same H H' → H' D = some (.lst ys) → TupsAt H' ys ((nz r).map (·.1)) → Q (.ref D) H') : tLockE (tLc (iKeys td) (gName j) tt (tVar j) [j]) σ H Q := by
  refine ⟨c, _, hc, trivial, fun od => ?_⟩
  refine Eg.w_lc (Eg.w_iK (hd _ _ (fun b o e hn => Eg.upd_mut hn e) (Eg.c_iKT upd_same ?_)))
  intro D hD
  have hDc : D ≠ c := fun e => by rw [e, upd_same] at hD; cases hD
  have hD0 : H D = none := by rw [upd_ne hDc] at hD; exact hD
  refine lc_it walk_keysT (fun n H' => H' c = some (.frz od (.dT (enc r))) ∧ (∃ ys, H' D = some (.lst ys) ∧ TupsAt H' ys ((nz (r.take n)).map (·.1))) ∧ ∀ b o, H b = some o → b ≠ c → H' b = some o) ?_ (fun n H' _ h => h.1) ?_ ?_
  · exact ⟨Eg.upd_old upd_same hD, ⟨[], upd_same, .nil⟩, fun b o e hn => Eg.upd_old (Eg.upd_mut hn e) hD⟩
  · rintro n y _ H1 hn ⟨h1, ⟨ys, h2, ty⟩, h3⟩ ⟨rfl, k, v, t, hk, rfl, ht⟩
    obtain ⟨kk, z, hkz, rfl, rfl⟩ := inl_key hk
    rw [ek_kV] at ht
    refine Eg.w_gN (Eg.w_wipe ?_ (test od _ kk z t h3 h1 (List.mem_of_getElem? hkz) ht _ ?_))
    · show (((σ.set j none).set j (some (.ref t))).set j none) = σ.set j none
      rw [List.set_set, List.set_set]
    have tyl := ty.len
    have fl := List.length_filter_le (fun p : List Int × Int => decide (p.2 ≠ 0)) (r.take n)
    rw [List.length_take] at fl
    rw [List.length_map] at tyl
    unfold nz at tyl
    by_cases hz : z = 0
    · rw [decide_eq_false (fun h => h hz)]
      refine iteF ⟨h1, ⟨ys, h2, ?_⟩, h3⟩
      rw [nz_succ hkz, hz, List.map_append, show (nz [((kk, 0) : List Int × Int)]).map (·.1) = [] from by simp [nz], List.append_nil]
      exact ty
    · rw [decide_eq_true hz]
      refine iteT (Eg.w_var (v := .ref t) ?_ ⟨_, h2, by rw [sizeLine_eq]; omega, Eg.upd_mut hDc.symm h1, ⟨_, upd_same, ?_⟩, fun b o e hne => Eg.upd_mut (ne_of_none e hD0) (h3 b o e hne)⟩)
      · show ((σ.set j none).set j (some (.ref t)))[j]? = _
        rw [List.getElem?_set_self (by rw [List.length_set]; exact hj)]
      · rw [nz_succ hkz, List.map_append]
        refine TupsAt.app (ty.same (Eg.tup_upd h2)) ?_
        rw [show (nz [((kk, z) : List Int × Int)]).map (·.1) = [kk] from by simp [nz, hz]]
        exact .cons ⟨t, rfl, Eg.tup_upd h2 _ _ ht⟩ .nil
  · rintro H1 ⟨h1, ⟨ys, h2, ty⟩, h3⟩
    have el : (enc r).length = r.length := by unfold enc; rw [List.length_map]
    rw [el, List.take_length] at ty
    refine ⟨h1, done D ys _ hD0 (fun b o e => ?_) (Eg.upd_mut hDc h2) (ty.same fun b zs e => ?_)⟩
    · by_cases hb : b = c
      · rw [hb, upd_same]
        rw [hb, hc] at e
        exact e
      · exact Eg.upd_mut hb (h3 b o e hb)
    · rw [upd_ne (ne_of e h1 (fun z => nomatch z))]
      exact e
/-- [z for z in xs if P z] -/
theorem filt_ints {K : PySem.W.Frag} {σ : L2.St} {H : Hp} {a : Addr} {xs : List Int} {j : Nat} {ti : TE} {tt : TT} {P : Int → Bool} {Q : VK} (hj : j < σ.length) (ha : SqL K H a (xs.map V.int)) (hsz : xs.length < 100000)
    (hi : ∀ R : VK, R (.ref a) H → ti σ H R) (keep : ∀ H', Same H H' → SqL K H' a (xs.map V.int))
    (test : ∀ (H' : Hp) (z : Int) (R : Bool → Hp → Prop), Same H H' → z ∈ xs → R (P z) H' → tt ((wipe σ [j]).set j (some (.int z))) H' R)
    (done : ∀ (D : Addr) (H' : Hp), H D = none → Same H H' → H' D = some (.lst ((xs.filter P).map V.int)) → Q (.ref D) H') : tLc (iList K ti) (gName j) tt (tVar j) [j] σ H Q := by
  refine Eg.w_lc (Eg.w_iL (hi _ (Eg.c_iL ha ?_)))
  intro D hD
  refine lc_list (xs := xs.map V.int) (fun n H' => Same H H' ∧ H' D = some (.lst (((xs.take n).filter P).map V.int))) ⟨Eg.same_new (Same.refl _) hD, upd_same⟩ (fun n H' _ h => keep _ h.1) ?_ ?_
  · rintro n x H1 hx ⟨s1, h2⟩
    rw [List.getElem?_map] at hx
    obtain ⟨z, hz, rfl⟩ := Option.map_eq_some_iff.mp hx
    obtain ⟨hlt, he⟩ := List.getElem?_eq_some_iff.mp hz
    refine Eg.w_gN (Eg.w_wipe ?_ (test H1 z _ s1 (List.mem_of_getElem? hz) ?_))
    · show (((σ.set j none).set j (some (.int z))).set j none) = σ.set j none
      rw [List.set_set, List.set_set]
    · have fl := List.length_filter_le P (xs.take n)
      rw [List.length_take] at fl
      cases hp : P z with
      | true =>
        refine iteT (Eg.w_var (v := .int z) ?_ ⟨_, h2, ?_, Eg.same_mut s1 hD, ?_⟩)
        · show ((σ.set j none).set j (some (.int z)))[j]? = _
          rw [List.getElem?_set_self (by rw [List.length_set]; exact hj)]
        · rw [List.length_map, sizeLine_eq]
          omega
        · rw [upd_same, List.take_succ_eq_append_getElem hlt, he, List.filter_append]
          simp [hp]
      | false =>
        refine iteF ⟨s1, ?_⟩
        rw [h2, List.take_succ_eq_append_getElem hlt, he, List.filter_append]
        simp [hp]
  · rintro H1 ⟨s1, h2⟩
    rw [List.length_map, List.take_length] at h2
    exact done D H1 hD s1 h2
/-- [F z for z in xs] -/
theorem map_ints {K : PySem.W.Frag} {σ : L2.St} {H : Hp} {a : Addr} {xs : List Int} {j : Nat} {ti te : TE} {F : Int → Int} {Q : VK} (ha : SqL K H a (xs.map V.int)) (hsz : xs.length < 100000)
    (hi : ∀ R : VK, R (.ref a) H → ti σ H R) (keep : ∀ H', Same H H' → SqL K H' a (xs.map V.int))
    (elt : ∀ (H' : Hp) (z : Int) (R : VK), Same H H' → z ∈ xs → R (.int (F z)) H' → te ((wipe σ [j]).set j (some (.int z))) H' R)
    (done : ∀ (D : Addr) (H' : Hp), H D = none → Same H H' → H' D = some (.lst ((xs.map F).map V.int)) → Q (.ref D) H') : tLc (iList K ti) (gName j) tYes te [j] σ H Q := by
  refine Eg.w_lc (Eg.w_iL (hi _ (Eg.c_iL ha ?_)))
  intro D hD
  refine lc_list (xs := xs.map V.int) (fun n H' => Same H H' ∧ H' D = some (.lst (((xs.take n).map F).map V.int))) ⟨Eg.same_new (Same.refl _) hD, upd_same⟩ (fun n H' _ h => keep _ h.1) ?_ ?_
  · rintro n x H1 hx ⟨s1, h2⟩
    rw [List.getElem?_map] at hx
    obtain ⟨z, hz, rfl⟩ := Option.map_eq_some_iff.mp hx
    obtain ⟨hlt, he⟩ := List.getElem?_eq_some_iff.mp hz
    refine Eg.w_gN (Eg.w_wipe ?_ (Eg.w_yes (iteT (elt H1 z _ s1 (List.mem_of_getElem? hz) ⟨_, h2, ?_, Eg.same_mut s1 hD, ?_⟩))))
    · show (((σ.set j none).set j (some (.int z))).set j none) = σ.set j none
      rw [List.set_set, List.set_set]
    · rw [List.length_map, List.length_map, List.length_take, sizeLine_eq]
      omega
    · rw [upd_same, List.take_succ_eq_append_getElem hlt, he]
      simp
  · rintro H1 ⟨s1, h2⟩
    rw [List.length_map, List.take_length] at h2
    exact done D H1 hD s1 h2
/-- [n for n in d if P n], d with int keys -/
theorem lock_keysI {σ : L2.St} {H : Hp} {c : Addr} {kvs : List (Key × V)} {xs : List Int} {j : Nat} {td : TE} {tt : TT} {P : Int → Bool} {Q : VK} (hj : j < σ.length) (hc : H c = some (.dK kvs)) (hk : kvs.map (·.1) = xs.map Sum.inl) (hsz : xs.length < 100000)
    (hd : ∀ (H' : Hp) (R : VK), (∀ b o, H b = some o → b ≠ c → H' b = some o) → R (.ref c) H' → td σ H' R)
    (test : ∀ (H' : Hp) (z : Int), (∀ b o, H b = some o → b ≠ c → H' b = some o) → z ∈ xs → ∀ R : Bool → Hp → Prop, R (P z) H' → tt ((wipe σ [j]).set j (some (.int z))) H' R)
    (done : ∀ (D : Addr) (H' : Hp), H D = none → Same H H' → H' D = some (.lst ((xs.filter P).map V.int)) → Q (.ref D) H') : tLockE (tLc (iKeys td) (gName j) tt (tVar j) [j]) σ H Q := by
  refine ⟨c, _, hc, trivial, fun od => ?_⟩
  refine Eg.w_lc (Eg.w_iK (hd _ _ (fun b o e hn => Eg.upd_mut hn e) (Eg.c_iKK upd_same ?_)))
  intro D hD
  have hDc : D ≠ c := fun e => by rw [e, upd_same] at hD; cases hD
  have hD0 : H D = none := by rw [upd_ne hDc] at hD; exact hD
  have hl : kvs.length = xs.length := by
    have := congrArg List.length hk
    simpa only [List.length_map] using this
  refine lc_it walk_keys (fun n H' => H' c = some (.frz od (.dK kvs)) ∧ H' D = some (.lst (((xs.take n).filter P).map V.int)) ∧ ∀ b o, H b = some o → b ≠ c → H' b = some o) ?_ (fun n H' _ h => h.1) ?_ ?_
  · exact ⟨Eg.upd_old upd_same hD, upd_same, fun b o e hn => Eg.upd_old (Eg.upd_mut hn e) hD⟩
  · rintro n y _ H1 hn ⟨h1, h2, h3⟩ ⟨rfl, k, v, hkv, rfl⟩
    have hx : (xs.map (Sum.inl : Int → Key))[n]? = some k := by rw [← hk, List.getElem?_map, hkv]; rfl
    rw [List.getElem?_map] at hx
    obtain ⟨z, hz, rfl⟩ := Option.map_eq_some_iff.mp hx
    obtain ⟨hlt, he⟩ := List.getElem?_eq_some_iff.mp hz
    refine Eg.w_gN (Eg.w_wipe ?_ (test H1 z h3 (List.mem_of_getElem? hz) _ ?_))
    · show (((σ.set j none).set j (some (.int z))).set j none) = σ.set j none
      rw [List.set_set, List.set_set]
    · have fl := List.length_filter_le P (xs.take n)
      rw [List.length_take] at fl
      cases hp : P z with
      | true =>
        refine iteT (Eg.w_var (v := .int z) ?_ ⟨_, h2, ?_, Eg.upd_mut hDc.symm h1, ?_, fun b o e hne => Eg.upd_mut (ne_of_none e hD0) (h3 b o e hne)⟩)
        · show ((σ.set j none).set j (some (.int z)))[j]? = _
          rw [List.getElem?_set_self (by rw [List.length_set]; exact hj)]
        · rw [List.length_map, sizeLine_eq]
          omega
        · rw [upd_same, List.take_succ_eq_append_getElem hlt, he, List.filter_append]
          simp [hp]
      | false =>
        refine iteF ⟨h1, ?_, h3⟩
        rw [h2, List.take_succ_eq_append_getElem hlt, he, List.filter_append]
        simp [hp]
  · rintro H1 ⟨h1, h2, h3⟩
    rw [hl, List.take_length] at h2
    refine ⟨h1, done D _ hD0 (fun b o e => ?_) (Eg.upd_mut hDc h2)⟩
    by_cases hb : b = c
    · rw [hb, upd_same]
      rw [hb, hc] at e
      exact e
    · exact Eg.upd_mut hb (h3 b o e hb)
theorem inV_ints (n : Int) (xs : List Int) : inV (.int n) (xs.map V.int) = decide (n ∈ xs) := by
  unfold inV
  rw [List.any_map]
  by_cases c : n ∈ xs
  · rw [decide_eq_true c]
    exact List.any_eq_true.mpr ⟨n, c, by simp [eqV]⟩
  · rw [decide_eq_false c]
    refine List.any_eq_false.mpr fun y hy e => c ?_
    have : y = n := by
      have e : eqV (.int y) (.int n) = true := e
      simpa [eqV] using e
    rw [← this]
    exact hy
/-- the numbers that were seen -/
def SeenL (H : Hp) (d : Addr) (xs : List Int) : Prop := H d = some (.dK (xs.map fun x => (Sum.inl x, V.bl true)))
theorem seen_val {xs : List Int} {n : Int} : valV (xs.map fun x => ((Sum.inl x : Key), V.bl true)) (Sum.inl n) = if n ∈ xs then some (.bl true) else none := by
  induction xs with
  | nil => rfl
  | cons x r ih =>
    rw [List.map_cons]
    by_cases e : x = n
    · rw [valV_pos (by rw [e]), if_pos (by rw [e]; exact List.mem_cons_self)]
    · rw [valV_neg (fun z => e (Sum.inl.inj z)), ih]
      by_cases h : n ∈ r
      · rw [if_pos h, if_pos (List.mem_cons_of_mem _ h)]
      · rw [if_neg h, if_neg (fun z => (List.mem_cons.mp z).elim (fun z => e z.symm) h)]
theorem SeenL.get {H : Hp} {d : Addr} {xs : List Int} (h : SeenL H d xs) (n : Int) : ∃ r, DGet H d (.int n) r ∧ r.isSome = decide (n ∈ xs) := by
  refine ⟨_, DGet.k (k := Sum.inl n) h, ?_⟩
  rw [seen_val]
  by_cases e : n ∈ xs
  · rw [if_pos e, decide_eq_true e]; rfl
  · rw [if_neg e, decide_eq_false e]; rfl
theorem SeenL.put {H : Hp} {d : Addr} {xs : List Int} {n : Int} (h : SeenL H d xs) (hn : n ∉ xs) (hs : xs.length < 100000) :
    ∃ kvs, DPut H d (.int n) (.bl true) (upd H d (.dK kvs)) ∧ SeenL (upd H d (.dK kvs)) d (xs ++ [n]) := by
  have p := DPut.k (k := Sum.inl n) (v := .bl true) h (by rw [List.length_map, sizeLine_eq]; omega)
  rw [putK_new _ (by rw [seen_val, if_neg hn])] at p
  refine ⟨_, p, ?_⟩
  unfold SeenL
  rw [upd_same, List.map_append]
  rfl
theorem seen_keys (xs : List Int) : (xs.map fun x => ((Sum.inl x : Key), V.bl true)).map (·.1) = xs.map Sum.inl := by
  rw [List.map_map]
  rfl
end Sl
namespace Eg
open PySem L2
def dispLeaf (p : Addr) (x : V) (Q : VK) (y : V) (H2 : Hp) : Prop := H2 p = some (.dK []) ∧ ∃ k : Key, x = kV k ∧ Q (.ref p) (upd H2 p (.dK [(k, y)]))
theorem w_disp1 {tk tv : TE} {σ : L2.St} {H : Hp} {Q : VK} (h : ∀ p, H p = none → tk σ (upd H p (.dK [])) fun x H1 => tv σ H1 (dispLeaf p x Q)) : tDisp [(tk, tv)] σ H Q := by
  intro p hp
  show tk σ _ fun x H1 => tv σ H1 fun y H2 => _
  have e : (fun x H1 => tv σ H1 fun y H2 => H2 p = some (.dK []) ∧ ∃ kvs : List (Key × V), [(x, y)] = kvs.map (fun kv => (kV kv.1, kv.2)) ∧ kvs.length ≤ 15 ∧ Q (.ref p) (upd H2 p (.dK (mergeK [] kvs)))) = fun x H1 => tv σ H1 (dispLeaf p x Q) := by
    funext x H1
    congr 1
    funext y H2
    refine propext ⟨?_, ?_⟩
    · rintro ⟨h0, kvs, e, _, q⟩
      match kvs, e, q with
      | [(k, z)], e, q =>
        have e := (List.cons.inj e).1
        have e1 : x = kV k := (Prod.mk.inj e).1
        have e2 : y = z := (Prod.mk.inj e).2
        exact ⟨h0, k, e1, by rw [e2]; exact q⟩
    · rintro ⟨h0, k, e, q⟩
      exact ⟨h0, [(k, y)], by rw [e]; rfl, (show 1 ≤ 15 by decide), q⟩
  have := h p hp
  rw [← e] at this
  exact this
theorem c_dispI {H : Hp} {Q : VK} {p : Addr} {n : Int} {y : V} (h : H p = some (.dK [])) (q : Q (.ref p) (upd H p (.dK [(Sum.inl n, y)]))) : dispLeaf p (.int n) Q y H := ⟨h, Sum.inl n, rfl, q⟩
theorem c_min {K : PySem.W.Frag} {H : Hp} {p : Addr} {R : VK} {ns : List Int} (h : SqL K H p (ns.map V.int)) (h0 : 0 < ns.length) (q : ∀ m, m ∈ ns → (∀ y, y ∈ ns → m ≤ y) → R (.int m) H) : rMin K [V.ref p] H R := ⟨p, ns, rfl, h, h0, q⟩
def rTupQ (K : PySem.W.Frag) : List V → Hp → VK → Prop := fun xs H Q => ∃ p ys, xs = [V.ref p] ∧ ((SqL K H p ys ∧ ∀ l, H l = none → Q (.ref l) (upd H l (.tup ys))) ∨ (SqT K H p ys ∧ Q (.ref p) H))
theorem cr_tup {X : Cx} : CallR X (.type "tuple") (rTupQ X.K) := call_tuple_of
theorem c_tupL {K : PySem.W.Frag} {H : Hp} {p : Addr} {Q : VK} {ys : List V} (h : SqL K H p ys) (q : ∀ l, H l = none → Q (.ref l) (upd H l (.tup ys))) : rTupQ K [V.ref p] H Q := ⟨p, ys, rfl, .inl ⟨h, q⟩⟩
theorem c_sortI {K : PySem.W.Frag} {H : Hp} {p : Addr} {Q : VK} {ns : List Int} (h : SqL K H p (ns.map V.int)) (q : ∀ (ms : List Int) (l : Addr), ms.Perm ns → ms.Pairwise (· ≤ ·) → H l = none → Q (.ref l) (upd H l (.lst (ms.map V.int)))) : rSortedI K [V.ref p] H Q := ⟨p, ns, rfl, h, q⟩
end Eg

/-! Ow: what a class of the program's own answers to operators, len, [], truth, in, a call. -/
namespace Ow
open PySem PySem.Spec PyProof.Rows L2
section
variable {X : Cx} {CX : CXT} {k : Nat} {f : Addr} {fd : FuncData} {ps : List Str} {sp : Sp} {E : XK}
theorem run_in1 {pins : List (Addr × Obj)} {σ : L2.St} {H : Hp} {s : Shared} {Q : VK} {us : List Value} {vs : List V} (F : FnOk X.prog X.w X.K X.mg X.base CX k f fd ps sp) (hr : Room (k + 1) X.A) (hb : Binds X.K fd ps []) (hx : Passes CX X E)
    (I : Inv X pins σ H s) (r : Vals vs us) (h : sp vs H Q E) : wpAny (model X.prog X.w) X.A.in1 (call (.ref f) us) (EP X pins σ Q) X.xe s := by
  have hl : us.length = ps.length := by rw [← r.length]; exact F.len _ _ _ _ h
  have e0 : Env0 X.prog X.w X.K X.mg X.base X.A.in1 X.stack s H := by
    have e := I.env0
    exact ⟨e.frames, e.mod, e.bs, e.bsz, e.funs, e.frf, e.hok, e.bare⟩
  have b := hb s us I.kIn (by rw [List.append_nil]; exact hl)
  rw [List.append_nil] at b
  refine wpAny_call (codeAny_mono (F.run X.A.in1 X.stack s H ⟨us, []⟩ us vs Q E hr.in1 e0 b r h) fun z s' hq => ?_)
  cases z with
  | error e => exact hx pins σ H s e s' I hq
  | ok fl =>
    cases fl with
    | ret v => exact I.after hq
    | next => exact False.elim hq
    | brk => exact False.elim hq
    | cont => exact False.elim hq
theorem relNN {v : V} {u : Value} (r : RelV v u) : u ≠ .notImplemented := by
  rintro rfl
  cases v <;> first | (cases r; done) | (obtain ⟨_, e⟩ := r; cases e)
theorem back_of {Q : Value → Shared → Prop} {u : Value} {s : Shared} (h : u ≠ .notImplemented) (q : Q u s) : PySem.W.CmpBack Q u s := by
  cases u <;> first | exact q | exact absurd rfl h
/-- x op y by x's own method, y of the same class -/
def rOwn2 (C : Addr) (sp : Sp) (E : XK) : R2 := fun x y H Q => ∃ a b dx dy fs gs, x = .ref a ∧ y = .ref b ∧ H a = some (.ins C dx fs) ∧ H b = some (.ins C dy gs) ∧ sp [x, y] H Q E
theorem op_own2 {C : Addr} {op : Operator} (F : FnOk X.prog X.w X.K X.mg X.base CX k f fd ps sp) (hr : Room k X.A) (hc : PySem.W.selfFirst X.K C = true) (hm : Meth X.K C (PySem.dunder op.info.2) f) (hb : Binds X.K fd ps []) (hx : Passes CX X E) :
    OpR X (binaryOp op) (rOwn2 C sp E) := by
  intro pins s σ H x y v u Q I rx ry h
  obtain ⟨a, b, dx, dy, fs, gs, rfl, rfl, ha, hb', q⟩ := h
  have r2 : Vals [V.ref a, V.ref b] [v, u] := .cons rx (.cons ry .nil)
  cases rx
  cases ry
  obtain ⟨mA, J, _⟩ := ins_get I.hok ha
  obtain ⟨mB, J', _⟩ := ins_get I.hok hb'
  obtain ⟨od, J, _⟩ := J.look
  obtain ⟨od', J', _⟩ := J'.look
  obtain ⟨m, hF⟩ := I.fr
  refine PySem.W.binop_K hF I.ok.mod.kin J J'.type hc hm.at_ hm.fn ?_
  exact wpAny_mono (run_fn F hr hb .nil hx I r2 q) (fun z s' ⟨v', H', I', rz, q'⟩ => back_of (relNN rz) ⟨v', H', I', rz, q'⟩) fun _ _ z => z
/-- -x, ~x by its own method -/
def rOwn1 (C : Addr) (sp : Sp) (E : XK) : V → Hp → VK → Prop := fun x H Q => ∃ a dx fs, x = .ref a ∧ H a = some (.ins C dx fs) ∧ sp [x] H Q E
theorem un_own_neg {C : Addr} (F : FnOk X.prog X.w X.K X.mg X.base CX k f fd ps sp) (hr : Room k X.A) (hm : Meth X.K C "__neg__" f) (hb : Binds X.K fd ps []) (hx : Passes CX X E) : UnR X (unaryOp .USub) (rOwn1 C sp E) := by
  intro pins s σ H x v Q I rx h
  obtain ⟨a, dx, fs, rfl, ha, q⟩ := h
  have r1 : Vals [V.ref a] [v] := .cons rx .nil
  cases rx
  obtain ⟨mA, J, _⟩ := ins_get I.hok ha
  obtain ⟨od, J, _⟩ := J.look
  obtain ⟨m, hF⟩ := I.fr
  exact PySem.W.ksp_neg hF I.ok.mod.kin J hm.at_ hm.fn (run_fn F hr hb .nil hx I r1 q)
theorem un_own_inv {C : Addr} (F : FnOk X.prog X.w X.K X.mg X.base CX k f fd ps sp) (hr : Room k X.A) (hm : Meth X.K C "__invert__" f) (hb : Binds X.K fd ps []) (hx : Passes CX X E) : UnR X (unaryOp .Invert) (rOwn1 C sp E) := by
  intro pins s σ H x v Q I rx h
  obtain ⟨a, dx, fs, rfl, ha, q⟩ := h
  have r1 : Vals [V.ref a] [v] := .cons rx .nil
  cases rx
  obtain ⟨mA, J, _⟩ := ins_get I.hok ha
  obtain ⟨od, J, _⟩ := J.look
  obtain ⟨m, hF⟩ := I.fr
  exact PySem.W.ksp_inv hF I.ok.mod.kin J hm.at_ hm.fn (run_fn F hr hb .nil hx I r1 q)
/-- x[i] by its own __getitem__ -/
def rOwnIx (C : Addr) (sp : Sp) (E : XK) : R2 := fun x y H Q => ∃ a dx fs, x = .ref a ∧ H a = some (.ins C dx fs) ∧ sp [x, y] H Q E
variable {a b : Expr} {ta tb : TE} {pos : Pos}
theorem pe_ixOwn {C : Addr} (F : FnOk X.prog X.w X.K X.mg X.base CX k f fd ps sp) (hr : Room (k + 1) X.A) (hm : Meth X.K C "__getitem__" f) (hfn : PySem.W.fnIn X.K f = true) (hb : Binds X.K fd ps []) (hx : Passes CX X E) (ha : PE X a ta) (hb' : PE X b tb)
    (hsl : ∀ o i : Value, subscripted b true o i = runValue (.builtin "lifetime.subscript" ⟨[o, i], []⟩) := by intro o i; with_unfolding_all rfl) : PE X (.Subscript a b pos) (tOp (rOwnIx C sp E) ta tb) := by
  refine ⟨fun pins s σ H Q I h => ?_⟩
  refine Subscript_ (binT ha hb' I h fun v u s2 x y H2 I2 rx ry q => ?_)
  obtain ⟨p, dx, fs, rfl, hp, q⟩ := q
  have r2 : Vals [V.ref p, y] [v, u] := .cons rx (.cons ry .nil)
  cases rx
  obtain ⟨mA, J, _⟩ := ins_get I2.hok hp
  obtain ⟨od, J, _⟩ := J.look
  obtain ⟨m, hF⟩ := I2.fr
  exact PySem.W.sub_K hF I2.ok.mod.kin J hm.at_ hfn hm.fn (run_in1 F hr hb hx I2 r2 q) (hsl _ _)
/-- len(x) by its own __len__ -/
def rOwnLen (C : Addr) (sp : Sp) (E : XK) : List V → Hp → VK → Prop := fun xs H Q => ∃ a dx fs, xs = [.ref a] ∧ H a = some (.ins C dx fs) ∧ sp [.ref a] H (fun v H' => ∃ n : Int, v = .int n ∧ 0 ≤ n ∧ n < 2 ^ 63 ∧ Q (.int n) H') E
theorem cr_ownLen {C : Addr} (F : FnOk X.prog X.w X.K X.mg X.base CX k f fd ps sp) (hr : Room (k + 1) X.A) (hm : Meth X.K C "__len__" f) (hb : Binds X.K fd ps []) (hx : Passes CX X E) : CallR X (.builtin "len") (rOwnLen C sp E) := by
  intro pins s σ H xs us Q I r h
  obtain ⟨a, dx, fs, rfl, ha, q⟩ := h
  obtain ⟨u, rfl, rx⟩ := vals1 r
  cases rx
  obtain ⟨mA, J, _⟩ := ins_get I.hok ha
  obtain ⟨od, J, _⟩ := J.look
  obtain ⟨m, hF⟩ := I.fr
  refine PySem.W.len_K hF I.ok.mod.kin J hm.at_ hm.fn ?_
  refine wpAny_mono (run_in1 F hr hb hx I (us := [.ref a]) (.cons (show RelV (V.ref a) (.ref a) from rfl) .nil) q) (fun z s' ⟨v, H', I', rz, n, ev, n0, n1, q'⟩ => ?_) fun _ _ z => z
  subst ev
  obtain ⟨t, rfl⟩ := rz
  exact ⟨⟨n0, n1⟩, ⟨.int n, H', I'.tok _, ⟨_, rfl⟩, q'⟩⟩
end
section
variable {K : PySem.W.Frag} {X : Cx} {σ : L2.St} {H : Hp} {Q : VK} {E : XK} {sp : Sp} {C a b dx dy : Addr} {fs gs : List (Str × V)} {y : V} {tf : TE} {t : TA}
theorem c_own2 (ha : H a = some (.ins C dx fs)) (hb : H b = some (.ins C dy gs)) (q : sp [.ref a, .ref b] H Q E) : rOwn2 C sp E (.ref a) (.ref b) H Q := ⟨a, b, dx, dy, fs, gs, rfl, rfl, ha, hb, q⟩
theorem c_own1 (ha : H a = some (.ins C dx fs)) (q : sp [.ref a] H Q E) : rOwn1 C sp E (.ref a) H Q := ⟨a, dx, fs, rfl, ha, q⟩
theorem c_ownIx (ha : H a = some (.ins C dx fs)) (q : sp [.ref a, y] H Q E) : rOwnIx C sp E (.ref a) y H Q := ⟨a, dx, fs, rfl, ha, q⟩
theorem c_ownLen (ha : H a = some (.ins C dx fs)) (q : sp [.ref a] H (fun v H' => ∃ n : Int, v = .int n ∧ 0 ≤ n ∧ n < 2 ^ 63 ∧ Q (.int n) H') E) : rOwnLen C sp E [.ref a] H Q := ⟨a, dx, fs, rfl, ha, q⟩
def callLeaf (X : Cx) (C : Addr) (sp : Sp) (E : XK) (t : TA) (σ : L2.St) (Q : VK) (y : V) (H1 : Hp) : Prop := ∃ a, y = V.ref a ∧ t σ H1 fun vs H2 => StX.InsC X H2 a C ∧ sp (V.ref a :: vs) H2 Q E
theorem w_callO (h : tf σ H (callLeaf X C sp E t σ Q)) : StX.tCallO X C sp E tf t σ H Q := h
def callArgs (X : Cx) (C : Addr) (sp : Sp) (E : XK) (a : Addr) (Q : VK) (vs : List V) (H2 : Hp) : Prop := StX.InsC X H2 a C ∧ sp (V.ref a :: vs) H2 Q E
theorem c_callO (h : t σ H (callArgs X C sp E a Q)) : callLeaf X C sp E t σ Q (.ref a) H := ⟨a, rfl, h⟩
theorem c_callA {vs : List V} (h : H a = some (.ins C dx fs)) (q : sp (V.ref a :: vs) H Q E) : callArgs X C sp E a Q vs H := ⟨.inr ⟨dx, fs, h⟩, q⟩
def getLeaf (t : TE) (t' : TE) (σ : L2.St) (Q : VK) (x : V) (H1 : Hp) : Prop := ∃ a, x = .ref a ∧ IsD H1 a ∧ t σ H1 fun y H2 => t' σ H2 fun z H3 => ∃ o, DGet H3 a y o ∧ Q (o.getD z) H3
theorem w_dget2 {td ty tx : TE} (h : td σ H (getLeaf ty tx σ Q)) : tDGet2 td ty tx σ H Q := h
theorem c_dget2T {ty tx : TE} {kvs : List (List Key × V)} (h : Rd H a (.dT kvs)) (q : ty σ H fun y H2 => tx σ H2 fun z H3 => ∃ o, DGet H3 a y o ∧ Q (o.getD z) H3) : getLeaf ty tx σ Q (.ref a) H := ⟨a, rfl, .inr ⟨kvs, h⟩, q⟩
theorem w_aug {i : Nat} {te : TE} {ti : TIp} {D : Ends} {x : V} (h : σ[i]? = some (some x)) (q : te σ H fun y H1 => ti x y H1 fun z H2 => D.nx (σ.set i (some z)) H2) : tAug i te ti D σ H := ⟨x, h, q⟩
theorem c_ipI {f : Int → Int → Int} {i j : Int} (q : Q (.int (f i j)) H) : ipI f (.int i) (.int j) H Q := ⟨i, j, rfl, rfl, q⟩
theorem w_par3 {i j l : Nat} {D : Ends} (h : t σ H fun vs H1 => ∃ u v w, vs = [u, v, w] ∧ D.nx (((σ.set i (some u)).set j (some v)).set l (some w)) H1) : tPar3 i j l t D σ H := h
theorem c_par3 {G : V → V → V → Prop} {u v w : V} (q : G u v w) : ∃ x y z, [u, v, w] = [x, y, z] ∧ G x y z := ⟨u, v, w, rfl, q⟩
theorem nT : (!true) = false := rfl
end
end Ow

/-! DTx: sorted of a dict whose keys are ints, any number of them. -/
namespace DTx
open PySem PySem.Spec PyProof.Rows L2 PySem.Calls PySem.W
def rSortDI : List V → Hp → VK → Prop := fun vs H Q => ∃ (a : Addr) (kvs : List (Key × V)) (ks : List Int), vs = [V.ref a] ∧ Rd H a (.dK kvs) ∧ kvs.map (·.1) = ks.map Sum.inl ∧ ks.length < 100000 ∧
  ∀ (ys : List Int) (p : Addr), ys.Perm ks → ys.Pairwise (· ≤ ·) → H p = none → Q (.ref p) (upd H p (.lst (ys.map V.int)))
theorem cr_sortedDI {X : Cx} (hcalm : X.calm = true) : CallR X (.builtin "sorted") rSortDI := by
  intro pins s σ H xs us Q I r q
  obtain ⟨a, kvs, ks, ex, hd, hks, hsz, q⟩ := q
  subst ex
  obtain ⟨u, eu, rx⟩ := vals1 r
  subst eu
  cases rx
  obtain ⟨z, lo, vs, rel, dd⟩ := dk_rd I.hok hd
  obtain ⟨ep, hat⟩ := dd.dictAt
  have hkeys : vs.map (·.1) = ks.map Sum.inl := rel.keys.symm.trans hks
  have hl : vs.length = ks.length := by
    have e := congrArg List.length hkeys
    rw [List.length_map, List.length_map] at e
    exact e
  have h16 : vs.length ≤ sizeLine := by rw [hl, sizeLine_eq]; omega
  refine Calls.call_function_entry PyProof.Rows.kind_sorted PyProof.Rows.plain_sorted PyProof.Rows.entry_sorted (PyProof.Rows.args_sorted1 _) ?_
  unfold Builtin.«sorted»
  refine wpAny_bind (m := checkCount "sorted" 1 1 _) (wpAny_pure ?_)
  refine wpAny_bind (PySem.W.kdu_collect (A := X.A.in1) (PySem.W.kdl_dict (knd := mixKind X.prog X.w) (kvs := vs) (ep := ep) lo) (I.ok.hd hcalm) hat h16 fun h' tk acc hk hacc => ?_)
  have hal : acc.toList.length = vs.length := by rw [Array.length_toList, hacc.1]
  have hV := keys_at (vs := vs) hal fun j v e => hacc.2 j v (by rw [← Array.getElem?_toList]; exact e)
  have eV : (vs.map fun p => kV p.1) = ks.map V.int := by
    have e2 : (vs.map fun p => kV p.1) = (vs.map (·.1)).map kV := by rw [List.map_map]; rfl
    rw [e2, hkeys, List.map_map]
    rfl
  rw [eV] at hV
  have hI := hV.ints
  have I1 : Inv X pins σ H { s with heap := h', toks := tk } := I.kept hk
  refine wpAny_bind (wpAny_newList ?_ (by rw [hal]; exact h16))
  have hoL : (h'.push (seqObj "list" acc.toList.toArray 0)).get? h'.objs.size = some (seqObj "list" acc.toList.toArray 0) := Heap.get?_push_size _ rfl
  show wpAny _ _ _ _ _ { s with heap := h'.push (seqObj "list" acc.toList.toArray 0), toks := tk }
  refine wpAny_bind (wpAny_holding (wpAny_call_entry PyProof.Rows.slot_list_sort ⟨_, hoL, rfl⟩ PyProof.Rows.entry_list_sort
    (SrtO.list_sort_ord (s := { s with heap := h'.push (seqObj "list" acc.toList.toArray 0), toks := tk }) SrtO.swo_int hoL (by rw [hal]; exact h16) (fun h2 => SrtO.ints_sortable hI h2) fun out h1 h2 => ⟨_, rfl, ?_⟩)
    (PyProof.Rows.args_list_sort _)))
  obtain ⟨k1, k2, k3⟩ := SrtO.ints_out hI h1 h2
  obtain ⟨e', he'⟩ := PyProof.Rows.sortedHeap_at (vs := acc.toList) (out := out.toArray) hoL
  have hlen : ((out.map SrtO.iv).map V.int).length ≤ sizeLine := by
    rw [List.length_map, k2.length_eq, ← hl]
    exact h16
  refine wpAny_pure ⟨_, rfl, .ref h'.objs.size, upd H h'.objs.size (.lst ((out.map SrtO.iv).map V.int)), I1.laid (t' := tk) (fun b u e => ?_) (Nat.le_refl _)
    (show ObjOk X.prog X.w _ _ _ (.lst ((out.map SrtO.iv).map V.int)) from ⟨hlen, out, e', vals_of_ints k1, he'⟩), rfl, q _ _ k2 k3 (I1.hok.fresh (Nat.le_refl _))⟩
  have hb : b < h'.objs.size := Heap.lt_size e
  rw [PyProof.Rows.sortedHeap_old (Nat.ne_of_lt hb) (by rw [size_push']; exact Nat.lt_succ_of_lt hb)]
  exact Heap.get?_push_of_some _ e
theorem c_sortDI {a : Addr} {kvs : List (Key × V)} {ks : List Int} {H : Hp} {Q : VK} (h : Rd H a (.dK kvs)) (e : kvs.map (·.1) = ks.map Sum.inl) (hz : ks.length < 100000) (q : ∀ (ys : List Int) (p : Addr), ys.Perm ks → ys.Pairwise (· ≤ ·) → H p = none → Q (.ref p) (upd H p (.lst (ys.map V.int)))) : rSortDI [V.ref a] H Q := ⟨a, kvs, ks, rfl, h, e, hz, q⟩
end DTx

/-! DTx: d.setdefault(t, z) with a tuple as the key. -/
namespace DTx
open PySem PySem.Spec PyProof.Rows L2 PySem.Calls PySem.W
def tDSetT (td ty tx : TE) : TE := fun σ H Q => td σ H fun x H1 => ∃ a, x = .ref a ∧ IsD H1 a ∧ ty σ H1 fun y H2 => tx σ H2 fun z H3 => ∃ (kvs : List (List Key × V)) (k : List Key) (b : Addr), H3 a = some (.dT kvs) ∧ y = .ref b ∧ H3 b = some (.tup (k.map kV)) ∧ kvs.length < sizeLine ∧
  (∀ v, valV kvs k = some v → Q v H3) ∧ (valV kvs k = none → Q z (upd H3 a (.dT (putK kvs k z))))
section
variable {X : Cx} {o e f : Expr} {td ty tx : TE} {apos cpos : Pos}
theorem pe_dsetT (hu : X.A.units + 1 < cLine) (ho : PE X o td) (he : PE X e ty) (hf : PE X f tx) (m : M2 X o "setdefault" apos e f cpos) : PE X (.Call (.Attribute o "setdefault" apos) [e, f] [] cpos) (tDSetT td ty tx) := by
  refine ⟨fun pins s σ H Q I h => ?_⟩
  refine wpAny_Call_method m.base m.few m.line PySem.F.plainAttrs_dict PySem.F.slot_dict_setdefault PySem.F.type_dict_setdefault (thn (ho.run pins s σ H _ I h) fun u s1 ⟨x, H1, I1, rx, a, ex, d, q1⟩ => ?_)
  subst ex
  cases rx
  obtain ⟨t1, t2, _⟩ := isD_at I1 d
  refine ⟨t1, t2, ?_⟩
  rw [m.trees]
  refine Calls.callWith_builtin rfl (Calls.evalArgs_plain (Calls.spliced_cons (thn (he.run pins s1 σ H1 _ I1 q1) fun iv s2 ⟨y, H2, I2, ry, q2⟩ =>
    Calls.spliced_cons (thn (hf.run pins s2 σ H2 _ I2 q2) fun fv s3 ⟨z, H3, I3, rz, kvs, k, b, ea, ey, eb, hl, q3, q4⟩ => Calls.spliced_nil ?_))))
  subst ey
  cases ry
  obtain ⟨zz, hd, xs, rel, dd⟩ := dt_of I3.hok ea
  have hz : xs.length ≤ sizeLine := Paired.length rel ▸ zz
  have rv := KT.val rel k
  refine call_setdefault_heap (tupleKind_room_in1 hu) (key_of I3.hok eb) hd dd (fun p hp => ?_) (fun hn h' d2 sb => ?_) hz
  · rw [hp] at rv
    cases q0 : valV kvs k with
    | none => rw [q0] at rv; exact rv.elim
    | some v0 =>
      rw [q0] at rv
      exact ⟨v0, H3, I3.tok _, rv, q3 v0 q0⟩
  · rw [hn] at rv
    cases q0 : valV kvs k with
    | some v0 => rw [q0] at rv; exact rv.elim
    | none =>
      have lz : (putK kvs k z).length ≤ sizeLine := by have := length_putK kvs k z; omega
      obtain ⟨q, es, ep, hq, h2, h3, h4, _, h5⟩ := d2
      refine ⟨z, upd H3 a (.dT (putK kvs k z)), d_write (ob := .dT (putK kvs k z)) I3 (by rw [ea]; exact True.intro) sb ⟨q, hq⟩ ⟨lz, hd, _, (rel.put k eb rz).keeps fun c ys ec => ?_, q, es, ep, hq, h2, h3, h4, h5⟩, rz, q4 q0⟩
      rw [upd_ne (ne_of ec ea (fun w => nomatch w))]
      exact ec
end
end DTx

/-! Gd: defs that tell data as text (repr, str, f-strings): the promise where nothing that tells itself is under way. -/
namespace Gd
open PySem PySem.Spec PyProof.Rows L2
/-- nothing that tells itself is under way -/
def Still (A : Around) : Prop := A.guards = some []
structure FnG (P : Program) (w : World) (K : PySem.W.Frag) (mg : Str → Option Value) (base : Heap) (CX : CXT) (k : Nat) (f : Addr) (fd : FuncData) (ps : List Str) (sp : Sp) : Prop where
  lenG : ∀ vs H Q E, sp vs H Q E → vs.length = ps.length
  runG : ∀ (A : Around) (out : List Env) (s : Shared) (H : Hp) (ar : Args) (us : List Value) (vs : List V) (Q : VK) (E : XK), Room k A → Still A → Env0 P w K mg base A out s H → BindsTo s fd ar (ps.zip us) → Vals vs us →
    sp vs H Q E → codeAny (model P w) A (.call (.ref f) ar) (CR CX out P w H s Q E) s
section
variable {P : Program} {w : World} {K : PySem.W.Frag} {mg : Str → Option Value} {base : Heap} {CX : CXT} {k : Nat} {f : Addr} {fd : FuncData} {ps : List Str} {sp : Sp}
theorem FnG.of (F : FnOk P w K mg base CX k f fd ps sp) : FnG P w K mg base CX k f fd ps sp := ⟨F.len, fun A out s H ar us vs Q E hr _ => F.run A out s H ar us vs Q E hr⟩
theorem u70 {A : Around} {k : Nat} (h : Room k A) : A.units + 70 < cLine := by
  have := h.un
  omega
theorem still_deeper {A : Around} {env : Env} (h : Still A) : Still (A.deeper env) := h
/-- a def's body, where nothing is under way -/
theorem Fun.okG {x qual : Str} {st : Stmt} {N : List Str} (F : Fun K x qual st f fd) (S : FnScope N ps (defScope st)) (len : ∀ vs H Q E, sp vs H Q E → vs.length = ps.length)
    (body : ∀ (cdv : Value) (A : Around) (out : List Env) (s : Shared) (H : Hp) (vs : List V) (Q : VK) (E : XK), Room k (A.deeper (envOfC qual (defScope st) s.heap.objs.size f cdv)) → Still (A.deeper (envOfC qual (defScope st) s.heap.objs.size f cdv)) → sp vs H Q E →
      ∃ t, PSs (cxOf CX0 P w K mg base N qual (defScope st) f cdv A out s H E).nox (defBody st) t ∧ t { nx := fun _ H' => Q .non H', rt := Q } (start N vs) H) : FnG P w K mg base CX0 (k + 1) f fd ps sp := by
  obtain ⟨oc, od, kV, doc, pm, an, cdv, ct, osl, rfl, lk, hcd⟩ := F.ex
  refine ⟨len, ?_⟩
  intro A out s H ar us vs Q E hr hg e0 hb r hs
  have hlen := len _ _ _ _ hs
  have kin : K.In s.heap := e0.mod.kin.keeps fun b o z => (e0.bs b o z).1
  have nol : s.heap.NoLimit := e0.mod.nolimit.keeps fun b o z => (e0.bs b o z).1
  have kinds : ∀ y ∈ ps.zip us, (defScope st).names.lookup y.1 = some .local ∨ ((defScope st).names.lookup y.1 = some .cell ∧ ((cellsFrom (s.heap.objs.size + 1) (defScope st).names []).lookup y.1).isSome = true) := by
    rintro ⟨n, v⟩ hy
    exact (S.par n (List.of_mem_zip hy).1).elim .inl fun q => .inr ⟨q, PySem.W.cellsFrom_some _ _ _ (.inl q)⟩
  refine codeAny_call_function hr.depth (kin _ _ lk) rfl S.co S.gen rfl (PySem.W.codeRec_of kin hcd) (hb _ _ _ _ (wpAny_newFunctionEnv_cells S.kind kinds fun env he s1 x => ?_))
  subst he
  obtain ⟨t, ht, q⟩ := body cdv A out s H vs Q E (hr.deeper _) (still_deeper hg) hs
  have I : Inv (cxOf CX0 P w K mg base N qual (defScope st) f cdv A out s H E) [] (start N vs) H s1 := inv_start S hr.hd e0 hlen r x
  refine ⟨nol.keeps x.toInCall.keep, codeAny_func (wpAny_mono (ht.nox.run [] s1 (start N vs) H _ I q) (fun fl s' z => ?_) fun e s' z => z)⟩
  cases fl with
  | ret u => exact let ⟨v, _, H', J, rv, y⟩ := z; (⟨v, H', J.os, J.bare, J.base, J.hok, rv, y⟩ : CE out P w H s Q u s')
  | next => exact let ⟨_, H', J, y⟩ := z; (⟨V.non, H', J.os, J.bare, J.base, J.hok, rfl, y⟩ : CE out P w H s Q Value.none s')
  | brk => exact let ⟨_, _, _, y⟩ := z; False.elim y
  | cont => exact let ⟨_, _, _, y⟩ := z; False.elim y
end
section
variable {X : Cx} {CX : CXT} {k : Nat} {f C : Addr} {fd : FuncData} {ps : List Str} {sp : Sp} {dvs : List V} {ds : List Value} {E : XK} {x m : Str} {p pos apos : Pos} {e o : Expr} {es : List Expr} {ta : TE} {t : TA}
theorem run_fnG {pins : List (Addr × Obj)} {σ : L2.St} {H : Hp} {s : Shared} {Q : VK} {us : List Value} {vs : List V} (F : FnG X.prog X.w X.K X.mg X.base CX k f fd ps sp) (hr : Room k X.A) (hg : Still X.A) (hb : Binds X.K fd ps ds) (hd : Vals dvs ds) (hx : Passes CX X E)
    (I : Inv X pins σ H s) (r : Vals vs us) (q : sp (vs ++ dvs) H Q E) : wpAny (model X.prog X.w) X.A (call (.ref f) us) (EP X pins σ Q) X.xe s := by
  have rr : Vals (vs ++ dvs) (us ++ ds) := r.append hd
  have ll : (us ++ ds).length = ps.length := rr.length.symm.trans (F.lenG _ _ _ _ q)
  refine wpAny_call (codeAny_mono (F.runG X.A X.stack s H ⟨us, []⟩ (us ++ ds) (vs ++ dvs) Q E hr hg I.env0 (hb s us I.kIn ll) rr q) fun z s' hz => ?_)
  cases z with
  | error e => exact hx pins σ H s e s' I hz
  | ok fl => cases fl with
    | ret u => exact I.after hz
    | next => exact hz.elim
    | brk => exact hz.elim
    | cont => exact hz.elim
/-- f(e, ..) -/
theorem pe_callG (F : FnG X.prog X.w X.K X.mg X.base CX k f fd ps sp) (hr : Room k X.A) (st : Still X.A) (hg : Gl X x) (hm : X.mg x = some (.ref f)) (hk : PySem.W.keepIn X.K (.ref f) = true) (hb : Binds X.K fd ps ds) (hd : Vals dvs ds) (hx : Passes CX X E)
    (ha : PA X (e :: es) t) (hdb : (x == ("__debug__" : Str)) = false := by decide) (he : starEach (e :: es) X.env = (false, eval e X.env) :: starEach es X.env := by rfl) (hpl : (backTo pos (starEach es X.env)).any (·.1) = false := by rfl) :
    PE X (.Call (.Name x p) (e :: es) [] pos) (tCall sp dvs E t) := by
  refine ⟨fun pins s σ H Q I q => wpAny_Call_Name_kw (ld_glob I hg hm ?_ hdb)⟩
  exact PySem.W.callWith_K (h₀ := X.base) I.ok.mod.kin hk (thn (ha.run pos pins s σ H _ I q) fun us s1 ⟨vs, H1, I1, r, z⟩ => ⟨I1.kIn, run_fnG F hr st hb hd hx I1 r z⟩) he hpl
/-- o.m(e, ..) -/
theorem pe_methG {pl : Sem Bool} (he : PE X o ta) (c : Cls X.K C) (hm : Meth X.K C m f) (F : FnG X.prog X.w X.K X.mg X.base CX k f fd ps sp) (hr : Room k X.A) (st : Still X.A) (hb : Binds X.K fd ps ds) (hd : Vals dvs ds) (hx : Passes CX X E) (ha : PA X (e :: es) t)
    (hst : starEach (e :: es) X.env = (false, eval e X.env) :: starEach es X.env := by rfl) (hpl : (backTo pos (starEach es X.env)).any (·.1) = false := by rfl)
    (ht : eval (.Call (.Attribute o m apos) (e :: es) [] pos) X.env = (do
      let u ← eval o X.env
      standAt apos.atName
      let (g, first) ← holding [u] (getMethod u m pl)
      callWith pos g first (backTo pos (starEach (e :: es) X.env)) (backToKw pos (keywordEach [] X.env))) := by rfl) :
    PE X (.Call (.Attribute o m apos) (e :: es) [] pos) (tMeth C m sp dvs E ta t) := by
  refine ⟨fun pins s σ H Q I q => PySem.W.methodCall_KW (pl := pl) (thn (he.run pins s σ H _ I q) fun u s1 ⟨y, H1, I1, ry, a, dx, fs, ey, ea, l, z⟩ => ?_) ht⟩
  subst ey
  cases ry
  refine getmeth_ok I1 ea c hm l (PySem.W.callWith_K (first := [.ref a]) (h₀ := X.base) I.ok.mod.kin hm.kp (thn (ha.run pos pins s1 σ H1 _ I1 z) fun us s2 ⟨vs, H2, I2, r, y⟩ => ⟨I2.kIn, ?_⟩) hst hpl)
  exact run_fnG (us := .ref a :: us) (vs := .ref a :: vs) F hr st hb hd hx I2 (.cons rfl r) y
/-- repr(x) of data -/
def rRepr (K : PySem.W.Frag) : List V → Hp → VK → Prop := fun xs H Q => ∃ (a : Addr) (d : PyData), xs = [V.ref a] ∧ Dp K H (.ref a) d ∧ d.showable = true ∧ d.hasDict = false ∧ d.depth ≤ 64 ∧ d.shown.length ≤ sizeLine ∧ Q (.str d.shown) H
theorem cr_repr (st : Still X.A) (hu : X.A.units + 70 < cLine) : CallR X (.builtin "repr") (rRepr X.K) := by
  intro pins s σ H xs us Q I r q
  obtain ⟨a, d, rfl, hd, hs, hn, hdp, hz, q⟩ := q
  obtain ⟨u, rfl, ru⟩ := vals1 r
  obtain ⟨as, rd⟩ := Dp.reads I d _ _ hd ru
  cases ru
  exact repr_of_reads' rd hs (PyData.noDict_hsm hn) st (by omega) (fun _ _ e => e) (fun h' u tk hk => ⟨.str d.shown, H, I.kept hk, ⟨u, rfl⟩, q⟩) hz
/-- {x} of data -/
def tFmtD (K : PySem.W.Frag) (te : TE) : TE := fun σ H Q => te σ H fun x H1 => ∃ (a : Addr) (d : PyData), x = .ref a ∧ Dp K H1 (.ref a) d ∧ d.showable = true ∧ d.hasDict = false ∧ d.depth ≤ 64 ∧ d.shown.length ≤ sizeLine ∧ Q (.str d.shown) H1
theorem pe_fmtD {te : TE} (st : Still X.A) (hu : X.A.units + 70 < cLine) (he : PE X e te) : PE X (.FormattedValue e (-1) none pos) (tFmtD X.K te) := by
  refine ⟨fun pins s σ H Q I q => wpAny_FormattedValue_plain (thn (he.run pins s σ H _ I q) fun v s1 ⟨y, H1, I1, r1, a, d, ey, hd, hs, hn, hdp, hz, q⟩ => ?_)⟩
  subst ey
  obtain ⟨as, rd⟩ := Dp.reads I1 d _ _ hd r1
  cases r1
  exact formatField_of_reads rd hs (PyData.noDict_hsm hn) st (by omega) (fun _ _ z => z) (fun h' u tk hk => ⟨.str d.shown, H1, I1.kept hk, ⟨u, rfl⟩, q⟩) hz
/-- str(x) by its own __str__ -/
def rOwnStr (C : Addr) (sp : Sp) (E : XK) : List V → Hp → VK → Prop := fun xs H Q => ∃ a dx fs, xs = [V.ref a] ∧ H a = some (.ins C dx fs) ∧ sp [V.ref a] H (fun v H' => ∃ z, v = .str z ∧ Q (.str z) H') E
theorem cr_ownStr (F : FnG X.prog X.w X.K X.mg X.base CX k f fd ps sp) (hr : Room (k + 2) X.A) (st : Still X.A) (hm : Meth X.K C "__str__" f) (hb : Binds X.K fd ps []) (hx : Passes CX X E) : CallR X (.type "str") (rOwnStr C sp E) := by
  intro pins s σ H xs us Q I r q
  obtain ⟨a, dx, fs, rfl, ha, q⟩ := q
  obtain ⟨u, rfl, ru⟩ := vals1 r
  cases ru
  obtain ⟨mA, J, _⟩ := ins_get I.hok ha
  obtain ⟨od, J, _⟩ := J.look
  have e0 : Env0 X.prog X.w X.K X.mg X.base X.A.in1.in1 X.stack s H := I.env0.in1.in1
  have b := hb s [.ref a] I.kIn (by
    have := F.lenG _ _ _ _ q
    rw [List.append_nil]
    exact this)
  rw [List.append_nil] at b
  have r1 : Vals [V.ref a] [Value.ref a] := .cons (show RelV (V.ref a) (.ref a) from rfl) .nil
  have hun := hr.units
  refine PySem.W.kso_call (by show X.A.units + 1 + 1 < cLine; omega) I.kIn J hm.at_ hm.fn (wpAny_call (codeAny_mono (F.runG X.A.in1.in1 X.stack s H ⟨[.ref a], []⟩ [.ref a] [.ref a] _ E hr.in1.in1 st e0 b r1 q) fun z s' hz => ?_))
  cases z with
  | error e => exact hx pins σ H s e s' I hz
  | ok fl => cases fl with
    | ret u =>
      obtain ⟨v, H', I', rv, y, ev, q'⟩ := I.after hz
      subst ev
      obtain ⟨t, rfl⟩ := rv
      exact ⟨.str y, H', I', ⟨_, rfl⟩, q'⟩
    | next => exact hz.elim
    | brk => exact hz.elim
    | cont => exact hz.elim
end
end Gd

/-! Ge: the end of a law whose def tells data as text. -/
namespace Gd
open PySem PySem.Spec PyProof.Rows L2
theorem law_callG {P : Program} {w : World} {K : PySem.W.Frag} {mg mb : Str → Option Value} {k : Nat} {fa a : Addr} {fd : FuncData} {x : Str} {sp : Sp} {s : Shared} {vs : List Value} {ns : List Int}
    (kin : K.In s.heap) (gm : s.heap.Ns mainGlobals mg) (gb : s.heap.Ns builtinsNs mb) (bb : ∀ y : Str, y ≠ "__name__" → mb y = bootBuiltins y) (lim : s.heap.NoLimit) (gen : s.gens = #[])
    (ha : s.heap.get? a = some { cls := .type "list", data := .seq vs.toArray }) (hi : IntsAre vs ns) (hl : ns.length ≤ sizeLine) (room : Room k callerA)
    (F : ∀ base : Heap, K.In base → base.Ns mainGlobals mg → FnG P w K mg base CX0 k fa fd [x] sp) (bind : ∀ (t : Shared) (u : Value), BindsTo t fd ⟨[u], []⟩ [(x, u)])
    (told : ∀ H : Hp, Only H → SqL K H a (ns.map V.int) → sp [.ref a] H (fun v _ => v = .bl true) fun _ _ _ => False) :
    codeAny (model P w) callerA (.call (.ref fa) ⟨[.ref a], []⟩) (fun r t => r = .ok (.ret (.bool true)) ∧ OldK s.heap t.heap ∧ t.os = s.os ∧ AllBare t.gens) s := by
  have rel := vals_ints hi
  have len := hi.length
  -- H knows of nothing but the script
  have main : ∀ H : Hp, Only H → SqL K H a (ns.map V.int) → HOk P w H s.heap → (∀ b, b ≠ a → H b = none) → (∀ u, H a = some u → K.lookup a = none) →
      codeAny (model P w) callerA (.call (.ref fa) ⟨[.ref a], []⟩) (fun r t => r = .ok (.ret (.bool true)) ∧ OldK s.heap t.heap ∧ t.os = s.os ∧ AllBare t.gens) s := by
    intro H only seq ok none_at free
    have ns_to : ∀ {b : Addr} {m : Str → Option Value}, s.heap.Ns b m → (hidT s.heap H).Ns b m := by
      rintro b m ⟨o, es, ep, e, d, r⟩
      refine ⟨o, es, ep, hidT_get e (none_at b fun z => ?_), d, r⟩
      subst z
      rw [ha] at e
      obtain rfl := Option.some.inj e
      exact absurd (show Data.seq vs.toArray 0 = Data.dict es ep from d) (fun z => nomatch z)
    have kb : K.In (hidT s.heap H) := fun b o e => hidT_get (kin b o e) <| by
      by_cases hb : b = a
      · subst hb
        cases h : H b with
        | none => rfl
        | some u => exact absurd ((free u h).symm.trans e) (fun z => nomatch z)
      · exact none_at b hb
    obtain ⟨mc, l1, l2⟩ := lim
    have env : Env0 P w K mg (hidT s.heap H) callerA [] s H := { frames := rfl, mod := ⟨kb, ns_to gm, ⟨mb, ns_to gb, bb⟩, ⟨mc, ns_to l1, l2⟩⟩, bs := fun _ _ z => of_hidT z, bsz := Nat.le_of_eq (hidT_size _ _), funs := trivial, frf := fun _ z => (nomatch z), hok := ok, bare := .of_eq gen }
    refine codeAny_mono ((F _ kb (ns_to gm)).runG callerA [] s H ⟨[.ref a], []⟩ [.ref a] [.ref a] _ _ room rfl env (bind s (.ref a)) (.cons rfl .nil) (told H only seq)) fun r t h => ?_
    match r, h with
    | .ok (.ret u), ⟨v, H', os, bare, un, ok', ru, q⟩ =>
      have q : v = .bl true := q
      subst q
      have ru : u = Value.bool true := ru
      subst ru
      refine ⟨rfl, OldK.of_keep fun b o e => ?_, os, bare⟩
      rcases only b with h0 | ⟨ob, xs, h1⟩
      · exact un.keep b o e h0 (fun z => nomatch z) (fun z => nomatch z)
      · have a1 := (ok b _ h1).1
        have a2 := (ok' b _ (un.frzs b ob _ h1)).1
        exact a2.trans (a1.symm.trans e)
  cases look : K.lookup a with
  | some o =>
    have e := kin a o look
    rw [ha] at e
    obtain rfl := Option.some.inj e
    refine main (fun _ => none) (fun _ => .inl rfl) (.inr ⟨_, vs.toArray, _, look, rfl, rfl, rfl, by rw [List.size_toArray, len]; exact hl, by simpa using rel⟩) (fun b u z => (nomatch z)) (fun _ _ => rfl) fun u z => (nomatch z)
  | none =>
    let o1 : HO := .frz { cls := .type "list", data := .seq vs.toArray } (.lst (ns.map V.int))
    have at_a : upd (fun _ => none) a o1 a = some o1 := upd_same
    have off : ∀ b, b ≠ a → upd (fun _ => none) a o1 b = none := fun b hb => upd_ne hb
    refine main (upd (fun _ => none) a o1) (fun b => ?_) (.inl (.inr ⟨_, at_a⟩)) (fun b u z => ?_) off fun u _ => look
    · by_cases hb : b = a
      · rw [hb]
        exact .inr ⟨_, _, at_a⟩
      · exact .inl (off b hb)
    · by_cases hb : b = a
      · subst hb
        rw [at_a] at z
        obtain rfl := Option.some.inj z
        exact ⟨ha, by rw [List.length_map]; exact hl, vs, _, rel, ha⟩
      · rw [off b hb] at z
        cases z
theorem walk_ofG {l : PySem.W.OpenLaw} {n k : Nat} {q : Program} {loose : List Str} {XP : (Str → Option Value) → Heap → Prop} {YP : World → Heap → Prop} {d : DefRec} {K : Params → PySem.W.Frag} {sp : World → Sp} {x : Str}
    (most : l.most = some n) (fits : n ≤ sizeLine) (nodef : d.params.defaults = []) (room : Room k callerA) (hY : ∀ (w : World) (h : Heap), YP w h → (K w.params).In h)
    (F : ∀ (w : World) (mg : Str → Option Value) (fa : Addr) (h : Heap), (K w.params).In h → h.Ns mainGlobals mg → mg d.name = some (.ref fa) →
      ∃ fd : FuncData, (∀ (s : Shared) (u : Value), BindsTo s fd ⟨[u], []⟩ [(x, u)]) ∧ ∀ base : Heap, (K w.params).In base → base.Ns mainGlobals mg → FnG l.prog w (K w.params) mg base CX0 k fa fd [x] (sp w))
    (told : ∀ (w : World) (H : Hp) (a : Addr) (ns : List Int), ns.length ≤ n → Only H → SqL (K w.params) H a (ns.map V.int) → sp w [.ref a] H (fun v _ => v = .bl true) fun _ _ _ => False) :
    PySem.W.WalkO q loose XP YP l.row.toRowW d [] (fun f vs => PySem.call f vs) := by
  refine Att.attach_call most nodef fun w s₀ s₁ mg mb fa o pm cd doc a vs ns G Y _ _ _ hmg hobj hints hlen hg => ?_
  have kin := hY w _ Y
  obtain ⟨fd, hb, hF⟩ := F w mg fa _ kin G.T.g hmg
  exact law_callG kin G.T.g G.T.b G.T.builtins G.T.nolimit hg hobj hints (Nat.le_trans hlen fits) room hF hb fun H hO hS => told w H a ns hlen hO hS
end Gd

/-! Oe: x == y by x's own __eq__, y anything that is told here, either answer. -/
namespace Oe
open PySem PySem.Spec PyProof.Rows L2
inductive NF (K : PySem.W.Frag) (C : Addr) (H : Hp) : V → Prop
  | int (i : Int) : PySem.W.notFirst K C (.type "int") = true → NF K C H (.int i)
  | str (z : Str) : PySem.W.notFirst K C (.type "str") = true → NF K C H (.str z)
  | tup {b : Addr} {xs : List V} : H b = some (.tup xs) → PySem.W.notFirst K C (.type "tuple") = true → NF K C H (.ref b)
  | lst {b : Addr} {xs : List V} : H b = some (.lst xs) → PySem.W.notFirst K C (.type "list") = true → NF K C H (.ref b)
  | ins {b dy : Addr} {gs : List (Str × V)} : H b = some (.ins C dy gs) → NF K C H (.ref b)
section
variable {X : Cx} {CX : CXT} {k : Nat} {f C : Addr} {fd : FuncData} {ps : List Str} {sp : Sp} {E : XK}
theorem NF.looks {M : Model} {pins : List (Addr × Obj)} {σ : L2.St} {H : Hp} {s : Shared} {y : V} {u : Value} (I : Inv X pins σ H s) (h : NF X.K C H y) (ru : RelV y u) : ∃ tb, PySem.W.Looks M s.heap (typeOf u) tb ∧ PySem.W.notFirst X.K C tb = true := by
  cases h with
  | int i n =>
    obtain ⟨t, rfl⟩ := ru
    exact ⟨_, PySem.W.Looks.of_pure rfl, n⟩
  | str z n =>
    obtain ⟨t, rfl⟩ := ru
    exact ⟨_, PySem.W.Looks.of_pure rfl, n⟩
  | @tup b xs e n =>
    cases ru
    obtain ⟨_, _, _, o, h1, h2, _⟩ := I.hok b _ e
    exact ⟨_, fun A Q E s k q => wpAny_typeOf_ref (k _ _ h1) (by rw [h2]; exact q), n⟩
  | @lst b xs e n =>
    cases ru
    obtain ⟨_, _, m, _, h1⟩ := I.hok b _ e
    exact ⟨_, fun A Q E s k q => wpAny_typeOf_ref (k _ _ h1) q, n⟩
  | @ins b dy gs e =>
    cases ru
    obtain ⟨mB, J, _⟩ := ins_get I.hok e
    obtain ⟨od, J, _⟩ := J.look
    exact ⟨_, J.type, by simp [PySem.W.notFirst]⟩
def rOwnEq (K : PySem.W.Frag) (C : Addr) (sp : Sp) (E : XK) : R2 := fun x y H Q => ∃ a dx fs, x = .ref a ∧ H a = some (.ins C dx fs) ∧ NF K C H y ∧ sp [x, y] H (fun v H' => ∃ b, v = .bl b ∧ Q (.bl b) H') E
theorem op_ownEq (F : FnOk X.prog X.w X.K X.mg X.base CX k f fd ps sp) (hr : Room k X.A) (hm : Meth X.K C "__eq__" f) (hb : Binds X.K fd ps []) (hx : Passes CX X E) : OpR X (compareOp .Eq) (rOwnEq X.K C sp E) := by
  intro pins s σ H x y v u Q I rx ry h
  obtain ⟨a, dx, fs, rfl, ha, nf, q⟩ := h
  have r2 : Vals [V.ref a, y] [v, u] := .cons rx (.cons ry .nil)
  cases rx
  obtain ⟨mA, J, _⟩ := ins_get I.hok ha
  obtain ⟨od, J, _⟩ := J.look
  obtain ⟨m, hF⟩ := I.fr
  obtain ⟨tb, lk, nn⟩ := nf.looks (M := model X.prog X.w) I ry
  have un := hr.units
  show wpAny (model X.prog X.w) X.A (richCompare .Eq (.ref a) u) (EP X pins σ Q) X.xe s
  refine PySem.W.cmp_K (op := .Eq) (tb := tb) (by omega) hF I.ok.mod.kin J lk nn hm.at_ hm.fn ?_
  refine wpAny_mono (run_fn F hr hb .nil hx I r2 q) (fun z s' ⟨v', H', I', rz, b, ev, q'⟩ => ?_) fun _ _ z => z
  subst ev
  cases rz
  exact ⟨.bl b, H', I', rfl, q'⟩
theorem c_ownEq {K : PySem.W.Frag} {a dx : Addr} {fs : List (Str × V)} {y : V} {H : Hp} {Q : VK} (ha : H a = some (.ins C dx fs)) (n : NF K C H y) (q : sp [.ref a, y] H (fun v H' => ∃ b, v = .bl b ∧ Q (.bl b) H') E) : rOwnEq K C sp E (.ref a) y H Q := ⟨a, dx, fs, rfl, ha, n, q⟩
end
end Oe

/-! Fs: a form as a text: the pieces and their lengths. -/
namespace Fs
open PySem L2 Sm
abbrev tI (i : Int) : Str := Str.ofString (toString i)
theorem tI_len {i : Int} (h : i.natAbs < 1000000000) : (Str.ofString (toString i)).length ≤ 10 := by

  rw [ofString_length]
  exact int_text_length_le10 (k := 9) (by decide) h
theorem log_small {i : Int} (h : i.natAbs < 1000000000) : i.natAbs.log2 < 1920 := by
  by_cases z : i.natAbs = 0
  · rw [z]
    decide
  · refine (Nat.log2_lt z).mpr (Nat.lt_of_lt_of_le h ?_)
    exact Nat.le_trans (show (1000000000 : Nat) ≤ 2 ^ 30 by decide) (Nat.pow_le_pow_right (by decide) (by decide))
def tupS (k : List Int) : Str := tupleText (k.map tI)
def signS (z : Int) : Str := if decide (z < 0) = true then "-" else "+"
def partS (k : List Int) (z : Int) : Str := Str.empty ++ (" " : Str) ++ signS z ++ (" " : Str) ++ tI (if z < 0 then -z else z) ++ (" * " : Str) ++ tupS k
def shownS (st : Int) (ks : List (List Int)) (f : List Int → Int) : Str := ks.foldl (fun a k => a ++ partS k (f k)) (tI st)
def small (k : List Int) : Prop := k.length = 3 ∧ ∀ x ∈ k, x.natAbs < 1000000000
theorem small_of {k : List Int} (h : Sort3 k) : small k := ⟨h.1, fun x hx => by
  have := h.2 x hx
  omega⟩
theorem sum_le {α : Type} (f : α → Nat) (c : Nat) : ∀ {l : List α}, (∀ x ∈ l, f x ≤ c) → (l.map f).sum ≤ c * l.length
  | [], _ => Nat.le_refl _
  | x :: l, h => by
    rw [List.map_cons, List.sum_cons, List.length_cons, Nat.mul_succ]
    have := h x List.mem_cons_self
    have := sum_le f c (l := l) fun y hy => h y (List.mem_cons_of_mem _ hy)
    omega
theorem tupS_len {k : List Int} (h : small k) : (tupS k).length ≤ 39 := by
  unfold tupS
  have := tupleText_len_le (k.map tI)
  rw [List.length_map, List.map_map, h.1] at this
  have h2 := sum_le ((fun x : Str => x.length) ∘ tI) 10 (l := k) fun x hx => tI_len (h.2 x hx)
  rw [h.1] at h2
  exact Nat.le_trans this (Nat.add_le_add (Nat.add_le_add h2 (Nat.le_refl _)) (Nat.le_refl _))
theorem sp1 : ((" " : Str)).length = 1 := by decide +kernel
theorem sp3 : ((" * " : Str)).length = 3 := by decide +kernel
theorem emp0 : Str.empty.length = 0 := by decide +kernel
theorem sg1 (z : Int) : (signS z).length = 1 := by
  unfold signS
  split <;> decide +kernel
theorem partS_len {k : List Int} {z : Int} (h : small k) (hz : z.natAbs < 1000000000) : (partS k z).length ≤ 60 := by
  unfold partS
  unfold tI
  rw [strLen_append, strLen_append, strLen_append, strLen_append, strLen_append, strLen_append, sp1, sp3, emp0, sg1]
  have := tupS_len h
  have := tI_len (i := if z < 0 then -z else z) (by split <;> omega)
  omega
theorem fold_len {f : List Int → Int} : ∀ {ks : List (List Int)} {a : Str}, (∀ k ∈ ks, small k ∧ (f k).natAbs < 1000000000) → (ks.foldl (fun a k => a ++ partS k (f k)) a).length ≤ a.length + 60 * ks.length
  | [], _, _ => Nat.le_refl _
  | k :: ks, a, h => by
    have h1 := h k List.mem_cons_self
    have h2 := partS_len h1.1 h1.2
    have h3 := fold_len (ks := ks) (a := a ++ partS k (f k)) fun y hy => h y (List.mem_cons_of_mem _ hy)
    rw [List.foldl_cons, List.length_cons]
    rw [strLen_append] at h3
    omega
theorem shownS_len {st : Int} {ks : List (List Int)} {f : List Int → Int} (hs : st.natAbs < 1000000000) (h : ∀ k ∈ ks, small k ∧ (f k).natAbs < 1000000000) : (shownS st ks f).length ≤ 10 + 60 * ks.length := by
  have := fold_len (a := tI st) h
  have := tI_len hs
  unfold shownS
  unfold tI at *
  omega
theorem shownS_snoc (st : Int) (ks : List (List Int)) (k : List Int) (f : List Int → Int) : shownS st (ks ++ [k]) f = shownS st ks f ++ partS k (f k) := by
  unfold shownS
  rw [List.foldl_append]
  rfl
theorem tl_fold (f : List Int → Int) : ∀ (ks : List (List Int)) (a : Str), TL.tl (ks.foldl (fun a k => a ++ partS k (f k)) a) = TL.tl a ++ (ks.map fun k => TL.tl (partS k (f k))).flatten
  | [], a => by rw [List.map_nil, List.flatten_nil, List.append_nil]; rfl
  | k :: ks, a => by rw [List.foldl_cons, tl_fold f ks, TL.tl_append, List.map_cons, List.flatten_cons, List.append_assoc]
theorem joinL_nil : ∀ l : List (List Nat), TL.joinL [] l = l.flatten
  | [] => rfl
  | [p] => by rw [List.flatten_cons, List.flatten_nil, List.append_nil]; rfl
  | p :: q :: r => by
    show p ++ ([] ++ TL.joinL [] (q :: r)) = _
    rw [joinL_nil (q :: r), List.flatten_cons]
    rfl
theorem join_shown (st : Int) (ks : List (List Int)) (f : List Int → Int) : Txt.join ("" : Str) (tI st :: ks.map fun k => partS k (f k)) = shownS st ks f := by
  refine TL.ext_tl ?_
  unfold shownS
  rw [TL.join_eq, TL.tl_join, show TL.tl ("" : Str) = [] by decide +kernel, joinL_nil, tl_fold, List.map_cons, List.flatten_cons, List.map_map]
  rfl
/-- what the law adds for one sort -/
def stepS (a : Str) (k : List Int) (z : Int) : Str := a ++ (if decide (z < 0) = true then (" - " : Str) else (" + " : Str)) ++ tI (if z < 0 then -z else z) ++ (" * " : Str)
def tailS (b : Str) (k : List Int) : Str := b ++ ("(" : Str) ++ Txt.join (", " : Str) (k.map tI) ++ (")" : Str)
theorem tail_part (a : Str) {k : List Int} (z : Int) (h : k.length = 3) : tailS (stepS a k z) k = a ++ partS k z := by
  refine TL.ext_tl ?_
  unfold tailS stepS partS tupS tupleText signS
  rw [List.length_map, h, show ((3 : Nat) == 1) = false from rfl, if_neg Bool.false_ne_true, TL.join_eq]
  simp only [TL.tl_append]
  rw [show TL.tl Str.empty = [] by decide +kernel]
  by_cases hz : z < 0
  · simp only [if_pos hz, decide_eq_true hz, if_true]
    rw [show TL.tl (" - " : Str) = TL.tl (" " : Str) ++ (TL.tl ("-" : Str) ++ TL.tl (" " : Str)) by decide +kernel]
    simp only [List.append_assoc, List.nil_append]
  · simp only [if_neg hz, decide_eq_false hz, if_neg Bool.false_ne_true]
    rw [show TL.tl (" + " : Str) = TL.tl (" " : Str) ++ (TL.tl ("+" : Str) ++ TL.tl (" " : Str)) by decide +kernel]
    simp only [List.append_assoc, List.nil_append]
theorem shown_all (k : List Int) : (PyData.tuple (k.map .int)).shown = tupS k := by
  have : ∀ l : List Int, PyData.shownAll (l.map .int) = l.map tI := by
    intro l
    induction l with
    | nil => simp only [List.map_nil, PyData.shownAll]
    | cons x l ih =>
      simp only [List.map_cons, PyData.shownAll, PyData.shown, ih]
  simp only [PyData.shown, this]
  rfl
theorem showable_all {k : List Int} (h : small k) : (PyData.tuple (k.map .int)).showable = true := by
  have : ∀ l : List Int, (∀ x ∈ l, x.natAbs < 1000000000) → PyData.showableAll (l.map .int) = true := by
    intro l
    induction l with
    | nil => exact fun _ => by simp only [List.map_nil, PyData.showableAll]
    | cons x l ih =>
      intro h
      rw [List.map_cons]
      simp only [PyData.showableAll]
      rw [ih fun y hy => h y (List.mem_cons_of_mem _ hy), Bool.and_true]
      simp only [PyData.showable]
      exact decide_eq_true (log_small (h x List.mem_cons_self))
  simp only [PyData.showable]
  exact this k h.2
theorem nodict_all (k : List Int) : (PyData.tuple (k.map .int)).hasDict = false := by
  have : ∀ l : List Int, PyData.hasDictAll (l.map .int) = false := by
    intro l
    induction l with
    | nil => simp only [List.map_nil, PyData.hasDictAll]
    | cons x l ih => simp only [List.map_cons, PyData.hasDictAll, PyData.hasDict, ih, Bool.or_self]
  simp only [PyData.hasDict]
  exact this k
theorem depth_all (k : List Int) : (PyData.tuple (k.map .int)).depth ≤ 64 := by
  have : ∀ l : List Int, PyData.depthAll (l.map .int) = 0 := by
    intro l
    induction l with
    | nil => simp only [List.map_nil, PyData.depthAll]
    | cons x l ih => simp only [List.map_cons, PyData.depthAll, PyData.depth, ih, Nat.max_self]
  simp only [PyData.depth, this]
  exact (by decide : 0 + 1 ≤ 64)
theorem dp_all {K : PySem.W.Frag} {H : Hp} {b : Addr} {k : List Int} (h : H b = some (.tup (k.map V.int))) : Dp K H (.ref b) (.tuple (k.map .int)) := by
  have : ∀ l : List Int, DpAll K H (l.map V.int) (l.map .int) := by
    intro l
    induction l with
    | nil => exact .nil
    | cons x l ih => exact .cons (.int x) ih
  exact .tup (SqT.of h) (this k)
end Fs

/-! Es: backward steps of the readings of texts. -/
namespace Es
open PySem L2
section
variable {σ : L2.St} {H : Hp} {Q : VK} {ts : List TE} {acc y : Str} {K : PySem.W.Frag} {te to : TE}
def jsL (ts : List TE) (acc : Str) (σ : L2.St) (R : Str → Hp → Prop) : VK := fun x H1 => ∃ y : Str, x = .str y ∧ (acc ++ y).length ≤ sizeLine ∧ tJs ts (acc ++ y) σ H1 R
theorem js_nil {R : Str → Hp → Prop} (q : R acc H) : tJs [] acc σ H R := q
theorem js_cons {t : TE} {R : Str → Hp → Prop} (h : t σ H (jsL ts acc σ R)) : tJs (t :: ts) acc σ H R := h
theorem js_leaf {R : Str → Hp → Prop} (hz : (acc ++ y).length ≤ sizeLine) (q : tJs ts (acc ++ y) σ H R) : jsL ts acc σ R (.str y) H := ⟨y, rfl, hz, q⟩
def fmL (Q : VK) : VK := fun x H1 => (∃ y : Str, x = .str y ∧ y.length ≤ sizeLine ∧ Q (.str y) H1) ∨ ∃ i : Int, x = .int i ∧ i.natAbs.log2 < 1920 ∧ Q (.str (toString i)) H1
theorem w_fmt (h : te σ H (fmL Q)) : tFmt te σ H Q := h
theorem fm_str (hz : y.length ≤ sizeLine) (q : Q (.str y) H) : fmL Q (.str y) H := .inl ⟨y, rfl, hz, q⟩
theorem fm_int {i : Int} (hz : i.natAbs.log2 < 1920) (q : Q (.str (Str.ofString (toString i))) H) : fmL Q (.int i) H := .inr ⟨i, rfl, hz, q⟩
def fdL (K : PySem.W.Frag) (Q : VK) : VK := fun x H1 => ∃ (a : Addr) (d : PyData), x = .ref a ∧ Dp K H1 (.ref a) d ∧ d.showable = true ∧ d.hasDict = false ∧ d.depth ≤ 64 ∧ d.shown.length ≤ sizeLine ∧ Q (.str d.shown) H1
theorem w_fmtD (h : te σ H (fdL K Q)) : Gd.tFmtD K te σ H Q := h
def jnL (K : PySem.W.Frag) (y : Str) (Q : VK) : VK := fun x H => ∃ a p, ∃ ys : List Str, V.str y = .str a ∧ [x] = [.ref p] ∧ (SqL K H p (ys.map V.str) ∨ SqT K H p (ys.map V.str)) ∧ (ys.map (·.length)).sum + ys.length * a.length ≤ 16777216 ∧ Q (.str (Txt.join a ys)) H
/-- 'sep'.join(xs) -/
theorem w_join (h : te σ H (jnL K y Q)) : tM1 (fun x xs H Q => ∃ a p, ∃ ys : List Str, x = .str a ∧ xs = [.ref p] ∧ (SqL K H p (ys.map V.str) ∨ SqT K H p (ys.map V.str)) ∧ (ys.map (·.length)).sum + ys.length * a.length ≤ 16777216 ∧ Q (.str (Txt.join a ys)) H) (tC (.str y)) te σ H Q := ⟨⟨_, rfl⟩, h⟩
theorem jn_leaf {a : Str} {p : Addr} {ys : List Str} (hs : SqL K H p (ys.map V.str) ∨ SqT K H p (ys.map V.str)) (hz : (ys.map (·.length)).sum + ys.length * a.length ≤ 16777216) (q : Q (.str (Txt.join a ys)) H) : jnL K a Q (.ref p) H := ⟨a, p, ys, rfl, rfl, hs, hz, q⟩
def rAddS : R2 := fun x y H Q => ∃ i j, x = .str i ∧ y = .str j ∧ i.length + j.length ≤ sizeLine ∧ Q (.str (i ++ j)) H
theorem op_addS {X : Cx} : OpR X (binaryOp .Add) rAddS := op_add_str
theorem c_addS {i j : Str} (hz : i.length + j.length ≤ sizeLine) (q : Q (.str (i ++ j)) H) : rAddS (.str i) (.str j) H Q := ⟨i, j, rfl, rfl, hz, q⟩
def rStrI : List V → Hp → VK → Prop := fun xs H Q => ∃ i, xs = [V.int i] ∧ i.natAbs.log2 < 1920 ∧ Q (.str (toString i)) H
theorem cr_strI {X : Cx} : CallR X (.type "str") rStrI := call_str_int
theorem c_strI {i : Int} (hz : i.natAbs.log2 < 1920) (q : Q (.str (Str.ofString (toString i))) H) : rStrI [.int i] H Q := ⟨i, rfl, hz, q⟩
/-- 'a' if t else 'b' -/
theorem w_ifSS {t : TT} {a b : Str} (h : t σ H fun c H1 => Q (.str (if c = true then a else b)) H1) : tIf t (tC (.str a)) (tC (.str b)) σ H Q := by
  have e : (fun (c : Bool) (H1 : Hp) => Q (.str (if c = true then a else b)) H1) = fun c H1 => if c = true then tC (.str a) σ H1 Q else tC (.str b) σ H1 Q := by
    funext c H1
    cases c <;> rfl
  rw [e] at h
  exact h
end
/-- [F z for z in xs], xs a list of things alike -/
theorem map_list {α : Type} {K : PySem.W.Frag} {σ : L2.St} {H : Hp} {a : Addr} {xs : List α} {j : Nat} {ti te : TE} {G F : α → V} {Q : VK} (ha : SqL K H a (xs.map G)) (hsz : xs.length < 100000)
    (hi : ∀ R : VK, R (.ref a) H → ti σ H R) (keep : ∀ H', Same H H' → SqL K H' a (xs.map G))
    (elt : ∀ (H' : Hp) (z : α) (R : VK), Same H H' → z ∈ xs → R (F z) H' → te ((wipe σ [j]).set j (some (G z))) H' R)
    (done : ∀ (D : Addr) (H' : Hp), H D = none → Same H H' → H' D = some (.lst (xs.map F)) → Q (.ref D) H') : tLc (iList K ti) (gName j) tYes te [j] σ H Q := by
  refine Eg.w_lc (Eg.w_iL (hi _ (Eg.c_iL ha ?_)))
  intro D hD
  refine lc_list (xs := xs.map G) (fun n H' => Same H H' ∧ H' D = some (.lst ((xs.take n).map F))) ⟨Eg.same_new (Same.refl _) hD, upd_same⟩ (fun n H' _ h => keep _ h.1) ?_ ?_
  · rintro n x H1 hx ⟨s1, h2⟩
    rw [List.getElem?_map] at hx
    obtain ⟨z, hz, rfl⟩ := Option.map_eq_some_iff.mp hx
    obtain ⟨hlt, he⟩ := List.getElem?_eq_some_iff.mp hz
    refine Eg.w_gN (Eg.w_wipe ?_ (Eg.w_yes (iteT (elt H1 z _ s1 (List.mem_of_getElem? hz) ⟨_, h2, ?_, Eg.same_mut s1 hD, ?_⟩))))
    · show (((σ.set j none).set j (some (G z))).set j none) = σ.set j none
      rw [List.set_set, List.set_set]
    · rw [List.length_map, List.length_take, sizeLine_eq]
      omega
    · rw [upd_same, List.take_succ_eq_append_getElem hlt, he]
      simp
  · rintro H1 ⟨s1, h2⟩
    rw [List.length_map, List.take_length] at h2
    exact done D H1 hD s1 h2
/-- [F z for z in xs], xs a tuple of things alike -/
theorem map_tup {α : Type} {K : PySem.W.Frag} {σ : L2.St} {H : Hp} {a : Addr} {xs : List α} {j : Nat} {ti te : TE} {G F : α → V} {Q : VK} (ha : SqT K H a (xs.map G)) (hsz : xs.length < 100000)
    (hi : ∀ R : VK, R (.ref a) H → ti σ H R) (keep : ∀ H', Same H H' → SqT K H' a (xs.map G))
    (elt : ∀ (H' : Hp) (z : α) (R : VK), Same H H' → z ∈ xs → R (F z) H' → te ((wipe σ [j]).set j (some (G z))) H' R)
    (done : ∀ (D : Addr) (H' : Hp), H D = none → Same H H' → H' D = some (.lst (xs.map F)) → Q (.ref D) H') : tLc (iTup K ti) (gName j) tYes te [j] σ H Q := by
  refine Eg.w_lc (Eg.w_iT (hi _ (Eg.c_iT ha ?_)))
  intro D hD
  refine lc_tup (xs := xs.map G) (fun n H' => Same H H' ∧ H' D = some (.lst ((xs.take n).map F))) ⟨Eg.same_new (Same.refl _) hD, upd_same⟩ (fun n H' _ h => keep _ h.1) ?_ ?_
  · rintro n x H1 hx ⟨s1, h2⟩
    rw [List.getElem?_map] at hx
    obtain ⟨z, hz, rfl⟩ := Option.map_eq_some_iff.mp hx
    obtain ⟨hlt, he⟩ := List.getElem?_eq_some_iff.mp hz
    refine Eg.w_gN (Eg.w_wipe ?_ (Eg.w_yes (iteT (elt H1 z _ s1 (List.mem_of_getElem? hz) ⟨_, h2, ?_, Eg.same_mut s1 hD, ?_⟩))))
    · show (((σ.set j none).set j (some (G z))).set j none) = σ.set j none
      rw [List.set_set, List.set_set]
    · rw [List.length_map, List.length_take, sizeLine_eq]
      omega
    · rw [upd_same, List.take_succ_eq_append_getElem hlt, he]
      simp
  · rintro H1 ⟨s1, h2⟩
    rw [List.length_map, List.take_length] at h2
    exact done D H1 hD s1 h2
end Es

local macro_rules | `(tactic| walk_at "blk") => `(tactic| first | exact rfl | dsimp only [L2.cxOf, L2.Cx.nox, L2.Cx.wish, L2.Cx.blk])
local macro_rules | `(tactic| walk_at "hp") => `(tactic| first
  | assumption
  | exact L2.upd_same
  | (refine Eg.upd_old ?_ (by assumption); walk_at "hp")
  | (refine Eg.upd_mut (by first | assumption | exact Ne.symm (by assumption)) ?_; walk_at "hp")
  | (refine Eg.frame_at (by assumption) (by first | assumption | exact Ne.symm (by assumption)) ?_; walk_at "hp")
  | ((refine (show L2.Same _ _ by assumption) _ _ ?_); walk_at "hp"))
local macro_rules | `(tactic| walk_at "sq") => `(tactic| first
  | assumption
  | exact L2.SqL.of (by walk_at "hp")
  | exact L2.SqT.of (by walk_at "hp"))
local macro_rules | `(tactic| walk_at "g0") => `(tactic| first
  | with_reducible refine Eg.w_seq ?_
  | (with_reducible show L2.Ends.nx _ _ _; with_reducible refine Eg.w_nx ?_)
  | with_reducible refine Eg.w_asg ?_
  | with_reducible refine Eg.w_gN ?_
  | with_reducible refine Eg.w_op ?_
  | with_reducible refine Eg.w_c ?_
  | ((with_reducible refine' Eg.w_var ?hv ?_); (case hv => exact rfl))
  | with_reducible refine Eg.w_cons ?_
  | with_reducible refine Eg.w_nil ?_
  | with_reducible refine Eg.w_rI0 ?_
  | ((with_reducible refine' Eg.w_rI ?hc ?_); (case hc => walk_at "cond"))
  | with_reducible refine Eg.w_rU ?_
  | with_reducible refine Eg.w_un ?_
  | ((with_reducible refine' Eg.w_ixL ?hs ?hv ?_); (case hs => walk_at "sq"); (case hv => walk_at "at"))
  | ((with_reducible refine' Eg.w_ixT ?hs ?hv ?_); (case hs => walk_at "sq"); (case hv => walk_at "at"))
  | with_reducible refine Eg.w_cb ?_
  | with_reducible refine Eg.w_call ?_
  | with_reducible refine Eg.w_ifS ?_
  | with_reducible refine Eg.w_test ?_
  | with_reducible refine Eg.w_B ?_
  | with_reducible refine Eg.w_bl ?_
  | with_reducible refine Eg.w_bl' ?_
  | with_reducible refine Eg.w_ret ?_
  | (with_reducible show L2.Ends.rt _ _ _; with_reducible refine Eg.w_rt ?_)
  | with_reducible refine Eg.w_next ?_
  | with_reducible refine Eg.w_drop ?_
  | with_reducible refine Eg.w_gSub ?_
  | ((with_reducible refine' Eg.w_setL ?hs ?hv ?_); (case hs => walk_at "hp"); (case hv => exact rfl))
  | with_reducible refine Eg.c_int ?_
  | with_reducible refine Eg.c_abs ?_
  | with_reducible refine Eg.c_min2 ?_
  | with_reducible refine Eg.c_max2 ?_
  | with_reducible refine Eg.c_isN ?_
  | with_reducible refine Eg.c_notN ?_
  | ((with_reducible refine' Eg.c_len ?hs ?_); (case hs => walk_at "sq"))
  | with_reducible refine Eg.w_dget ?_
  | with_reducible refine Eg.w_din ?_
  | with_reducible refine Eg.w_dnin ?_
  | with_reducible refine Eg.w_dput ?_
  | with_reducible refine Eg.w_dnewT ?_
  | with_reducible refine Eg.w_dnewK ?_
  | with_reducible refine Eg.w_iK ?_
  | ((with_reducible refine' Eg.w_eq ?hs ?_); (case hs => rfl))
  | ((with_reducible refine' Eg.w_ne ?hs ?_); (case hs => rfl))
  | with_reducible refine Es.w_ifSS ?_
  | with_reducible refine Eg.w_if ?_
  | with_reducible refine Eg.w_not ?_
  | with_reducible refine Eg.w_andV ?_
  | with_reducible refine Eg.w_orV ?_
  | with_reducible refine Eg.w_notV ?_
  | with_reducible refine Eg.w_chain ?_
  | with_reducible refine Eg.w_tup ?_
  | with_reducible refine Eg.w_lst ?_
  | ((with_reducible refine' Eg.w_sz ?hs ?_); (case hs => first | decide | (simp only [List.length_cons, List.length_nil]; omega)))
  | with_reducible refine Eg.w_bm ?_
  | with_reducible refine Eg.w_bm0 ?_
  | ((with_reducible refine' Eg.w_tyl ?hs ?_); (case hs => walk_at "sq"))
  | ((with_reducible refine' Eg.w_append ?hs ?hz ?_); (case hs => walk_at "hp"); (case hz => walk_at "size"))
  | with_reducible refine Eg.w_fld ?_
  | ((with_reducible refine' Eg.c_fld ?hs ?hc ?hn ?hl ?_); (case hs => walk_at "hp"); (case hc => assumption); (case hn => assumption); (case hl => walk_at "lk"))
  | with_reducible refine Eg.w_sl ?_
  | with_reducible refine Eg.w_sfld ?_
  | ((with_reducible refine' Eg.c_sfld ?hs ?hc ?hn ?hl ?_); (case hs => walk_at "hp"); (case hc => assumption); (case hn => assumption); (case hl => walk_at "few"))
  | with_reducible refine Eg.w_meth ?_
  | ((with_reducible refine' Eg.c_meth ?hs ?hl ?_); (case hs => walk_at "hp"); (case hl => walk_at "lk"))
  | with_reducible refine Eg.w_make ?_
  | with_reducible refine Eg.w_nopart ?_
  | with_reducible refine Eg.w_part ?_
  | with_reducible refine Eg.c_part ?_
  | ((with_reducible refine' Eg.w_gTup ?hs ?hn ?_); (case hs => walk_at "sq"); (case hn => exact rfl))
  | with_reducible refine Eg.w_gCons ?_
  | with_reducible refine Eg.w_gNil ?_
  | with_reducible refine Eg.w_for ?_
  | with_reducible refine Eg.w_iL ?_
  | with_reducible refine Eg.w_iR1 ?_
  | with_reducible refine Eg.w_iR2 ?_
  | ((with_reducible refine' Eg.c_iR2 ?hs ?_); (case hs => first | decide | (refine ⟨?_, ?_, ?_, ?_⟩ <;> omega)))
  | with_reducible refine Eg.w_iT ?_
  | ((with_reducible refine' Eg.c_iT ?hs ?_); (case hs => walk_at "sq"))
  | with_reducible refine Eg.w_iZ ?_
  | ((with_reducible refine' Eg.c_iZ ?hs ?hz ?_); (case hs => walk_at "sq"); (case hz => walk_at "sq"))
  | with_reducible refine Eg.w_lc ?_
  | with_reducible refine Eg.w_yes ?_
  | with_reducible refine Eg.w_par ?_
  | with_reducible refine Eg.c_par ?_
  | ((with_reducible show DTx.tDt _ _ _ _ _ _ _ _ _); unfold DTx.tDt)
  | ((with_reducible refine' Eg.w_wipe ?hs ?_); (case hs => exact rfl))
  | with_reducible refine L2.iteT ?_
  | with_reducible refine L2.iteF ?_
  | ((with_reducible show ∃ acc, _ = some (L2.HO.lst acc) ∧ acc.length < PySem.sizeLine ∧ _); (refine' ⟨_, ?hs, Nat.lt_of_lt_of_le (m := 100000) ?hz (by decide), ?_⟩); (case hs => walk_at "hp"); (case hz => walk_at "size"))
  | ((with_reducible refine' Eg.c_iR1 ?hs ?hz ?_); (case hs => first | decide | omega); (case hz => first | decide | omega))
  | ((with_reducible refine' Eg.c_iL ?hs ?_); (case hs => walk_at "sq"))
  | with_reducible refine Eg.w_disp1 ?_
  | ((with_reducible refine' Eg.c_dispI ?hs ?_); (case hs => walk_at "hp"))
  | with_reducible refine Eg.w_retN ?_
  | with_reducible refine Eg.w_brk ?_
  | with_reducible refine Eg.w_cont ?_
  | with_reducible refine Es.js_cons ?_
  | with_reducible refine Es.js_nil ?_
  | ((with_reducible refine' Es.js_leaf ?hz ?_); (case hz => walk_at "len"))
  | with_reducible refine Es.w_fmt ?_
  | ((with_reducible refine' Es.fm_str ?hz ?_); (case hz => walk_at "len"))
  | ((with_reducible refine' Es.fm_int ?hz ?_); (case hz => exact Fs.log_small (by first | assumption | omega)))
  | with_reducible refine Es.w_fmtD ?_
  | with_reducible refine Es.w_join ?_
  | ((with_reducible refine' Es.c_addS ?hz ?_); (case hz => walk_at "len"))
  | ((with_reducible refine' Es.c_strI ?hz ?_); (case hz => exact Fs.log_small (by first | assumption | omega)))
  | (with_reducible show L2.Ends.bk _ _ _; with_reducible refine Eg.w_bk ?_)
  | (with_reducible show L2.Ends.ct _ _ _; with_reducible refine Eg.w_ct ?_))
local macro_rules | `(tactic| walk_at "g2") => `(tactic| first
  | with_reducible refine Eg.w_seq ?_
  | (with_reducible show L2.Ends.nx _ _ _; with_reducible refine Eg.w_nx ?_)
  | with_reducible refine Eg.w_asg ?_
  | with_reducible refine Eg.w_gN ?_
  | with_reducible refine Eg.w_op ?_
  | with_reducible refine Eg.w_c ?_
  | ((with_reducible refine' Eg.w_var ?hv ?_); (case hv => exact rfl))
  | with_reducible refine Eg.w_cons ?_
  | with_reducible refine Eg.w_nil ?_
  | with_reducible refine Eg.w_rI0 ?_
  | ((with_reducible refine' Eg.w_rI ?hc ?_); (case hc => walk_at "cond"))
  | with_reducible refine Eg.w_rU ?_
  | with_reducible refine Eg.w_un ?_
  | ((with_reducible refine' Eg.w_ixL ?hs ?hv ?_); (case hs => walk_at "sq"); (case hv => walk_at "at"))
  | ((with_reducible refine' Eg.w_ixT ?hs ?hv ?_); (case hs => walk_at "sq"); (case hv => walk_at "at"))
  | with_reducible refine Eg.w_cb ?_
  | with_reducible refine Eg.w_call ?_
  | with_reducible refine Eg.w_ifS ?_
  | with_reducible refine Eg.w_test ?_
  | with_reducible refine Eg.w_B ?_
  | with_reducible refine Eg.w_bl ?_
  | with_reducible refine Eg.w_bl' ?_
  | with_reducible refine Eg.w_ret ?_
  | (with_reducible show L2.Ends.rt _ _ _; with_reducible refine Eg.w_rt ?_)
  | with_reducible refine Eg.w_next ?_
  | with_reducible refine Eg.w_drop ?_
  | with_reducible refine Eg.w_gSub ?_
  | ((with_reducible refine' Eg.w_setL ?hs ?hv ?_); (case hs => walk_at "hp"); (case hv => exact rfl))
  | with_reducible refine Eg.c_int ?_
  | with_reducible refine Eg.c_abs ?_
  | with_reducible refine Eg.c_min2 ?_
  | with_reducible refine Eg.c_max2 ?_
  | with_reducible refine Eg.c_isN ?_
  | with_reducible refine Eg.c_notN ?_
  | ((with_reducible refine' Eg.c_len ?hs ?_); (case hs => walk_at "sq"))
  | with_reducible refine Eg.w_dget ?_
  | with_reducible refine Eg.w_din ?_
  | with_reducible refine Eg.w_dnin ?_
  | with_reducible refine Eg.w_dput ?_
  | with_reducible refine Eg.w_dnewT ?_
  | with_reducible refine Eg.w_dnewK ?_
  | with_reducible refine Eg.w_iK ?_
  | ((with_reducible refine' Eg.w_eq ?hs ?_); (case hs => rfl))
  | ((with_reducible refine' Eg.w_ne ?hs ?_); (case hs => rfl))
  | with_reducible refine Es.w_ifSS ?_
  | with_reducible refine Eg.w_if ?_
  | with_reducible refine Eg.w_not ?_
  | with_reducible refine Eg.w_andV ?_
  | with_reducible refine Eg.w_orV ?_
  | with_reducible refine Eg.w_notV ?_
  | with_reducible refine Eg.w_chain ?_
  | with_reducible refine Eg.w_tup ?_
  | with_reducible refine Eg.w_lst ?_
  | ((with_reducible refine' Eg.w_sz ?hs ?_); (case hs => first | decide | (simp only [List.length_cons, List.length_nil]; omega)))
  | with_reducible refine Eg.w_bm ?_
  | with_reducible refine Eg.w_bm0 ?_
  | ((with_reducible refine' Eg.w_tyl ?hs ?_); (case hs => walk_at "sq"))
  | ((with_reducible refine' Eg.w_append ?hs ?hz ?_); (case hs => walk_at "hp"); (case hz => walk_at "size"))
  | with_reducible refine Eg.w_fld ?_
  | ((with_reducible refine' Eg.c_fld ?hs ?hc ?hn ?hl ?_); (case hs => walk_at "hp"); (case hc => assumption); (case hn => assumption); (case hl => walk_at "lk"))
  | with_reducible refine Eg.w_sl ?_
  | with_reducible refine Eg.w_sfld ?_
  | ((with_reducible refine' Eg.c_sfld ?hs ?hc ?hn ?hl ?_); (case hs => walk_at "hp"); (case hc => assumption); (case hn => assumption); (case hl => walk_at "few"))
  | with_reducible refine Eg.w_meth ?_
  | ((with_reducible refine' Eg.c_meth ?hs ?hl ?_); (case hs => walk_at "hp"); (case hl => walk_at "lk"))
  | with_reducible refine Eg.w_make ?_
  | with_reducible refine Eg.w_nopart ?_
  | with_reducible refine Eg.w_part ?_
  | with_reducible refine Eg.c_part ?_
  | ((with_reducible refine' Eg.w_gTup ?hs ?hn ?_); (case hs => walk_at "sq"); (case hn => exact rfl))
  | with_reducible refine Eg.w_gCons ?_
  | with_reducible refine Eg.w_gNil ?_
  | with_reducible refine Eg.w_for ?_
  | with_reducible refine Eg.w_iL ?_
  | with_reducible refine Eg.w_iR1 ?_
  | with_reducible refine Eg.w_iR2 ?_
  | ((with_reducible refine' Eg.c_iR2 ?hs ?_); (case hs => first | decide | (refine ⟨?_, ?_, ?_, ?_⟩ <;> omega)))
  | with_reducible refine Eg.w_iT ?_
  | ((with_reducible refine' Eg.c_iT ?hs ?_); (case hs => walk_at "sq"))
  | with_reducible refine Eg.w_iZ ?_
  | ((with_reducible refine' Eg.c_iZ ?hs ?hz ?_); (case hs => walk_at "sq"); (case hz => walk_at "sq"))
  | with_reducible refine Eg.w_yes ?_
  | with_reducible refine Eg.w_par ?_
  | with_reducible refine Eg.c_par ?_
  | ((with_reducible show DTx.tDt _ _ _ _ _ _ _ _ _); unfold DTx.tDt)
  | ((with_reducible refine' Eg.w_wipe ?hs ?_); (case hs => exact rfl))
  | with_reducible refine L2.iteT ?_
  | with_reducible refine L2.iteF ?_
  | ((with_reducible show ∃ acc, _ = some (L2.HO.lst acc) ∧ acc.length < PySem.sizeLine ∧ _); (refine' ⟨_, ?hs, Nat.lt_of_lt_of_le (m := 100000) ?hz (by decide), ?_⟩); (case hs => walk_at "hp"); (case hz => walk_at "size"))
  | ((with_reducible refine' Eg.c_iR1 ?hs ?hz ?_); (case hs => first | decide | omega); (case hz => first | decide | omega))
  | ((with_reducible refine' Eg.c_iL ?hs ?_); (case hs => walk_at "sq"))
  | with_reducible refine Eg.w_disp1 ?_
  | ((with_reducible refine' Eg.c_dispI ?hs ?_); (case hs => walk_at "hp"))
  | with_reducible refine Eg.w_retN ?_
  | with_reducible refine Eg.w_brk ?_
  | with_reducible refine Eg.w_cont ?_
  | with_reducible refine Es.js_cons ?_
  | with_reducible refine Es.js_nil ?_
  | ((with_reducible refine' Es.js_leaf ?hz ?_); (case hz => walk_at "len"))
  | with_reducible refine Es.w_fmt ?_
  | ((with_reducible refine' Es.fm_str ?hz ?_); (case hz => walk_at "len"))
  | ((with_reducible refine' Es.fm_int ?hz ?_); (case hz => exact Fs.log_small (by first | assumption | omega)))
  | with_reducible refine Es.w_fmtD ?_
  | with_reducible refine Es.w_join ?_
  | ((with_reducible refine' Es.c_addS ?hz ?_); (case hz => walk_at "len"))
  | ((with_reducible refine' Es.c_strI ?hz ?_); (case hz => exact Fs.log_small (by first | assumption | omega)))
  | (with_reducible show L2.Ends.bk _ _ _; with_reducible refine Eg.w_bk ?_)
  | (with_reducible show L2.Ends.ct _ _ _; with_reducible refine Eg.w_ct ?_))
local macro_rules | `(tactic| walk_at "at") => `(tactic| first | exact rfl | assumption)
local macro_rules | `(tactic| walk_at "size") => `(tactic| first | decide | omega | (simp only [List.length_append, List.length_map, List.length_cons, List.length_nil]; omega))
local macro_rules | `(tactic| walk_at "cond") => `(tactic| first | assumption | decide | exact ⟨by decide, by decide⟩ | exact .inl ⟨by omega, by omega⟩ | exact .inr ⟨by omega, by omega⟩ | exact ⟨by omega, by omega⟩ | exact ⟨by omega, by omega, by omega⟩ | (show (0 : Int) < _; omega))
local macro_rules | `(tactic| walk_at "g1") => `(tactic| first | walk_at "g0" | with_reducible refine Eg.w_and ?_ | with_reducible refine Eg.w_or ?_)
local macro_rules | `(tactic| walk_at "go") => `(tactic| repeat walk_at "g1")
local macro_rules | `(tactic| walk_at "gp") => `(tactic| repeat walk_at "g0")
local macro_rules | `(tactic| walk_at "lk") => `(tactic| first | assumption | exact rfl | decide +kernel)
local macro_rules | `(tactic| walk_at "few") => `(tactic| first | decide | exact (show 1 < 1000 by decide) | exact (show 2 < 1000 by decide) | exact (show 3 < 1000 by decide) | exact (show 4 < 1000 by decide) | exact (show 5 < 1000 by decide))
local macro_rules | `(tactic| walk_at "g3") => `(tactic| first | walk_at "g2" | with_reducible refine Eg.w_and ?_ | with_reducible refine Eg.w_or ?_)
local macro_rules | `(tactic| walk_at "gw") => `(tactic| repeat walk_at "g3")
local macro_rules | `(tactic| walk_at "len") => `(tactic| first | assumption | (simp only [PySem.strLen_append, PySem.sizeLine_eq, Fs.sp1, Fs.sp3, Fs.emp0, Fs.sg1, Fs.tI]; omega))

namespace LW
open PySem L2 Sm
def top (i : Nat) : Stmt := PySem.Challenge.pw_ownholes_k46_forms_read.main.body.getD i (.Pass ⟨0, 0, 0, 0⟩)
abbrev s_Form_init : Stmt := inClass (top 1) 0
abbrev N_Form_init : List Str := ["self", "start", "steps", "sort"]
theorem sc_Form_init : FnScope N_Form_init ["self", "start", "steps"] (defScope s_Form_init) := ⟨rfl, rfl, rfl, by decide +kernel, rfl, by decide +kernel, by decide +kernel⟩
abbrev s_Form_sorts : Stmt := inClass (top 1) 1
abbrev N_Form_sorts : List Str := ["self"]
theorem sc_Form_sorts : FnScope N_Form_sorts ["self"] (defScope s_Form_sorts) := ⟨rfl, rfl, rfl, by decide +kernel, rfl, by decide +kernel, by decide +kernel⟩
abbrev s_Form_getitem : Stmt := inClass (top 1) 2
abbrev N_Form_getitem : List Str := ["self", "sort"]
theorem sc_Form_getitem : FnScope N_Form_getitem ["self", "sort"] (defScope s_Form_getitem) := ⟨rfl, rfl, rfl, by decide +kernel, rfl, by decide +kernel, by decide +kernel⟩
abbrev s_Form_len : Stmt := inClass (top 1) 4
abbrev N_Form_len : List Str := ["self"]
theorem sc_Form_len : FnScope N_Form_len ["self"] (defScope s_Form_len) := ⟨rfl, rfl, rfl, by decide +kernel, rfl, by decide +kernel, by decide +kernel⟩
abbrev s_Form_call : Stmt := inClass (top 1) 5
abbrev N_Form_call : List Str := ["self", "counts", "total", "sort"]
theorem sc_Form_call : FnScope N_Form_call ["self", "counts"] (defScope s_Form_call) := ⟨rfl, rfl, rfl, by decide +kernel, rfl, by decide +kernel, by decide +kernel⟩
abbrev s_Form_eq : Stmt := inClass (top 1) 9
abbrev N_Form_eq : List Str := ["self", "other"]
theorem sc_Form_eq : FnScope N_Form_eq ["self", "other"] (defScope s_Form_eq) := ⟨rfl, rfl, rfl, by decide +kernel, rfl, by decide +kernel, by decide +kernel⟩
abbrev s_Form_str : Stmt := inClass (top 1) 10
abbrev N_Form_str : List Str := ["self", "parts", "sort", "step", "sign"]
theorem sc_Form_str : FnScope N_Form_str ["self"] (defScope s_Form_str) := ⟨rfl, rfl, rfl, by decide +kernel, rfl, by decide +kernel, by decide +kernel⟩
abbrev s_l_bag : Stmt := top 4
abbrev N_l_bag : List Str := ["_law_script", "_law_at", "_law_cell", "_law_digits"]
theorem sc_l_bag : FnScope N_l_bag ["_law_script", "_law_at"] (defScope s_l_bag) := ⟨rfl, rfl, rfl, by decide +kernel, rfl, by decide +kernel, by decide +kernel⟩
abbrev s_l_take : Stmt := top 5
abbrev N_l_take : List Str := ["_law_bag_here", "_law_many", "_law_digit", "_law_mixed"]
theorem sc_l_take : FnScope N_l_take ["_law_bag_here", "_law_many"] (defScope s_l_take) := ⟨rfl, rfl, rfl, by decide +kernel, rfl, by decide +kernel, by decide +kernel⟩
abbrev s_l_of : Stmt := top 6
abbrev N_l_of : List Str := ["_law_bag_here", "_law_some"]
theorem sc_l_of : FnScope N_l_of ["_law_bag_here", "_law_some"] (defScope s_l_of) := ⟨rfl, rfl, rfl, by decide +kernel, rfl, by decide +kernel, by decide +kernel⟩
abbrev s_l_sorts : Stmt := top 7
abbrev N_l_sorts : List Str := ["_law_bag_here", "_law_many", "_law_left", "_law_k"]
theorem sc_l_sorts : FnScope N_l_sorts ["_law_bag_here", "_law_many"] (defScope s_l_sorts) := ⟨rfl, rfl, rfl, by decide +kernel, rfl, by decide +kernel, by decide +kernel⟩
abbrev s_l_steps_of : Stmt := top 8
abbrev N_l_steps_of : List Str := ["_law_sorts_here", "_law_steps", "_law_found", "_law_sort", "_law_step"]
theorem sc_l_steps_of : FnScope N_l_steps_of ["_law_sorts_here", "_law_steps"] (defScope s_l_steps_of) := ⟨rfl, rfl, rfl, by decide +kernel, rfl, by decide +kernel, by decide +kernel⟩
abbrev s_l_is_integer : Stmt := top 9
abbrev N_l_is_integer : List Str := ["_law_thing"]
theorem sc_l_is_integer : FnScope N_l_is_integer ["_law_thing"] (defScope s_l_is_integer) := ⟨rfl, rfl, rfl, by decide +kernel, rfl, by decide +kernel, by decide +kernel⟩
abbrev s_l_shown : Stmt := top 10
abbrev N_l_shown : List Str := ["_law_start", "_law_found", "_law_shown_here", "_law_sort", "_law_one"]
theorem sc_l_shown : FnScope N_l_shown ["_law_start", "_law_found"] (defScope s_l_shown) := ⟨rfl, rfl, rfl, by decide +kernel, rfl, by decide +kernel, by decide +kernel⟩
abbrev s_l_is_read : Stmt := top 11
abbrev N_l_is_read : List Str := ["_law_form", "_law_start", "_law_found", "_law_k", "_law_sort", "_law_due", "_law_told"]
theorem sc_l_is_read : FnScope N_l_is_read ["_law_form", "_law_start", "_law_found"] (defScope s_l_is_read) := ⟨rfl, rfl, rfl, by decide +kernel, rfl, by decide +kernel, by decide +kernel⟩
abbrev s_law : Stmt := top 12
abbrev N_law : List Str := ["_law_script", "_law_at", "_law_bag_here", "_law_sorts_here", "_law_sort", "_law_steps", "_law_start", "_law_found", "_law_handed", "_law_form", "_law_counts", "_law_total", "_law_kept", "_law_turned", "_law_other", "_law_k"]
theorem sc_law : FnScope N_law ["_law_script"] (defScope s_law) := ⟨rfl, rfl, rfl, by decide +kernel, rfl, by decide +kernel, by decide +kernel⟩
structure Ad where
  a_Form_init : Addr
  d_Form_init : FuncData
  a_Form_sorts : Addr
  d_Form_sorts : FuncData
  a_Form_getitem : Addr
  d_Form_getitem : FuncData
  a_Form_len : Addr
  d_Form_len : FuncData
  a_Form_call : Addr
  d_Form_call : FuncData
  a_Form_eq : Addr
  d_Form_eq : FuncData
  a_Form_str : Addr
  d_Form_str : FuncData
  a_l_bag : Addr
  d_l_bag : FuncData
  a_l_take : Addr
  d_l_take : FuncData
  a_l_of : Addr
  d_l_of : FuncData
  a_l_sorts : Addr
  d_l_sorts : FuncData
  a_l_steps_of : Addr
  d_l_steps_of : FuncData
  a_l_is_integer : Addr
  d_l_is_integer : FuncData
  a_l_shown : Addr
  d_l_shown : FuncData
  a_l_is_read : Addr
  d_l_is_read : FuncData
  a_law : Addr
  d_law : FuncData
  c_Form : Addr
structure Txt (K : PySem.W.Frag) (mg : Str → Option Value) (Z : Ad) : Prop where
  F_Form_init : Fun K "__init__" "Form.__init__" s_Form_init Z.a_Form_init Z.d_Form_init
  b_Form_init : Binds K Z.d_Form_init ["self", "start", "steps"] []
  m_Form_init : Meth K Z.c_Form "__init__" Z.a_Form_init
  F_Form_sorts : Fun K "sorts" "Form.sorts" s_Form_sorts Z.a_Form_sorts Z.d_Form_sorts
  b_Form_sorts : Binds K Z.d_Form_sorts ["self"] []
  m_Form_sorts : Meth K Z.c_Form "sorts" Z.a_Form_sorts
  F_Form_getitem : Fun K "__getitem__" "Form.__getitem__" s_Form_getitem Z.a_Form_getitem Z.d_Form_getitem
  b_Form_getitem : Binds K Z.d_Form_getitem ["self", "sort"] []
  m_Form_getitem : Meth K Z.c_Form "__getitem__" Z.a_Form_getitem
  F_Form_len : Fun K "__len__" "Form.__len__" s_Form_len Z.a_Form_len Z.d_Form_len
  b_Form_len : Binds K Z.d_Form_len ["self"] []
  m_Form_len : Meth K Z.c_Form "__len__" Z.a_Form_len
  F_Form_call : Fun K "__call__" "Form.__call__" s_Form_call Z.a_Form_call Z.d_Form_call
  b_Form_call : Binds K Z.d_Form_call ["self", "counts"] []
  m_Form_call : Meth K Z.c_Form "__call__" Z.a_Form_call
  F_Form_eq : Fun K "__eq__" "Form.__eq__" s_Form_eq Z.a_Form_eq Z.d_Form_eq
  b_Form_eq : Binds K Z.d_Form_eq ["self", "other"] []
  m_Form_eq : Meth K Z.c_Form "__eq__" Z.a_Form_eq
  F_Form_str : Fun K "__str__" "Form.__str__" s_Form_str Z.a_Form_str Z.d_Form_str
  b_Form_str : Binds K Z.d_Form_str ["self"] []
  m_Form_str : Meth K Z.c_Form "__str__" Z.a_Form_str
  F_l_bag : Fun K "_law_bag" "_law_bag" s_l_bag Z.a_l_bag Z.d_l_bag
  b_l_bag : Binds K Z.d_l_bag ["_law_script", "_law_at"] []
  g_l_bag : mg "_law_bag" = some (.ref Z.a_l_bag)
  F_l_take : Fun K "_law_take" "_law_take" s_l_take Z.a_l_take Z.d_l_take
  b_l_take : Binds K Z.d_l_take ["_law_bag_here", "_law_many"] []
  g_l_take : mg "_law_take" = some (.ref Z.a_l_take)
  F_l_of : Fun K "_law_of" "_law_of" s_l_of Z.a_l_of Z.d_l_of
  b_l_of : Binds K Z.d_l_of ["_law_bag_here", "_law_some"] []
  g_l_of : mg "_law_of" = some (.ref Z.a_l_of)
  F_l_sorts : Fun K "_law_sorts" "_law_sorts" s_l_sorts Z.a_l_sorts Z.d_l_sorts
  b_l_sorts : Binds K Z.d_l_sorts ["_law_bag_here", "_law_many"] []
  g_l_sorts : mg "_law_sorts" = some (.ref Z.a_l_sorts)
  F_l_steps_of : Fun K "_law_steps_of" "_law_steps_of" s_l_steps_of Z.a_l_steps_of Z.d_l_steps_of
  b_l_steps_of : Binds K Z.d_l_steps_of ["_law_sorts_here", "_law_steps"] []
  g_l_steps_of : mg "_law_steps_of" = some (.ref Z.a_l_steps_of)
  F_l_is_integer : Fun K "_law_is_integer" "_law_is_integer" s_l_is_integer Z.a_l_is_integer Z.d_l_is_integer
  b_l_is_integer : Binds K Z.d_l_is_integer ["_law_thing"] []
  g_l_is_integer : mg "_law_is_integer" = some (.ref Z.a_l_is_integer)
  F_l_shown : Fun K "_law_shown" "_law_shown" s_l_shown Z.a_l_shown Z.d_l_shown
  b_l_shown : Binds K Z.d_l_shown ["_law_start", "_law_found"] []
  g_l_shown : mg "_law_shown" = some (.ref Z.a_l_shown)
  F_l_is_read : Fun K "_law_is_read" "_law_is_read" s_l_is_read Z.a_l_is_read Z.d_l_is_read
  b_l_is_read : Binds K Z.d_l_is_read ["_law_form", "_law_start", "_law_found"] []
  g_l_is_read : mg "_law_is_read" = some (.ref Z.a_l_is_read)
  F_law : Fun K "law" "law" s_law Z.a_law Z.d_law
  b_law : Binds K Z.d_law ["_law_script"] []
  g_law : mg "law" = some (.ref Z.a_law)
  cl_Form : Cls K Z.c_Form
  g_Form : mg "Form" = some (.ref Z.c_Form)
  mk_Form : Mk K Z.c_Form Z.a_Form_init
  n_Form_start : NoAttr K Z.c_Form "start"
  n_Form_steps : NoAttr K Z.c_Form "steps"
  nf_Form_int : PySem.W.notFirst K Z.c_Form (.type "int") = true
  nf_Form_tuple : PySem.W.notFirst K Z.c_Form (.type "tuple") = true
  ki_Form_int : PySem.W.kitOne K (.type "int") (.ref Z.c_Form) = some false
  ki_Form_tuple : PySem.W.kitOne K (.type "tuple") (.ref Z.c_Form) = some false
  fi_Form_getitem : PySem.W.fnIn K Z.a_Form_getitem = true
  fi_Form_call : PySem.W.fnIn K Z.a_Form_call = true
  i_Form : ∀ {H : Hp} {a dx : Addr} {fs : List (Str × V)}, H a = some (.ins Z.c_Form dx fs) → TyOf K H (.ref a) (.ref Z.c_Form)
  u_abs : mg "abs" = none
  u_bool : mg "bool" = none
  u_int : mg "int" = none
  u_isinstance : mg "isinstance" = none
  u_len : mg "len" = none
  u_list : mg "list" = none
  u_max : mg "max" = none
  u_min : mg "min" = none
  u_range : mg "range" = none
  u_sorted : mg "sorted" = none
  u_str : mg "str" = none
  u_zip : mg "zip" = none

/-! what the law draws from -/
def BagAt (H : Hp) (a : Addr) (k : Int) : Prop := ∃ d m c : Int, H a = some (.lst [.int d, .int m, .int c]) ∧ 0 ≤ d ∧ 0 ≤ m ∧ m < 8000000000000000000 ∧ 0 ≤ c ∧ c ≤ k
def sp_l_bag (K : PySem.W.Frag) : Sp := fun vs H Q _ => ∃ (a : Addr) (ns : List Int) (i : Int), vs = [.ref a, .int i] ∧ SqL K H a (ns.map V.int) ∧ 0 ≤ i ∧ i < 100 ∧
  ∀ (b : Addr) (H' : Hp), H b = none → BagAt H' b 0 → Same H H' → Q (.ref b) H'
def sp_l_take : Sp := fun vs H Q _ => ∃ (a : Addr) (k n : Int), vs = [.ref a, .int n] ∧ BagAt H a k ∧ k ≤ 100000 ∧ 0 < n ∧ n < 1073741824 ∧
  ∀ (r : Int) (H' : Hp), 0 ≤ r → r < n → BagAt H' a (k + 1) → (∀ b, b ≠ a → H' b = H b) → Q (.int r) H'
def sp_l_is_integer : Sp := fun vs H Q _ => ∃ i : Int, vs = [.int i] ∧ Q (.bl true) H
section
variable {P : Program} {w : World} {K : PySem.W.Frag} {mg : Str → Option Value} {base : Heap} {Z : Ad}
theorem atI_lt {ns : List Int} {i : Int} (h0 : 0 ≤ i) (h1 : i < (ns.length : Int)) : ∃ z, atI (ns.map V.int) i = some (V.int z) := by
  obtain ⟨j, rfl⟩ := Int.eq_ofNat_of_zero_le h0
  have hj : j < ns.length := by omega
  refine ⟨ns[j], atI_nat ?_⟩
  rw [List.getElem?_map, List.getElem?_eq_getElem hj]
  rfl
theorem ok_l_bag (T : Txt K mg Z) : FnOk P w K mg base CX0 1 Z.a_l_bag Z.d_l_bag ["_law_script", "_law_at"] (sp_l_bag K) := by
  refine T.F_l_bag.ok sc_l_bag (fun vs H Q E h => ?_) (fun cdv A outer s H vs Q E hr h => ?_)
  · obtain ⟨a, ns, i, rfl, _⟩ := h
    rfl
  · obtain ⟨a, ns, i, rfl, hS, h0, h1, q⟩ := h
    have nd := sc_l_bag.nd
    refine ⟨_, (C8.pss_cut (ps_set (i := 2) nd rfl (Or.inl rfl) (pe_ifExp (pt_cmpR op_lt (pv 1) (pe_callB Eg.cr_len (by rfl) T.u_len (by decide +kernel) (pa_cons (pv 0) pa_nil)) (nomark _)) (pe_ix ix_list (pv 0) (pv 1) (fun _ _ => rfl)) pe_int))
  (C8.pss_cut (ps_set (i := 3) nd rfl (Or.inl rfl) (pe_ifExp (pt_cmpR op_ge (pe_callB Eg.cr_abs (by rfl) T.u_abs (by decide +kernel) (pa_cons (pv 2) pa_nil)) (pe_op op_pow pe_int pe_int) (nomark _)) (pe_callB Eg.cr_abs (by rfl) T.u_abs (by decide +kernel) (pa_cons (pv 2) pa_nil)) pe_int))
  (pss_one (ps_ret (pe_lst (pa_cons (pv 3) (pa_cons (pe_op op_add (pe_op op_add (pe_op op_mul (pe_op op_mod (pe_callTy Eg.cr_int (by rfl) T.u_int (by decide +kernel) (pa_cons (pv 2) pa_nil)) pe_int) pe_int) (pe_op op_mul pe_int (pv 1))) pe_int) (pa_cons pe_int pa_nil)))))))), ?_⟩
    refine Eg.w_sig (σ := [some (.ref a), some (.int i), none, none]) rfl ?_
    refine ⟨fun σ' H' => ∃ z : Int, σ' = [some (.ref a), some (.int i), some (.int z), none] ∧ H = H', ?_, ?_⟩
    · walk_at "go"
      refine Eg.brD (fun h => ?_) (fun h => ?_)
      · obtain ⟨z, hz⟩ := atI_lt h0 (by simpa using h)
        walk_at "go"
        exact ⟨z, rfl, rfl⟩
      · walk_at "go"
        exact ⟨0, rfl, rfl⟩
    rintro _ _ ⟨z, rfl, rfl⟩
    refine ⟨fun σ' H' => ∃ d : Int, 0 ≤ d ∧ σ' = [some (.ref a), some (.int i), some (.int z), some (.int d)] ∧ H = H', ?_, ?_⟩
    · walk_at "go"
      refine Eg.brD (fun h => ?_) (fun h => ?_)
      · walk_at "go"
        exact ⟨_, by split <;> omega, rfl, rfl⟩
      · walk_at "go"
        exact ⟨0, by omega, rfl, rfl⟩
    rintro _ _ ⟨d, hd, rfl, rfl⟩
    walk_at "go"
    intro p hp
    walk_at "go"
    exact q p _ hp ⟨d, _, 0, upd_same, hd, by omega, by omega, by omega, by omega⟩ (Eg.same_new (Same.refl _) hp)
theorem ok_l_take (T : Txt K mg Z) : FnOk P w K mg base CX0 1 Z.a_l_take Z.d_l_take ["_law_bag_here", "_law_many"] sp_l_take := by
  refine T.F_l_take.ok sc_l_take (fun vs H Q E h => ?_) (fun cdv A outer s H vs Q E hr h => ?_)
  · obtain ⟨a, k, n, rfl, _⟩ := h
    rfl
  · obtain ⟨a, k, n, rfl, ⟨d, m, c, ha, hd, hm, hm2, hc, hck⟩, hk, hn, hn2, q⟩ := h
    have nd := sc_l_take.nd
    refine ⟨_, (pss_cons (ps_if (pt_cmpR op_gt (pe_ix ix_list (pv 0) pe_int (fun _ _ => rfl)) pe_int (nomark _))
  (pss_cons (ps_set (i := 2) nd rfl (Or.inl rfl) (pe_op op_mod (pe_callTy Eg.cr_int (by rfl) T.u_int (by decide +kernel) (pa_cons (pe_ix ix_list (pv 0) pe_int (fun _ _ => rfl)) pa_nil)) (pv 1)))
  (pss_cons (ps_asg (pe_op op_fdiv (pe_ix ix_list (pv 0) pe_int (fun _ _ => rfl)) (pv 1)) (pg_sub (pv 0) pe_int set_list))
  (pss_one (ps_ret (pv 2)))))
  pss_nil)
  (pss_cons (ps_asg (pe_op op_add (pe_ix ix_list (pv 0) pe_int (fun _ _ => rfl)) pe_int) (pg_sub (pv 0) pe_int set_list))
  (pss_cons (ps_set (i := 3) nd rfl (Or.inl rfl) (pe_op op_mod (pe_callTy Eg.cr_int (by rfl) T.u_int (by decide +kernel) (pa_cons (pe_op op_pow (pe_op op_add (pe_ix ix_list (pv 0) pe_int (fun _ _ => rfl)) (pe_op op_mul pe_int (pe_ix ix_list (pv 0) pe_int (fun _ _ => rfl)))) pe_int) pa_nil)) pe_int))
  (pss_cons (ps_set (i := 3) nd rfl (Or.inl rfl) (pe_op op_mod (pe_callTy Eg.cr_int (by rfl) T.u_int (by decide +kernel) (pa_cons (pe_op op_pow (pe_op op_add (pv 3) (pe_op op_mul pe_int (pe_ix ix_list (pv 0) pe_int (fun _ _ => rfl)))) pe_int) pa_nil)) pe_int))
  (pss_one (ps_ret (pe_op op_mod (pe_callTy Eg.cr_int (by rfl) T.u_int (by decide +kernel) (pa_cons (pe_op op_fdiv (pv 3) pe_int) pa_nil)) (pv 1)))))))), ?_⟩
    refine Eg.w_sig (σ := [some (.ref a), some (.int n), none, none]) rfl ?_
    walk_at "go"
    refine Eg.brD (fun h => ?_) (fun h => ?_)
    · walk_at "go"
      refine q _ _ (Int.emod_nonneg _ (by omega)) (Int.emod_lt_of_pos _ hn) ⟨_, m, c, upd_same, Int.ediv_nonneg hd (by omega), hm, hm2, hc, by omega⟩ fun b hb => ?_
      rw [upd_ne hb]
    · walk_at "go"
      refine q _ _ (Int.emod_nonneg _ (by omega)) (Int.emod_lt_of_pos _ hn) ⟨d, m, c + 1, upd_same, hd, hm, hm2, by omega, by omega⟩ fun b hb => ?_
      rw [upd_ne hb]
theorem ok_l_is_integer (T : Txt K mg Z) : FnOk P w K mg base CX0 1 Z.a_l_is_integer Z.d_l_is_integer ["_law_thing"] sp_l_is_integer := by
  refine T.F_l_is_integer.ok sc_l_is_integer (fun vs H Q E h => ?_) (fun cdv A outer s H vs Q E hr h => ?_)
  · obtain ⟨i, rfl, _⟩ := h
    rfl
  · obtain ⟨i, rfl, q⟩ := h
    have nd := sc_l_is_integer.nd
    refine ⟨_, (pss_one (ps_ret (pe_and (pe_callB call_isi (by rfl) T.u_isinstance (by decide +kernel) (pa_cons (pv 0) (pa_cons (pe_bltn (v := .ty "int") (u := .type "int") (by rfl) T.u_int (by decide +kernel) rfl) pa_nil))) (pe_one (pe_not (pe_callB call_isi (by rfl) T.u_isinstance (by decide +kernel) (pa_cons (pv 0) (pa_cons (pe_bltn (v := .ty "bool") (u := .type "bool") (by rfl) T.u_bool (by decide +kernel) rfl) pa_nil)))))))), ?_⟩
    refine Eg.w_sig (σ := [some (.int i)]) rfl ?_
    walk_at "go"
    refine Eg.c_isi (.ty _) (.base (.int i)) (kit_ty (b := "int") (r := true) (by decide +kernel)) ?_
    walk_at "go"
    refine Eg.c_isi (.ty _) (.base (.int i)) (kit_ty (b := "bool") (r := false) (by decide +kernel)) ?_
    walk_at "go"
    exact q
end
end LW

namespace LW
open PySem L2 Sm
/-- the i-th sort -/
def tri (i : Nat) : List Int := [(i : Int) / 6, (i : Int) / 2 % 3, (i : Int) % 2]
def all18 : List (List Int) := (List.range 18).map tri
theorem all18_nd : all18.Nodup := by decide +kernel
theorem all18_s3 : ∀ k ∈ all18, Sort3 k := by
  intro k hk
  obtain ⟨i, hi, rfl⟩ := List.mem_map.mp hk
  have := List.mem_range.mp hi
  refine ⟨rfl, fun m hm => ?_⟩
  simp only [tri, List.mem_cons, List.not_mem_nil, or_false] at hm
  rcases hm with rfl | rfl | rfl <;> omega
def sp_l_sorts : Sp := fun vs H Q _ => ∃ (a : Addr) (k n : Int), vs = [.ref a, .int n] ∧ BagAt H a k ∧ k ≤ 1000 ∧ 0 ≤ n ∧ n ≤ 1000 ∧
  ∀ (p : Addr) (xs : List V) (ks : List (List Int)) (H' : Hp), H p = none → H' p = some (.lst xs) → TupsAt H' xs ks → (ks.length : Int) = (if 18 < n then 18 else n) → ks.Nodup → (∀ k ∈ ks, Sort3 k) → BagAt H' a (k + 18) →
    (∀ b o, H b = some o → b ≠ a → H' b = some o) → Q (.ref p) H'
def sp_l_steps_of : Sp := fun vs H Q _ => ∃ (a b : Addr) (xs : List V) (ks : List (List Int)) (ns : List Int), vs = [.ref a, .ref b] ∧ H a = some (.lst xs) ∧ TupsAt H xs ks ∧ H b = some (.lst (ns.map V.int)) ∧ ks.length = ns.length ∧ ks.Nodup ∧ ks.length < 1000 ∧
  ∀ (p : Addr) (H' : Hp), H p = none → H' p = some (.dT (enc (ks.zip ns))) → Same H H' → Q (.ref p) H'
section
variable {P : Program} {w : World} {K : PySem.W.Frag} {mg : Str → Option Value} {base : Heap} {Z : Ad}
theorem BagAt.ob {H : Hp} {a : Addr} {k : Int} (h : BagAt H a k) : ∃ xs, H a = some (.lst xs) := let ⟨_, _, _, e, _⟩ := h; ⟨_, e⟩
theorem BagAt.to {H H' : Hp} {a : Addr} {k k' : Int} (h : BagAt H a k) (e : H' a = H a) (hk : k ≤ k') : BagAt H' a k' := let ⟨d, m, c, h0, h1, h2, h3, h4, h5⟩ := h; ⟨d, m, c, e.trans h0, h1, h2, h3, h4, by omega⟩
theorem ok_l_sorts (T : Txt K mg Z) : FnOk P w K mg base CX0 2 Z.a_l_sorts Z.d_l_sorts ["_law_bag_here", "_law_many"] sp_l_sorts := by
  refine T.F_l_sorts.ok sc_l_sorts (fun vs H Q E h => ?_) (fun cdv A outer s H vs Q E hr h => ?_)
  · obtain ⟨a, k, n, rfl, _⟩ := h
    rfl
  · obtain ⟨a, k, n, rfl, hb, hk, hn, hn2, q⟩ := h
    have nd := sc_l_sorts.nd
    refine ⟨_, (pss_cons (ps_set (i := 2) nd rfl (Or.inr rfl) (pe_lc (own := [("_law_k", 3)]) rfl nd (pi_range1 (by rfl) T.u_range (pa_cons pe_int pa_nil)) (blkOk_by (N := N_l_sorts) (sc := defScope s_l_sorts) (by decide +kernel)) (fun _ _ _ _ _ => (pg_name (i := 3) nd rfl (Or.inl rfl))) (fun _ _ _ _ _ => pts_nil) (fun _ _ _ _ _ => (Eg.peE (pe_tup (pa_cons (pe_op op_fdiv (pv 3) pe_int) (pa_cons (pe_op op_mod (pe_op op_fdiv (pv 3) pe_int) pe_int) (pa_cons (pe_op op_mod (pv 3) pe_int) pa_nil)))) (by walk_at "blk")))))
  (pss_one (ps_ret (pe_lc (own := [("_law_k", 3)]) rfl nd (pi_range1 (by rfl) T.u_range (pa_cons (pe_callB (Eg.cr_min2 rfl) (by rfl) T.u_min (by decide +kernel) (pa_cons (pv 1) (pa_cons pe_int pa_nil))) pa_nil)) (blkOk_by (N := N_l_sorts) (sc := defScope s_l_sorts) (by decide +kernel)) (fun _ _ _ _ _ => (pg_name (i := 3) nd rfl (Or.inl rfl))) (fun _ _ _ _ _ => pts_nil) (fun _ _ _ _ _ => (Eg.peE (pe_bm PySem.F.plainAttrs_list PySem.F.slot_list_pop PySem.F.type_list_pop mt_popAt (pv 2) (pa_cons (pe_call (ok_l_take T) (hr.mono (by decide)) (by rfl) T.g_l_take T.F_l_take.kp T.b_l_take .nil pass0 (pa_cons (pv 0) (pa_cons (pe_callB Eg.cr_len (by rfl) T.u_len (by decide +kernel) (pa_cons (pv 2) pa_nil)) pa_nil))) pa_nil)) (by walk_at "blk"))))))), ?_⟩
    refine Eg.w_sig (σ := [some (.ref a), some (.int n), none, none]) rfl ?_
    walk_at "go"
    intro L hL
    obtain ⟨bs, ha⟩ := hb.ob
    have hLa : L ≠ a := (ne_of_none ha hL).symm
    refine lc_range (lo := 0) (n := 18) (fun i H' => Same H H' ∧ ∃ xs, H' L = some (.lst xs) ∧ TupsAt H' xs ((List.range i).map tri)) ⟨Eg.same_new (Same.refl _) hL, [], upd_same, .nil⟩ ?_ ?_
    · rintro i H1 hi ⟨hs, xs, hx, tx⟩
      have tl := tx.len
      rw [List.length_map, List.length_range] at tl
      walk_at "go"
      intro p hp
      walk_at "go"
      refine ⟨fun b o hbo => Eg.upd_mut (ne_of_none hbo hL) (Eg.upd_old (hs b o hbo) hp), _, upd_same, ?_⟩
      rw [List.range_succ, List.map_append]
      refine TupsAt.app (tx.same fun b ys e => Eg.tup_upd (a := L) (xs := xs) (by walk_at "hp") b ys (Eg.upd_old e hp)) (.cons ⟨p, rfl, ?_⟩ .nil)
      refine Eg.upd_mut (ne_of_none hx hp).symm ?_
      rw [upd_same, tri]
      simp
    · rintro H1 ⟨hs, xs, hx, tx⟩
      walk_at "go"
      intro D hD
      have hDL : D ≠ L := (ne_of_none hx hD).symm
      have hDa : D ≠ a := (ne_of_none (hs _ _ ha) hD).symm
      have h1a : H1 a = H a := (hs _ _ ha).trans ha.symm
      have hle : (if 18 < n then 18 else n) ≤ 18 := by split <;> omega
      have hge : 0 ≤ (if 18 < n then 18 else n) := by split <;> omega
      refine lc_range (lo := 0) (n := Int.toNat (if 18 < n then 18 else n)) (fun i H' => ∃ xs ks ys ls, H' L = some (.lst xs) ∧ TupsAt H' xs ks ∧ H' D = some (.lst ys) ∧ TupsAt H' ys ls ∧ (ls ++ ks).Perm all18 ∧ ls.length = i ∧ BagAt H' a (k + i) ∧
        (∀ b o, H b = some o → b ≠ a → H' b = some o)) ⟨xs, all18, [], [], Eg.upd_old hx hD, tx.same (Eg.tup_new hD), upd_same, .nil, List.Perm.refl _, rfl, hb.to ((upd_ne hDa.symm).trans h1a) (by omega), fun b o hbo _ => Eg.upd_old (hs b o hbo) hD⟩ ?_ ?_
      · rintro i H2 hi ⟨xs, ks, ys, ls, h1, t1, h2, t2, pm, hl, hbg, fr⟩
        have l1 := t1.len
        have l2 := t2.len
        have l3 := pm.length_eq
        rw [List.length_append] at l3
        have l4 : all18.length = 18 := rfl
        have i18 : i < 18 := by omega
        walk_at "go"
        refine ⟨a, k + i, _, rfl, hbg, by omega, by omega, by omega, fun r H3 r0 r1 hb3 f3 => ?_⟩
        obtain ⟨bs2, ha2⟩ := hbg.ob
        have tk := Eg.tup_frame f3 ha2
        obtain ⟨j, rfl⟩ := Int.eq_ofNat_of_zero_le r0
        have hj : j < xs.length := by omega
        obtain ⟨kj, t, hkj, ex, ht⟩ := t1.get (List.getElem?_eq_getElem hj)
        walk_at "go"
        refine Eg.c_popAt (Eg.frame_at f3 hLa h1) ⟨by omega, by omega, by omega⟩ rfl (List.getElem?_eq_getElem hj) ?_
        walk_at "go"
        have tk2 : ∀ b zs, H2 b = some (.tup zs) → upd (upd H3 L (.lst (xs.eraseIdx j))) D (.lst (ys ++ [xs[j]])) b = some (.tup zs) := fun b zs e =>
          Eg.tup_upd (a := D) (xs := ys) (by walk_at "hp") b zs (Eg.tup_upd (a := L) (xs := xs) (by walk_at "hp") b zs (tk b zs e))
        refine ⟨_, ks.eraseIdx j, _, ls ++ [kj], Eg.upd_mut hDL.symm upd_same, (t1.erase j).same tk2, upd_same, TupsAt.app (t2.same tk2) (.cons ⟨t, ex, tk2 _ _ ht⟩ .nil), ?_, by rw [List.length_append, hl]; rfl, ?_, fun b o hbo hne => ?_⟩
        · refine List.Perm.trans ?_ pm
          rw [List.append_assoc]
          exact (perm_erase hkj).append_left ls
        · refine hb3.to ?_ (by omega)
          rw [upd_ne hDa.symm, upd_ne hLa.symm]
        · refine Eg.upd_mut (ne_of_none (hs b o hbo) hD) (Eg.upd_mut (ne_of_none hbo hL) ?_)
          rw [f3 b hne]
          exact fr b o hbo hne
      · rintro H2 ⟨xs, ks, ys, ls, h1, t1, h2, t2, pm, hl, hbg, fr⟩
        have ndp : (ls ++ ks).Nodup := pm.nodup_iff.mpr all18_nd
        walk_at "go"
        refine q D ys ls H2 (hs.free hD) h2 t2 (by rw [hl]; omega) (List.nodup_append.mp ndp).1 (fun k hk => all18_s3 k (pm.mem_iff.mp (List.mem_append_left _ hk))) (hbg.to rfl (by omega)) fr
theorem ok_l_steps_of (T : Txt K mg Z) : FnOk P w K mg base CX0 1 Z.a_l_steps_of Z.d_l_steps_of ["_law_sorts_here", "_law_steps"] sp_l_steps_of := by
  refine T.F_l_steps_of.ok sc_l_steps_of (fun vs H Q E h => ?_) (fun cdv A outer s H vs Q E hr h => ?_)
  · obtain ⟨a, b, xs, ks, ns, rfl, _⟩ := h
    rfl
  · obtain ⟨a, b, xs, ks, ns, rfl, ha, ta, hb, hl, hnd, hsz, q⟩ := h
    have nd := sc_l_steps_of.nd
    have hu := hu_of hr
    refine ⟨_, (pss_cons (ps_set (i := 2) nd rfl (Or.inl rfl) pe_dnewT)
  (pss_cons (ps_for PassesOwn.never rfl (pi_zip (by rfl) T.u_zip (pa_cons (pv 0) (pa_cons (pv 1) pa_nil))) (pg_tup (by rfl) (pgs_cons (pg_name (i := 3) nd rfl (Or.inl rfl)) (pgs_cons (pg_name (i := 4) nd rfl (Or.inl rfl)) pgs_nil)))
  (pss_one (ps_dput hu (pv 2) (pv 3) (pv 4) rfl)))
  (pss_one (ps_ret (pv 2))))), ?_⟩
    refine Eg.w_sig (σ := [some (.ref a), some (.ref b), none, none, none]) rfl ?_
    walk_at "go"
    intro p hp
    walk_at "go"
    have tl := ta.len
    have hpa : p ≠ a := (ne_of_none ha hp).symm
    have hpb : p ≠ b := (ne_of_none hb hp).symm
    refine RZ.for_zipL (xs := xs) (ys := ns.map V.int) (by rw [tl, hl, List.length_map]) (fun i σ' H' => ∃ u v, σ' = [some (.ref a), some (.ref b), some (.ref p), u, v] ∧ H' p = some (.dT (enc ((ks.take i).zip (ns.take i)))) ∧ (∀ c o, H c = some o → H' c = some o))
      ⟨none, none, rfl, upd_same, fun c o e => Eg.upd_old e hp⟩ ?_ ?_ ?_
    · rintro i _ H1 ⟨u, v, rfl, h1, fr⟩
      exact ⟨SqL.of (fr _ _ ha), SqL.of (fr _ _ hb)⟩
    · rintro i x y t _ H1 hx hy ⟨u, v, rfl, h1, fr⟩ ht
      obtain ⟨k, tk, hk, rfl, htk⟩ := ta.get hx
      rw [List.getElem?_map] at hy
      obtain ⟨n, hn, rfl⟩ := Option.map_eq_some_iff.mp hy
      walk_at "go"
      have hd : upd H1 t (.tup [.ref tk, .int n]) p = some (.dT (enc ((ks.take i).zip (ns.take i)))) := Eg.upd_old h1 ht
      refine ⟨p, _, rfl, DPut.t (k := ek k) hd ?_ ?_, ?_⟩
      · rw [ek_kV]
        exact Eg.upd_old (fr _ _ htk) ht
      · have : ((ks.take i).zip (ns.take i)).length ≤ ks.length := by
          rw [List.length_zip, List.length_take]
          omega
        unfold enc
        rw [List.length_map, sizeLine_eq]
        omega
      · walk_at "go"
        refine ⟨_, _, rfl, ?_, fun c o e => Eg.upd_mut (ne_of_none e hp) (Eg.upd_old (fr c o e) ht)⟩
        rw [upd_same, put_enc, putI_new, List.take_succ_eq_append_getElem (List.getElem?_eq_some_iff.mp hk).1, List.take_succ_eq_append_getElem (List.getElem?_eq_some_iff.mp hn).1, List.zip_append]
        · have e1 : ks[i]'(List.getElem?_eq_some_iff.mp hk).1 = k := (List.getElem?_eq_some_iff.mp hk).2
          have e2 : ns[i]'(List.getElem?_eq_some_iff.mp hn).1 = n := (List.getElem?_eq_some_iff.mp hn).2
          rw [e1, e2]
          rfl
        · rw [List.length_take, List.length_take]
          omega
        · intro hm
          rw [List.map_fst_zip (by rw [List.length_take, List.length_take]; omega)] at hm
          obtain ⟨j, hj⟩ := List.mem_iff_getElem?.mp hm
          rw [List.getElem?_take] at hj
          split at hj
          · have := nd_ix hnd hj hk
            omega
          · cases hj
    · rintro _ H1 ⟨u, v, rfl, h1, fr⟩
      walk_at "go"
      refine q p H1 hp ?_ fr
      rw [h1, tl, List.take_length, hl, List.take_length]
end
end LW

namespace LW
open PySem L2 Sm
abbrev fldsF (st : Int) (d : Addr) : List (Str × V) := [("start", .int st), ("steps", .ref d)]
theorem ss1 : (("start" : Str) == ("start" : Str)) = true := by decide +kernel
theorem ss2 : (("steps" : Str) == ("start" : Str)) = false := by decide +kernel
theorem ss3 : (("steps" : Str) == ("steps" : Str)) = true := by decide +kernel
theorem ss4 : (("sorts" : Str) == ("start" : Str)) = false := by decide +kernel
theorem ss5 : (("sorts" : Str) == ("steps" : Str)) = false := by decide +kernel
theorem lk_start (st : Int) (d : Addr) : (fldsF st d).lookup ("start" : Str) = some (V.int st) := by
  rw [fldsF, List.lookup_cons, ss1]
theorem lk_steps (st : Int) (d : Addr) : (fldsF st d).lookup ("steps" : Str) = some (V.ref d) := by
  rw [fldsF, List.lookup_cons, ss2, List.lookup_cons, ss3]
theorem lk_sorts (st : Int) (d : Addr) : (fldsF st d).lookup ("sorts" : Str) = none := by
  rw [fldsF, List.lookup_cons, ss4, List.lookup_cons, ss5]
  rfl
def FormAt (C : Addr) (H : Hp) (p : Addr) (st : Int) (qs : DI) : Prop := ∃ dx d, H p = some (.ins C dx (fldsF st d)) ∧ H d = some (.dT (enc qs))
structure FormOk (qs : DI) : Prop where
  nd : (qs.map (·.1)).Nodup
  s3 : ∀ p ∈ qs, Sort3 p.1
  sz : qs.length < 60
theorem FormAt.keep {C : Addr} {H H' : Hp} {p : Addr} {st : Int} {qs : DI} (h : FormAt C H p st qs) (e : Same H H') : FormAt C H' p st qs := let ⟨dx, d, h1, h2⟩ := h; ⟨dx, d, e _ _ h1, e _ _ h2⟩
/-- a form that was just made: its dict is new -/
def FormNew (C : Addr) (H H' : Hp) (p : Addr) (st : Int) (qs : DI) : Prop := ∃ dx D, H' p = some (.ins C dx (fldsF st D)) ∧ H' D = some (.dT (enc qs)) ∧ H D = none
theorem FormNew.at_ {C : Addr} {H H' : Hp} {p : Addr} {st : Int} {qs : DI} (h : FormNew C H H' p st qs) : FormAt C H' p st qs := let ⟨dx, d, h1, h2, _⟩ := h; ⟨dx, d, h1, h2⟩
def sp_Form_init (C : Addr) : Sp := fun vs H Q _ => ∃ (p dx d : Addr) (st : Int) (ps : DI), vs = [.ref p, .int st, .ref d] ∧ H p = some (.ins C dx []) ∧ H d = some (.dT (enc ps)) ∧ (ps.map (·.1)).Nodup ∧ ps.length < 1000 ∧
  ∀ H', FormNew C H H' p st (nz ps) → (∀ b o, H b = some o → b ≠ p → H' b = some o) → Q .non H'
def sp_Form_sorts (C : Addr) : Sp := fun vs H Q _ => ∃ (p : Addr) (st : Int) (qs : DI), vs = [.ref p] ∧ FormAt C H p st qs ∧ FormOk qs ∧
  ∀ (L : List (Addr × List Int)) (l : Addr), (L.map (·.2)).Perm (qs.map (·.1)) → L.Pairwise (fun q r => TS.code 3 q.2 ≤ TS.code 3 r.2) → (∀ q ∈ L, H q.1 = some (.tup (q.2.map V.int))) → H l = none → Q (.ref l) (upd H l (.lst (L.map fun q => V.ref q.1)))
def eqForm (C : Addr) (a b : Addr) (H : Hp) : Prop := ∃ st qs rs, FormAt C H a st qs ∧ FormAt C H b st rs ∧ DTx.sameD (enc qs) (enc rs) = true
section
variable {P : Program} {w : World} {K : PySem.W.Frag} {mg : Str → Option Value} {base : Heap} {Z : Ad}
theorem dget_enc {H : Hp} {d b : Addr} {ps : DI} {k : List Int} (hd : Rd H d (.dT (enc ps))) (hb : H b = some (.tup (k.map V.int))) : DGet H d (.ref b) ((getI ps k).map V.int) :=
  .inr ⟨enc ps, ek k, b, hd, rfl, by rw [ek_kV]; exact hb, (val_enc ps k).symm⟩
theorem dget_some {H : Hp} {d b : Addr} {ps : DI} {k : List Int} {v : Int} (hd : Rd H d (.dT (enc ps))) (hb : H b = some (.tup (k.map V.int))) (hv : getI ps k = some v) : DGet H d (.ref b) (some (.int v)) := by
  have := dget_enc hd hb
  rw [hv] at this
  exact this
theorem flds_put (st : Int) (d : Addr) : putF "steps" (.ref d) (putF "start" (.int st) []) = fldsF st d := by
  rw [show putF "start" (V.int st) [] = [(("start" : Str), V.int st)] from rfl]
  show (if ("start" : Str) = "steps" then _ else (("start" : Str), V.int st) :: putF "steps" (V.ref d) []) = _
  rw [if_neg (by decide +kernel)]
  rfl
theorem inl_key {k : List Key} {ps : DI} {i : Nat} {v : V} (h : (enc ps)[i]? = some (k, v)) : ∃ ns z, ps[i]? = some (ns, z) ∧ k = ek ns ∧ v = .int z := by
  unfold enc at h
  rw [List.getElem?_map] at h
  obtain ⟨p, hp, e⟩ := Option.map_eq_some_iff.mp h
  exact ⟨p.1, p.2, hp, (Prod.mk.inj e).1.symm, (Prod.mk.inj e).2.symm⟩
theorem filt_succ {ps : DI} {i : Nat} {p : List Int × Int} (h : ps[i]? = some p) : nz (ps.take (i + 1)) = nz (ps.take i) ++ nz [p] := by
  obtain ⟨hl, e⟩ := List.getElem?_eq_some_iff.mp h
  rw [List.take_succ_eq_append_getElem hl, e, nz, List.filter_append]
  rfl
theorem ok_Form_init (T : Txt K mg Z) : FnOk P w K mg base CX0 1 Z.a_Form_init Z.d_Form_init ["self", "start", "steps"] (sp_Form_init Z.c_Form) := by
  refine T.F_Form_init.ok sc_Form_init (fun vs H Q E h => ?_) (fun cdv A outer s H vs Q E hr h => ?_)
  · obtain ⟨p, dx, d, st, ps, rfl, _⟩ := h
    rfl
  · obtain ⟨p, dx, d, st, ps, rfl, hp, hd, hnd, hsz, q⟩ := h
    have nd := sc_Form_init.nd
    have hu := hu_of hr
    have cF := T.cl_Form
    have n1 := T.n_Form_start
    have n2 := T.n_Form_steps
    have hdp : d ≠ p := ne_of hd hp (fun z => nomatch z)
    refine ⟨_, (pss_cons (ps_fld (pv 0) (pv 1) rfl)
  (pss_one (ps_fld (pv 0) (pe_lock (DTx.pe_dcT (own := [("sort", 3)]) (Nat.lt_of_succ_lt hu) rfl nd (pi_keys (pv 2)) (blkOk_by (N := N_Form_init) (sc := defScope s_Form_init) (by decide +kernel)) (fun _ _ _ _ _ => (pg_name (i := 3) nd rfl (Or.inl rfl))) (fun _ _ _ _ _ => (Eg.ptsE (pts_one (pt_cmpR op_ne (pe_dget hu (pv 2) (pv 3) (fun _ _ => rfl)) pe_int (nomark _))) (by walk_at "blk"))) (fun _ _ _ _ _ => (Eg.peE (pv 3) (by walk_at "blk"))) (fun _ _ _ _ _ => (Eg.peE (pe_dget hu (pv 2) (pv 3) (fun _ _ => rfl)) (by walk_at "blk"))))) rfl))), ?_⟩
    refine Eg.w_sig (σ := [some (.ref p), some (.int st), some (.ref d), none]) rfl ?_
    walk_at "go"
    refine ⟨d, _, Eg.upd_mut hdp hd, trivial, fun od => ?_⟩
    walk_at "go"
    refine Eg.c_iKT upd_same ?_
    walk_at "go"
    intro D hD
    have hpD : p ≠ D := fun e => by rw [e, upd_ne (by rintro rfl; rw [← e] at hdp; exact hdp rfl), ← e, upd_same] at hD; cases hD
    have hdD : d ≠ D := fun e => by rw [e, upd_same] at hD; cases hD
    refine DTx.dt_it walk_keysT (fun i H' => H' d = some (.frz od (.dT (enc ps))) ∧ H' D = some (.dT (enc (nz (ps.take i)))) ∧ H' p = some (.ins Z.c_Form dx (putF "start" (.int st) [])) ∧ ∀ b o, H b = some o → b ≠ p → b ≠ d → H' b = some o) ?_ (fun i H' _ h => h.1) ?_ ?_
    · refine ⟨Eg.upd_mut hdD upd_same, upd_same, Eg.upd_mut hpD (Eg.upd_mut hdp.symm upd_same), fun b o e h1 h2 => ?_⟩
      refine Eg.upd_old ?_ hD
      exact Eg.upd_mut h2 (Eg.upd_mut h1 e)
    · rintro i x H1 _ hi ⟨h1, h2, h3, fr⟩ ⟨rfl, k, v, t, hk, rfl, ht⟩
      obtain ⟨ns, z, hps, rfl, rfl⟩ := inl_key hk
      rw [ek_kV] at ht
      have gz : getI ps ns = some z := getI_mem hnd (List.mem_of_getElem? hps)
      have dg := dget_some (.inr ⟨od, h1⟩) ht gz
      walk_at "go"
      refine ⟨d, _, rfl, dg, ?_⟩
      walk_at "go"
      refine Eg.brDn (fun hne => ?_) (fun he => ?_)
      · walk_at "go"
        refine ⟨d, _, rfl, dg, ?_⟩
        have zne : ¬ z = 0 := fun e => hne (by rw [e])
        refine ⟨_, ek ns, t, rfl, by rw [ek_kV]; exact ht, h2, ?_, Eg.upd_mut hdD h1, ?_, Eg.upd_mut hpD h3, fun b o e e1 e2 => Eg.upd_mut ?_ (fr b o e e1 e2)⟩
        · unfold enc nz
          rw [List.length_map]
          have l1 := List.length_filter_le (fun p : List Int × Int => decide (p.2 ≠ 0)) (ps.take i)
          rw [List.length_take] at l1
          rw [sizeLine_eq]
          omega
        · rw [upd_same, put_enc, filt_succ hps, putI_new]
          · simp [nz, zne]
          · intro hm
            obtain ⟨y, hy, ey⟩ := List.mem_map.mp hm
            have hy2 := nz_sub hy
            obtain ⟨j, hj⟩ := List.mem_iff_getElem?.mp hy2
            rw [List.getElem?_take] at hj
            split at hj
            · have hj1 : (ps.map (·.1))[j]? = some ns := by rw [List.getElem?_map, hj]; simp [ey]
              have hi1 : (ps.map (·.1))[i]? = some ns := by rw [List.getElem?_map, hps]; rfl
              have := nd_ix hnd hj1 hi1
              omega
            · cases hj
        · rintro rfl
          rw [upd_ne (Ne.symm hdD), upd_ne e1] at hD
          rw [e] at hD
          cases hD
      · walk_at "go"
        have z0 : z = 0 := V.int.inj he
        refine ⟨h1, ?_, h3, fr⟩
        rw [h2, filt_succ hps, z0]
        simp [nz]
    · rintro H1 ⟨h1, h2, h3, fr⟩
      refine ⟨h1, ?_⟩
      walk_at "go"
      refine q _ ⟨dx, D, ?_, ?_, by rw [upd_ne hdD.symm, upd_ne hpD.symm] at hD; exact hD⟩ fun b o e e1 => ?_
      · rw [upd_same, flds_put]
      · refine Eg.upd_mut hpD.symm (Eg.upd_mut hdD.symm ?_)
        rw [h2]
        unfold enc
        rw [List.length_map, List.take_length]
      · refine Eg.upd_mut e1 ?_
        by_cases e2 : b = d
        · rw [e2, upd_same]
          rw [e2, hd] at e
          exact e
        · exact Eg.upd_mut e2 (fr b o e e1 e2)
theorem ok_Form_sorts (T : Txt K mg Z) : FnOk P w K mg base CX0 1 Z.a_Form_sorts Z.d_Form_sorts ["self"] (sp_Form_sorts Z.c_Form) := by
  refine T.F_Form_sorts.ok sc_Form_sorts (fun vs H Q E h => ?_) (fun cdv A outer s H vs Q E hr h => ?_)
  · obtain ⟨p, st, qs, rfl, _⟩ := h
    rfl
  · obtain ⟨p, st, qs, rfl, ⟨dx, d, hp, hd⟩, ok, q⟩ := h
    have cF := T.cl_Form
    have n2 := T.n_Form_steps
    have lk2 := lk_steps st d
    refine ⟨_, (pss_one (ps_ret (pe_callB (DTx.cr_sortedD rfl) (by rfl) T.u_sorted (by decide +kernel) (pa_cons (pe_fld (pv 0) rfl) pa_nil)))), ?_⟩
    refine Eg.w_sig (σ := [some (.ref p)]) rfl ?_
    walk_at "go"
    have e : enc qs = (qs.map fun y => (y.1, V.int y.2)).map fun y => (y.1.map Sum.inl, y.2) := by
      rw [List.map_map]
      rfl
    rw [e] at hd
    refine ⟨d, qs.map fun y => (y.1, V.int y.2), 3, 3, rfl, .inl hd, ?_, by decide, fun y hy => ?_, fun L l h1 h2 h3 h4 => ?_⟩
    · rw [List.length_map]
      have := ok.sz
      omega
    · obtain ⟨z, hz, rfl⟩ := List.mem_map.mp hy
      exact ok.s3 z hz
    · walk_at "go"
      rw [List.map_map] at h1
      exact q L l h1 h2 h3 h4
theorem ok_Form_eq (T : Txt K mg Z) : FnOk P w K mg base CX0 1 Z.a_Form_eq Z.d_Form_eq ["self", "other"] (spEq (eqForm Z.c_Form)) := by
  refine T.F_Form_eq.ok sc_Form_eq (fun vs H Q E h => ?_) (fun cdv A outer s H vs Q E hr h => ?_)
  · obtain ⟨a, b, rfl, _⟩ := h
    rfl
  · obtain ⟨a, b, rfl, ⟨st, qs, rs, ⟨dx, d, ha, hd⟩, ⟨dy, e, hb, he⟩, hs⟩, q⟩ := h
    have hu := hu_of hr
    have cF := T.cl_Form
    have n1 := T.n_Form_start
    have n2 := T.n_Form_steps
    have lk1 := lk_start st d
    have lk2 := lk_steps st d
    have lk3 := lk_start st e
    have lk4 := lk_steps st e
    refine ⟨_, (pss_one (ps_ret (pe_and (pe_callB call_isi (by rfl) T.u_isinstance (by decide +kernel) (pa_cons (pv 1) (pa_cons (pe_glob (v := .ref Z.c_Form) (by rfl) T.g_Form rfl) pa_nil))) (pe_and (pe_cmpR op_eq (pe_fld (pv 0) rfl) (pe_fld (pv 1) rfl) (nomark _)) (pe_one (pe_cmpR (DTx.op_eqT hu) (pe_fld (pv 0) rfl) (pe_fld (pv 1) rfl) (nomark _))))))), ?_⟩
    refine Eg.w_sig (σ := [some (.ref a), some (.ref b)]) rfl ?_
    walk_at "go"
    refine Eg.c_isi (.own _) (.base (T.i_Form hb)) (b := true) (by unfold PySem.W.kitOne; rw [if_pos (beq_self_eq_true _)]) ?_
    walk_at "go"
    rw [decide_eq_true (show V.int st = V.int st from rfl)]
    walk_at "go"
    refine ⟨d, e, enc qs, enc rs, rfl, rfl, .inl hd, .inl he, enc_int _, enc_int _, ?_⟩
    walk_at "go"
    rw [if_neg Bool.false_ne_true, hs]
    exact q H Ext.rfl'
end
end LW

namespace LW
open PySem L2 Sm

def FRd (C : Addr) (H : Hp) (p : Addr) (st : Int) (qs : DI) : Prop := ∃ dx d, H p = some (.ins C dx (fldsF st d)) ∧ Rd H d (.dT (enc qs))
theorem FormAt.rd {C : Addr} {H : Hp} {p : Addr} {st : Int} {qs : DI} (h : FormAt C H p st qs) : FRd C H p st qs := let ⟨dx, d, h1, h2⟩ := h; ⟨dx, d, h1, .inl h2⟩
theorem rd_lock {H H' : Hp} {c d : Addr} {r qs : DI} {od : Obj} (e : ∀ b o, H b = some o → b ≠ c → H' b = some o) (h' : H' c = some (.frz od (.dT (enc r)))) (hc : H c = some (.dT (enc r))) (h : Rd H d (.dT (enc qs))) : Rd H' d (.dT (enc qs)) := by
  by_cases hd : d = c
  · subst hd
    rcases h with h | ⟨o2, h⟩
    · rw [hc] at h
      have : enc r = enc qs := HO.dT.inj (Option.some.inj h)
      rw [← this]
      exact .inr ⟨od, h'⟩
    · rw [hc] at h
      cases h
  · rcases h with h | ⟨o2, h⟩
    · exact .inl (e _ _ h hd)
    · exact .inr ⟨o2, e _ _ h hd⟩
theorem FRd.lock {C : Addr} {H H' : Hp} {c p : Addr} {st : Int} {r qs : DI} {od : Obj} (h : FRd C H p st qs) (e : ∀ b o, H b = some o → b ≠ c → H' b = some o) (h' : H' c = some (.frz od (.dT (enc r)))) (hc : H c = some (.dT (enc r))) : FRd C H' p st qs := by
  obtain ⟨dx, d, h1, h2⟩ := h
  exact ⟨dx, d, e _ _ h1 (ne_of h1 hc (fun z => nomatch z)), rd_lock e h' hc h2⟩
theorem getD_gt (qs : DI) (k : List Int) : ((getI qs k).map V.int).getD (V.int 0) = V.int (gt qs k) := by
  unfold gt
  cases getI qs k <;> rfl
theorem keys_tups {H : Hp} {qs : DI} {bs : List Addr} (h : IsKeys H (enc qs) bs) : TupsAt H (bs.map V.ref) (qs.map (·.1)) := by
  unfold IsKeys enc at h
  induction qs generalizing bs with
  | nil =>
    cases h
    exact .nil
  | cons q r ih =>
    cases h with
    | cons a b =>
      refine .cons ⟨_, rfl, ?_⟩ (ih b)
      rw [← ek_kV]
      exact a
theorem good_ok {qs : DI} (h : Good qs) : FormOk qs := ⟨h.nd, h.s3, by have := h.sz; omega⟩
def sp_Form_getitem (C : Addr) : Sp := fun vs H Q _ => ∃ (p t : Addr) (st : Int) (qs : DI) (k : List Int), vs = [.ref p, .ref t] ∧ FRd C H p st qs ∧ H t = some (.tup (k.map V.int)) ∧ Q (.int (gt qs k)) H
def sp_Form_len (C : Addr) : Sp := fun vs H Q _ => ∃ (p : Addr) (st : Int) (qs : DI), vs = [.ref p] ∧ FormAt C H p st qs ∧ Q (.int (qs.length : Nat)) H
def sp_Form_call (C : Addr) : Sp := fun vs H Q _ => ∃ (p c : Addr) (st : Int) (qs cs : DI), vs = [.ref p, .ref c] ∧ FormAt C H p st qs ∧ H c = some (.dT (enc cs)) ∧ (cs.map (·.1)).Nodup ∧ (∀ y ∈ cs, -100000 ≤ y.2 ∧ y.2 ≤ 100000) ∧ Q (.int (st + atC qs cs)) H
def sp_Form_neg (C : Addr) : Sp := fun vs H Q _ => ∃ (p : Addr) (st : Int) (qs : DI), vs = [.ref p] ∧ FormAt C H p st qs ∧ Good qs ∧
  ∀ (x : Addr) (rs : DI) (H' : Hp), H x = none → FormAt C H' x (-st) rs → Good rs → (∀ k, gt rs k = -gt qs k) → Same H H' → Q (.ref x) H'
def AddQ (C : Addr) (H : Hp) (st : Int) (F : List Int → Int) (Q : VK) : Prop := ∀ (x : Addr) (rs : DI) (H' : Hp), H x = none → FormAt C H' x st rs → Good rs → (∀ k, gt rs k = F k) → Same H H' → Q (.ref x) H'
def sp_combined (C : Addr) : Sp := fun vs H Q _ => ∃ (p q : Addr) (f st1 st2 : Int) (qs1 qs2 : DI), vs = [.ref p, .ref q, .int f] ∧ (-1000 ≤ f ∧ f ≤ 1000) ∧ FormAt C H p st1 qs1 ∧ FormAt C H q st2 qs2 ∧ Good qs1 ∧ Good qs2 ∧ AddQ C H (st1 + f * st2) (fun k => gt qs1 k + f * gt qs2 k) Q
def sp_two (C : Addr) (f : Int) : Sp := fun vs H Q _ => ∃ (p q : Addr) (st1 st2 : Int) (qs1 qs2 : DI), vs = [.ref p, .ref q] ∧ FormAt C H p st1 qs1 ∧ FormAt C H q st2 qs2 ∧ Good qs1 ∧ Good qs2 ∧ AddQ C H (st1 + f * st2) (fun k => gt qs1 k + f * gt qs2 k) Q
section
variable {P : Program} {w : World} {K : PySem.W.Frag} {mg : Str → Option Value} {base : Heap} {Z : Ad}
theorem ok_Form_getitem (T : Txt K mg Z) : FnOk P w K mg base CX0 1 Z.a_Form_getitem Z.d_Form_getitem ["self", "sort"] (sp_Form_getitem Z.c_Form) := by
  refine T.F_Form_getitem.ok sc_Form_getitem (fun vs H Q E h => ?_) (fun cdv A outer s H vs Q E hr h => ?_)
  · obtain ⟨p, t, st, qs, k, rfl, _⟩ := h
    rfl
  · obtain ⟨p, t, st, qs, k, rfl, ⟨dx, d, hp, hd⟩, ht, q⟩ := h
    have hu := hu_of hr
    have cF := T.cl_Form
    have n2 := T.n_Form_steps
    have lk2 := lk_steps st d
    refine ⟨_, (pss_one (ps_ret (pe_dget2 hu (pe_fld (pv 0) rfl) (pv 1) pe_int ⟨rfl, rfl, rfl, rfl⟩))), ?_⟩
    refine Eg.w_sig (σ := [some (.ref p), some (.ref t)]) rfl ?_
    walk_at "go"
    refine Ow.w_dget2 ?_
    walk_at "go"
    refine Ow.c_dget2T hd ?_
    walk_at "go"
    refine ⟨_, dget_enc hd ht, ?_⟩
    walk_at "go"
    rw [getD_gt]
    exact q
theorem ok_Form_len (T : Txt K mg Z) : FnOk P w K mg base CX0 1 Z.a_Form_len Z.d_Form_len ["self"] (sp_Form_len Z.c_Form) := by
  refine T.F_Form_len.ok sc_Form_len (fun vs H Q E h => ?_) (fun cdv A outer s H vs Q E hr h => ?_)
  · obtain ⟨p, st, qs, rfl, _⟩ := h
    rfl
  · obtain ⟨p, st, qs, rfl, ⟨dx, d, hp, hd⟩, q⟩ := h
    have cF := T.cl_Form
    have n2 := T.n_Form_steps
    have lk2 := lk_steps st d
    refine ⟨_, (pss_one (ps_ret (pe_callB call_len_dT (by rfl) T.u_len (by decide +kernel) (pa_cons (pe_fld (pv 0) rfl) pa_nil)))), ?_⟩
    refine Eg.w_sig (σ := [some (.ref p)]) rfl ?_
    walk_at "go"
    refine ⟨d, _, rfl, hd, ?_⟩
    walk_at "go"
    unfold enc
    rw [List.length_map]
    exact q
theorem ok_Form_call (T : Txt K mg Z) : FnOk P w K mg base CX0 1 Z.a_Form_call Z.d_Form_call ["self", "counts"] (sp_Form_call Z.c_Form) := by
  refine T.F_Form_call.ok sc_Form_call (fun vs H Q E h => ?_) (fun cdv A outer s H vs Q E hr h => ?_)
  · obtain ⟨p, c, st, qs, cs, rfl, _⟩ := h
    rfl
  · obtain ⟨p, c, st, qs, cs, rfl, F, hc, cnd, cbd, q⟩ := h
    have hu := hu_of hr
    have nd := sc_Form_call.nd
    have cF := T.cl_Form
    have n1 := T.n_Form_start
    have n2 := T.n_Form_steps
    obtain ⟨dx, d, hp, hd⟩ := id F
    have lk1 := lk_start st d
    have lk2 := lk_steps st d
    have hpc : p ≠ c := ne_of hp hc (fun z => nomatch z)
    refine ⟨_, (pss_cons (ps_set (i := 2) nd rfl (Or.inl rfl) (pe_fld (pv 0) rfl))
  (pss_cons (ps_lock (ps_for PassesOwn.never rfl (pi_keys (pv 1)) (pg_name (i := 3) nd rfl (Or.inl rfl))
  (pss_one (ps_aug (i := 2) nd rfl (Or.inl rfl) (pe_op op_mul (pe_dget2 hu (pe_fld (pv 0) rfl) (pv 3) pe_int ⟨rfl, rfl, rfl, rfl⟩) (pe_dget hu (pv 1) (pv 3) (fun _ _ => rfl))) ip_add))))
  (pss_one (ps_ret (pv 2))))), ?_⟩
    refine Eg.w_sig (σ := [some (.ref p), some (.ref c), none, none]) rfl ?_
    walk_at "go"
    refine ⟨c, _, hc, trivial, fun od => ?_⟩
    walk_at "go"
    refine Eg.c_iKT upd_same ?_
    have hlc : ∀ b o, H b = some o → b ≠ c → upd H c (.frz od (.dT (enc cs))) b = some o := fun b o e hn => Eg.upd_mut hn e
    have hds : Rd (upd H c (.frz od (.dT (enc cs)))) d (.dT (enc qs)) := rd_lock hlc upd_same hc (.inl hd)
    refine for_it walk_keysT (fun j σ' H' => ∃ v4, σ' = [some (.ref p), some (.ref c), some (.int (st + atC qs (cs.take j))), v4] ∧ upd H c (.frz od (.dT (enc cs))) = H') ⟨_, by rw [List.take_zero]; exact congrArg (fun z => [some (V.ref p), some (V.ref c), some (V.int z), none]) (Int.add_zero st).symm, rfl⟩ ?_ ?_ ?_
    · rintro j _ _ _ ⟨v4, rfl, rfl⟩
      exact upd_same
    · rintro j y _ _ _ hj ⟨v4, rfl, rfl⟩ ⟨rfl, k, v, t, hk, rfl, ht⟩
      obtain ⟨kk, z, hkz, rfl, rfl⟩ := inl_key hk
      rw [ek_kV] at ht
      obtain ⟨hlt, he⟩ := List.getElem?_eq_some_iff.mp hkz
      walk_at "go"
      refine Ow.w_aug rfl ?_
      walk_at "go"
      refine Ow.w_dget2 ?_
      walk_at "go"
      refine Ow.c_dget2T hds ?_
      walk_at "go"
      refine ⟨_, dget_enc hds ht, ?_⟩
      rw [getD_gt]
      walk_at "go"
      have gz : getI cs kk = some z := getI_mem cnd (List.mem_of_getElem? hkz)
      have zb : -100000 ≤ z ∧ z ≤ 100000 := cbd _ (List.mem_of_getElem? hkz)
      have zb1 := zb.1
      have zb2 := zb.2
      refine ⟨c, _, rfl, dget_some (.inr ⟨od, upd_same⟩) ht gz, ?_⟩
      walk_at "go"
      refine Ow.c_ipI ?_
      walk_at "go"
      refine ⟨some (.ref t), ?_, rfl⟩
      rw [List.take_succ_eq_append_getElem hlt, he]
      unfold atC
      rw [List.map_append, List.sum_append, List.map_cons, List.map_nil, List.sum_cons, List.sum_nil, Int.add_zero, ← Int.add_assoc]
      rfl
    · rintro _ _ ⟨v4, rfl, rfl⟩
      refine ⟨upd_same, ?_⟩
      rw [upd_upd, show upd H c (.dT (enc cs)) = H from by
        funext b
        by_cases e : b = c
        · rw [e, upd_same, hc]
        · rw [upd_ne e]]
      walk_at "go"
      have : (enc cs).length = cs.length := by unfold enc; rw [List.length_map]
      rw [this, List.take_length]
      exact q
end
end LW

namespace LW
open PySem L2 Sm

/-- what a form is compared with -/
inductive EqTo (C : Addr) (H : Hp) (st : Int) (qs : DI) : V → Bool → Prop
  | form {b : Addr} {st2 : Int} {rs : DI} : FormAt C H b st2 rs → EqTo C H st qs (.ref b) (decide (st = st2) && DTx.sameD (enc qs) (enc rs))
  | int (i : Int) : EqTo C H st qs (.int i) false
  | tup {b : Addr} {xs : List V} : H b = some (.tup xs) → EqTo C H st qs (.ref b) false
def sp_Form_eq2 (C : Addr) : Sp := fun vs H Q _ => ∃ (a : Addr) (y : V) (st : Int) (qs : DI) (r : Bool), vs = [.ref a, y] ∧ FormAt C H a st qs ∧ EqTo C H st qs y r ∧ Q (.bl r) H
def sp_Form_str (C : Addr) : Sp := fun vs H Q _ => ∃ (p : Addr) (st : Int) (qs : DI), vs = [.ref p] ∧ FormAt C H p st qs ∧ Keys3 qs ∧ st.natAbs < 1000000 ∧ (∀ y ∈ qs, y.2.natAbs < 1000000) ∧
  ∀ (ks : List (List Int)) (H' : Hp), ks.Perm (qs.map (·.1)) → ks.Pairwise (fun a b => TS.code 3 a ≤ TS.code 3 b) → Same H H' → Q (.str (Fs.shownS st ks (gt qs))) H'
def sp_l_shown : Sp := fun vs H Q _ => ∃ (d : Addr) (st : Int) (fs : DI), vs = [.int st, .ref d] ∧ H d = some (.dT (enc fs)) ∧ Keys3 fs ∧ st.natAbs < 1000000 ∧ (∀ y ∈ fs, y.2.natAbs < 1000000) ∧
  ∀ (ks : List (List Int)) (H' : Hp), ks.Perm (fs.map (·.1)) → ks.Pairwise (fun a b => TS.code 3 a ≤ TS.code 3 b) → Same H H' → Q (.str (Fs.shownS st (ks.filter fun k => decide (gt fs k ≠ 0)) (gt fs))) H'
section
variable {P : Program} {w : World} {K : PySem.W.Frag} {mg : Str → Option Value} {base : Heap} {Z : Ad}
theorem ok_Form_eq2 (T : Txt K mg Z) : FnOk P w K mg base CX0 1 Z.a_Form_eq Z.d_Form_eq ["self", "other"] (sp_Form_eq2 Z.c_Form) := by
  refine T.F_Form_eq.ok sc_Form_eq (fun vs H Q E h => ?_) (fun cdv A outer s H vs Q E hr h => ?_)
  · obtain ⟨a, y, st, qs, r, rfl, _⟩ := h
    rfl
  · obtain ⟨a, y, st, qs, r, rfl, ⟨dx, d, ha, hd⟩, he, q⟩ := h
    have hu := hu_of hr
    have cF := T.cl_Form
    have n1 := T.n_Form_start
    have n2 := T.n_Form_steps
    have lk1 := lk_start st d
    have lk2 := lk_steps st d
    refine ⟨_, (pss_one (ps_ret (pe_and (pe_callB call_isi (by rfl) T.u_isinstance (by decide +kernel) (pa_cons (pv 1) (pa_cons (pe_glob (v := .ref Z.c_Form) (by rfl) T.g_Form rfl) pa_nil))) (pe_and (pe_cmpR op_eq (pe_fld (pv 0) rfl) (pe_fld (pv 1) rfl) (nomark _)) (pe_one (pe_cmpR (DTx.op_eqT hu) (pe_fld (pv 0) rfl) (pe_fld (pv 1) rfl) (nomark _))))))), ?_⟩
    refine Eg.w_sig (σ := [some (.ref a), some y]) rfl ?_
    walk_at "go"
    cases he with
    | int i =>
      refine Eg.c_isi (.own _) (.base (.int i)) T.ki_Form_int ?_
      walk_at "go"
      exact q
    | @tup b xs hb =>
      refine Eg.c_isi (.own _) (.base (.tup hb)) T.ki_Form_tuple ?_
      walk_at "go"
      exact q
    | @form b st2 rs hf =>
      obtain ⟨dy, e, hb, he⟩ := hf
      have lk3 := lk_start st2 e
      have lk4 := lk_steps st2 e
      refine Eg.c_isi (.own _) (.base (T.i_Form hb)) (b := true) (by unfold PySem.W.kitOne; rw [if_pos (beq_self_eq_true _)]) ?_
      walk_at "go"
      by_cases hs : st = st2
      · rw [decide_eq_true (show V.int st = V.int st2 by rw [hs])]
        walk_at "go"
        refine ⟨d, e, enc qs, enc rs, rfl, rfl, .inl hd, .inl he, enc_int _, enc_int _, ?_⟩
        rw [decide_eq_true hs] at q
        walk_at "go"
        rw [if_neg Bool.false_ne_true]
        exact q
      · rw [decide_eq_false (show ¬ V.int st = V.int st2 from fun z => hs (V.int.inj z))]
        rw [decide_eq_false hs] at q
        walk_at "go"
        exact q
theorem ok_Form_str (T : Txt K mg Z) : Gd.FnG P w K mg base CX0 1 Z.a_Form_str Z.d_Form_str ["self"] (sp_Form_str Z.c_Form) := by
  refine Gd.Fun.okG T.F_Form_str sc_Form_str (fun vs H Q E h => ?_) (fun cdv A outer s H vs Q E hr stl h => ?_)
  · obtain ⟨p, st, qs, rfl, _⟩ := h
    rfl
  · obtain ⟨p, st, qs, rfl, ⟨dx, d, hp, hd⟩, k3, hst, hsm, q⟩ := h
    have hu := hu_of hr
    have nd := sc_Form_str.nd
    have cF := T.cl_Form
    have n1 := T.n_Form_start
    have n2 := T.n_Form_steps
    have lk1 := lk_start st d
    have lk2 := lk_steps st d
    refine ⟨_, (pss_cons (ps_set (i := 1) nd rfl (Or.inl rfl) (pe_lst (pa_cons (pe_callTy Es.cr_strI (by rfl) T.u_str (by decide +kernel) (pa_cons (pe_fld (pv 0) rfl) pa_nil)) pa_nil)))
  (pss_cons (ps_for PassesOwn.never rfl (pi_list (pe_callB (DTx.cr_sortedD rfl) (by rfl) T.u_sorted (by decide +kernel) (pa_cons (pe_fld (pv 0) rfl) pa_nil))) (pg_name (i := 2) nd rfl (Or.inl rfl))
  (pss_cons (ps_set (i := 3) nd rfl (Or.inl rfl) (pe_dget hu (pe_fld (pv 0) rfl) (pv 2) (fun _ _ => rfl)))
  (C8.pss_cut (ps_set (i := 4) nd rfl (Or.inl rfl) (pe_ifExp (pt_cmpR op_lt (pv 3) pe_int (nomark _)) pe_str pe_str))
  (pss_one (ps_expr (pe_bm PySem.F.plainAttrs_list PySem.F.slot_list_append PySem.F.type_list_append mt_append (pv 1) (pa_cons (pe_joined (.cons pe_str (.cons (pe_fmt (pv 4)) (.cons pe_str (.cons (pe_fmt (pe_callB Eg.cr_abs (by rfl) T.u_abs (by decide +kernel) (pa_cons (pv 3) pa_nil))) (.cons pe_str (.cons (Gd.pe_fmtD stl (Gd.u70 hr) (pv 2)) .nil))))))) pa_nil)))))))
  (pss_one (ps_ret (pe_join pe_str (pv 1)))))), ?_⟩
    refine Eg.w_sig (σ := [some (.ref p), none, none, none, none]) rfl ?_
    walk_at "go"
    intro l hl
    walk_at "go"
    have e : enc qs = (qs.map fun y => (y.1, V.int y.2)).map fun y => (y.1.map Sum.inl, y.2) := by
      rw [List.map_map]
      rfl
    have hdl : d ≠ l := fun z => by rw [z, hl] at hd; cases hd
    have hpl : p ≠ l := fun z => by rw [z, hl] at hp; cases hp
    have hd1 : upd H l (.lst [V.str (Fs.tI st)]) d = some (.dT (enc qs)) := Eg.upd_mut hdl hd
    have hp1 : upd H l (.lst [V.str (Fs.tI st)]) p = some (.ins Z.c_Form dx (fldsF st d)) := Eg.upd_mut hpl hp
    have hl1 : upd H l (.lst [V.str (Fs.tI st)]) l = some (.lst [V.str (Fs.tI st)]) := upd_same
    have sm1 : Same H (upd H l (.lst [V.str (Fs.tI st)])) := fun b o z => Eg.upd_old z hl
    have e2 := hd1
    rw [e] at e2
    refine ⟨d, qs.map fun y => (y.1, V.int y.2), 3, 3, rfl, .inl e2, ?_, by decide, fun y hy => ?_, fun L m h1 h2 h3 h4 => ?_⟩
    · rw [List.length_map]
      have := k3.sz
      omega
    · obtain ⟨z, hz, rfl⟩ := List.mem_map.mp hy
      exact k3.s3 z hz
    · rw [List.map_map] at h1
      have h1 : (L.map (·.2)).Perm (qs.map (·.1)) := h1
      generalize upd H l (.lst [V.str (Fs.tI st)]) = H1 at hd1 hp1 hl1 sm1 h3 h4 ⊢
      clear e2 hd hp e
      have hml : m ≠ l := fun z => by rw [z, hl1] at h4; cases h4
      have sm2 : Same H1 (upd H1 m (.lst (L.map fun q => V.ref q.1))) := fun b o z => Eg.upd_old z h4
      have hm2 : upd H1 m (.lst (L.map fun q => V.ref q.1)) m = some (.lst (L.map fun q => V.ref q.1)) := upd_same
      have hp2 := sm2 _ _ hp1
      have hd2 := sm2 _ _ hd1
      have hl2 := sm2 _ _ hl1
      have hL2 : ∀ q ∈ L, upd H1 m (.lst (L.map fun q => V.ref q.1)) q.1 = some (.tup (q.2.map V.int)) := fun q hq => sm2 _ _ (h3 q hq)
      have sm3 := sm1.trans sm2
      generalize upd H1 m (.lst (L.map fun q => V.ref q.1)) = H2 at sm3 hm2 hp2 hd2 hl2 hL2 ⊢
      clear sm1 sm2 hp1 hd1 hl1 h3 h4 H1
      have hlen : L.length = qs.length := by have := h1.length_eq; rw [List.length_map, List.length_map] at this; exact this
      have hsz := k3.sz
      walk_at "go"
      have klen : (L.map (·.2)).length = L.length := List.length_map ..
      refine for_it (walk_list (xs := L.map fun q => V.ref q.1)) (fun j σ' H' => ∃ v2 v3 v4, σ' = [some (.ref p), some (.ref l), v2, v3, v4] ∧ H' l = some (.lst (V.str (Fs.tI st) :: ((L.map (·.2)).take j).map fun k => V.str (Fs.partS k (gt qs k)))) ∧ ∀ b o, H2 b = some o → b ≠ l → H' b = some o) ⟨none, none, none, rfl, by rw [List.take_zero]; exact hl2, fun b o z _ => z⟩ ?_ ?_ ?_
      · rintro j _ _ _ ⟨v2, v3, v4, rfl, _, fr⟩
        exact SqL.of (fr _ _ hm2 hml)
      · rintro j y _ _ H3 hj ⟨v2, v3, v4, rfl, hl3, fr⟩ ⟨rfl, hy⟩
        rw [List.length_map] at hj
        rw [List.getElem?_map] at hy
        obtain ⟨⟨t, k⟩, hq, rfl⟩ := Option.map_eq_some_iff.mp hy
        have hmem := List.mem_of_getElem? hq
        have ht := fr _ _ (hL2 _ hmem) (ne_of (hL2 _ hmem) hl2 (fun z => nomatch z))
        have hkm : k ∈ qs.map (·.1) := h1.mem_iff.mp (List.mem_map.mpr ⟨_, hmem, rfl⟩)
        obtain ⟨⟨k', z⟩, hy', hkk⟩ := List.mem_map.mp hkm
        have hkk : k' = k := hkk
        subst hkk
        have gz : getI qs k' = some z := getI_mem k3.nd hy'
        have hz : z.natAbs < 1000000 := hsm _ hy'
        have sm : Fs.small k' := Fs.small_of (k3.s3 _ hy')
        have hp3 := fr _ _ hp2 hpl
        have hd3 := fr _ _ hd2 hdl
        have dg := dget_some (.inl hd3) ht gz
        have eg : gt qs k' = z := by unfold gt; rw [gz]; rfl
        walk_at "go"
        refine ⟨d, _, rfl, dg, ?_⟩
        walk_at "go"
        refine ⟨fun σ' H' => σ' = [some (.ref p), some (.ref l), some (.ref t), some (.int z), some (.str (Fs.signS z))] ∧ H3 = H', ?_, ?_⟩
        · walk_at "go"
          exact ⟨rfl, rfl⟩
        · rintro _ _ ⟨rfl, rfl⟩
          have za : z.natAbs < 1000000000 := by omega
          have zb : (if z < 0 then -z else z).natAbs < 1000000000 := by split <;> omega
          have zl := Fs.tI_len zb
          walk_at "go"
          refine ⟨t, .tuple (k'.map .int), rfl, Fs.dp_all ht, Fs.showable_all sm, Fs.nodict_all _, Fs.depth_all _, ?_, ?_⟩
          · rw [Fs.shown_all]
            have := Fs.tupS_len sm
            rw [sizeLine_eq]
            omega
          · rw [Fs.shown_all]
            have ul := Fs.tupS_len sm
            walk_at "go"
            refine Eg.w_append hl3 ?_ ?_
            · rw [List.length_cons, List.length_map, List.length_take]
              omega
            · have hj' : j < (L.map (·.2)).length := by omega
              have hkj : (L.map (·.2))[j] = k' := by rw [List.getElem_map]; exact congrArg (·.2) (List.getElem?_eq_some_iff.mp hq).2
              walk_at "go"
              refine ⟨_, _, _, rfl, ?_, fun b o z1 z2 => Eg.upd_mut z2 (fr b o z1 z2)⟩
              rw [upd_same, List.take_succ_eq_append_getElem hj', hkj, List.map_append, ← List.cons_append, List.map_cons, List.map_nil]
              unfold Fs.partS
              rw [eg]
      · rintro _ H3 ⟨v2, v3, v4, rfl, hl3, fr⟩
        walk_at "go"
        rw [List.length_map, ← klen, List.take_length] at hl3
        have kk : ∀ k ∈ L.map (·.2), Fs.small k ∧ (gt qs k).natAbs < 1000000000 := fun k hk => by
          obtain ⟨⟨k', z⟩, hy', hkk⟩ := List.mem_map.mp (h1.mem_iff.mp hk)
          have hkk : k' = k := hkk
          subst hkk
          have hz : z.natAbs < 1000000 := hsm _ hy'
          refine ⟨Fs.small_of (k3.s3 _ hy'), ?_⟩
          unfold gt
          rw [getI_mem k3.nd hy']
          show z.natAbs < 1000000000
          omega
        refine Es.jn_leaf (ys := Fs.tI st :: (L.map (·.2)).map fun k => Fs.partS k (gt qs k)) (.inl (SqL.of ?_)) ?_ ?_
        · rw [hl3, List.map_cons, List.map_map (g := V.str)]
          rfl
        · have := Fs.sum_le (fun x : Str => x.length) 60 (l := Fs.tI st :: (L.map (·.2)).map fun k => Fs.partS k (gt qs k)) fun x hx => by
            rcases List.mem_cons.mp hx with rfl | hx
            · have := Fs.tI_len (i := st) (by omega)
              exact Nat.le_trans this (by decide)
            · obtain ⟨k, hk, rfl⟩ := List.mem_map.mp hx
              exact Fs.partS_len (kk k hk).1 (kk k hk).2
          have e0 : (Str.ofString "").length = 0 := by decide +kernel
          rw [e0, Nat.mul_zero]
          rw [List.length_cons, List.length_map] at this
          omega
        · rw [Fs.join_shown]
          exact q _ _ h1 (by rw [List.pairwise_map]; exact h2) fun b o z => fr b o (sm3 b o z) (fun e => by rw [e, hl] at z; cases z)
theorem ok_l_shown (T : Txt K mg Z) : FnOk P w K mg base CX0 1 Z.a_l_shown Z.d_l_shown ["_law_start", "_law_found"] sp_l_shown := by
  refine T.F_l_shown.ok sc_l_shown (fun vs H Q E h => ?_) (fun cdv A outer s H vs Q E hr h => ?_)
  · obtain ⟨d, st, fs, rfl, _⟩ := h
    rfl
  · obtain ⟨d, st, fs, rfl, hd, k3, hst, hsm, q⟩ := h
    have hu := hu_of hr
    have nd := sc_l_shown.nd
    refine ⟨_, (pss_cons (ps_set (i := 2) nd rfl (Or.inl rfl) (pe_callTy Es.cr_strI (by rfl) T.u_str (by decide +kernel) (pa_cons (pv 0) pa_nil)))
  (pss_cons (ps_for PassesOwn.never rfl (pi_list (pe_callB (DTx.cr_sortedD rfl) (by rfl) T.u_sorted (by decide +kernel) (pa_cons (pv 1) pa_nil))) (pg_name (i := 3) nd rfl (Or.inl rfl))
  (pss_one (ps_if (pt_cmpR op_ne (pe_dget hu (pv 1) (pv 3) (fun _ _ => rfl)) pe_int (nomark _))
  (pss_cons (ps_set (i := 2) nd rfl (Or.inl rfl) (pe_op Es.op_addS (pe_op Es.op_addS (pe_op Es.op_addS (pv 2) (pe_ifExp (pt_cmpR op_lt (pe_dget hu (pv 1) (pv 3) (fun _ _ => rfl)) pe_int (nomark _)) pe_str pe_str)) (pe_callTy Es.cr_strI (by rfl) T.u_str (by decide +kernel) (pa_cons (pe_callB Eg.cr_abs (by rfl) T.u_abs (by decide +kernel) (pa_cons (pe_dget hu (pv 1) (pv 3) (fun _ _ => rfl)) pa_nil)) pa_nil))) pe_str))
  (pss_one (ps_set (i := 2) nd rfl (Or.inl rfl) (pe_op Es.op_addS (pe_op Es.op_addS (pe_op Es.op_addS (pv 2) pe_str) (pe_join pe_str (pe_lc (own := [("_law_one", 4)]) rfl nd (pi_tup (pv 3)) (blkOk_by (N := N_l_shown) (sc := defScope s_l_shown) (by decide +kernel)) (fun _ _ _ _ _ => (pg_name (i := 4) nd rfl (Or.inl rfl))) (fun _ _ _ _ _ => pts_nil) (fun _ _ _ _ _ => (Eg.peE (pe_callTy Es.cr_strI (by rfl) T.u_str (by decide +kernel) (pa_cons (pv 4) pa_nil)) (by walk_at "blk")))))) pe_str))))
  pss_nil)))
  (pss_one (ps_ret (pv 2))))), ?_⟩
    refine Eg.w_sig (σ := [some (.int st), some (.ref d), none, none, none]) rfl ?_
    walk_at "go"
    have e2 := hd
    rw [show enc fs = (fs.map fun y => (y.1, V.int y.2)).map fun y => (y.1.map Sum.inl, y.2) by rw [List.map_map]; rfl] at e2
    refine ⟨d, fs.map fun y => (y.1, V.int y.2), 3, 3, rfl, .inl e2, ?_, by decide, fun y hy => ?_, fun L m h1 h2 h3 h4 => ?_⟩
    · rw [List.length_map]
      have := k3.sz
      omega
    · obtain ⟨z, hz, rfl⟩ := List.mem_map.mp hy
      exact k3.s3 z hz
    · rw [List.map_map] at h1
      have h1 : (L.map (·.2)).Perm (fs.map (·.1)) := h1
      clear e2
      have sm2 : Same H (upd H m (.lst (L.map fun q => V.ref q.1))) := fun b o z => Eg.upd_old z h4
      have hm2 : upd H m (.lst (L.map fun q => V.ref q.1)) m = some (.lst (L.map fun q => V.ref q.1)) := upd_same
      have hd2 := sm2 _ _ hd
      have hL2 : ∀ q ∈ L, upd H m (.lst (L.map fun q => V.ref q.1)) q.1 = some (.tup (q.2.map V.int)) := fun q hq => sm2 _ _ (h3 q hq)
      generalize upd H m (.lst (L.map fun q => V.ref q.1)) = H2 at sm2 hm2 hd2 hL2 ⊢
      clear h3 h4
      have hlen : L.length = fs.length := by have := h1.length_eq; rw [List.length_map, List.length_map] at this; exact this
      have hsz := k3.sz
      have klen : (L.map (·.2)).length = L.length := List.length_map ..
      walk_at "go"
      have kk : ∀ k ∈ L.map (·.2), Fs.small k ∧ (gt fs k).natAbs < 1000000000 := fun k hk => by
        obtain ⟨⟨k', z⟩, hy', hkk⟩ := List.mem_map.mp (h1.mem_iff.mp hk)
        have hkk : k' = k := hkk
        subst hkk
        have hz : z.natAbs < 1000000 := hsm _ hy'
        refine ⟨Fs.small_of (k3.s3 _ hy'), ?_⟩
        unfold gt
        rw [getI_mem k3.nd hy']
        show z.natAbs < 1000000000
        omega
      refine for_it (walk_list (xs := L.map fun q => V.ref q.1)) (fun j σ' H' => ∃ v3 v4, σ' = [some (.int st), some (.ref d), some (.str (Fs.shownS st (((L.map (·.2)).take j).filter fun k => decide (gt fs k ≠ 0)) (gt fs))), v3, v4] ∧ Same H2 H') ⟨none, none, rfl, Same.refl _⟩ ?_ ?_ ?_
      · rintro j _ _ _ ⟨v3, v4, rfl, fr⟩
        exact SqL.of (fr _ _ hm2)
      · rintro j y _ _ H3 hj ⟨v3, v4, rfl, fr⟩ ⟨rfl, hy⟩
        rw [List.length_map] at hj
        rw [List.getElem?_map] at hy
        obtain ⟨⟨t, k⟩, hq, rfl⟩ := Option.map_eq_some_iff.mp hy
        have hmem := List.mem_of_getElem? hq
        have ht : H3 t = some (.tup (k.map V.int)) := fr _ _ (hL2 _ hmem)
        have hkm : k ∈ fs.map (·.1) := h1.mem_iff.mp (List.mem_map.mpr ⟨_, hmem, rfl⟩)
        obtain ⟨⟨k', z⟩, hy', hkk⟩ := List.mem_map.mp hkm
        have hkk : k' = k := hkk
        subst hkk
        have gz : getI fs k' = some z := getI_mem k3.nd hy'
        have hz : z.natAbs < 1000000 := hsm _ hy'
        have sm : Fs.small k' := Fs.small_of (k3.s3 _ hy')
        have hd3 := fr _ _ hd2
        have dg := dget_some (.inl hd3) ht gz
        have eg : gt fs k' = z := by unfold gt; rw [gz]; rfl
        have hj' : j < (L.map (·.2)).length := by omega
        have hkj : (L.map (·.2))[j] = k' := by rw [List.getElem_map]; exact congrArg (·.2) (List.getElem?_eq_some_iff.mp hq).2
        rw [List.take_succ_eq_append_getElem hj', hkj, List.filter_append]
        have sl : (Fs.shownS st (((L.map (·.2)).take j).filter fun k => decide (gt fs k ≠ 0)) (gt fs)).length ≤ 100000 := by
          have l1 := List.length_filter_le (fun k => decide (gt fs k ≠ 0)) ((L.map (·.2)).take j)
          rw [List.length_take] at l1
          have := Fs.shownS_len (st := st) (ks := ((L.map (·.2)).take j).filter fun k => decide (gt fs k ≠ 0)) (f := gt fs) (by omega) fun k hk => kk k (List.mem_of_mem_take (List.mem_filter.mp hk).1)
          omega
        have sn : ∀ ks : List (List Int), Fs.shownS st (ks ++ [k']) (gt fs) = Fs.shownS st ks (gt fs) ++ Fs.partS k' (gt fs k') := fun ks => Fs.shownS_snoc st ks k' (gt fs)
        rw [eg] at sn
        walk_at "go"
        refine ⟨d, _, rfl, dg, ?_⟩
        walk_at "go"
        refine Eg.brDn (fun hne => ?_) (fun he => ?_)
        · have z0 : z ≠ 0 := fun e => hne (by rw [e])
          rw [List.filter_cons_of_pos (by rw [eg]; exact decide_eq_true z0), List.filter_nil, sn]
          generalize Fs.shownS st (((L.map (·.2)).take j).filter fun k => decide (gt fs k ≠ 0)) (gt fs) = acc at sl ⊢
          have zb : (if z < 0 then -z else z).natAbs < 1000000000 := by split <;> omega
          have zl := Fs.tI_len zb
          have par1 : (Str.ofString "(").length = 1 := by decide +kernel
          have par2 : (Str.ofString ")").length = 1 := by decide +kernel
          have comma : (Str.ofString ", ").length = 2 := by decide +kernel
          have sgl : (if decide (z < 0) = true then Str.ofString " - " else Str.ofString " + ").length = 3 := by split <;> decide +kernel
          walk_at "go"
          refine ⟨d, _, rfl, dg, ?_⟩
          walk_at "go"
          refine ⟨d, _, rfl, dg, ?_⟩
          walk_at "gw"
          refine Es.map_tup (G := V.int) (F := fun i => V.str (Fs.tI i)) (SqT.of ht) (by rw [sm.1]; decide) (fun R h => ?_) (fun H' e => SqT.of (e _ _ ht)) (fun H' x R e hx h => ?_) (fun D H' hD e hDl => ?_)
          · walk_at "go"
            exact h
          · have xb := sm.2 x hx
            walk_at "go"
            exact h
          · have jl := Fs.sum_le (fun x : Str => x.length) 10 (l := k'.map Fs.tI) fun x hx => by
              obtain ⟨i, hi, rfl⟩ := List.mem_map.mp hx
              exact Fs.tI_len (sm.2 i hi)
            rw [List.length_map, sm.1] at jl
            refine Es.jn_leaf (ys := k'.map Fs.tI) (.inl (SqL.of (by rw [hDl, List.map_map]; rfl))) (by rw [List.length_map, sm.1, comma]; omega) ?_
            have jl2 : (Txt.join (Str.ofString ", ") (k'.map Fs.tI)).length ≤ 1000 := by
              rw [TL.join_eq]
              have := PySem.StrLaws.join_length_le ", " (k'.map Fs.tI)
              rw [List.length_map, sm.1, comma] at this
              omega
            walk_at "go"
            refine ⟨some (.ref t), v4, ?_, fr.trans e⟩
            rw [← Fs.tail_part acc z sm.1]
            rfl
        · have z0 : z = 0 := V.int.inj he
          rw [List.filter_cons_of_neg (by rw [eg, z0]; decide), List.filter_nil, List.append_nil]
          walk_at "go"
          exact ⟨_, _, rfl, fr⟩
      · rintro _ H3 ⟨v3, v4, rfl, fr⟩
        walk_at "go"
        rw [List.length_map, ← klen, List.take_length]
        exact q _ _ h1 (by rw [List.pairwise_map]; exact h2) (sm2.trans fr)
end
end LW

namespace LW
open PySem L2 Sm

/-- the form p says what fs says -/
structure Says (C : Addr) (H : Hp) (p : Addr) (st : Int) (qs fs : DI) : Prop where
  at_ : FormAt C H p st qs
  good : Good qs
  k3 : Keys3 fs
  gt : ∀ k, gt qs k = gt fs k
  sst : st.natAbs < 1000000
  sfs : ∀ y ∈ fs, y.2.natAbs < 1000000
theorem Says.sqs {C : Addr} {H : Hp} {p : Addr} {st : Int} {qs fs : DI} (h : Says C H p st qs fs) : ∀ y ∈ qs, y.2.natAbs < 1000000 := fun y hy => by
  have e : Sm.gt qs y.1 = y.2 := gt_mem h.good.nd hy
  rw [h.gt] at e
  rw [← e]
  unfold Sm.gt
  cases hg : getI fs y.1 with
  | none => decide
  | some z => exact h.sfs _ (mem_getI hg)
def sp_l_is_read (C : Addr) : Sp := fun vs H Q _ => ∃ (p d : Addr) (st : Int) (qs fs : DI), vs = [.ref p, .int st, .ref d] ∧ Says C H p st qs fs ∧ H d = some (.dT (enc fs)) ∧ ∀ H', Same H H' → Q (.bl true) H'
section
variable {P : Program} {w : World} {K : PySem.W.Frag} {mg : Str → Option Value} {base : Heap} {Z : Ad}
theorem ok_l_is_read (T : Txt K mg Z) : Gd.FnG P w K mg base CX0 4 Z.a_l_is_read Z.d_l_is_read ["_law_form", "_law_start", "_law_found"] (sp_l_is_read Z.c_Form) := by
  refine Gd.Fun.okG T.F_l_is_read sc_l_is_read (fun vs H Q E h => ?_) (fun cdv A outer s H vs Q E hr stl h => ?_)
  · obtain ⟨p, d, st, qs, fs, rfl, _⟩ := h
    rfl
  · obtain ⟨p, d, st, qs, fs, rfl, sy, hd, q⟩ := h
    obtain ⟨F, gd, k3, hg, sst, sfs⟩ := id sy
    have hu := hu_of hr
    have nd := sc_l_is_read.nd
    have cF := T.cl_Form
    have n1 := T.n_Form_start
    obtain ⟨dx, e, hp, he⟩ := id F
    have lk1 := lk_start st e
    have lk3 := lk_sorts st e
    have sz := k3.sz
    refine ⟨_, (pss_cons (ps_if (PW.pt (pw_or (pt_not (pt_val (pe_call (ok_l_is_integer T) (hr.mono (by decide)) (by rfl) T.g_l_is_integer T.F_l_is_integer.kp T.b_l_is_integer .nil pass0 (pa_cons (pe_fld (pv 0) rfl) pa_nil)))) (pw_or1 (pt_cmpR op_ne (pe_fld (pv 0) rfl) (pv 1) (nomark _)))))
  (pss_one (ps_ret pe_bl))
  pss_nil)
  (pss_cons (ps_for PassesOwn.never rfl (pi_range1 (by rfl) T.u_range (pa_cons pe_int pa_nil)) (pg_name (i := 3) nd rfl (Or.inl rfl))
  (pss_cons (ps_set (i := 4) nd rfl (Or.inl rfl) (pe_tup (pa_cons (pe_op op_fdiv (pv 3) pe_int) (pa_cons (pe_op op_mod (pe_op op_fdiv (pv 3) pe_int) pe_int) (pa_cons (pe_op op_mod (pv 3) pe_int) pa_nil)))))
  (pss_one (ps_if (PW.pt (pw_or (pt_not (pt_val (pe_call (ok_l_is_integer T) (hr.mono (by decide)) (by rfl) T.g_l_is_integer T.F_l_is_integer.kp T.b_l_is_integer .nil pass0 (pa_cons (Ow.pe_ixOwn (ok_Form_getitem T) (hr.mono (by decide)) T.m_Form_getitem T.fi_Form_getitem T.b_Form_getitem pass0 (pv 0) (pv 4)) pa_nil)))) (pw_or1 (pt_cmpR op_ne (Ow.pe_ixOwn (ok_Form_getitem T) (hr.mono (by decide)) T.m_Form_getitem T.fi_Form_getitem T.b_Form_getitem pass0 (pv 0) (pv 4)) (pe_dget2 hu (pv 2) (pv 4) pe_int ⟨rfl, rfl, rfl, rfl⟩) (nomark _)))))
  (pss_one (ps_ret pe_bl))
  pss_nil))))
  (pss_cons (ps_set (i := 5) nd rfl (Or.inl rfl) (pe_callB DTx.cr_sortedT (by rfl) T.u_sorted (by decide +kernel) (pa_cons (pe_lock (pe_lc (own := [("_law_sort", 4)]) rfl nd (pi_keys (pv 2)) (blkOk_by (N := N_l_is_read) (sc := defScope s_l_is_read) (by decide +kernel)) (fun _ _ _ _ _ => (pg_name (i := 4) nd rfl (Or.inl rfl))) (fun _ _ _ _ _ => (Eg.ptsE (pts_one (pt_cmpR op_ne (pe_dget hu (pv 2) (pv 4) (fun _ _ => rfl)) pe_int (nomark _))) (by walk_at "blk"))) (fun _ _ _ _ _ => (Eg.peE (pv 4) (by walk_at "blk"))))) pa_nil)))
  (pss_cons (ps_set (i := 6) nd rfl (Or.inl rfl) (pe_meth0 (pv 0) T.cl_Form T.m_Form_sorts (ok_Form_sorts T) (hr.mono (by decide)) T.b_Form_sorts .nil pass0))
  (pss_cons (ps_if (PW.pt (pw_or (pt_not (pt_val (pe_callB call_isi (by rfl) T.u_isinstance (by decide +kernel) (pa_cons (pv 6) (pa_cons (pe_bltn (v := .ty "list") (u := .type "list") (by rfl) T.u_list (by decide +kernel) rfl) pa_nil))))) (pw_or (pt_cmpR (op_neD hr.units) (pv 6) (pv 5) (nomark _)) (pw_or1 (pt_cmpR op_ne (pe_callB (Ow.cr_ownLen (ok_Form_len T) (hr.mono (by decide)) T.m_Form_len T.b_Form_len pass0) (by rfl) T.u_len (by decide +kernel) (pa_cons (pv 0) pa_nil)) (pe_callB Eg.cr_len (by rfl) T.u_len (by decide +kernel) (pa_cons (pv 5) pa_nil)) (nomark _))))))
  (pss_one (ps_ret pe_bl))
  pss_nil)
  (pss_cons (ps_expr (pe_bm PySem.F.plainAttrs_list PySem.F.slot_list_append PySem.F.type_list_append mt_append (pv 6) (pa_cons (pe_tup (pa_cons pe_int (pa_cons pe_int (pa_cons pe_int pa_nil)))) pa_nil)))
  (pss_one (ps_ret (pe_and (pe_cmpR (op_eqD hr.units) (pe_meth0 (pv 0) T.cl_Form T.m_Form_sorts (ok_Form_sorts T) (hr.mono (by decide)) T.b_Form_sorts .nil pass0) (pv 5) (nomark _)) (pe_one (pe_cmpR op_eq (pe_callTy (Gd.cr_ownStr (ok_Form_str T) (hr.mono (by decide)) stl T.m_Form_str T.b_Form_str pass0) (by rfl) T.u_str (by decide +kernel) (pa_cons (pv 0) pa_nil)) (pe_call (ok_l_shown T) (hr.mono (by decide)) (by rfl) T.g_l_shown T.F_l_shown.kp T.b_l_shown .nil pass0 (pa_cons (pv 1) (pa_cons (pv 2) pa_nil))) (nomark _)))))))))))), ?_⟩
    refine Eg.w_sig (σ := [some (.ref p), some (.int st), some (.ref d), none, none, none, none]) rfl ?_
    walk_at "go"
    refine ⟨_, rfl, true, rfl, ?_⟩
    refine Eg.brF rfl ?_
    walk_at "go"
    refine Eg.brF (by rw [decide_eq_true (show V.int st = V.int st from rfl)]; rfl) ?_
    walk_at "go"
    refine for_range (lo := 0) (fun i σ' H' => ∃ v3 v4 v5 v6, σ' = [some (.ref p), some (.int st), some (.ref d), v3, v4, v5, v6] ∧ Same H H') ⟨_, _, _, _, rfl, Same.refl _⟩ ?_ ?_
    · rintro i _ H1 hi ⟨v3, v4, v5, v6, rfl, s1⟩
      walk_at "go"
      intro t ht
      have h2t : upd H1 t (.tup [V.int ((0 + (i : Int)) / 6), V.int ((0 + (i : Int)) / 2 % 3), V.int ((0 + (i : Int)) % 2)]) t = some (.tup ([(0 + (i : Int)) / 6, (0 + (i : Int)) / 2 % 3, (0 + (i : Int)) % 2].map V.int)) := upd_same
      have s2 : Same H (upd H1 t (.tup [V.int ((0 + (i : Int)) / 6), V.int ((0 + (i : Int)) / 2 % 3), V.int ((0 + (i : Int)) % 2)])) := fun b o z => Eg.upd_old (s1 b o z) ht
      generalize upd H1 t (.tup [V.int ((0 + (i : Int)) / 6), V.int ((0 + (i : Int)) / 2 % 3), V.int ((0 + (i : Int)) % 2)]) = H2 at h2t s2 ⊢
      generalize [(0 + (i : Int)) / 6, (0 + (i : Int)) / 2 % 3, (0 + (i : Int)) % 2] = k at h2t
      have F2 := (F.keep s2).rd
      have hp2 := s2 _ _ hp
      have hd2 := s2 _ _ hd
      walk_at "go"
      refine Ow.c_ownIx hp2 ⟨p, t, st, qs, k, rfl, F2, h2t, ?_⟩
      walk_at "go"
      refine ⟨_, rfl, true, rfl, ?_⟩
      refine Eg.brF rfl ?_
      walk_at "go"
      refine Ow.c_ownIx hp2 ⟨p, t, st, qs, k, rfl, F2, h2t, ?_⟩
      walk_at "go"
      refine Ow.w_dget2 ?_
      walk_at "go"
      refine Ow.c_dget2T (.inl hd2) ?_
      walk_at "go"
      refine ⟨_, dget_enc (.inl hd2) h2t, ?_⟩
      rw [getD_gt]
      walk_at "go"
      refine Eg.brF (by rw [decide_eq_true (show V.int (gt qs k) = V.int (gt fs k) by rw [hg])]; rfl) ?_
      walk_at "go"
      exact ⟨_, _, _, _, rfl, s2⟩
    · rintro _ H1 ⟨v3, v4, v5, v6, rfl, s1⟩
      have hd1 := s1 _ _ hd
      walk_at "gw"
      refine Sl.lock_keysG (r := fs) (show 4 < 7 by decide) hd1 (by omega) (fun H' R fr h => ?_) (fun od H' k z t fr hc hm ht R hR => ?_) (fun D ys H2 hD s2 h2D ty => ?_)
      · walk_at "go"
        exact h
      · walk_at "go"
        refine ⟨d, _, rfl, dget_some (.inr ⟨od, hc⟩) ht (getI_mem k3.nd hm), ?_⟩
        walk_at "go"
        rw [show (!decide (V.int z = V.int 0)) = decide (z ≠ 0) by by_cases h0 : z = 0 <;> simp [h0]]
        exact hR
      obtain ⟨L0, rfl, eL, hL0⟩ := Sl.tups_pairs ty
      have l0 : L0.length = (nz fs).length := by
        have := congrArg List.length eL
        simpa only [List.length_map] using this
      have lnz := k3.nz.sz
      walk_at "go"
      refine ⟨D, L0, 3, 3, rfl, SqL.of h2D, hL0, by omega, by decide, fun y hy => ?_, fun L' l' pm' pw' hl' => ?_⟩
      · have : y.2 ∈ (nz fs).map (·.1) := by rw [← eL]; exact List.mem_map.mpr ⟨y, hy, rfl⟩
        obtain ⟨x, hx, ex⟩ := List.mem_map.mp this
        rw [← ex]
        exact k3.nz.s3 x hx
      have s4 : Same H2 (upd H2 l' (.lst (L'.map fun q => V.ref q.1))) := Eg.same_new (Same.refl _) hl'
      have h4 : upd H2 l' (.lst (L'.map fun q => V.ref q.1)) l' = some (.lst (L'.map fun q => V.ref q.1)) := upd_same
      have hL4 : ∀ q ∈ L', upd H2 l' (.lst (L'.map fun q => V.ref q.1)) q.1 = some (.tup (q.2.map V.int)) := fun q hq => s4 _ _ (hL0 q (pm'.mem_iff.mp hq))
      generalize upd H2 l' (.lst (L'.map fun q => V.ref q.1)) = H4 at s4 h4 hL4 ⊢
      have s04 : Same H H4 := s1.trans (s2.trans s4)
      clear s2 s4 hl' h2D ty hL0
      walk_at "go"
      refine ⟨p, st, qs, rfl, F.keep s04, good_ok gd, fun L l pm pw hL hl => ?_⟩
      have sl1 : Same H4 (upd H4 l (.lst (L.map fun q => V.ref q.1))) := Eg.same_new (Same.refl _) hl
      have h5l : upd H4 l (.lst (L.map fun q => V.ref q.1)) l = some (.lst (L.map fun q => V.ref q.1)) := upd_same
      have h5 := sl1 _ _ h4
      have hl5 : l ≠ l' := fun z => by rw [z, h4] at hl; cases hl
      have hL5 : ∀ q ∈ L', upd H4 l (.lst (L.map fun q => V.ref q.1)) q.1 = some (.tup (q.2.map V.int)) := fun q hq => sl1 _ _ (hL4 q hq)
      have hM5 : ∀ q ∈ L, upd H4 l (.lst (L.map fun q => V.ref q.1)) q.1 = some (.tup (q.2.map V.int)) := fun q hq => sl1 _ _ (hL q hq)
      have hlH : H l = none := s04.free hl
      have s05 := s04.trans sl1
      generalize upd H4 l (.lst (L.map fun q => V.ref q.1)) = H5 at sl1 h5l h5 hL5 hM5 s05 ⊢
      have pmk : (L.map (·.2)).Perm (L'.map (·.2)) := by
        refine pm.trans ((good_perm gd k3.good fun k => by rw [gt_nz k3.nd, hg]).trans ?_)
        rw [← eL]
        exact (pm'.map _).symm
      have eq : L.map (·.2) = L'.map (·.2) := sorted_one pmk (fun k hk => by
        obtain ⟨x, hx, ex⟩ := List.mem_map.mp (pm.mem_iff.mp hk)
        rw [← ex]
        exact gd.s3 x hx) (List.pairwise_map.mpr pw) (List.pairwise_map.mpr pw')
      have pq := pm.length_eq
      have pq2 := congrArg List.length eq
      rw [List.length_map, List.length_map] at pq pq2
      have qz := gd.toKeys3.sz
      have hp5 := s05 _ _ hp
      walk_at "go"
      refine Eg.c_isi (.ty _) (.base (.lst h5l)) (b := true) rfl ?_
      walk_at "go"
      refine Eg.brF rfl ?_
      walk_at "go"
      refine DTx.c_neTL (SqL.of h5l) (Sl.pairs_tups hM5) (SqL.of h5) (Sl.pairs_tups hL5) ?_
      rw [decide_eq_true eq]
      walk_at "go"
      refine Eg.brF rfl ?_
      walk_at "go"
      refine Ow.c_ownLen hp5 ⟨p, st, qs, rfl, F.keep s05, (qs.length : Int), rfl, by omega, by omega, ?_⟩
      walk_at "go"
      refine Eg.brF (by rw [decide_eq_true (show V.int (qs.length : Nat) = V.int (L'.map fun q => V.ref q.1).length by rw [List.length_map, ← pq2, pq])]; rfl) ?_
      walk_at "go"
      intro t0 ht0
      have hlt0 : l ≠ t0 := fun z => by rw [z, ht0] at h5l; cases h5l
      have hl't0 : l' ≠ t0 := fun z => by rw [z, ht0] at h5; cases h5
      walk_at "go"
      have s6 : Same H (upd (upd H5 t0 (.tup [V.int 0, V.int 0, V.int 0])) l (.lst ((L.map fun q => V.ref q.1) ++ [V.ref t0]))) := fun b o z => Eg.upd_mut (fun e => by rw [e, hlH] at z; cases z) (Eg.upd_old (s05 b o z) ht0)
      have h6 : upd (upd H5 t0 (.tup [V.int 0, V.int 0, V.int 0])) l (.lst ((L.map fun q => V.ref q.1) ++ [V.ref t0])) l' = some (.lst (L'.map fun q => V.ref q.1)) := Eg.upd_mut hl5.symm (Eg.upd_old h5 ht0)
      have hL6 : ∀ q ∈ L', upd (upd H5 t0 (.tup [V.int 0, V.int 0, V.int 0])) l (.lst ((L.map fun q => V.ref q.1) ++ [V.ref t0])) q.1 = some (.tup (q.2.map V.int)) := fun q hq => Eg.upd_mut (fun e => by have := hL5 q hq; rw [e, h5l] at this; cases this) (Eg.upd_old (hL5 q hq) ht0)
      generalize upd (upd H5 t0 (.tup [V.int 0, V.int 0, V.int 0])) l (.lst ((L.map fun q => V.ref q.1) ++ [V.ref t0])) = H6 at s6 h6 hL6 ⊢
      have hp6 := s6 _ _ hp
      refine Eg.c_meth hp6 lk3 ?_
      walk_at "go"
      refine ⟨p, st, qs, rfl, F.keep s6, good_ok gd, fun M m pm2 pw2 hM hm => ?_⟩
      have sl1 : Same H6 (upd H6 m (.lst (M.map fun q => V.ref q.1))) := Eg.same_new (Same.refl _) hm
      have h7m : upd H6 m (.lst (M.map fun q => V.ref q.1)) m = some (.lst (M.map fun q => V.ref q.1)) := upd_same
      have s7 := s6.trans sl1
      have h7 := sl1 _ _ h6
      have hL7 : ∀ q ∈ L', upd H6 m (.lst (M.map fun q => V.ref q.1)) q.1 = some (.tup (q.2.map V.int)) := fun q hq => sl1 _ _ (hL6 q hq)
      have hM7 : ∀ q ∈ M, upd H6 m (.lst (M.map fun q => V.ref q.1)) q.1 = some (.tup (q.2.map V.int)) := fun q hq => sl1 _ _ (hM q hq)
      generalize upd H6 m (.lst (M.map fun q => V.ref q.1)) = H7 at s7 h7m h7 hL7 hM7 ⊢
      have eq2 : M.map (·.2) = L'.map (·.2) := (sorted_one (pm2.trans pm.symm) (fun k hk => by
        obtain ⟨x, hx, ex⟩ := List.mem_map.mp (pm2.mem_iff.mp hk)
        rw [← ex]
        exact gd.s3 x hx) (List.pairwise_map.mpr pw2) (List.pairwise_map.mpr pw)).trans eq
      walk_at "go"
      refine DTx.c_eqTL (SqL.of h7m) (Sl.pairs_tups hM7) (SqL.of h7) (Sl.pairs_tups hL7) ?_
      rw [decide_eq_true eq2]
      walk_at "go"
      refine ⟨p, dx, _, rfl, s7 _ _ hp, p, st, qs, rfl, F.keep s7, gd.toKeys3, sst, sy.sqs, fun ks H8 kp kw s8 => ⟨_, rfl, ?_⟩⟩
      walk_at "go"
      refine ⟨d, st, fs, rfl, s8 _ _ (s7 _ _ hd), k3, sst, sfs, fun ls H9 lp lw s9 => ?_⟩
      have eqs : Fs.shownS st ks (gt qs) = Fs.shownS st (ls.filter fun k => decide (gt fs k ≠ 0)) (gt fs) := by
        rw [show gt qs = gt fs from funext hg]
        refine congrArg (fun z => Fs.shownS st z (gt fs)) (sorted_one (perm_of (kp.nodup_iff.mpr gd.nd) ((lp.nodup_iff.mpr k3.nd).filter _) fun k => ?_) (fun k hk => ?_) kw (lw.filter _))
        · rw [kp.mem_iff, gd.mem, hg, List.mem_filter, lp.mem_iff, decide_eq_true_eq]
          refine ⟨fun h => ⟨?_, h⟩, fun h => h.2⟩
          by_cases hm : k ∈ fs.map (·.1)
          · exact hm
          · exact absurd (gt_none hm) h
        · obtain ⟨x, hx, ex⟩ := List.mem_map.mp (kp.mem_iff.mp hk)
          rw [← ex]
          exact gd.s3 x hx
      walk_at "go"
      rw [decide_eq_true (congrArg V.str eqs)]
      exact q _ (s7.trans (s8.trans s9))
end
end LW

namespace LW
open PySem L2 Sm

open Bf Bw
/-- one of some things of any kind -/
def sp_l_of : Sp := fun vs H Q _ => ∃ (a b : Addr) (k : Int) (xs : List V), vs = [.ref a, .ref b] ∧ BagAt H a k ∧ k ≤ 100000 ∧ H b = some (.lst xs) ∧ 0 < xs.length ∧ xs.length < 1000 ∧ b ≠ a ∧
  ∀ (v : V) (H' : Hp), v ∈ xs → BagAt H' a (k + 1) → (∀ c, c ≠ a → H' c = H c) → Q v H'
section
variable {P : Program} {w : World} {K : PySem.W.Frag} {mg : Str → Option Value} {base : Heap} {Z : Ad}
theorem ok_l_of (T : Txt K mg Z) : FnOk P w K mg base CX0 2 Z.a_l_of Z.d_l_of ["_law_bag_here", "_law_some"] sp_l_of := by
  refine T.F_l_of.ok sc_l_of (fun vs H Q E h => ?_) (fun cdv A outer s H vs Q E hr h => ?_)
  · obtain ⟨a, b, k, xs, rfl, _⟩ := h
    rfl
  · obtain ⟨a, b, k, xs, rfl, hb, hk, hs, h0, h1, hne, q⟩ := h
    refine ⟨_, (pss_one (ps_ret (pe_ix ix_list (pv 1) (pe_call (ok_l_take T) (hr.mono (by decide)) (by rfl) T.g_l_take T.F_l_take.kp T.b_l_take .nil pass0 (pa_cons (pv 0) (pa_cons (pe_callB Eg.cr_len (by rfl) T.u_len (by decide +kernel) (pa_cons (pv 1) pa_nil)) pa_nil))) (fun _ _ => rfl)))), ?_⟩
    refine Eg.w_sig (σ := [some (.ref a), some (.ref b)]) rfl ?_
    walk_at "go"
    refine ⟨a, k, _, rfl, hb, hk, by omega, by omega, fun r H' r0 r1 hb' fr => ?_⟩
    obtain ⟨j, rfl⟩ := Int.eq_ofNat_of_zero_le r0
    have hj : j < xs.length := by omega
    have hv : atI xs (j : Int) = some xs[j] := atI_nat (List.getElem?_eq_getElem hj)
    have hs' : H' b = some (.lst xs) := (fr b hne).trans hs
    walk_at "go"
    exact q _ H' (List.getElem_mem hj) hb' fr
end
end LW

namespace LW
open PySem L2 Sm

theorem BagAt.ne {H : Hp} {a b : Addr} {k : Int} {o : HO} (h : BagAt H a k) (e : H b = some o) (n : ∀ xs, o ≠ .lst xs) : b ≠ a := by
  obtain ⟨bs, hb⟩ := h.ob
  rintro rfl
  rw [hb] at e
  exact n _ (Option.some.inj e).symm
theorem BagAt.keep {H H' : Hp} {a : Addr} {k : Int} (h : BagAt H a k) (s : Same H H') : BagAt H' a k := by
  obtain ⟨bs, e⟩ := h.ob
  exact h.to ((s _ _ e).trans e.symm) (Int.le_refl _)
/-- kept but for the bag -/
def Kept (b : Addr) (H H' : Hp) : Prop := ∀ c o, H c = some o → c ≠ b → H' c = some o
theorem Kept.trans {b : Addr} {H H' H'' : Hp} (h : Kept b H H') (h' : Kept b H' H'') : Kept b H H'' := fun c o e n => h' c o (h c o e n) n
theorem Kept.of {b : Addr} {H H' : Hp} (h : Same H H') : Kept b H H' := fun c o e _ => h c o e
theorem Kept.fr {b : Addr} {H H' : Hp} (h : ∀ c, c ≠ b → H' c = H c) : Kept b H H' := fun c o e n => (h c n).trans e
def sp_law (K : PySem.W.Frag) : Sp := fun vs H Q _ => ∃ (a : Addr) (ns : List Int), vs = [.ref a] ∧ SqL K H a (ns.map V.int) ∧ ns.length ≤ 63 ∧ ∀ H', Q (.bl true) H'
/-- kept but for the bag and one dict -/
def Kept2 (b g : Addr) (H H' : Hp) : Prop := ∀ c o, H c = some o → c ≠ b → c ≠ g → H' c = some o
theorem Kept2.then {b g : Addr} {H H' H'' : Hp} (h : Kept2 b g H H') (h' : Kept b H' H'') : Kept2 b g H H'' := fun c o e n m => h' c o (h c o e n m) n
theorem tups_rev {H : Hp} : ∀ {xs : List V} {ks : List (List Int)}, TupsAt H xs ks → TupsAt H xs.reverse ks.reverse
  | [], [], .nil => .nil
  | x :: xs, k :: ks, .cons h r => by
    rw [List.reverse_cons, List.reverse_cons]
    exact TupsAt.app (tups_rev r) (.cons h .nil)
theorem gt_rev {ps : DI} (nd : (ps.map (·.1)).Nodup) (k : List Int) : gt ps.reverse k = gt ps k := by
  have e : ps.reverse.map (·.1) = (ps.map (·.1)).reverse := List.map_reverse ..
  have nd' : (ps.reverse.map (·.1)).Nodup := by rw [e]; exact (List.reverse_perm _).nodup_iff.mpr nd
  by_cases h : k ∈ ps.map (·.1)
  · obtain ⟨p, hp, rfl⟩ := List.mem_map.mp h
    rw [gt_mem nd hp, gt_mem nd' (List.mem_reverse.mpr hp)]
  · rw [gt_none h, gt_none (by rw [e]; exact fun z => h (List.mem_reverse.mp z))]
theorem zip_rev {ks : List (List Int)} {ns : List Int} (h : ks.length = ns.length) : ks.reverse.zip ns.reverse = (ks.zip ns).reverse := by
  rw [List.zip_eq_zipWith, List.zip_eq_zipWith, List.reverse_zipWith h]
/-- forms that part at k are told apart -/
theorem sameD_part {A B : DI} (ha : (A.map (·.1)).Nodup) (hb : (B.map (·.1)).Nodup) {k : List Int} (h : gt A k ≠ gt B k) : DTx.sameD (enc (nz A)) (enc (nz B)) = false := by
  rw [← Bool.not_eq_true]
  intro e
  unfold DTx.sameD at e
  rw [Bool.and_eq_true, List.all_eq_true, beq_iff_eq] at e
  obtain ⟨el, ea⟩ := e
  unfold enc at el
  rw [List.length_map, List.length_map] at el
  have all : ∀ p ∈ nz A, getI (nz B) p.1 = some p.2 := fun p hp => by
    have := ea _ (List.mem_map.mpr ⟨p, hp, rfl⟩)
    have h2 : valV (enc (nz B)) (ek p.1) = some (V.int p.2) := of_decide_eq_true this
    rw [val_enc] at h2
    obtain ⟨z, hz, hz2⟩ := Option.map_eq_some_iff.mp h2
    rw [hz, V.int.inj hz2]
  by_cases hk : gt A k = 0
  · have kb : k ∈ (nz B).map (·.1) := by
      rw [← getI_iff, getI_nz hb, if_neg (fun z => h (hk.trans z.symm))]
      rfl
    have ka : k ∉ (nz A).map (·.1) := by
      rw [← getI_none_iff, getI_nz ha, if_pos hk]
    have := nodup_len (k :: (nz A).map (·.1)) ((nz B).map (·.1)) (List.nodup_cons.mpr ⟨ka, nd_nz ha⟩) (fun x hx => by
      rcases List.mem_cons.mp hx with rfl | hx
      · exact kb
      · obtain ⟨p, hp, rfl⟩ := List.mem_map.mp hx
        rw [← getI_iff, all p hp]
        rfl)
    rw [List.length_cons, List.length_map, List.length_map] at this
    omega
  · have ka : k ∈ (nz A).map (·.1) := by
      rw [← getI_iff, getI_nz ha, if_neg hk]
      rfl
    obtain ⟨p, hp, rfl⟩ := List.mem_map.mp ka
    have e1 := all p hp
    have e2 := getI_mem (nd_nz ha) hp
    rw [getI_nz ha, if_neg hk] at e2
    rw [getI_nz hb] at e1
    split at e1
    · cases e1
    · exact h ((Option.some.inj e2).trans (Option.some.inj e1).symm)
def dsT (a : Addr) (Q : VK) (y : V) : VK := fun z H3 => ∃ (kvs : List (List Key × V)) (k : List Key) (b : Addr), H3 a = some (.dT kvs) ∧ y = .ref b ∧ H3 b = some (.tup (k.map kV)) ∧ kvs.length < sizeLine ∧
  (∀ v, valV kvs k = some v → Q v H3) ∧ (valV kvs k = none → Q z (upd H3 a (.dT (putK kvs k z))))
def dsK (a : Addr) (tx : TE) (σ : L2.St) (Q : VK) : VK := fun y H2 => tx σ H2 (dsT a Q y)
def dsL (ty tx : TE) (σ : L2.St) (Q : VK) : VK := fun x H1 => ∃ a, x = .ref a ∧ IsD H1 a ∧ ty σ H1 (dsK a tx σ Q)
theorem w_dset {td ty tx : TE} {σ : L2.St} {H : Hp} {Q : VK} (h : td σ H (dsL ty tx σ Q)) : DTx.tDSetT td ty tx σ H Q := h
theorem c_dset {ty tx : TE} {σ : L2.St} {H : Hp} {Q : VK} {a : Addr} (hd : IsD H a) (h : ty σ H (dsK a tx σ Q)) : dsL ty tx σ Q (.ref a) H := ⟨a, rfl, hd, h⟩
theorem c_dsK {tx : TE} {σ : L2.St} {H : Hp} {Q : VK} {a : Addr} {y : V} (h : tx σ H (dsT a Q y)) : dsK a tx σ Q y H := h
def Steady (ns : List Int) : Prop := ∀ n ∈ ns, n.natAbs ≤ 999
section
variable {P : Program} {w : World} {K : PySem.W.Frag} {mg : Str → Option Value} {base : Heap} {Z : Ad}
set_option maxHeartbeats 8000000 in
theorem ok_law (T : Txt K mg Z) : Gd.FnG P w K mg base CX0 6 Z.a_law Z.d_law ["_law_script"] (sp_law K) := by
  refine Gd.Fun.okG T.F_law sc_law (fun vs H Q E h => ?_) (fun cdv A outer s H0 vs Q E hr stl h => ?_)
  · obtain ⟨a, ns, rfl, _⟩ := h
    rfl
  · obtain ⟨a, sc, rfl, hS, hlen, q⟩ := h
    have nd := sc_law.nd
    have hu := hu_of hr
    refine ⟨_, (pss_cons (ps_for PassesOwn.never rfl (pi_range1 (by rfl) T.u_range (pa_cons (pe_callB (Eg.cr_max2 rfl) (by rfl) T.u_max (by decide +kernel) (pa_cons pe_int (pa_cons (pe_callB (Eg.cr_min2 rfl) (by rfl) T.u_min (by decide +kernel) (pa_cons pe_int (pa_cons (pe_callB Eg.cr_len (by rfl) T.u_len (by decide +kernel) (pa_cons (pv 0) pa_nil)) pa_nil))) pa_nil))) pa_nil)) (pg_name (i := 1) nd rfl (Or.inl rfl))
  (pss_cons (ps_set (i := 2) nd rfl (Or.inr rfl) (pe_call (ok_l_bag T) (hr.mono (by decide)) (by rfl) T.g_l_bag T.F_l_bag.kp T.b_l_bag .nil pass0 (pa_cons (pv 0) (pa_cons (pv 1) pa_nil))))
  (pss_cons (ps_set (i := 3) nd rfl (Or.inl rfl) (pe_call (ok_l_sorts T) (hr.mono (by decide)) (by rfl) T.g_l_sorts T.F_l_sorts.kp T.b_l_sorts .nil pass0 (pa_cons (pv 2) (pa_cons (pe_call (ok_l_take T) (hr.mono (by decide)) (by rfl) T.g_l_take T.F_l_take.kp T.b_l_take .nil pass0 (pa_cons (pv 2) (pa_cons pe_int pa_nil))) pa_nil))))
  (C8.pss_cut (ps_setLc (i := 5) (own := [("_law_sort", 4)]) rfl nd rfl rfl (sw_true rfl rfl rfl (by decide +kernel)) (pi_list (pv 3)) (blkOk_by (N := N_law) (sc := defScope s_law) (by decide +kernel)) (fun _ _ _ _ _ => (pg_name (i := 4) nd rfl (Or.inl rfl))) (fun _ _ _ _ _ => pts_nil) (fun _ _ _ _ _ => (Eg.peE (pe_call (ok_l_of T) (hr.mono (by decide)) (by rfl) T.g_l_of T.F_l_of.kp T.b_l_of .nil pass0 (pa_cons (pv 2) (pa_cons (pe_lst (pa_cons pe_int (pa_cons (pe_op op_sub (pe_call (ok_l_take T) (hr.mono (by decide)) (by rfl) T.g_l_take T.F_l_take.kp T.b_l_take .nil pass0 (pa_cons (pv 2) (pa_cons pe_int pa_nil))) pe_int) (pa_cons (pe_op op_sub (pe_call (ok_l_take T) (hr.mono (by decide)) (by rfl) T.g_l_take T.F_l_take.kp T.b_l_take .nil pass0 (pa_cons (pv 2) (pa_cons pe_int pa_nil))) pe_int) pa_nil)))) pa_nil))) (by walk_at "blk"))))
  (C8.pss_cut (ps_set (i := 6) nd rfl (Or.inl rfl) (pe_call (ok_l_of T) (hr.mono (by decide)) (by rfl) T.g_l_of T.F_l_of.kp T.b_l_of .nil pass0 (pa_cons (pv 2) (pa_cons (pe_lst (pa_cons pe_int (pa_cons (pe_op op_sub (pe_call (ok_l_take T) (hr.mono (by decide)) (by rfl) T.g_l_take T.F_l_take.kp T.b_l_take .nil pass0 (pa_cons (pv 2) (pa_cons pe_int pa_nil))) pe_int) (pa_cons (pe_op op_sub (pe_call (ok_l_take T) (hr.mono (by decide)) (by rfl) T.g_l_take T.F_l_take.kp T.b_l_take .nil pass0 (pa_cons (pv 2) (pa_cons pe_int pa_nil))) pe_int) pa_nil)))) pa_nil))))
  (pss_cons (ps_set (i := 7) nd rfl (Or.inl rfl) (pe_call (ok_l_steps_of T) (hr.mono (by decide)) (by rfl) T.g_l_steps_of T.F_l_steps_of.kp T.b_l_steps_of .nil pass0 (pa_cons (pv 3) (pa_cons (pv 5) pa_nil))))
  (pss_cons (ps_set (i := 8) nd rfl (Or.inl rfl) (pe_call (ok_l_steps_of T) (hr.mono (by decide)) (by rfl) T.g_l_steps_of T.F_l_steps_of.kp T.b_l_steps_of .nil pass0 (pa_cons (pv 3) (pa_cons (pv 5) pa_nil))))
  (pss_cons (ps_set (i := 9) nd rfl (Or.inl rfl) (pe_make T.mk_Form (ok_Form_init T) (hr.mono (by decide)) (by rfl) T.g_Form T.b_Form_init .nil pass0 (pa_cons (pv 6) (pa_cons (pv 8) pa_nil))))
  (C8.pss_cut (ps_if (PW.pt (pw_or (pt_cmpR (DTx.op_neT hu) (pv 8) (pv 7) (nomark _)) (pw_or1 (pt_not (pt_val (Gd.pe_callG (ok_l_is_read T) (hr.mono (by decide)) stl (by rfl) T.g_l_is_read T.F_l_is_read.kp T.b_l_is_read .nil pass0 (pa_cons (pv 9) (pa_cons (pv 6) (pa_cons (pv 7) pa_nil)))))))))
  (pss_one (ps_ret pe_bl))
  pss_nil)
  (pss_cons (ps_dput hu (pv 8) (pe_tup (pa_cons pe_int (pa_cons pe_int (pa_cons pe_int pa_nil)))) pe_int rfl)
  (pss_cons (ps_dput hu (pv 8) (pe_tup (pa_cons pe_int (pa_cons pe_int (pa_cons pe_int pa_nil)))) (pe_un un_neg pe_int) rfl)
  (C8.pss_cut (ps_if (pt_not (pt_val (Gd.pe_callG (ok_l_is_read T) (hr.mono (by decide)) stl (by rfl) T.g_l_is_read T.F_l_is_read.kp T.b_l_is_read .nil pass0 (pa_cons (pv 9) (pa_cons (pv 6) (pa_cons (pv 7) pa_nil))))))
  (pss_one (ps_ret pe_bl))
  pss_nil)
  (pss_cons (ps_asg (pe_tup (pa_cons pe_dnewT (pa_cons (pv 6) pa_nil))) (pg_tup (by rfl) (pgs_cons (pg_name (i := 10) nd rfl (Or.inr rfl)) (pgs_cons (pg_name (i := 11) nd rfl (Or.inl rfl)) pgs_nil))))
  (C8.pss_cut (ps_for PassesOwn.never rfl (pi_list (pe_call (ok_l_sorts T) (hr.mono (by decide)) (by rfl) T.g_l_sorts T.F_l_sorts.kp T.b_l_sorts .nil pass0 (pa_cons (pv 2) (pa_cons (pe_call (ok_l_take T) (hr.mono (by decide)) (by rfl) T.g_l_take T.F_l_take.kp T.b_l_take .nil pass0 (pa_cons (pv 2) (pa_cons pe_int pa_nil))) pa_nil)))) (pg_name (i := 4) nd rfl (Or.inl rfl))
  (pss_cons (ps_dput hu (pv 10) (pv 4) (pe_call (ok_l_take T) (hr.mono (by decide)) (by rfl) T.g_l_take T.F_l_take.kp T.b_l_take .nil pass0 (pa_cons (pv 2) (pa_cons pe_int pa_nil))) rfl)
  (pss_one (ps_set (i := 11) nd rfl (Or.inl rfl) (pe_op op_add (pv 11) (pe_op op_mul (pe_dget2 hu (pv 7) (pv 4) pe_int ⟨rfl, rfl, rfl, rfl⟩) (pe_dget hu (pv 10) (pv 4) (fun _ _ => rfl))))))))
  (C8.pss_cut (ps_set (i := 12) nd rfl (Or.inl rfl) (pe_call (ok_l_steps_of T) (hr.mono (by decide)) (by rfl) T.g_l_steps_of T.F_l_steps_of.kp T.b_l_steps_of .nil pass0 (pa_cons (pe_callTy (call_list_dT rfl) (by rfl) T.u_list (by decide +kernel) (pa_cons (pv 10) pa_nil)) (pa_cons (pe_lock (pe_lc (own := [("_law_sort", 4)]) rfl nd (pi_keys (pv 10)) (blkOk_by (N := N_law) (sc := defScope s_law) (by decide +kernel)) (fun _ _ _ _ _ => (pg_name (i := 4) nd rfl (Or.inl rfl))) (fun _ _ _ _ _ => pts_nil) (fun _ _ _ _ _ => (Eg.peE (pe_dget hu (pv 10) (pv 4) (fun _ _ => rfl)) (by walk_at "blk"))))) pa_nil))))
  (C8.pss_cut (ps_if (PW.pt (pw_or (pt_cmpR op_ne (StX.pe_callO (pv 9) ⟨T.m_Form_call.at_, T.m_Form_call.fn, T.fi_Form_call⟩ ((ok_Form_call T).raw T.b_Form_call .nil) (hr.mono (by decide)) pass0 (pa_cons (pv 10) pa_nil)) (pv 11) (nomark _)) (pw_or (pt_cmpR op_ne (StX.pe_callO (pv 9) ⟨T.m_Form_call.at_, T.m_Form_call.fn, T.fi_Form_call⟩ ((ok_Form_call T).raw T.b_Form_call .nil) (hr.mono (by decide)) pass0 (pa_cons (pv 10) pa_nil)) (pv 11) (nomark _)) (pw_or (pt_cmpR (DTx.op_neT hu) (pv 10) (pv 12) (nomark _)) (pw_or1 (pt_cmpR op_ne (StX.pe_callO (pv 9) ⟨T.m_Form_call.at_, T.m_Form_call.fn, T.fi_Form_call⟩ ((ok_Form_call T).raw T.b_Form_call .nil) (hr.mono (by decide)) pass0 (pa_cons pe_dnewT pa_nil)) (pv 6) (nomark _)))))))
  (pss_one (ps_ret pe_bl))
  pss_nil)
  (pss_cons (ps_set (i := 13) nd rfl (Or.inl rfl) (pe_call (ok_l_steps_of T) (hr.mono (by decide)) (by rfl) T.g_l_steps_of T.F_l_steps_of.kp T.b_l_steps_of .nil pass0 (pa_cons (pe_revL (pv 3)) (pa_cons (pe_revL (pv 5)) pa_nil))))
  (C8.pss_cut (ps_expr (DTx.pe_dsetT hu (pv 13) (pe_tup (pa_cons pe_int (pa_cons pe_int (pa_cons pe_int pa_nil)))) pe_int ⟨rfl, rfl, rfl, rfl⟩))
  (C8.pss_cut (ps_if (PW.pt (pw_or (pt_not (pt_cmpR (Oe.op_ownEq (ok_Form_eq2 T) (hr.mono (by decide)) T.m_Form_eq T.b_Form_eq pass0) (pv 9) (pe_make T.mk_Form (ok_Form_init T) (hr.mono (by decide)) (by rfl) T.g_Form T.b_Form_init .nil pass0 (pa_cons (pv 6) (pa_cons (pv 13) pa_nil))) (nomark _))) (pw_or (pt_cmpR (Oe.op_ownEq (ok_Form_eq2 T) (hr.mono (by decide)) T.m_Form_eq T.b_Form_eq pass0) (pv 9) (pe_make T.mk_Form (ok_Form_init T) (hr.mono (by decide)) (by rfl) T.g_Form T.b_Form_init .nil pass0 (pa_cons (pe_op op_add (pv 6) pe_int) (pa_cons (pv 7) pa_nil))) (nomark _)) (pw_or1 (pt_cmpR (Oe.op_ownEq (ok_Form_eq2 T) (hr.mono (by decide)) T.m_Form_eq T.b_Form_eq pass0) (pv 9) (pv 6) (nomark _))))))
  (pss_one (ps_ret pe_bl))
  pss_nil)
  (pss_cons (ps_set (i := 14) nd rfl (Or.inl rfl) (pe_call (ok_l_of T) (hr.mono (by decide)) (by rfl) T.g_l_of T.F_l_of.kp T.b_l_of .nil pass0 (pa_cons (pv 2) (pa_cons (pe_lc (own := [("_law_k", 15)]) rfl nd (pi_range1 (by rfl) T.u_range (pa_cons pe_int pa_nil)) (blkOk_by (N := N_law) (sc := defScope s_law) (by decide +kernel)) (fun _ _ _ _ _ => (pg_name (i := 15) nd rfl (Or.inl rfl))) (fun _ _ _ _ _ => pts_nil) (fun _ _ _ _ _ => (Eg.peE (pe_tup (pa_cons (pe_op op_fdiv (pv 15) pe_int) (pa_cons (pe_op op_mod (pe_op op_fdiv (pv 15) pe_int) pe_int) (pa_cons (pe_op op_mod (pv 15) pe_int) pa_nil)))) (by walk_at "blk")))) pa_nil))))
  (C8.pss_cut (ps_dput hu (pv 13) (pv 14) (pe_op op_add (pe_dget2 hu (pv 7) (pv 14) pe_int ⟨rfl, rfl, rfl, rfl⟩) (pe_call (ok_l_of T) (hr.mono (by decide)) (by rfl) T.g_l_of T.F_l_of.kp T.b_l_of .nil pass0 (pa_cons (pv 2) (pa_cons (pe_lst (pa_cons pe_int (pa_cons (pe_un un_neg pe_int) pa_nil))) pa_nil)))) rfl)
  (pss_one (ps_if (PW.pt (pw_or (pt_cmpR (Oe.op_ownEq (ok_Form_eq2 T) (hr.mono (by decide)) T.m_Form_eq T.b_Form_eq pass0) (pv 9) (pe_make T.mk_Form (ok_Form_init T) (hr.mono (by decide)) (by rfl) T.g_Form T.b_Form_init .nil pass0 (pa_cons (pv 6) (pa_cons (pv 13) pa_nil))) (nomark _)) (pw_or (pt_cmpR (Oe.op_ownEq (ok_Form_eq2 T) (hr.mono (by decide)) T.m_Form_eq T.b_Form_eq pass0) (pv 9) (pe_tup (pa_cons (pv 6) (pa_cons (pv 7) pa_nil))) (nomark _)) (pw_or1 (pt_not (pt_val (Gd.pe_callG (ok_l_is_read T) (hr.mono (by decide)) stl (by rfl) T.g_l_is_read T.F_l_is_read.kp T.b_l_is_read .nil pass0 (pa_cons (pv 9) (pa_cons (pv 6) (pa_cons (pv 7) pa_nil))))))))))
  (pss_one (ps_ret pe_bl))
  pss_nil)))))))))))))))))))))))
  (pss_one (ps_ret pe_bl))), ?_⟩
    refine Eg.w_sig (σ := [some (.ref a), none, none, none, none, none, none, none, none, none, none, none, none, none, none, none]) rfl ?_
    walk_at "go"
    refine for_range (lo := 0) (fun i σ' H' => ∃ v1 v2 v3 v4 v5 v6 v7 v8 v9 v10 v11 v12 v13 v14 v15, σ' = [some (.ref a), v1, v2, v3, v4, v5, v6, v7, v8, v9, v10, v11, v12, v13, v14, v15] ∧ Same H0 H') ⟨_, _, _, _, _, _, _, _, _, _, _, _, _, _, _, rfl, Same.refl _⟩ ?_ ?_
    rotate_left
    · rintro _ H1 ⟨v1, v2, v3, v4, v5, v6, v7, v8, v9, v10, v11, v12, v13, v14, v15, rfl, _⟩
      walk_at "go"
      exact q H1
    rintro i _ H1 hi ⟨v1, v2, v3, v4, v5, v6, v7, v8, v9, v10, v11, v12, v13, v14, v15, rfl, sm1⟩
    have hi4 : i < 4 := by
      split at hi <;> split at hi <;> omega
    walk_at "go"
    refine ⟨a, sc, 0 + (i : Int), rfl, sm1.seq hS, by omega, by omega, ?_⟩
    intro b H2 hb0 hb2 sm2
    have hb0' : H0 b = none := sm1.free hb0
    have hnb : ∀ c o, H0 c = some o → c ≠ b := fun c o e => ne_of_none e hb0'
    walk_at "go"
    refine ⟨b, 0, 19, rfl, hb2, by decide, by decide, by decide, ?_⟩
    intro r H3 r0 r1 hb3 f3
    have kp3 : Kept b H2 H3 := .fr f3
    walk_at "go"
    refine ⟨b, 1, r, rfl, hb3, by decide, r0, by omega, fun p xs ks H4 hp0 hp4 tx4 hkl hknd hks hb4' fr34 => ?_⟩
    have hb4 : BagAt H4 b 20 := hb4'.to rfl (by decide)
    have kp4 : Kept b H0 H4 := ((Kept.of sm1).trans (Kept.of sm2)).trans (kp3.trans fr34)
    have hpb : p ≠ b := by
      obtain ⟨bs, e⟩ := hb3.ob
      exact (ne_of_none e hp0).symm
    have hk18 : ks.length ≤ 18 := by
      split at hkl <;> omega
    clear hb4' fr34 hb3 f3 kp3 hb2 sm2 hp0 H3 r0 r1
    walk_at "gw"
    -- the steps
    refine ⟨fun σ' H' => ∃ (l : Addr) (ns : List Int) (v1 v4 : Option V), σ' = [some (.ref a), v1, some (.ref b), some (.ref p), v4, some (.ref l), v6, v7, v8, v9, v10, v11, v12, v13, v14, v15] ∧ H' p = some (.lst xs) ∧ TupsAt H' xs ks ∧ BagAt H' b 100 ∧
      H' l = some (.lst (ns.map V.int)) ∧ ns.length = ks.length ∧ Steady ns ∧ l ≠ p ∧ l ≠ b ∧ Kept b H0 H', ?_, ?_⟩
    · walk_at "go"
      intro D hD
      obtain ⟨bs4, eb4⟩ := hb4.ob
      have hDb : D ≠ b := (ne_of_none eb4 hD).symm
      have hDp : D ≠ p := (ne_of_none hp4 hD).symm
      have hD0 : ∀ c o, H0 c = some o → c ≠ b → c ≠ D := fun c o e n => ne_of_none (kp4 c o e n) hD
      refine lc_list (xs := xs) (fun i H' => H' p = some (.lst xs) ∧ TupsAt H' xs ks ∧ (∃ k : Int, k ≤ 20 + 3 * i ∧ BagAt H' b k) ∧ (∃ ns : List Int, H' D = some (.lst (ns.map V.int)) ∧ ns.length = i ∧ Steady ns) ∧ Kept b H0 H') ?_ (fun i H' _ h => SqL.of h.1) ?_ ?_
      · exact ⟨Eg.upd_old hp4 hD, tx4.same (Eg.tup_new hD), ⟨20, by omega, hb4.to (upd_ne hDb.symm) (by omega)⟩, ⟨[], upd_same, rfl, (fun _ z => nomatch z)⟩, fun c o e n => Eg.upd_old (kp4 c o e n) hD⟩
      · rintro j x H6 hx ⟨h6p, t6, ⟨kk, hkk, b6⟩, ⟨ns, h6D, nl, nb⟩, fr6⟩
        have hj : j < xs.length := (List.getElem?_eq_some_iff.mp hx).1
        have hj18 : xs.length ≤ 18 := by rw [tx4.len]; exact hk18
        walk_at "go"
        refine ⟨b, kk, 1999, rfl, b6, by omega, by decide, by decide, fun a1 H7 a10 a11 hb7 f7 => ?_⟩
        walk_at "go"
        refine ⟨b, kk + 1, 5, rfl, hb7, by omega, by decide, by decide, fun a2 H8 a20 a21 hb8 f8 => ?_⟩
        walk_at "go"
        intro t ht
        obtain ⟨bs8, eb8⟩ := hb8.ob
        have htb : t ≠ b := (ne_of_none eb8 ht).symm
        have h9t : upd H8 t (.lst [V.int 0, V.int (a1 - 999), V.int (a2 - 2)]) t = some (.lst [V.int 0, V.int (a1 - 999), V.int (a2 - 2)]) := upd_same
        have kp9 : Kept b H6 (upd H8 t (.lst [V.int 0, V.int (a1 - 999), V.int (a2 - 2)])) := fun c o e n => Eg.upd_old (by rw [f8 c n, f7 c n]; exact e) ht
        have hb9 : BagAt (upd H8 t (.lst [V.int 0, V.int (a1 - 999), V.int (a2 - 2)])) b (kk + 2) := hb8.to (upd_ne htb.symm) (by omega)
        generalize upd H8 t (.lst [V.int 0, V.int (a1 - 999), V.int (a2 - 2)]) = H9 at h9t kp9 hb9 ⊢
        walk_at "go"
        refine ⟨b, t, kk + 2, _, rfl, hb9, by omega, h9t, (show 0 < 3 by decide), (show 3 < 1000 by decide), htb, fun v H10 hv hb10 f10 => ?_⟩
        have kp10 : Kept b H6 H10 := kp9.trans (.fr f10)
        obtain ⟨z, rfl, hz⟩ : ∃ z : Int, v = .int z ∧ z.natAbs ≤ 999 := by
          rcases List.mem_cons.mp hv with rfl | hv
          · exact ⟨0, rfl, by decide⟩
          · rcases List.mem_cons.mp hv with rfl | hv
            · exact ⟨_, rfl, by omega⟩
            · rcases List.mem_cons.mp hv with rfl | hv
              · exact ⟨_, rfl, by omega⟩
              · cases hv
        have h10D : H10 D = some (.lst (ns.map V.int)) := kp10 _ _ h6D hDb
        walk_at "go"
        refine ⟨Eg.upd_mut hDp.symm (kp10 _ _ h6p hpb), (t6.same fun c ys e => kp10 _ _ e (b6.ne e (fun _ z => nomatch z))).same (Eg.tup_upd h10D), ⟨kk + 3, by omega, hb10.to (upd_ne hDb.symm) (by omega)⟩, ⟨ns ++ [z], ?_, ?_, ?_⟩, fun c o e n => Eg.upd_mut (hD0 c o e n) (kp10 c o (fr6 c o e n) n)⟩
        · rw [upd_same]
          simp
        · simp [nl]
        · intro y hy
          rcases List.mem_append.mp hy with hy | hy
          · exact nb y hy
          · rw [List.mem_singleton.mp hy]
            exact hz
      · rintro H6 ⟨h6p, t6, ⟨kk, hkk, b6⟩, ⟨ns, h6D, nl, nb⟩, fr6⟩
        have tl := tx4.len
        walk_at "go"
        exact ⟨D, ns, _, _, rfl, h6p, t6, b6.to rfl (by omega), h6D, by rw [nl, tl], nb, hDp, hDb, fr6⟩
    rintro _ H6 ⟨l, ns, v1, v4, rfl, h6p, tx6, hb6, h6l, hnl, hnb6, hlp, hlb, kp6⟩
    walk_at "go"
    -- the start
    refine ⟨fun σ' H' => ∃ (st : Int), σ' = [some (.ref a), v1, some (.ref b), some (.ref p), v4, some (.ref l), some (.int st), v7, v8, v9, v10, v11, v12, v13, v14, v15] ∧ st.natAbs ≤ 999 ∧ BagAt H' b 103 ∧ Kept b H6 H', ?_, ?_⟩
    · walk_at "go"
      refine ⟨b, 100, 1999, rfl, hb6, by omega, by decide, by decide, fun a1 H7 a10 a11 hb7 f7 => ?_⟩
      walk_at "go"
      refine ⟨b, 101, 5, rfl, hb7, by omega, by decide, by decide, fun a2 H8 a20 a21 hb8 f8 => ?_⟩
      walk_at "go"
      intro t ht
      obtain ⟨bs8, eb8⟩ := hb8.ob
      have htb : t ≠ b := (ne_of_none eb8 ht).symm
      have h9t : upd H8 t (.lst [V.int 0, V.int (a1 - 999), V.int (a2 - 2)]) t = some (.lst [V.int 0, V.int (a1 - 999), V.int (a2 - 2)]) := upd_same
      have kp9 : Kept b H6 (upd H8 t (.lst [V.int 0, V.int (a1 - 999), V.int (a2 - 2)])) := fun c o e n => Eg.upd_old (by rw [f8 c n, f7 c n]; exact e) ht
      have hb9 : BagAt (upd H8 t (.lst [V.int 0, V.int (a1 - 999), V.int (a2 - 2)])) b (102) := hb8.to (upd_ne htb.symm) (by omega)
      generalize upd H8 t (.lst [V.int 0, V.int (a1 - 999), V.int (a2 - 2)]) = H9 at h9t kp9 hb9 ⊢
      walk_at "go"
      refine ⟨b, t, 102, _, rfl, hb9, by omega, h9t, (show 0 < 3 by decide), (show 3 < 1000 by decide), htb, fun v H10 hv hb10 f10 => ?_⟩
      have kp10 : Kept b H6 H10 := kp9.trans (.fr f10)
      obtain ⟨z, rfl, hz⟩ : ∃ z : Int, v = .int z ∧ z.natAbs ≤ 999 := by
        rcases List.mem_cons.mp hv with rfl | hv
        · exact ⟨0, rfl, by decide⟩
        · rcases List.mem_cons.mp hv with rfl | hv
          · exact ⟨_, rfl, by omega⟩
          · rcases List.mem_cons.mp hv with rfl | hv
            · exact ⟨_, rfl, by omega⟩
            · cases hv
      walk_at "go"
      exact ⟨z, rfl, hz, hb10, kp10⟩
    rintro _ H7 ⟨st, rfl, hst, hb7, kp7⟩
    have h7p := kp7 _ _ h6p hpb
    have h7l := kp7 _ _ h6l hlb
    have tx7 := tx6.same fun c ys e => kp7 _ _ e (hb6.ne e (fun _ z => nomatch z))
    have kp07 := kp6.trans kp7
    clear hb6 kp7 h6p h6l tx6 kp6 hb4 kp4 tx4 hp4 H6 H4 H2
    walk_at "go"
    refine ⟨p, l, xs, ks, ns, rfl, h7p, tx7, h7l, hnl.symm, hknd, by omega, fun d H8 hd0 hd8 s8 => ?_⟩
    have hzl : (ks.zip ns).map (·.1) = ks := List.map_fst_zip (by omega)
    have hzr : (ks.zip ns).map (·.2) = ns := List.map_snd_zip (by omega)
    have hznd : ((ks.zip ns).map (·.1)).Nodup := by rw [hzl]; exact hknd
    have hzlen : (ks.zip ns).length ≤ 18 := by rw [List.length_zip]; omega
    have tx8 := tx7.same fun c ys e => s8 _ _ e
    walk_at "go"
    refine ⟨p, l, xs, ks, ns, rfl, s8 _ _ h7p, tx8, s8 _ _ h7l, hnl.symm, hknd, by omega, fun g H9 hg0 hg9 s9 => ?_⟩
    walk_at "go"
    intro x dx hx hdx hne
    have sx : Same H9 (upd (upd H9 dx (.own x)) x (.ins Z.c_Form dx [])) := fun c o e => Eg.upd_mut (ne_of_none e hx) (Eg.upd_old e hdx)
    refine ⟨x, dx, g, st, ks.zip ns, rfl, upd_same, sx _ _ hg9, hznd, by omega, fun H10 F10 k10 => ⟨rfl, ?_⟩⟩
    have s10 : Same H9 H10 := fun c o e => k10 c o (sx c o e) (ne_of_none e hx)
    have k3 : Keys3 (ks.zip ns) := ⟨hznd, fun y hy => hks y.1 (by rw [← hzl]; exact List.mem_map.mpr ⟨y, hy, rfl⟩)⟩
    have hdg : d ≠ g := (ne_of_none hd8 hg0).symm.symm
    have hbg : g ≠ b := fun z => by
      obtain ⟨bs, eb⟩ := hb7.ob
      have := s8 _ _ eb
      rw [← z, hg0] at this
      cases this
    have h9d := s9 _ _ hd8
    have h10d := s10 _ _ h9d
    have h10g := s10 _ _ hg9
    have sfs : ∀ y ∈ ks.zip ns, y.2.natAbs < 1000000 := fun y hy => by
      have : y.2 ∈ ns := by rw [← hzr]; exact List.mem_map.mpr ⟨y, hy, rfl⟩
      have := hnb6 _ this
      omega
    have hb10 : BagAt H10 b 103 := ((hb7.keep s8).keep s9).keep s10
    obtain ⟨dx2, e, hx10, he10, heN⟩ := F10
    have heg : e ≠ g := fun z => by
      rw [z, sx _ _ hg9] at heN
      cases heN
    have hxg : x ≠ g := ne_of hx10 h10g (fun z => nomatch z)
    have hxb := hb10.ne hx10 (fun _ z => nomatch z)
    have heb := hb10.ne he10 (fun _ z => nomatch z)
    have hdb := hb10.ne h10d (fun _ z => nomatch z)
    have says : ∀ H', Kept2 b g H10 H' → Says Z.c_Form H' x st (nz (ks.zip ns)) (ks.zip ns) := fun H' kp =>
      ⟨⟨dx2, e, kp _ _ hx10 hxb hxg, kp _ _ he10 heb heg⟩, k3.good, k3, gt_nz hznd, by omega, sfs⟩
    have dAt : ∀ H', Kept2 b g H10 H' → H' d = some (.dT (enc (ks.zip ns))) := fun H' kp => kp _ _ h10d hdb hdg
    have kp010 : Kept b H0 H10 := ((kp07.trans (.of s8)).trans (.of s9)).trans (.of s10)
    have h10p := s10 _ _ (s9 _ _ (s8 _ _ h7p))
    have h10l := s10 _ _ (s9 _ _ (s8 _ _ h7l))
    have tx10 := (tx8.same fun c ys e => s9 _ _ e).same fun c ys e => s10 _ _ e
    have hpg : p ≠ g := ne_of h10p h10g (fun z => nomatch z)
    have hlg : l ≠ g := ne_of h10l h10g (fun z => nomatch z)
    have hg0' : H0 g = none := by
      cases z : H0 g with
      | none => rfl
      | some o =>
        have := s8 _ _ (kp07 g o z hbg)
        rw [hg0] at this
        cases this
    have h0g : ∀ c o, H0 c = some o → c ≠ g := fun c o e z => by rw [z, hg0'] at e; cases e
    clear heN sx k10 s10 s9 s8 hd8 hg9 h9d hd0 hg0 hx hdx hne h7p h7l tx7 tx8 kp07 hb7 H7 H8 H9
    walk_at "go"
    -- read as it was handed over
    refine ⟨fun σ' H' => σ' = [some (.ref a), v1, some (.ref b), some (.ref p), v4, some (.ref l), some (.int st), some (.ref d), some (.ref g), some (.ref x), v10, v11, v12, v13, v14, v15] ∧ Same H10 H', ?_, ?_⟩
    · walk_at "go"
      refine ⟨g, d, _, _, rfl, rfl, .inl h10g, .inl h10d, enc_int _, enc_int _, ?_⟩
      walk_at "go"
      rw [if_pos rfl, same_self hznd]
      refine Eg.brF rfl ?_
      walk_at "go"
      refine ⟨x, d, st, _, _, rfl, says _ (fun c o e _ _ => e), h10d, fun H11 s11 => ⟨true, rfl, ?_⟩⟩
      refine Eg.brF rfl ?_
      walk_at "go"
      exact ⟨rfl, s11⟩
    rintro _ H11 ⟨rfl, s11⟩
    have h11g := s11 _ _ h10g
    have hb11 := hb10.keep s11
    walk_at "go"
    intro t1 ht1
    walk_at "go"
    refine ⟨g, _, rfl, DPut.t (k := ek [0, 0, 0]) (Eg.upd_old h11g ht1) (by rw [ek_kV]; exact upd_same) (by unfold enc; rw [List.length_map, sizeLine_eq]; omega), ?_⟩
    have h12g : ∀ H9 : Hp, upd H9 g (.dT (putK (enc (ks.zip ns)) (ek [0, 0, 0]) (.int 7))) g = some (.dT (enc (putI (ks.zip ns) [0, 0, 0] 7))) := fun H9 => by rw [upd_same, put_enc]
    have h12g := h12g (upd H11 t1 (.tup [V.int 0, V.int 0, V.int 0]))
    have kp12 : Kept2 b g H10 (upd (upd H11 t1 (.tup [V.int 0, V.int 0, V.int 0])) g (.dT (putK (enc (ks.zip ns)) (ek [0, 0, 0]) (.int 7)))) := fun c o e n m => Eg.upd_mut m (Eg.upd_old (s11 _ _ e) ht1)
    have hb12 : BagAt (upd (upd H11 t1 (.tup [V.int 0, V.int 0, V.int 0])) g (.dT (putK (enc (ks.zip ns)) (ek [0, 0, 0]) (.int 7)))) b 103 := (hb11.keep (H' := upd H11 t1 (.tup [V.int 0, V.int 0, V.int 0])) fun c o e => Eg.upd_old e ht1).to (upd_ne hbg.symm) (by decide)
    generalize upd (upd H11 t1 (.tup [V.int 0, V.int 0, V.int 0])) g (.dT (putK (enc (ks.zip ns)) (ek [0, 0, 0]) (.int 7))) = H12 at h12g kp12 hb12 ⊢
    have pl1 := (k3.put (show Sort3 [0, 0, 0] by unfold Sort3 TS.Bd; decide) 7).sz
    walk_at "go"
    intro t2 ht2
    walk_at "go"
    refine ⟨g, _, rfl, DPut.t (k := ek [2, 2, 1]) (Eg.upd_old h12g ht2) (by rw [ek_kV]; exact upd_same) (by unfold enc; rw [List.length_map, sizeLine_eq]; omega), ?_⟩
    have kp14 : Kept2 b g H10 (upd (upd H12 t2 (.tup [V.int 2, V.int 2, V.int 1])) g (.dT (putK (enc (putI (ks.zip ns) [0, 0, 0] 7)) (ek [2, 2, 1]) (.int (-7))))) := fun c o e n m => Eg.upd_mut m (Eg.upd_old (kp12 _ _ e n m) ht2)
    have hb14 : BagAt (upd (upd H12 t2 (.tup [V.int 2, V.int 2, V.int 1])) g (.dT (putK (enc (putI (ks.zip ns) [0, 0, 0] 7)) (ek [2, 2, 1]) (.int (-7))))) b 103 := (hb12.keep (H' := upd H12 t2 (.tup [V.int 2, V.int 2, V.int 1])) fun c o e => Eg.upd_old e ht2).to (upd_ne hbg.symm) (by decide)
    generalize upd (upd H12 t2 (.tup [V.int 2, V.int 2, V.int 1])) g (.dT (putK (enc (putI (ks.zip ns) [0, 0, 0] 7)) (ek [2, 2, 1]) (.int (-7)))) = H14 at kp14 hb14 ⊢
    clear h12g kp12 hb12 pl1 ht1 ht2 s11 h11g hb11 H12 H11 t1 t2
    walk_at "go"
    -- still read
    refine ⟨fun σ' H' => σ' = [some (.ref a), v1, some (.ref b), some (.ref p), v4, some (.ref l), some (.int st), some (.ref d), some (.ref g), some (.ref x), v10, v11, v12, v13, v14, v15] ∧ Same H14 H', ?_, ?_⟩
    · walk_at "go"
      refine ⟨x, d, st, _, _, rfl, says _ kp14, dAt _ kp14, fun H15 s15 => ⟨true, rfl, ?_⟩⟩
      refine Eg.brF rfl ?_
      walk_at "go"
      exact ⟨rfl, s15⟩
    rintro _ H15 ⟨rfl, s15⟩
    have kp15 : Kept2 b g H10 H15 := kp14.then (.of s15)
    have hb15 := hb14.keep s15
    clear kp14 hb14 s15 H14
    walk_at "go"
    intro c hc
    walk_at "go"
    intro tt htt
    walk_at "go"
    have hct : c ≠ tt := fun z => by rw [← z, upd_same] at htt; cases htt
    have s16 : Same H15 (upd (upd H15 c (.dT [])) tt (.tup [V.ref c, V.int st])) := fun b o e => Eg.upd_old (Eg.upd_old e hc) htt
    have h16c : upd (upd H15 c (.dT [])) tt (.tup [V.ref c, V.int st]) c = some (.dT (enc [])) := Eg.upd_mut hct upd_same
    have kp16 := kp15.then (.of s16)
    have hb16 := hb15.keep s16
    have hcb : c ≠ b := hb16.ne h16c (fun _ z => nomatch z)
    have hc10 : ∀ b' o, H10 b' = some o → b' ≠ b → b' ≠ g → b' ≠ c := fun b' o e n m => ne_of_none (kp15 _ _ e n m) hc
    generalize upd (upd H15 c (.dT [])) tt (.tup [V.ref c, V.int st]) = H16 at h16c kp16 hb16 ⊢
    clear s16 htt hct kp15 hb15 hc tt H15
    -- the counts
    refine ⟨fun σ' H' => ∃ (v1 v4 : Option V) (cs : DI) (kk : Int), σ' = [some (.ref a), v1, some (.ref b), some (.ref p), v4, some (.ref l), some (.int st), some (.ref d), some (.ref g), some (.ref x), some (.ref c), some (.int (st + atC (ks.zip ns) cs)), v12, v13, v14, v15] ∧ H' c = some (.dT (enc cs)) ∧ Keys3 cs ∧ (∀ y ∈ cs, -100000 ≤ y.2 ∧ y.2 ≤ 100000) ∧ kk ≤ 200 ∧ BagAt H' b kk ∧ Kept2 b g H10 H', ?_, ?_⟩
    · walk_at "go"
      refine ⟨b, 103, 19, rfl, hb16, by decide, by decide, by decide, fun r H17 r0 r1 hb17 f17 => ?_⟩
      walk_at "go"
      refine ⟨b, 104, r, rfl, hb17, by decide, r0, by omega, fun u us ls H18 hu0 hu18 tu18 hll hlnd hls hb18 kp18 => ?_⟩
      have hub : u ≠ b := by
        obtain ⟨bs, e⟩ := hb17.ob
        exact (ne_of_none e hu0).symm
      have h18c := kp18 _ _ ((f17 c hcb).trans h16c) hcb
      have huc : u ≠ c := ne_of hu18 h18c (fun z => nomatch z)
      have kp18' : Kept2 b g H10 H18 := (kp16.then (.fr f17)).then kp18
      have ul := tu18.len
      have ul18 : us.length ≤ 18 := by split at hll <;> omega
      walk_at "go"
      refine for_list (xs := us) (fun j σ' H' => ∃ (v4 : Option V) (cs : DI), σ' = [some (.ref a), v1, some (.ref b), some (.ref p), v4, some (.ref l), some (.int st), some (.ref d), some (.ref g), some (.ref x), some (.ref c), some (.int (st + atC (ks.zip ns) cs)), v12, v13, v14, v15] ∧ H' u = some (.lst us) ∧ TupsAt H' us ls ∧ H' c = some (.dT (enc cs)) ∧ cs.map (·.1) = ls.take j ∧ (∀ y ∈ cs, -100000 ≤ y.2 ∧ y.2 ≤ 100000) ∧ BagAt H' b (122 + j) ∧ Kept2 b g H10 H') ⟨v4, [], ?_, hu18, tu18, h18c, rfl, (fun _ z => nomatch z), hb18.to rfl (by omega), kp18'⟩ ?_ ?_ ?_
      · show _ = [some (V.ref a), v1, some (V.ref b), some (V.ref p), v4, some (V.ref l), some (V.int st), some (V.ref d), some (V.ref g), some (V.ref x), some (V.ref c), some (V.int (st + 0)), v12, v13, v14, v15]
        rw [Int.add_zero]
        rfl
      · rintro j _ H19 _ ⟨v4, cs, rfl, h19u, _⟩
        exact SqL.of h19u
      · rintro j y _ H19 hy ⟨v4, cs, rfl, h19u, tu19, h19c, ecs, cbd, hb19, kp19⟩
        obtain ⟨k, t, hk, rfl, ht⟩ := tu19.get hy
        have hj : j < us.length := (List.getElem?_eq_some_iff.mp hy).1
        have hkn : k ∉ cs.map (·.1) := fun hm => by
          rw [ecs] at hm
          obtain ⟨j', hj'⟩ := List.mem_iff_getElem?.mp hm
          rw [List.getElem?_take] at hj'
          split at hj'
          · have := nd_ix hlnd hj' hk
            omega
          · cases hj'
        walk_at "go"
        refine ⟨b, 122 + j, 401, rfl, hb19, by omega, by decide, by decide, fun r2 H20 r20 r21 hb20 f20 => ?_⟩
        have htb := hb19.ne ht (fun _ z => nomatch z)
        have h20t := (f20 t htb).trans ht
        have h20c := (f20 c hcb).trans h19c
        have h20u := (f20 u hub).trans h19u
        have cl := congrArg List.length ecs
        rw [List.length_map, List.length_take] at cl
        walk_at "go"
        refine ⟨c, _, rfl, DPut.t (k := ek k) h20c (by rw [ek_kV]; exact h20t) (by unfold enc; rw [List.length_map, sizeLine_eq]; omega), ?_⟩
        rw [put_enc, putI_new hkn]
        have hct : t ≠ c := ne_of h20t h20c (fun z => nomatch z)
        have h21c : upd H20 c (.dT (enc (cs ++ [(k, r2)]))) c = some (.dT (enc (cs ++ [(k, r2)]))) := upd_same
        have h21t : upd H20 c (.dT (enc (cs ++ [(k, r2)]))) t = some (.tup (k.map V.int)) := Eg.upd_mut hct h20t
        have kp21 : Kept2 b g H10 (upd H20 c (.dT (enc (cs ++ [(k, r2)])))) := fun b' o e n m => Eg.upd_mut (hc10 b' o e n m) ((f20 b' n).trans (kp19 b' o e n m))
        have h21u : upd H20 c (.dT (enc (cs ++ [(k, r2)]))) u = some (.lst us) := Eg.upd_mut huc h20u
        have hb21 : BagAt (upd H20 c (.dT (enc (cs ++ [(k, r2)])))) b (122 + j + 1) := hb20.to (upd_ne hcb.symm) (by omega)
        have tu21 : TupsAt (upd H20 c (.dT (enc (cs ++ [(k, r2)])))) us ls := tu19.same fun b' ys e => Eg.upd_mut (ne_of e h19c (fun z => nomatch z)) ((f20 b' (hb19.ne e (fun _ z => nomatch z))).trans e)
        generalize upd H20 c (.dT (enc (cs ++ [(k, r2)]))) = H21 at h21c h21t kp21 h21u hb21 tu21 ⊢
        have dA := dAt _ kp21
        walk_at "go"
        refine Ow.w_dget2 ?_
        walk_at "go"
        refine Ow.c_dget2T (.inl dA) ?_
        walk_at "go"
        refine ⟨_, dget_enc (.inl dA) h21t, ?_⟩
        rw [getD_gt]
        have gi : getI (cs ++ [(k, r2)]) k = some r2 := by rw [getI_append, getI_cons, if_pos rfl, getI_none hkn]; rfl
        walk_at "go"
        refine ⟨c, _, rfl, dget_some (.inl h21c) h21t gi, ?_⟩
        walk_at "go"
        refine ⟨some (.ref t), cs ++ [(k, r2)], ?_, h21u, tu21, h21c, ?_, ?_, hb21.to rfl (by omega), kp21⟩
        · unfold atC
          rw [List.map_append, List.sum_append, List.map_cons, List.map_nil, List.sum_cons, List.sum_nil, Int.add_zero, ← Int.add_assoc]
          rfl
        · rw [List.map_append, ecs, List.take_succ_eq_append_getElem (List.getElem?_eq_some_iff.mp hk).1, (List.getElem?_eq_some_iff.mp hk).2]
          rfl
        · intro y hy
          rcases List.mem_append.mp hy with hy | hy
          · exact cbd y hy
          · rw [List.mem_singleton.mp hy]
            exact ⟨by omega, by omega⟩
      · rintro _ H19 ⟨v4, cs, rfl, h19u, tu19, h19c, ecs, cbd, hb19, kp19⟩
        rw [ul, List.take_length] at ecs
        walk_at "go"
        refine ⟨_, _, cs, _, rfl, h19c, ⟨by rw [ecs]; exact hlnd, fun y hy => hls _ (by rw [← ecs]; exact List.mem_map.mpr ⟨y, hy, rfl⟩)⟩, cbd, ?_, hb19, kp19⟩
        omega
    rintro _ H17 ⟨v1, v4, cs, kk, rfl, h17c, kc, cbd, hkk, hb17, kp17⟩
    clear hb16 kp16 h16c H16
    have cz := kc.sz
    walk_at "go"
    -- the counts once more
    refine ⟨fun σ' H' => ∃ (k12 : Addr), σ' = [some (.ref a), v1, some (.ref b), some (.ref p), v4, some (.ref l), some (.int st), some (.ref d), some (.ref g), some (.ref x), some (.ref c), some (.int (st + atC (ks.zip ns) cs)), some (.ref k12), v13, v14, v15] ∧ H' k12 = some (.dT (enc cs)) ∧ Same H17 H', ?_, ?_⟩
    · walk_at "gw"
      refine ⟨c, _, rfl, .inl h17c, fun w1 bs hw hbs => ?_⟩
      have tb := keys_tups hbs
      have s18 : Same H17 (upd H17 w1 (.lst (bs.map V.ref))) := Eg.same_new (Same.refl _) hw
      have h18 : upd H17 w1 (.lst (bs.map V.ref)) w1 = some (.lst (bs.map V.ref)) := upd_same
      have tb18 := tb.same (Eg.tup_new (o1 := .lst (bs.map V.ref)) hw)
      generalize upd H17 w1 (.lst (bs.map V.ref)) = H18 at s18 h18 tb18 ⊢
      have h18c := s18 _ _ h17c
      walk_at "gw"
      refine Sl.lock_intsG (F := fun _ z => z) h18c (by omega) (fun H' R fr h => ?_) (fun od H' k z t fr hc hm ht R hR => ?_) (fun D H19 hD s19 h19D => ?_)
      · walk_at "go"
        exact h
      · walk_at "go"
        exact ⟨c, _, rfl, dget_some (.inr ⟨od, hc⟩) ht (getI_mem kc.nd hm), hR⟩
      walk_at "go"
      refine ⟨w1, D, _, _, cs.map (·.2), rfl, s19 _ _ h18, tb18.same (fun b' ys e => s19 _ _ e), h19D, by rw [List.length_map, List.length_map], kc.nd, by rw [List.length_map]; omega, fun k12 H20 hk0 hk20 s20 => ?_⟩
      have ez : (cs.map (·.1)).zip (cs.map (·.2)) = cs := by
        rw [List.zip_map', List.map_id'']
        intro y
        rfl
      rw [ez] at hk20
      walk_at "go"
      exact ⟨k12, rfl, hk20, s18.trans (s19.trans s20)⟩
    rintro _ H20 ⟨k12, rfl, h20k, s20⟩
    have kp20 : Kept2 b g H10 H20 := kp17.then (.of s20)
    have h20c := s20 _ _ h17c
    have hb20 := hb17.keep s20
    clear kp17 hb17 h17c s20 H17
    have sy := says _ kp20
    walk_at "go"
    -- the totals
    have tot : st + atC (nz (ks.zip ns)) cs = st + atC (ks.zip ns) cs := by
      unfold atC
      rw [List.map_congr_left fun y _ => by rw [gt_nz hznd]]
    refine ⟨fun σ' H' => σ' = [some (.ref a), v1, some (.ref b), some (.ref p), v4, some (.ref l), some (.int st), some (.ref d), some (.ref g), some (.ref x), some (.ref c), some (.int (st + atC (ks.zip ns) cs)), some (.ref k12), v13, v14, v15] ∧ Same H20 H', ?_, ?_⟩
    · obtain ⟨dx3, e3, hx20, he20⟩ := id sy.at_
      walk_at "go"
      refine Ow.w_callO ?_
      walk_at "go"
      refine Ow.c_callO ?_
      walk_at "go"
      refine Ow.c_callA hx20 ⟨x, c, st, _, cs, rfl, sy.at_, h20c, kc.nd, cbd, ?_⟩
      walk_at "go"
      refine Eg.brF (by rw [decide_eq_true (congrArg V.int tot)]; rfl) ?_
      walk_at "go"
      refine Ow.w_callO ?_
      walk_at "go"
      refine Ow.c_callO ?_
      walk_at "go"
      refine Ow.c_callA hx20 ⟨x, c, st, _, cs, rfl, sy.at_, h20c, kc.nd, cbd, ?_⟩
      walk_at "go"
      refine Eg.brF (by rw [decide_eq_true (congrArg V.int tot)]; rfl) ?_
      walk_at "go"
      refine ⟨c, k12, _, _, rfl, rfl, .inl h20c, .inl h20k, enc_int _, enc_int _, ?_⟩
      rw [if_pos rfl, same_self kc.nd]
      walk_at "go"
      refine Eg.brF rfl ?_
      walk_at "go"
      refine Ow.w_callO ?_
      walk_at "go"
      refine Ow.c_callO ?_
      walk_at "go"
      intro em hem
      have s21 : Same H20 (upd H20 em (.dT [])) := fun b o e => Eg.upd_old e hem
      walk_at "go"
      refine Ow.c_callA (s21 _ _ hx20) ⟨x, em, st, _, [], rfl, sy.at_.keep s21, upd_same, .nil, (fun _ z => nomatch z), ?_⟩
      walk_at "go"
      refine Eg.brF (by rw [decide_eq_true (show V.int (st + atC (nz (ks.zip ns)) []) = V.int st from congrArg V.int (Int.add_zero st))]; rfl) ?_
      walk_at "go"
      exact ⟨rfl, s21⟩
    rintro _ H21 ⟨rfl, s21⟩
    have kp21 : Kept2 b g H10 H21 := kp20.then (.of s21)
    have hb21 := hb20.keep s21
    clear kp20 hb20 h20c h20k s21 sy H20
    have pAt : ∀ H', Kept2 b g H10 H' → H' p = some (.lst xs) := fun H' kp => kp _ _ h10p hpb hpg
    have lAt : ∀ H', Kept2 b g H10 H' → H' l = some (.lst (ns.map V.int)) := fun H' kp => kp _ _ h10l hlb hlg
    have txAt : ∀ H', Kept2 b g H10 H' → TupsAt H' xs ks := fun H' kp => tx10.same fun c ys e => kp _ _ e (hb10.ne e (fun _ z => nomatch z)) (ne_of e h10g (fun z => nomatch z))
    walk_at "go"
    -- the steps turned
    refine ⟨_, rfl, p, xs, rfl, SqL.of (pAt _ kp21), fun rp hrp => ?_⟩
    have s22 : Same H21 (upd H21 rp (.lst xs.reverse)) := fun b o e => Eg.upd_old e hrp
    have h22 : upd H21 rp (.lst xs.reverse) rp = some (.lst xs.reverse) := upd_same
    generalize upd H21 rp (.lst xs.reverse) = H22 at s22 h22 ⊢
    have kp22 := kp21.then (.of s22)
    walk_at "go"
    refine ⟨_, rfl, l, _, rfl, SqL.of (lAt _ kp22), fun rl hrl => ?_⟩
    have s23 : Same H22 (upd H22 rl (.lst (ns.map V.int).reverse)) := fun b o e => Eg.upd_old e hrl
    have h23l : upd H22 rl (.lst (ns.map V.int).reverse) rl = some (.lst (ns.reverse.map V.int)) := by rw [upd_same, List.map_reverse]
    generalize upd H22 rl (.lst (ns.map V.int).reverse) = H23 at s23 h23l ⊢
    have kp23 := kp22.then (.of s23)
    have h23 := s23 _ _ h22
    walk_at "go"
    refine ⟨rp, rl, xs.reverse, ks.reverse, ns.reverse, rfl, h23, ?_, h23l, by rw [List.length_reverse, List.length_reverse]; exact hnl.symm, (List.reverse_perm ks).nodup_iff.mpr hknd, by rw [List.length_reverse]; omega, fun u H24 hu0 h24u s24 => ?_⟩
    · exact tups_rev (txAt _ kp23)
    have kp24 := kp23.then (.of s24)
    have hu10 : ∀ b' o, H10 b' = some o → b' ≠ b → b' ≠ g → b' ≠ u := fun b' o e n m => ne_of_none (kp23 _ _ e n m) hu0
    have hb24 := ((hb21.keep s22).keep s23).keep s24
    clear s22 s23 s24 kp21 kp22 kp23 hb21 h23 h23l h22 hrp hrl
    rw [zip_rev hnl.symm] at h24u
    have ku : Keys3 (ks.zip ns).reverse := ⟨by rw [List.map_reverse]; exact (List.reverse_perm _).nodup_iff.mpr hznd, fun y hy => k3.s3 y (List.mem_reverse.mp hy)⟩
    have gu : ∀ k, gt (ks.zip ns).reverse k = gt (ks.zip ns) k := gt_rev hznd
    generalize (ks.zip ns).reverse = us0 at h24u ku gu
    walk_at "go"
    -- one step more
    refine ⟨fun σ' H' => ∃ (us1 : DI), σ' = [some (.ref a), v1, some (.ref b), some (.ref p), v4, some (.ref l), some (.int st), some (.ref d), some (.ref g), some (.ref x), some (.ref c), some (.int (st + atC (ks.zip ns) cs)), some (.ref k12), some (.ref u), v14, v15] ∧ H' u = some (.dT (enc us1)) ∧ Keys3 us1 ∧ (∀ k, gt us1 k = gt (ks.zip ns) k) ∧ Kept2 b g H10 H' ∧ BagAt H' b kk, ?_, ?_⟩
    · have hub := hb24.ne h24u (fun _ z => nomatch z)
      walk_at "go"
      refine w_dset ?_
      walk_at "go"
      refine c_dset (.inr ⟨_, .inl h24u⟩) ?_
      walk_at "go"
      intro t ht
      refine c_dsK ?_
      walk_at "go"
      have usz := ku.sz
      have hb25 : BagAt (upd H24 t (.tup [V.int 1, V.int 1, V.int 1])) b kk := hb24.keep fun c o e => Eg.upd_old e ht
      have kp25 : Kept2 b g H10 (upd H24 t (.tup [V.int 1, V.int 1, V.int 1])) := fun c o e n m => Eg.upd_old (kp24 _ _ e n m) ht
      refine ⟨enc us0, ek [1, 1, 1], t, Eg.upd_old h24u ht, rfl, by rw [ek_kV]; exact upd_same, by unfold enc; rw [List.length_map, sizeLine_eq]; omega, fun v e => ?_, fun e => ?_⟩
      · walk_at "go"
        exact ⟨us0, rfl, Eg.upd_old h24u ht, ku, gu, kp25, hb25⟩
      · walk_at "go"
        have gn : getI us0 [1, 1, 1] = none := by
          rw [val_enc] at e
          exact Option.map_eq_none_iff.mp e
        refine ⟨putI us0 [1, 1, 1] 0, rfl, by rw [upd_same, put_enc], ku.put (show Sort3 [1, 1, 1] by unfold Sort3 TS.Bd; decide) 0, fun k => ?_, fun c o e n m => Eg.upd_mut (hu10 c o e n m) (kp25 c o e n m), hb25.to (upd_ne hub.symm) (by omega)⟩
        rw [← gu k]
        unfold gt
        rw [getI_putI]
        split
        · rename_i ek1
          rw [ek1, gn]
          rfl
        · rfl
    rintro _ H25 ⟨us1, rfl, h25u, ku1, gu1, kp25, hb25⟩
    clear kp24 hb24 h24u ku gu hu0 H24
    have usz := ku1.sz
    have gz : ∀ k, gt (nz (ks.zip ns)) k = gt (nz us1) k := fun k => by rw [gt_nz hznd, gt_nz ku1.nd, gu1]
    walk_at "go"
    -- equal and unequal
    refine ⟨fun σ' H' => σ' = [some (.ref a), v1, some (.ref b), some (.ref p), v4, some (.ref l), some (.int st), some (.ref d), some (.ref g), some (.ref x), some (.ref c), some (.int (st + atC (ks.zip ns) cs)), some (.ref k12), some (.ref u), v14, v15] ∧ Same H25 H', ?_, ?_⟩
    · walk_at "go"
      intro x2 dx2 hx2 hdx2 hne2
      have sx2 : Same H25 (upd (upd H25 dx2 (.own x2)) x2 (.ins Z.c_Form dx2 [])) := fun c o e => Eg.upd_mut (ne_of_none e hx2) (Eg.upd_old e hdx2)
      refine ⟨x2, dx2, u, st, us1, rfl, upd_same, sx2 _ _ h25u, ku1.nd, by omega, fun H26 F26 k26 => ⟨rfl, ?_⟩⟩
      have s26 : Same H25 H26 := fun c o e => k26 c o (sx2 c o e) (ne_of_none e hx2)
      have sy := says _ (kp25.then (.of s26))
      obtain ⟨dx3, e3, hx26, he26⟩ := id sy.at_
      obtain ⟨dx4, e4, hx4, he4⟩ := id F26.at_
      have eq1 : EqTo Z.c_Form H26 st (nz (ks.zip ns)) (.ref x2) true := by
        have := EqTo.form (st := st) (qs := nz (ks.zip ns)) F26.at_
        rw [decide_eq_true (rfl : st = st), good_same k3.good ku1.good gz] at this
        exact this
      refine Oe.c_ownEq hx26 (.ins hx4) ⟨x, .ref x2, st, _, true, rfl, sy.at_, eq1, true, rfl, true, rfl, ?_⟩
      refine Eg.brF rfl ?_
      walk_at "go"
      intro x5 dx5 hx5 hdx5 hne5
      have sx5 : Same H26 (upd (upd H26 dx5 (.own x5)) x5 (.ins Z.c_Form dx5 [])) := fun c o e => Eg.upd_mut (ne_of_none e hx5) (Eg.upd_old e hdx5)
      have h26d := dAt _ (kp25.then (.of s26))
      refine ⟨x5, dx5, d, st + 1, ks.zip ns, rfl, upd_same, sx5 _ _ h26d, hznd, by omega, fun H27 F27 k27 => ⟨rfl, ?_⟩⟩
      have s27 : Same H26 H27 := fun c o e => k27 c o (sx5 c o e) (ne_of_none e hx5)
      have sy7 := says _ (kp25.then (.of (s26.trans s27)))
      obtain ⟨dx6, e6, hx6, he6⟩ := id F27.at_
      have eq2 : EqTo Z.c_Form H27 st (nz (ks.zip ns)) (.ref x5) false := by
        have := EqTo.form (st := st) (qs := nz (ks.zip ns)) F27.at_
        rw [decide_eq_false (show ¬ st = st + 1 by omega)] at this
        exact this
      refine Oe.c_ownEq (s27 _ _ hx26) (.ins hx6) ⟨x, .ref x5, st, _, false, rfl, sy7.at_, eq2, false, rfl, false, rfl, ?_⟩
      refine Eg.brF rfl ?_
      walk_at "go"
      refine Oe.c_ownEq (s27 _ _ hx26) (.int st T.nf_Form_int) ⟨x, .int st, st, _, false, rfl, sy7.at_, .int st, false, rfl, false, rfl, ?_⟩
      refine Eg.brF rfl ?_
      walk_at "go"
      exact ⟨rfl, s26.trans s27⟩
    rintro _ H27 ⟨rfl, s27⟩
    have kp27 := kp25.then (.of s27)
    have h27u := s27 _ _ h25u
    have hb27 := hb25.keep s27
    clear s27 kp25 h25u hb25 H25
    walk_at "go"
    -- another sort
    intro L hL
    obtain ⟨bs27, eb27⟩ := hb27.ob
    have hLb : L ≠ b := (ne_of_none eb27 hL).symm
    refine lc_range (lo := 0) (n := 18) (fun i H' => Same H27 H' ∧ ∃ xs, H' L = some (.lst xs) ∧ TupsAt H' xs ((List.range i).map tri)) ⟨Eg.same_new (Same.refl _) hL, [], upd_same, .nil⟩ ?_ ?_
    · rintro i H1 hi ⟨hs, xs, hx, tx⟩
      have tl := tx.len
      rw [List.length_map, List.length_range] at tl
      walk_at "go"
      intro p hp
      walk_at "go"
      refine ⟨fun b o hbo => Eg.upd_mut (ne_of_none hbo hL) (Eg.upd_old (hs b o hbo) hp), _, upd_same, ?_⟩
      rw [List.range_succ, List.map_append]
      refine TupsAt.app (tx.same fun b ys e => Eg.tup_upd (a := L) (xs := xs) (by walk_at "hp") b ys (Eg.upd_old e hp)) (.cons ⟨p, rfl, ?_⟩ .nil)
      refine Eg.upd_mut (ne_of_none hx hp).symm ?_
      rw [upd_same, tri]
      simp
    rintro H28 ⟨s28, os, h28L, to28⟩
    have kp28 := kp27.then (.of s28)
    have hb28 := hb27.keep s28
    have h28u := s28 _ _ h27u
    clear s28 kp27 hb27 h27u hL eb27 H27
    have ol := to28.len
    rw [List.length_map, List.length_range] at ol
    walk_at "go"
    refine ⟨b, L, kk, os, rfl, hb28, by omega, h28L, by omega, by omega, hLb, fun v H29 hv hb29 f29 => ?_⟩
    obtain ⟨j, hj⟩ := List.mem_iff_getElem?.mp hv
    obtain ⟨k, t, hk, rfl, ht⟩ := to28.get hj
    have hk3 : Sort3 k := all18_s3 k (List.mem_of_getElem? hk)
    have htb := hb28.ne ht (fun _ z => nomatch z)
    have hub := hb28.ne h28u (fun _ z => nomatch z)
    have h29t := (f29 t htb).trans ht
    have h29u := (f29 u hub).trans h28u
    have kp29 := kp28.then (.fr f29)
    clear kp28 hb28 h28u ht hk hj to28 h28L f29 ol hv H28
    walk_at "go"
    refine ⟨fun σ' H' => ∃ (us2 : DI), σ' = [some (.ref a), v1, some (.ref b), some (.ref p), v4, some (.ref l), some (.int st), some (.ref d), some (.ref g), some (.ref x), some (.ref c), some (.int (st + atC (ks.zip ns) cs)), some (.ref k12), some (.ref u), some (.ref t), v15] ∧ H' u = some (.dT (enc us2)) ∧ Keys3 us2 ∧ gt (ks.zip ns) k ≠ gt us2 k ∧ Kept2 b g H10 H', ?_, ?_⟩
    · have dA := dAt _ kp29
      walk_at "go"
      refine Ow.w_dget2 ?_
      walk_at "go"
      refine Ow.c_dget2T (.inl dA) ?_
      walk_at "go"
      refine ⟨_, dget_enc (.inl dA) h29t, ?_⟩
      rw [getD_gt]
      walk_at "go"
      intro o1 ho1
      have s30 : Same H29 (upd H29 o1 (.lst [V.int 1, V.int (-1)])) := fun b o e => Eg.upd_old e ho1
      have h30 : upd H29 o1 (.lst [V.int 1, V.int (-1)]) o1 = some (.lst [V.int 1, V.int (-1)]) := upd_same
      have ho10 : ∀ c o, H10 c = some o → c ≠ b → c ≠ g → c ≠ o1 := fun c o e n m => ne_of_none (kp29 _ _ e n m) ho1
      have ho1b : o1 ≠ b := by
        obtain ⟨bs29, eb29⟩ := hb29.ob
        exact (ne_of_none eb29 ho1).symm
      generalize upd H29 o1 (.lst [V.int 1, V.int (-1)]) = H30 at s30 h30 ⊢
      have hb30 := hb29.keep s30
      have kp30 := kp29.then (.of s30)
      walk_at "go"
      refine ⟨b, o1, kk + 1, _, rfl, hb30, by omega, h30, (show 0 < 2 by decide), (show 2 < 1000 by decide), ho1b, fun v H31 hv _ f31 => ?_⟩
      obtain ⟨z, rfl, hz⟩ : ∃ z : Int, v = .int z ∧ z ≠ 0 := by
        rcases List.mem_cons.mp hv with rfl | hv
        · exact ⟨1, rfl, by decide⟩
        · rcases List.mem_cons.mp hv with rfl | hv
          · exact ⟨-1, rfl, by decide⟩
          · cases hv
      have h31u := (f31 u hub).trans (s30 _ _ h29u)
      have h31t := (f31 t htb).trans (s30 _ _ h29t)
      have kp31 := kp30.then (.fr f31)
      walk_at "go"
      refine ⟨u, _, rfl, DPut.t (k := ek k) h31u (by rw [ek_kV]; exact h31t) (by unfold enc; rw [List.length_map, sizeLine_eq]; omega), ?_⟩
      walk_at "go"
      refine ⟨putI us1 k (gt (ks.zip ns) k + z), rfl, by rw [upd_same, put_enc], ku1.put hk3 _, ?_, fun c o e n m => Eg.upd_mut (hu10 c o e n m) (kp31 c o e n m)⟩
      have : gt (putI us1 k (gt (ks.zip ns) k + z)) k = gt (ks.zip ns) k + z := by
        unfold gt
        rw [getI_putI, if_pos rfl]
        rfl
      rw [this]
      omega
    rintro _ H31 ⟨us2, rfl, h31u, ku2, hne, kp31⟩
    have usz2 := ku2.sz
    walk_at "go"
    intro x2 dx2 hx2 hdx2 hne2
    have sx2 : Same H31 (upd (upd H31 dx2 (.own x2)) x2 (.ins Z.c_Form dx2 [])) := fun c o e => Eg.upd_mut (ne_of_none e hx2) (Eg.upd_old e hdx2)
    refine ⟨x2, dx2, u, st, us2, rfl, upd_same, sx2 _ _ h31u, ku2.nd, by omega, fun H32 F32 k32 => ⟨rfl, ?_⟩⟩
    have s32 : Same H31 H32 := fun c o e => k32 c o (sx2 c o e) (ne_of_none e hx2)
    have kp32 := kp31.then (.of s32)
    have sy := says _ kp32
    obtain ⟨dx3, e3, hx32, he32⟩ := id sy.at_
    obtain ⟨dx4, e4, hx4, he4⟩ := id F32.at_
    have eq1 : EqTo Z.c_Form H32 st (nz (ks.zip ns)) (.ref x2) false := by
      have := EqTo.form (st := st) (qs := nz (ks.zip ns)) F32.at_
      rw [decide_eq_true (rfl : st = st), sameD_part hznd ku2.nd hne] at this
      exact this
    refine Oe.c_ownEq hx32 (.ins hx4) ⟨x, .ref x2, st, _, false, rfl, sy.at_, eq1, false, rfl, false, rfl, ?_⟩
    refine Eg.brF rfl ?_
    clear sx2 hx2 hdx2 hne2 F32 k32 he4 hx4 s32 kp31 h31u
    walk_at "go"
    intro tt htt
    have s33 : Same H32 (upd H32 tt (.tup [V.int st, V.ref d])) := fun b o e => Eg.upd_old e htt
    have h33 : upd H32 tt (.tup [V.int st, V.ref d]) tt = some (.tup [V.int st, V.ref d]) := upd_same
    generalize upd H32 tt (.tup [V.int st, V.ref d]) = H33 at s33 h33 ⊢
    have kp33 := kp32.then (.of s33)
    have sy3 := says _ kp33
    walk_at "go"
    refine Oe.c_ownEq (s33 _ _ hx32) (.tup h33 T.nf_Form_tuple) ⟨x, .ref tt, st, _, false, rfl, sy3.at_, .tup h33, false, rfl, false, rfl, ?_⟩
    refine Eg.brF rfl ?_
    walk_at "go"
    refine ⟨x, d, st, _, _, rfl, sy3, dAt _ kp33, fun H34 s34 => ⟨true, rfl, ?_⟩⟩
    refine Eg.brF rfl ?_
    have kp34 := kp33.then (.of s34)
    walk_at "go"
    exact ⟨_, _, _, _, _, _, _, _, _, _, _, _, _, _, _, rfl, fun c o e => kp34 c o (kp010 c o e (hnb c o e)) (hnb c o e) (h0g c o e)⟩
end
end LW

namespace LW
open PySem L2
theorem all_mk {l : PySem.W.OpenLaw} {w : World} {K : PySem.W.Frag} {h : Heap} {mg : Str → Option Value} {fa f0 f1 f2 f3 f4 f5 f6 f7 f8 f9 f10 f11 f12 f13 f14 f15 C0 : Addr} (X : K.In h) (G : h.Ns mainGlobals mg) (hfa : mg "law" = some (.ref fa))
    {od0 an0 : Option Addr} {sl0 : Array (Option Value)} {oc0 kV0 dc0 pm0 cd0 ct0 : Value}
    {od1 an1 : Option Addr} {sl1 : Array (Option Value)} {oc1 kV1 dc1 pm1 cd1 ct1 : Value}
    {od2 an2 : Option Addr} {sl2 : Array (Option Value)} {oc2 kV2 dc2 pm2 cd2 ct2 : Value}
    {od3 an3 : Option Addr} {sl3 : Array (Option Value)} {oc3 kV3 dc3 pm3 cd3 ct3 : Value}
    {od4 an4 : Option Addr} {sl4 : Array (Option Value)} {oc4 kV4 dc4 pm4 cd4 ct4 : Value}
    {od5 an5 : Option Addr} {sl5 : Array (Option Value)} {oc5 kV5 dc5 pm5 cd5 ct5 : Value}
    {od6 an6 : Option Addr} {sl6 : Array (Option Value)} {oc6 kV6 dc6 pm6 cd6 ct6 : Value}
    {od7 an7 : Option Addr} {sl7 : Array (Option Value)} {oc7 kV7 dc7 pm7 cd7 ct7 : Value}
    {od8 an8 : Option Addr} {sl8 : Array (Option Value)} {oc8 kV8 dc8 pm8 cd8 ct8 : Value}
    {od9 an9 : Option Addr} {sl9 : Array (Option Value)} {oc9 kV9 dc9 pm9 cd9 ct9 : Value}
    {od10 an10 : Option Addr} {sl10 : Array (Option Value)} {oc10 kV10 dc10 pm10 cd10 ct10 : Value}
    {od11 an11 : Option Addr} {sl11 : Array (Option Value)} {oc11 kV11 dc11 pm11 cd11 ct11 : Value}
    {od12 an12 : Option Addr} {sl12 : Array (Option Value)} {oc12 kV12 dc12 pm12 cd12 ct12 : Value}
    {od13 an13 : Option Addr} {sl13 : Array (Option Value)} {oc13 kV13 dc13 pm13 cd13 ct13 : Value}
    {od14 an14 : Option Addr} {sl14 : Array (Option Value)} {oc14 kV14 dc14 pm14 cd14 ct14 : Value}
    {od15 an15 : Option Addr} {sl15 : Array (Option Value)} {oc15 kV15 dc15 pm15 cd15 ct15 : Value}
    (aC0 : PySem.W.nsIn K mainGlobals "Form" = some (some (.ref C0)))
    (a0 : PySem.W.findIn K (.ref C0) "__init__" = some (some (.ref f0)))
    (i0 : PySem.W.isFn K (.ref f0) = true)
    (l0 : K.lookup f0 = some ⟨oc0, od0, .func (PySem.W.fnOf "__init__" "Form.__init__" (defArgs s_Form_init) (defBody s_Form_init) (defScope s_Form_init) .none kV0 dc0 pm0 an0 cd0 ct0), sl0⟩)
    (c0 : PySem.W.codeIn K cd0 "Form.__init__" = true)
    (k0 : PySem.W.keepIn K (.ref f0) = true)
    (a1 : PySem.W.findIn K (.ref C0) "sorts" = some (some (.ref f1)))
    (i1 : PySem.W.isFn K (.ref f1) = true)
    (l1 : K.lookup f1 = some ⟨oc1, od1, .func (PySem.W.fnOf "sorts" "Form.sorts" (defArgs s_Form_sorts) (defBody s_Form_sorts) (defScope s_Form_sorts) .none kV1 dc1 pm1 an1 cd1 ct1), sl1⟩)
    (c1 : PySem.W.codeIn K cd1 "Form.sorts" = true)
    (k1 : PySem.W.keepIn K (.ref f1) = true)
    (a2 : PySem.W.findIn K (.ref C0) "__getitem__" = some (some (.ref f2)))
    (i2 : PySem.W.isFn K (.ref f2) = true)
    (l2 : K.lookup f2 = some ⟨oc2, od2, .func (PySem.W.fnOf "__getitem__" "Form.__getitem__" (defArgs s_Form_getitem) (defBody s_Form_getitem) (defScope s_Form_getitem) .none kV2 dc2 pm2 an2 cd2 ct2), sl2⟩)
    (c2 : PySem.W.codeIn K cd2 "Form.__getitem__" = true)
    (k2 : PySem.W.keepIn K (.ref f2) = true)
    (a3 : PySem.W.findIn K (.ref C0) "__len__" = some (some (.ref f3)))
    (i3 : PySem.W.isFn K (.ref f3) = true)
    (l3 : K.lookup f3 = some ⟨oc3, od3, .func (PySem.W.fnOf "__len__" "Form.__len__" (defArgs s_Form_len) (defBody s_Form_len) (defScope s_Form_len) .none kV3 dc3 pm3 an3 cd3 ct3), sl3⟩)
    (c3 : PySem.W.codeIn K cd3 "Form.__len__" = true)
    (k3 : PySem.W.keepIn K (.ref f3) = true)
    (a4 : PySem.W.findIn K (.ref C0) "__call__" = some (some (.ref f4)))
    (i4 : PySem.W.isFn K (.ref f4) = true)
    (l4 : K.lookup f4 = some ⟨oc4, od4, .func (PySem.W.fnOf "__call__" "Form.__call__" (defArgs s_Form_call) (defBody s_Form_call) (defScope s_Form_call) .none kV4 dc4 pm4 an4 cd4 ct4), sl4⟩)
    (c4 : PySem.W.codeIn K cd4 "Form.__call__" = true)
    (k4 : PySem.W.keepIn K (.ref f4) = true)
    (a5 : PySem.W.findIn K (.ref C0) "__eq__" = some (some (.ref f5)))
    (i5 : PySem.W.isFn K (.ref f5) = true)
    (l5 : K.lookup f5 = some ⟨oc5, od5, .func (PySem.W.fnOf "__eq__" "Form.__eq__" (defArgs s_Form_eq) (defBody s_Form_eq) (defScope s_Form_eq) .none kV5 dc5 pm5 an5 cd5 ct5), sl5⟩)
    (c5 : PySem.W.codeIn K cd5 "Form.__eq__" = true)
    (k5 : PySem.W.keepIn K (.ref f5) = true)
    (a6 : PySem.W.findIn K (.ref C0) "__str__" = some (some (.ref f6)))
    (i6 : PySem.W.isFn K (.ref f6) = true)
    (l6 : K.lookup f6 = some ⟨oc6, od6, .func (PySem.W.fnOf "__str__" "Form.__str__" (defArgs s_Form_str) (defBody s_Form_str) (defScope s_Form_str) .none kV6 dc6 pm6 an6 cd6 ct6), sl6⟩)
    (c6 : PySem.W.codeIn K cd6 "Form.__str__" = true)
    (k6 : PySem.W.keepIn K (.ref f6) = true)
    (a7 : PySem.W.nsIn K mainGlobals "_law_bag" = some (some (.ref f7)))
    (l7 : K.lookup f7 = some ⟨oc7, od7, .func (PySem.W.fnOf "_law_bag" "_law_bag" (defArgs s_l_bag) (defBody s_l_bag) (defScope s_l_bag) .none kV7 dc7 pm7 an7 cd7 ct7), sl7⟩)
    (c7 : PySem.W.codeIn K cd7 "_law_bag" = true)
    (k7 : PySem.W.keepIn K (.ref f7) = true)
    (a8 : PySem.W.nsIn K mainGlobals "_law_take" = some (some (.ref f8)))
    (l8 : K.lookup f8 = some ⟨oc8, od8, .func (PySem.W.fnOf "_law_take" "_law_take" (defArgs s_l_take) (defBody s_l_take) (defScope s_l_take) .none kV8 dc8 pm8 an8 cd8 ct8), sl8⟩)
    (c8 : PySem.W.codeIn K cd8 "_law_take" = true)
    (k8 : PySem.W.keepIn K (.ref f8) = true)
    (a9 : PySem.W.nsIn K mainGlobals "_law_of" = some (some (.ref f9)))
    (l9 : K.lookup f9 = some ⟨oc9, od9, .func (PySem.W.fnOf "_law_of" "_law_of" (defArgs s_l_of) (defBody s_l_of) (defScope s_l_of) .none kV9 dc9 pm9 an9 cd9 ct9), sl9⟩)
    (c9 : PySem.W.codeIn K cd9 "_law_of" = true)
    (k9 : PySem.W.keepIn K (.ref f9) = true)
    (a10 : PySem.W.nsIn K mainGlobals "_law_sorts" = some (some (.ref f10)))
    (l10 : K.lookup f10 = some ⟨oc10, od10, .func (PySem.W.fnOf "_law_sorts" "_law_sorts" (defArgs s_l_sorts) (defBody s_l_sorts) (defScope s_l_sorts) .none kV10 dc10 pm10 an10 cd10 ct10), sl10⟩)
    (c10 : PySem.W.codeIn K cd10 "_law_sorts" = true)
    (k10 : PySem.W.keepIn K (.ref f10) = true)
    (a11 : PySem.W.nsIn K mainGlobals "_law_steps_of" = some (some (.ref f11)))
    (l11 : K.lookup f11 = some ⟨oc11, od11, .func (PySem.W.fnOf "_law_steps_of" "_law_steps_of" (defArgs s_l_steps_of) (defBody s_l_steps_of) (defScope s_l_steps_of) .none kV11 dc11 pm11 an11 cd11 ct11), sl11⟩)
    (c11 : PySem.W.codeIn K cd11 "_law_steps_of" = true)
    (k11 : PySem.W.keepIn K (.ref f11) = true)
    (a12 : PySem.W.nsIn K mainGlobals "_law_is_integer" = some (some (.ref f12)))
    (l12 : K.lookup f12 = some ⟨oc12, od12, .func (PySem.W.fnOf "_law_is_integer" "_law_is_integer" (defArgs s_l_is_integer) (defBody s_l_is_integer) (defScope s_l_is_integer) .none kV12 dc12 pm12 an12 cd12 ct12), sl12⟩)
    (c12 : PySem.W.codeIn K cd12 "_law_is_integer" = true)
    (k12 : PySem.W.keepIn K (.ref f12) = true)
    (a13 : PySem.W.nsIn K mainGlobals "_law_shown" = some (some (.ref f13)))
    (l13 : K.lookup f13 = some ⟨oc13, od13, .func (PySem.W.fnOf "_law_shown" "_law_shown" (defArgs s_l_shown) (defBody s_l_shown) (defScope s_l_shown) .none kV13 dc13 pm13 an13 cd13 ct13), sl13⟩)
    (c13 : PySem.W.codeIn K cd13 "_law_shown" = true)
    (k13 : PySem.W.keepIn K (.ref f13) = true)
    (a14 : PySem.W.nsIn K mainGlobals "_law_is_read" = some (some (.ref f14)))
    (l14 : K.lookup f14 = some ⟨oc14, od14, .func (PySem.W.fnOf "_law_is_read" "_law_is_read" (defArgs s_l_is_read) (defBody s_l_is_read) (defScope s_l_is_read) .none kV14 dc14 pm14 an14 cd14 ct14), sl14⟩)
    (c14 : PySem.W.codeIn K cd14 "_law_is_read" = true)
    (k14 : PySem.W.keepIn K (.ref f14) = true)
    (a15 : PySem.W.nsIn K mainGlobals "law" = some (some (.ref f15)))
    (l15 : K.lookup f15 = some ⟨oc15, od15, .func (PySem.W.fnOf "law" "law" (defArgs s_law) (defBody s_law) (defScope s_law) .none kV15 dc15 pm15 an15 cd15 ct15), sl15⟩)
    (c15 : PySem.W.codeIn K cd15 "law" = true)
    (k15 : PySem.W.keepIn K (.ref f15) = true)
    (pg0 : PySem.W.plainGet K C0 Str.empty = true)
    (hd0 : PySem.W.hasDictIn K C0 = true)
    (po0 : PySem.W.plainOver K C0 = true)
    (sa0 : PySem.W.findIn K (.ref C0) "__setattr__" = some (some (.builtin "object.__setattr__")))
    (mk0 : PySem.W.makesIn K C0 = true)
    (kc0 : PySem.W.keepIn K (.ref C0) = true)
    (w0 : PySem.W.findIn K (.ref C0) "__class__" = some (some (.builtin "object.__class__")))
    (x0 : PySem.W.mroIn K C0 (.type "object") = some true)
    (fi2 : PySem.W.fnIn K f2 = true)
    (fi4 : PySem.W.fnIn K f4 = true)
    (nf0_int : PySem.W.notFirst K C0 (.type "int") = true)
    (nf0_tuple : PySem.W.notFirst K C0 (.type "tuple") = true)
    (ki0_int : PySem.W.kitOne K (.type "int") (.ref C0) = some false)
    (ki0_tuple : PySem.W.kitOne K (.type "tuple") (.ref C0) = some false)
    (n0_0 : PySem.W.findIn K (.ref C0) "start" = some none)
    (n0_1 : PySem.W.findIn K (.ref C0) "steps" = some none)
    (y0 : PySem.W.specialIn K (.builtin "object.__class__") "__get__" = some (some (.builtin "getset_descriptor.__get__")))
    (y1 : PySem.W.takesIn K (.builtin "object.__class__") = some true)
    (z0 : PySem.W.nsIn K mainGlobals "abs" = some none)
    (z1 : PySem.W.nsIn K mainGlobals "bool" = some none)
    (z2 : PySem.W.nsIn K mainGlobals "int" = some none)
    (z3 : PySem.W.nsIn K mainGlobals "isinstance" = some none)
    (z4 : PySem.W.nsIn K mainGlobals "len" = some none)
    (z5 : PySem.W.nsIn K mainGlobals "list" = some none)
    (z6 : PySem.W.nsIn K mainGlobals "max" = some none)
    (z7 : PySem.W.nsIn K mainGlobals "min" = some none)
    (z8 : PySem.W.nsIn K mainGlobals "range" = some none)
    (z9 : PySem.W.nsIn K mainGlobals "sorted" = some none)
    (z10 : PySem.W.nsIn K mainGlobals "str" = some none)
    (z11 : PySem.W.nsIn K mainGlobals "zip" = some none) :
    ∃ fd : FuncData, (∀ (s : Shared) (v : Value), BindsTo s fd ⟨[v], []⟩ [("_law_script", v)]) ∧ ∀ base : Heap, K.In base → base.Ns mainGlobals mg → Gd.FnG l.prog w K mg base CX0 6 fa fd ["_law_script"] (sp_law K) := by
  have e := hfa.symm.trans (PySem.W.mg_of X G a15)
  cases e
  have F0 := fun_mk (st := s_Form_init) l0 c0 k0
  have F1 := fun_mk (st := s_Form_sorts) l1 c1 k1
  have F2 := fun_mk (st := s_Form_getitem) l2 c2 k2
  have F3 := fun_mk (st := s_Form_len) l3 c3 k3
  have F4 := fun_mk (st := s_Form_call) l4 c4 k4
  have F5 := fun_mk (st := s_Form_eq) l5 c5 k5
  have F6 := fun_mk (st := s_Form_str) l6 c6 k6
  have F7 := fun_mk (st := s_l_bag) l7 c7 k7
  have F8 := fun_mk (st := s_l_take) l8 c8 k8
  have F9 := fun_mk (st := s_l_of) l9 c9 k9
  have F10 := fun_mk (st := s_l_sorts) l10 c10 k10
  have F11 := fun_mk (st := s_l_steps_of) l11 c11 k11
  have F12 := fun_mk (st := s_l_is_integer) l12 c12 k12
  have F13 := fun_mk (st := s_l_shown) l13 c13 k13
  have F14 := fun_mk (st := s_l_is_read) l14 c14 k14
  have F15 := fun_mk (st := s_law) l15 c15 k15
  have b0 := F0.binds (ps := ["self", "start", "steps"]) fun _ _ _ _ _ _ us hl => match us, hl with | [_, _, _], _ => rfl
  have b1 := F1.binds (ps := ["self"]) fun _ _ _ _ _ _ us hl => match us, hl with | [_], _ => rfl
  have b2 := F2.binds (ps := ["self", "sort"]) fun _ _ _ _ _ _ us hl => match us, hl with | [_, _], _ => rfl
  have b3 := F3.binds (ps := ["self"]) fun _ _ _ _ _ _ us hl => match us, hl with | [_], _ => rfl
  have b4 := F4.binds (ps := ["self", "counts"]) fun _ _ _ _ _ _ us hl => match us, hl with | [_, _], _ => rfl
  have b5 := F5.binds (ps := ["self", "other"]) fun _ _ _ _ _ _ us hl => match us, hl with | [_, _], _ => rfl
  have b6 := F6.binds (ps := ["self"]) fun _ _ _ _ _ _ us hl => match us, hl with | [_], _ => rfl
  have b7 := F7.binds (ps := ["_law_script", "_law_at"]) fun _ _ _ _ _ _ us hl => match us, hl with | [_, _], _ => rfl
  have b8 := F8.binds (ps := ["_law_bag_here", "_law_many"]) fun _ _ _ _ _ _ us hl => match us, hl with | [_, _], _ => rfl
  have b9 := F9.binds (ps := ["_law_bag_here", "_law_some"]) fun _ _ _ _ _ _ us hl => match us, hl with | [_, _], _ => rfl
  have b10 := F10.binds (ps := ["_law_bag_here", "_law_many"]) fun _ _ _ _ _ _ us hl => match us, hl with | [_, _], _ => rfl
  have b11 := F11.binds (ps := ["_law_sorts_here", "_law_steps"]) fun _ _ _ _ _ _ us hl => match us, hl with | [_, _], _ => rfl
  have b12 := F12.binds (ps := ["_law_thing"]) fun _ _ _ _ _ _ us hl => match us, hl with | [_], _ => rfl
  have b13 := F13.binds (ps := ["_law_start", "_law_found"]) fun _ _ _ _ _ _ us hl => match us, hl with | [_, _], _ => rfl
  have b14 := F14.binds (ps := ["_law_form", "_law_start", "_law_found"]) fun _ _ _ _ _ _ us hl => match us, hl with | [_, _, _], _ => rfl
  have b15 := F15.binds (ps := ["_law_script"]) fun _ _ _ _ _ _ us hl => match us, hl with | [_], _ => rfl
  have T : Txt K mg ⟨f0, PySem.W.fnOf "__init__" "Form.__init__" (defArgs s_Form_init) (defBody s_Form_init) (defScope s_Form_init) .none kV0 dc0 pm0 an0 cd0 ct0, f1, PySem.W.fnOf "sorts" "Form.sorts" (defArgs s_Form_sorts) (defBody s_Form_sorts) (defScope s_Form_sorts) .none kV1 dc1 pm1 an1 cd1 ct1, f2, PySem.W.fnOf "__getitem__" "Form.__getitem__" (defArgs s_Form_getitem) (defBody s_Form_getitem) (defScope s_Form_getitem) .none kV2 dc2 pm2 an2 cd2 ct2, f3, PySem.W.fnOf "__len__" "Form.__len__" (defArgs s_Form_len) (defBody s_Form_len) (defScope s_Form_len) .none kV3 dc3 pm3 an3 cd3 ct3, f4, PySem.W.fnOf "__call__" "Form.__call__" (defArgs s_Form_call) (defBody s_Form_call) (defScope s_Form_call) .none kV4 dc4 pm4 an4 cd4 ct4, f5, PySem.W.fnOf "__eq__" "Form.__eq__" (defArgs s_Form_eq) (defBody s_Form_eq) (defScope s_Form_eq) .none kV5 dc5 pm5 an5 cd5 ct5, f6, PySem.W.fnOf "__str__" "Form.__str__" (defArgs s_Form_str) (defBody s_Form_str) (defScope s_Form_str) .none kV6 dc6 pm6 an6 cd6 ct6, f7, PySem.W.fnOf "_law_bag" "_law_bag" (defArgs s_l_bag) (defBody s_l_bag) (defScope s_l_bag) .none kV7 dc7 pm7 an7 cd7 ct7, f8, PySem.W.fnOf "_law_take" "_law_take" (defArgs s_l_take) (defBody s_l_take) (defScope s_l_take) .none kV8 dc8 pm8 an8 cd8 ct8, f9, PySem.W.fnOf "_law_of" "_law_of" (defArgs s_l_of) (defBody s_l_of) (defScope s_l_of) .none kV9 dc9 pm9 an9 cd9 ct9, f10, PySem.W.fnOf "_law_sorts" "_law_sorts" (defArgs s_l_sorts) (defBody s_l_sorts) (defScope s_l_sorts) .none kV10 dc10 pm10 an10 cd10 ct10, f11, PySem.W.fnOf "_law_steps_of" "_law_steps_of" (defArgs s_l_steps_of) (defBody s_l_steps_of) (defScope s_l_steps_of) .none kV11 dc11 pm11 an11 cd11 ct11, f12, PySem.W.fnOf "_law_is_integer" "_law_is_integer" (defArgs s_l_is_integer) (defBody s_l_is_integer) (defScope s_l_is_integer) .none kV12 dc12 pm12 an12 cd12 ct12, f13, PySem.W.fnOf "_law_shown" "_law_shown" (defArgs s_l_shown) (defBody s_l_shown) (defScope s_l_shown) .none kV13 dc13 pm13 an13 cd13 ct13, f14, PySem.W.fnOf "_law_is_read" "_law_is_read" (defArgs s_l_is_read) (defBody s_l_is_read) (defScope s_l_is_read) .none kV14 dc14 pm14 an14 cd14 ct14, fa, PySem.W.fnOf "law" "law" (defArgs s_law) (defBody s_law) (defScope s_law) .none kV15 dc15 pm15 an15 cd15 ct15, C0⟩ := {
    F_Form_init := F0,
    b_Form_init := b0,
    m_Form_init := ⟨a0, i0, k0⟩,
    F_Form_sorts := F1,
    b_Form_sorts := b1,
    m_Form_sorts := ⟨a1, i1, k1⟩,
    F_Form_getitem := F2,
    b_Form_getitem := b2,
    m_Form_getitem := ⟨a2, i2, k2⟩,
    F_Form_len := F3,
    b_Form_len := b3,
    m_Form_len := ⟨a3, i3, k3⟩,
    F_Form_call := F4,
    b_Form_call := b4,
    m_Form_call := ⟨a4, i4, k4⟩,
    F_Form_eq := F5,
    b_Form_eq := b5,
    m_Form_eq := ⟨a5, i5, k5⟩,
    F_Form_str := F6,
    b_Form_str := b6,
    m_Form_str := ⟨a6, i6, k6⟩,
    F_l_bag := F7,
    b_l_bag := b7,
    g_l_bag := PySem.W.mg_of X G a7,
    F_l_take := F8,
    b_l_take := b8,
    g_l_take := PySem.W.mg_of X G a8,
    F_l_of := F9,
    b_l_of := b9,
    g_l_of := PySem.W.mg_of X G a9,
    F_l_sorts := F10,
    b_l_sorts := b10,
    g_l_sorts := PySem.W.mg_of X G a10,
    F_l_steps_of := F11,
    b_l_steps_of := b11,
    g_l_steps_of := PySem.W.mg_of X G a11,
    F_l_is_integer := F12,
    b_l_is_integer := b12,
    g_l_is_integer := PySem.W.mg_of X G a12,
    F_l_shown := F13,
    b_l_shown := b13,
    g_l_shown := PySem.W.mg_of X G a13,
    F_l_is_read := F14,
    b_l_is_read := b14,
    g_l_is_read := PySem.W.mg_of X G a14,
    F_law := F15,
    b_law := b15,
    g_law := PySem.W.mg_of X G a15,
    cl_Form := ⟨pg0, hd0, po0, sa0⟩,
    g_Form := PySem.W.mg_of X G aC0,
    mk_Form := ⟨mk0, a0, i0, kc0⟩,
    n_Form_start := n0_0,
    n_Form_steps := n0_1,
    nf_Form_int := nf0_int,
    nf_Form_tuple := nf0_tuple,
    ki_Form_int := ki0_int,
    ki_Form_tuple := ki0_tuple,
    fi_Form_getitem := fi2,
    fi_Form_call := fi4,
    i_Form := fun e => .ins e ⟨pg0, hd0, po0, sa0⟩ w0 y0 y1 x0,
    u_abs := PySem.W.mg_none_of X G z0,
    u_bool := PySem.W.mg_none_of X G z1,
    u_int := PySem.W.mg_none_of X G z2,
    u_isinstance := PySem.W.mg_none_of X G z3,
    u_len := PySem.W.mg_none_of X G z4,
    u_list := PySem.W.mg_none_of X G z5,
    u_max := PySem.W.mg_none_of X G z6,
    u_min := PySem.W.mg_none_of X G z7,
    u_range := PySem.W.mg_none_of X G z8,
    u_sorted := PySem.W.mg_none_of X G z9,
    u_str := PySem.W.mg_none_of X G z10,
    u_zip := PySem.W.mg_none_of X G z11 }
  exact ⟨PySem.W.fnOf "law" "law" (defArgs s_law) (defBody s_law) (defScope s_law) .none kV15 dc15 pm15 an15 cd15 ct15, fun s v => .of_eq rfl, fun base _ _ => ok_law T⟩
theorem walk {l : PySem.W.OpenLaw} {q : Program} {loose : List Str} {XP : (Str → Option Value) → Heap → Prop} {YP : World → Heap → Prop} {d : DefRec} {K : Params → PySem.W.Frag} (hn : l.most = some 63) (hdf : d.params.defaults = [])
    (hY : ∀ (w : World) (h : Heap), YP w h → (K w.params).In h)
    (F : ∀ (w : World) (mg : Str → Option Value) (fa : Addr) (h : Heap), (K w.params).In h → h.Ns mainGlobals mg → mg d.name = some (.ref fa) →
      ∃ fd : FuncData, (∀ (s : Shared) (u : Value), BindsTo s fd ⟨[u], []⟩ [("_law_script", u)]) ∧ ∀ base : Heap, (K w.params).In base → base.Ns mainGlobals mg → Gd.FnG l.prog w (K w.params) mg base CX0 6 fa fd ["_law_script"] (sp_law (K w.params))) :
    PySem.W.WalkO q loose XP YP l.row.toRowW d [] (fun f vs => PySem.call f vs) :=
  Gd.walk_ofG (n := 63) (k := 6) (x := "_law_script") (sp := fun w => sp_law (K w.params)) hn (by decide) hdf ⟨rfl, by decide, by decide⟩ hY F (fun _ _ a ns hl _ hS => ⟨a, ns, rfl, hS, hl, fun _ => rfl⟩)
end LW
open PySem PySem.W PyProof.Rows
set_option maxRecDepth 100000 in
set_option maxHeartbeats 0 in
theorem PySem.Challenge.cw_ownholes_k46_forms_read_holds : PySem.Challenge.rw_ownholes_k46_forms_read.Holds := by
  w_on; o_law; k_head; (case hw => w_witness2)
  k_fill
  refine LW.walk (l := PySem.Challenge.rw_ownholes_k46_forms_read) rfl rfl (fun w h Y => PySem.W.kIn_of Y) ?F
  case F =>
    intro w mg fa h KX G hmg
    refine' LW.all_mk KX G hmg ?aC0 ?a0 ?i0 ?l0 ?c0 ?k0 ?a1 ?i1 ?l1 ?c1 ?k1 ?a2 ?i2 ?l2 ?c2 ?k2 ?a3 ?i3 ?l3 ?c3 ?k3 ?a4 ?i4 ?l4 ?c4 ?k4 ?a5 ?i5 ?l5 ?c5 ?k5 ?a6 ?i6 ?l6 ?c6 ?k6 ?a7 ?l7 ?c7 ?k7 ?a8 ?l8 ?c8 ?k8 ?a9 ?l9 ?c9 ?k9 ?a10 ?l10 ?c10 ?k10 ?a11 ?l11 ?c11 ?k11 ?a12 ?l12 ?c12 ?k12 ?a13 ?l13 ?c13 ?k13 ?a14 ?l14 ?c14 ?k14 ?a15 ?l15 ?c15 ?k15 ?pg0 ?hd0 ?po0 ?sa0 ?mk0 ?kc0 ?w0 ?x0 ?fi2 ?fi4 ?nf0_int ?nf0_tuple ?ki0_int ?ki0_tuple ?n0_0 ?n0_1 ?y0 ?y1 ?z0 ?z1 ?z2 ?z3 ?z4 ?z5 ?z6 ?z7 ?z8 ?z9 ?z10 ?z11
    (case aC0 => k_is)
    (case a0 => k_is)
    (case i0 => k_is)
    (case l0 => k_is)
    (case c0 => k_is)
    (case k0 => k_is)
    (case a1 => k_is)
    (case i1 => k_is)
    (case l1 => k_is)
    (case c1 => k_is)
    (case k1 => k_is)
    (case a2 => k_is)
    (case i2 => k_is)
    (case l2 => k_is)
    (case c2 => k_is)
    (case k2 => k_is)
    (case a3 => k_is)
    (case i3 => k_is)
    (case l3 => k_is)
    (case c3 => k_is)
    (case k3 => k_is)
    (case a4 => k_is)
    (case i4 => k_is)
    (case l4 => k_is)
    (case c4 => k_is)
    (case k4 => k_is)
    (case a5 => k_is)
    (case i5 => k_is)
    (case l5 => k_is)
    (case c5 => k_is)
    (case k5 => k_is)
    (case a6 => k_is)
    (case i6 => k_is)
    (case l6 => k_is)
    (case c6 => k_is)
    (case k6 => k_is)
    (case a7 => k_is)
    (case l7 => k_is)
    (case c7 => k_is)
    (case k7 => k_is)
    (case a8 => k_is)
    (case l8 => k_is)
    (case c8 => k_is)
    (case k8 => k_is)
    (case a9 => k_is)
    (case l9 => k_is)
    (case c9 => k_is)
    (case k9 => k_is)
    (case a10 => k_is)
    (case l10 => k_is)
    (case c10 => k_is)
    (case k10 => k_is)
    (case a11 => k_is)
    (case l11 => k_is)
    (case c11 => k_is)
    (case k11 => k_is)
    (case a12 => k_is)
    (case l12 => k_is)
    (case c12 => k_is)
    (case k12 => k_is)
    (case a13 => k_is)
    (case l13 => k_is)
    (case c13 => k_is)
    (case k13 => k_is)
    (case a14 => k_is)
    (case l14 => k_is)
    (case c14 => k_is)
    (case k14 => k_is)
    (case a15 => k_is)
    (case l15 => k_is)
    (case c15 => k_is)
    (case k15 => k_is)
    (case pg0 => k_is)
    (case hd0 => k_is)
    (case po0 => k_is)
    (case sa0 => k_is)
    (case mk0 => k_is)
    (case kc0 => k_is)
    (case w0 => k_is)
    (case x0 => k_is)
    (case fi2 => k_is)
    (case fi4 => k_is)
    (case nf0_int => k_is)
    (case nf0_tuple => k_is)
    (case ki0_int => kit_is)
    (case ki0_tuple => kit_is)
    (case n0_0 => k_is)
    (case n0_1 => k_is)
    (case y0 => k_is)
    (case y1 => k_is)
    (case z0 => k_is)
    (case z1 => k_is)
    (case z2 => k_is)
    (case z3 => k_is)
    (case z4 => k_is)
    (case z5 => k_is)
    (case z6 => k_is)
    (case z7 => k_is)
    (case z8 => k_is)
    (case z9 => k_is)
    (case z10 => k_is)
    (case z11 => k_is)
