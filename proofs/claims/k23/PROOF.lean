import PyProof.Rows.All
import Wide.All
import OpenK.AllK
import Wide.FinOn
import HandS.ForMost
import HandS.ForExc
import HandS.IsInst
import HandS.Walk
import HandS.Steps
import HandS.DictComp
import HandS.DictTup
import HandS.TupSets
import HandS.TupLen
import HandS.Conv
import HandS.OwnEq
import HandS.Codes
import HandS.Zip
import HandS.Star
import HandS.Style
import HandS.Deep
import HandS.Exc
import HandS.ExcOwn
import HandS.WordsExc
import HandS.ExcInit
import HandS.ExcField
import KE.KTryMore
import KE.KExcIs
import KE.KIsAll
import HandS.SortInts
import HandS.More
import KE.KDictDisplayH
import HandS.FStr
import HandS.SetKeys
import KE.KCallOwn
import PyProof.Rows.ReprR
import PyProof.DictMoreH
import HandS.StrMore
import HandS.Text
import HandS.Iter
import KE.KDictList
import PyProof.StrWalks
import KE.GoesMore
import PyProof.ReprLen
import PyProof.Rows.SortStr
import PyProof.Rows.TmSorted
import PyProof.Rows.StrMeet
import HandS.ClsMeth
import HandS.Defaults
import HandS.Small
import KE.KOpsOwn
import HandS.NoneIn
import HandS.Property
import HandS.Finally
import HandS.WordsDict
import KE.OsRunLaw
import PySem.Challenge.RW_ownholes_k23_scopes
set_option Elab.async false
set_option maxRecDepth 100000
set_option maxHeartbeats 2000000
set_option linter.all false
namespace LW
open PySem L2
def top (i : Nat) : Stmt := PySem.Challenge.pw_ownholes_k23_scopes.main.body.getD i (.Pass ⟨0, 0, 0, 0⟩)
abbrev s_is_name : Stmt := top 15
abbrev N_is_name : List Str := ["part", "char"]
theorem sc_is_name : FnScope N_is_name ["part"] (defScope s_is_name) := ⟨rfl, rfl, rfl, by decide +kernel, rfl, by decide +kernel, by decide +kernel⟩
abbrev s_is_literal : Stmt := top 16
abbrev N_is_literal : List Str := ["part", "char"]
theorem sc_is_literal : FnScope N_is_literal ["part"] (defScope s_is_literal) := ⟨rfl, rfl, rfl, by decide +kernel, rfl, by decide +kernel, by decide +kernel⟩
abbrev s_is_numeral : Stmt := top 17
abbrev N_is_numeral : List Str := ["part", "char"]
theorem sc_is_numeral : FnScope N_is_numeral ["part"] (defScope s_is_numeral) := ⟨rfl, rfl, rfl, by decide +kernel, rfl, by decide +kernel, by decide +kernel⟩
abbrev s_Reader_init : Stmt := inClass (top 18) 0
abbrev N_Reader_init : List Str := ["self"]
theorem sc_Reader_init : FnScope N_Reader_init ["self"] (defScope s_Reader_init) := ⟨rfl, rfl, rfl, by decide +kernel, rfl, by decide +kernel, by decide +kernel⟩
abbrev s_Reader_kind_of : Stmt := inClass (top 18) 1
abbrev N_Reader_kind_of : List Str := ["self", "name", "scope"]
theorem sc_Reader_kind_of : FnScope N_Reader_kind_of ["self", "name"] (defScope s_Reader_kind_of) := ⟨rfl, rfl, rfl, by decide +kernel, rfl, by decide +kernel, by decide +kernel⟩
abbrev s_Reader_declare : Stmt := inClass (top 18) 2
abbrev N_Reader_declare : List Str := ["self", "name", "kind"]
theorem sc_Reader_declare : FnScope N_Reader_declare ["self", "name", "kind"] (defScope s_Reader_declare) := ⟨rfl, rfl, rfl, by decide +kernel, rfl, by decide +kernel, by decide +kernel⟩
abbrev s_Reader_is_local : Stmt := inClass (top 18) 3
abbrev N_Reader_is_local : List Str := ["self", "name", "scope"]
theorem sc_Reader_is_local : FnScope N_Reader_is_local ["self", "name"] (defScope s_Reader_is_local) := ⟨rfl, rfl, rfl, by decide +kernel, rfl, by decide +kernel, by decide +kernel⟩
abbrev s_Reader_grow : Stmt := inClass (top 18) 4
abbrev N_Reader_grow : List Str := ["self", "name", "many"]
theorem sc_Reader_grow : FnScope N_Reader_grow ["self", "name", "many"] (defScope s_Reader_grow) := ⟨rfl, rfl, rfl, by decide +kernel, rfl, by decide +kernel, by decide +kernel⟩
abbrev s_Reader_accept : Stmt := inClass (top 18) 5
abbrev N_Reader_accept : List Str := ["self", "at", "parts"]
theorem sc_Reader_accept : FnScope N_Reader_accept ["self", "at", "parts"] (defScope s_Reader_accept) := ⟨rfl, rfl, rfl, by decide +kernel, rfl, by decide +kernel, by decide +kernel⟩
abbrev s_Reader_accept_manner : Stmt := inClass (top 18) 6
abbrev N_Reader_accept_manner : List Str := ["self", "parts"]
theorem sc_Reader_accept_manner : FnScope N_Reader_accept_manner ["self", "parts"] (defScope s_Reader_accept_manner) := ⟨rfl, rfl, rfl, by decide +kernel, rfl, by decide +kernel, by decide +kernel⟩
abbrev s_Reader_declare_all : Stmt := inClass (top 18) 7
abbrev N_Reader_declare_all : List Str := ["self", "names", "kind", "name"]
theorem sc_Reader_declare_all : FnScope N_Reader_declare_all ["self", "names", "kind"] (defScope s_Reader_declare_all) := ⟨rfl, rfl, rfl, by decide +kernel, rfl, by decide +kernel, by decide +kernel⟩
abbrev s_Reader_accept_block : Stmt := inClass (top 18) 8
abbrev N_Reader_accept_block : List Str := ["self", "at", "parts", "opened"]
theorem sc_Reader_accept_block : FnScope N_Reader_accept_block ["self", "at", "parts"] (defScope s_Reader_accept_block) := ⟨rfl, rfl, rfl, by decide +kernel, rfl, by decide +kernel, by decide +kernel⟩
abbrev s_Reader_open_block : Stmt := inClass (top 18) 9
abbrev N_Reader_open_block : List Str := ["self", "at", "kind"]
theorem sc_Reader_open_block : FnScope N_Reader_open_block ["self", "at", "kind"] (defScope s_Reader_open_block) := ⟨rfl, rfl, rfl, by decide +kernel, rfl, by decide +kernel, by decide +kernel⟩
abbrev s_Reader_accept_each : Stmt := inClass (top 18) 10
abbrev N_Reader_accept_each : List Str := ["self", "at", "parts"]
theorem sc_Reader_accept_each : FnScope N_Reader_accept_each ["self", "at", "parts"] (defScope s_Reader_accept_each) := ⟨rfl, rfl, rfl, by decide +kernel, rfl, by decide +kernel, by decide +kernel⟩
abbrev s_Reader_accept_other : Stmt := inClass (top 18) 11
abbrev N_Reader_accept_other : List Str := ["self", "parts", "word"]
theorem sc_Reader_accept_other : FnScope N_Reader_accept_other ["self", "parts"] (defScope s_Reader_accept_other) := ⟨rfl, rfl, rfl, by decide +kernel, rfl, by decide +kernel, by decide +kernel⟩
abbrev s_Reader_accept_writing : Stmt := inClass (top 18) 12
abbrev N_Reader_accept_writing : List Str := ["self", "parts", "word", "kind", "right"]
theorem sc_Reader_accept_writing : FnScope N_Reader_accept_writing ["self", "parts"] (defScope s_Reader_accept_writing) := ⟨rfl, rfl, rfl, by decide +kernel, rfl, by decide +kernel, by decide +kernel⟩
abbrev s_Reader_is_value : Stmt := inClass (top 18) 13
abbrev N_Reader_is_value : List Str := ["self", "name"]
theorem sc_Reader_is_value : FnScope N_Reader_is_value ["self", "name"] (defScope s_Reader_is_value) := ⟨rfl, rfl, rfl, by decide +kernel, rfl, by decide +kernel, by decide +kernel⟩
abbrev s_Reader_accept_bind : Stmt := inClass (top 18) 14
abbrev N_Reader_accept_bind : List Str := ["self", "parts"]
theorem sc_Reader_accept_bind : FnScope N_Reader_accept_bind ["self", "parts"] (defScope s_Reader_accept_bind) := ⟨rfl, rfl, rfl, by decide +kernel, rfl, by decide +kernel, by decide +kernel⟩
abbrev s_Reader_accept_add : Stmt := inClass (top 18) 15
abbrev N_Reader_accept_add : List Str := ["self", "kind", "parts"]
theorem sc_Reader_accept_add : FnScope N_Reader_accept_add ["self", "kind", "parts"] (defScope s_Reader_accept_add) := ⟨rfl, rfl, rfl, by decide +kernel, rfl, by decide +kernel, by decide +kernel⟩
abbrev s_Program_init : Stmt := inClass (top 19) 1
abbrev N_Program_init : List Str := ["self", "text", "rows", "reader", "at", "parts", "line", "part"]
theorem sc_Program_init : FnScope N_Program_init ["self", "text"] (defScope s_Program_init) := ⟨rfl, rfl, rfl, by decide +kernel, rfl, by decide +kernel, by decide +kernel⟩
abbrev s_BadProgram_init : Stmt := inClass (top 3) 0
abbrev N_BadProgram_init : List Str := ["self", "at"]
theorem sc_BadProgram_init : FnScope N_BadProgram_init ["self", "at"] (defScope s_BadProgram_init) := ⟨rfl, rfl, rfl, by decide +kernel, rfl, by decide +kernel, by decide +kernel⟩
abbrev s_l_bag : Stmt := top 21
abbrev N_l_bag : List Str := ["_law_script", "_law_k", "_law_cell", "_law_bag_here"]
theorem sc_l_bag : FnScope N_l_bag ["_law_script", "_law_k"] (defScope s_l_bag) := ⟨rfl, rfl, rfl, by decide +kernel, rfl, by decide +kernel, by decide +kernel⟩
abbrev s_l_take : Stmt := top 22
abbrev N_l_take : List Str := ["_law_bag_here", "_law_many", "_law_found"]
theorem sc_l_take : FnScope N_l_take ["_law_bag_here", "_law_many"] (defScope s_l_take) := ⟨rfl, rfl, rfl, by decide +kernel, rfl, by decide +kernel, by decide +kernel⟩
abbrev s_l_names : Stmt := top 23
abbrev N_l_names : List Str := ["_law_bag_here", "_law_many", "_law_letters", "_law_shape", "_law_names_here", "_law_k", "_law_drawn", "_law_turn"]
theorem sc_l_names : FnScope N_l_names ["_law_bag_here", "_law_many"] (defScope s_l_names) := ⟨rfl, rfl, rfl, by decide +kernel, rfl, by decide +kernel, by decide +kernel⟩
abbrev s_l_at : Stmt := top 24
abbrev N_l_at : List Str := ["_law_text", "e"]
theorem sc_l_at : FnScope N_l_at ["_law_text"] (defScope s_l_at) := ⟨rfl, rfl, rfl, by decide +kernel, rfl, by decide +kernel, by decide +kernel⟩
abbrev s_l_kind : Stmt := top 25
abbrev N_l_kind : List Str := ["_law_scopes", "_law_name", "_law_scope"]
theorem sc_l_kind : FnScope N_l_kind ["_law_scopes", "_law_name"] (defScope s_l_kind) := ⟨rfl, rfl, rfl, by decide +kernel, rfl, by decide +kernel, by decide +kernel⟩
abbrev s_l_line : Stmt := top 26
abbrev N_l_line : List Str := ["_law_bag_here", "_law_names_here", "_law_blocks", "_law_kind_here", "_law_name", "_law_other"]
theorem sc_l_line : FnScope N_l_line ["_law_bag_here", "_law_names_here", "_law_blocks"] (defScope s_l_line) := ⟨rfl, rfl, rfl, by decide +kernel, rfl, by decide +kernel, by decide +kernel⟩
abbrev s_l_right : Stmt := top 27
abbrev N_l_right : List Str := ["_law_scopes", "_law_parts", "_law_kinds", "_law_word", "_law_part"]
theorem sc_l_right : FnScope N_l_right ["_law_scopes", "_law_parts"] (defScope s_l_right) := ⟨rfl, rfl, rfl, by decide +kernel, rfl, by decide +kernel, by decide +kernel⟩
abbrev s_l_step : Stmt := top 28
abbrev N_l_step : List Str := ["_law_scopes", "_law_blocks", "_law_parts", "_law_word", "_law_kinds"]
theorem sc_l_step : FnScope N_l_step ["_law_scopes", "_law_blocks", "_law_parts"] (defScope s_l_step) := ⟨rfl, rfl, rfl, by decide +kernel, rfl, by decide +kernel, by decide +kernel⟩
abbrev s_law : Stmt := top 29
abbrev N_law : List Str := ["_law_script", "_law_bag_here", "_law_names_here", "_law_lines", "_law_scopes", "_law_blocks", "_law_due", "_law_turn", "_law_parts"]
theorem sc_law : FnScope N_law ["_law_script"] (defScope s_law) := ⟨rfl, rfl, rfl, by decide +kernel, rfl, by decide +kernel, by decide +kernel⟩

/-- what the walk asks of what the top has made -/
def TopFacts (K : PySem.W.Frag) : Prop := ∀ R : Prop, (∀ {f0 f1 f2 f3 f4 f5 f6 f7 f8 f9 f10 f11 f12 f13 f14 f15 f16 f17 f18 f19 f20 f21 f22 f23 f24 f25 f26 f27 f28 f29 C0 C1 X0 X1 dT7 : Addr}
    {od0 an0 : Option Addr} {sl0 : Array (Option Value)} {oc0 kV0 dc0 pm0 cd0 ct0 : Value}
    {od1 an1 : Option Addr} {sl1 : Array (Option Value)} {oc1 kV1 dc1 pm1 cd1 ct1 : Value}
    {od2 an2 : Option Addr} {sl2 : Array (Option Value)} {oc2 kV2 dc2 pm2 cd2 ct2 : Value}
    {od3 an3 : Option Addr} {sl3 : Array (Option Value)} {oc3 kV3 dc3 pm3 cd3 ct3 : Value}
    {od4 an4 : Option Addr} {sl4 : Array (Option Value)} {oc4 kV4 dc4 pm4 cd4 ct4 : Value}
    {od5 an5 : Option Addr} {sl5 : Array (Option Value)} {oc5 kV5 dc5 pm5 cd5 ct5 : Value}
    {od6 an6 : Option Addr} {sl6 : Array (Option Value)} {oc6 kV6 dc6 pm6 cd6 ct6 : Value}
    {od7 an7 : Option Addr} {sl7 : Array (Option Value)} {oc7 kV7 dc7 pm7 cd7 ct7 : Value}
    {od8 an8 : Option Addr} {sl8 : Array (Option Value)} {oc8 kV8 dc8 pm8 cd8 ct8 : Value}
    {od9 an9 : Option Addr} {sl9 : Array (Option Value)} {oc9 kV9 dc9 pm9 cd9 ct9 : Value}
    {od10 an10 : Option Addr} {sl10 : Array (Option Value)} {oc10 kV10 dc10 pm10 cd10 ct10 : Value}
    {od11 an11 : Option Addr} {sl11 : Array (Option Value)} {oc11 kV11 dc11 pm11 cd11 ct11 : Value}
    {od12 an12 : Option Addr} {sl12 : Array (Option Value)} {oc12 kV12 dc12 pm12 cd12 ct12 : Value}
    {od13 an13 : Option Addr} {sl13 : Array (Option Value)} {oc13 kV13 dc13 pm13 cd13 ct13 : Value}
    {od14 an14 : Option Addr} {sl14 : Array (Option Value)} {oc14 kV14 dc14 pm14 cd14 ct14 : Value}
    {od15 an15 : Option Addr} {sl15 : Array (Option Value)} {oc15 kV15 dc15 pm15 cd15 ct15 : Value}
    {od16 an16 : Option Addr} {sl16 : Array (Option Value)} {oc16 kV16 dc16 pm16 cd16 ct16 : Value}
    {od17 an17 : Option Addr} {sl17 : Array (Option Value)} {oc17 kV17 dc17 pm17 cd17 ct17 : Value}
    {od18 an18 : Option Addr} {sl18 : Array (Option Value)} {oc18 kV18 dc18 pm18 cd18 ct18 : Value}
    {od19 an19 : Option Addr} {sl19 : Array (Option Value)} {oc19 kV19 dc19 pm19 cd19 ct19 : Value}
    {od20 an20 : Option Addr} {sl20 : Array (Option Value)} {oc20 kV20 dc20 pm20 cd20 ct20 : Value}
    {od21 an21 : Option Addr} {sl21 : Array (Option Value)} {oc21 kV21 dc21 pm21 cd21 ct21 : Value}
    {od22 an22 : Option Addr} {sl22 : Array (Option Value)} {oc22 kV22 dc22 pm22 cd22 ct22 : Value}
    {od23 an23 : Option Addr} {sl23 : Array (Option Value)} {oc23 kV23 dc23 pm23 cd23 ct23 : Value}
    {od24 an24 : Option Addr} {sl24 : Array (Option Value)} {oc24 kV24 dc24 pm24 cd24 ct24 : Value}
    {od25 an25 : Option Addr} {sl25 : Array (Option Value)} {oc25 kV25 dc25 pm25 cd25 ct25 : Value}
    {od26 an26 : Option Addr} {sl26 : Array (Option Value)} {oc26 kV26 dc26 pm26 cd26 ct26 : Value}
    {od27 an27 : Option Addr} {sl27 : Array (Option Value)} {oc27 kV27 dc27 pm27 cd27 ct27 : Value}
    {od28 an28 : Option Addr} {sl28 : Array (Option Value)} {oc28 kV28 dc28 pm28 cd28 ct28 : Value}
    {od29 an29 : Option Addr} {sl29 : Array (Option Value)} {oc29 kV29 dc29 pm29 cd29 ct29 : Value}
    {tc7 : Value} {td7 : Option Addr} {tn7 : Nat} {tl7 : Array (Option Value)}
    {tkp7_0 : PySem.Tok}
    {ltk1_0 : PySem.Tok}
    {nmx0 qx0 : Str} {Nx0 : Addr} {bsx0 : List Value} {snx0 : List Str} {subx0 : List Value} {abx0 : Bool} {colx0 : Option Bool} {ddx0 : Option Addr} {m0x0 m1x0 m2x0 m3x0 m5x0 : Option Value}
    {nmx1 qx1 : Str} {Nx1 : Addr} {bsx1 : List Value} {snx1 : List Str} {subx1 : List Value} {abx1 : Bool} {colx1 : Option Bool} {ddx1 : Option Addr} {m0x1 m1x1 m2x1 m3x1 m5x1 : Option Value}
    {tk_LETTERS tk_MOST_ADDS tk_MOST_COUNT tk_MOST_DEPTH tk_MOST_NAMES tk_MOST_SHIFTS tk_SIGNS : PySem.Tok}
    {TT_MANNERS : Addr} {ttd_MANNERS : Option Addr} {ttn_MANNERS : Nat} {tts_MANNERS : Array (Option Value)} {ttk_MANNERS_0 ttk_MANNERS_1 ttk_MANNERS_2 : PySem.Tok}
    {TT_RESERVED : Addr} {ttd_RESERVED : Option Addr} {ttn_RESERVED : Nat} {tts_RESERVED : Array (Option Value)} {ttk_RESERVED_0 ttk_RESERVED_1 ttk_RESERVED_2 ttk_RESERVED_3 ttk_RESERVED_4 ttk_RESERVED_5 ttk_RESERVED_6 ttk_RESERVED_7 ttk_RESERVED_8 ttk_RESERVED_9 ttk_RESERVED_10 ttk_RESERVED_11 ttk_RESERVED_12 ttk_RESERVED_13 ttk_RESERVED_14 ttk_RESERVED_15 ttk_RESERVED_16 ttk_RESERVED_17 ttk_RESERVED_18 ttk_RESERVED_19 ttk_RESERVED_20 ttk_RESERVED_21 ttk_RESERVED_22 ttk_RESERVED_23 ttk_RESERVED_24 ttk_RESERVED_25 : PySem.Tok}
    {TT_SIDES : Addr} {ttd_SIDES : Option Addr} {ttn_SIDES : Nat} {tts_SIDES : Array (Option Value)} {ttk_SIDES_0 ttk_SIDES_1 : PySem.Tok}
    (ax0 : PySem.W.nsIn K mainGlobals "OwnholesError" = some (some (.ref X0)))
    (ax1 : PySem.W.nsIn K mainGlobals "BadProgram" = some (some (.ref X1)))
    (aC0 : PySem.W.nsIn K mainGlobals "Reader" = some (some (.ref C0)))
    (aC1 : PySem.W.nsIn K mainGlobals "Program" = some (some (.ref C1)))
    (a0 : PySem.W.nsIn K mainGlobals "is_name" = some (some (.ref f0)))
    (l0 : K.lookup f0 = some ⟨oc0, od0, .func (PySem.W.fnOf "is_name" "is_name" (defArgs s_is_name) (defBody s_is_name) (defScope s_is_name) .none kV0 dc0 pm0 an0 cd0 ct0), sl0⟩)
    (c0 : PySem.W.codeIn K cd0 "is_name" = true)
    (k0 : PySem.W.keepIn K (.ref f0) = true)
    (a1 : PySem.W.nsIn K mainGlobals "is_literal" = some (some (.ref f1)))
    (l1 : K.lookup f1 = some ⟨oc1, od1, .func (PySem.W.fnOf "is_literal" "is_literal" (defArgs s_is_literal) (defBody s_is_literal) (defScope s_is_literal) .none kV1 dc1 pm1 an1 cd1 ct1), sl1⟩)
    (c1 : PySem.W.codeIn K cd1 "is_literal" = true)
    (k1 : PySem.W.keepIn K (.ref f1) = true)
    (a2 : PySem.W.nsIn K mainGlobals "is_numeral" = some (some (.ref f2)))
    (l2 : K.lookup f2 = some ⟨oc2, od2, .func (PySem.W.fnOf "is_numeral" "is_numeral" (defArgs s_is_numeral) (defBody s_is_numeral) (defScope s_is_numeral) .none kV2 dc2 pm2 an2 cd2 ct2), sl2⟩)
    (c2 : PySem.W.codeIn K cd2 "is_numeral" = true)
    (k2 : PySem.W.keepIn K (.ref f2) = true)
    (a3 : PySem.W.findIn K (.ref C0) "__init__" = some (some (.ref f3)))
    (i3 : PySem.W.isFn K (.ref f3) = true)
    (l3 : K.lookup f3 = some ⟨oc3, od3, .func (PySem.W.fnOf "__init__" "Reader.__init__" (defArgs s_Reader_init) (defBody s_Reader_init) (defScope s_Reader_init) .none kV3 dc3 pm3 an3 cd3 ct3), sl3⟩)
    (c3 : PySem.W.codeIn K cd3 "Reader.__init__" = true)
    (k3 : PySem.W.keepIn K (.ref f3) = true)
    (a4 : PySem.W.findIn K (.ref C0) "kind_of" = some (some (.ref f4)))
    (i4 : PySem.W.isFn K (.ref f4) = true)
    (l4 : K.lookup f4 = some ⟨oc4, od4, .func (PySem.W.fnOf "kind_of" "Reader.kind_of" (defArgs s_Reader_kind_of) (defBody s_Reader_kind_of) (defScope s_Reader_kind_of) .none kV4 dc4 pm4 an4 cd4 ct4), sl4⟩)
    (c4 : PySem.W.codeIn K cd4 "Reader.kind_of" = true)
    (k4 : PySem.W.keepIn K (.ref f4) = true)
    (a5 : PySem.W.findIn K (.ref C0) "declare" = some (some (.ref f5)))
    (i5 : PySem.W.isFn K (.ref f5) = true)
    (l5 : K.lookup f5 = some ⟨oc5, od5, .func (PySem.W.fnOf "declare" "Reader.declare" (defArgs s_Reader_declare) (defBody s_Reader_declare) (defScope s_Reader_declare) .none kV5 dc5 pm5 an5 cd5 ct5), sl5⟩)
    (c5 : PySem.W.codeIn K cd5 "Reader.declare" = true)
    (k5 : PySem.W.keepIn K (.ref f5) = true)
    (a6 : PySem.W.findIn K (.ref C0) "is_local" = some (some (.ref f6)))
    (i6 : PySem.W.isFn K (.ref f6) = true)
    (l6 : K.lookup f6 = some ⟨oc6, od6, .func (PySem.W.fnOf "is_local" "Reader.is_local" (defArgs s_Reader_is_local) (defBody s_Reader_is_local) (defScope s_Reader_is_local) .none kV6 dc6 pm6 an6 cd6 ct6), sl6⟩)
    (c6 : PySem.W.codeIn K cd6 "Reader.is_local" = true)
    (k6 : PySem.W.keepIn K (.ref f6) = true)
    (a7 : PySem.W.findIn K (.ref C0) "grow" = some (some (.ref f7)))
    (i7 : PySem.W.isFn K (.ref f7) = true)
    (l7 : K.lookup f7 = some ⟨oc7, od7, .func (PySem.W.fnOf "grow" "Reader.grow" (defArgs s_Reader_grow) (defBody s_Reader_grow) (defScope s_Reader_grow) (.ref dT7) kV7 dc7 pm7 an7 cd7 ct7), sl7⟩)
    (lT7 : K.lookup dT7 = some ⟨tc7, td7, .seq #[.int 1 tkp7_0] tn7, tl7⟩)
    (c7 : PySem.W.codeIn K cd7 "Reader.grow" = true)
    (k7 : PySem.W.keepIn K (.ref f7) = true)
    (a8 : PySem.W.findIn K (.ref C0) "accept" = some (some (.ref f8)))
    (i8 : PySem.W.isFn K (.ref f8) = true)
    (l8 : K.lookup f8 = some ⟨oc8, od8, .func (PySem.W.fnOf "accept" "Reader.accept" (defArgs s_Reader_accept) (defBody s_Reader_accept) (defScope s_Reader_accept) .none kV8 dc8 pm8 an8 cd8 ct8), sl8⟩)
    (c8 : PySem.W.codeIn K cd8 "Reader.accept" = true)
    (k8 : PySem.W.keepIn K (.ref f8) = true)
    (a9 : PySem.W.findIn K (.ref C0) "accept_manner" = some (some (.ref f9)))
    (i9 : PySem.W.isFn K (.ref f9) = true)
    (l9 : K.lookup f9 = some ⟨oc9, od9, .func (PySem.W.fnOf "accept_manner" "Reader.accept_manner" (defArgs s_Reader_accept_manner) (defBody s_Reader_accept_manner) (defScope s_Reader_accept_manner) .none kV9 dc9 pm9 an9 cd9 ct9), sl9⟩)
    (c9 : PySem.W.codeIn K cd9 "Reader.accept_manner" = true)
    (k9 : PySem.W.keepIn K (.ref f9) = true)
    (a10 : PySem.W.findIn K (.ref C0) "declare_all" = some (some (.ref f10)))
    (i10 : PySem.W.isFn K (.ref f10) = true)
    (l10 : K.lookup f10 = some ⟨oc10, od10, .func (PySem.W.fnOf "declare_all" "Reader.declare_all" (defArgs s_Reader_declare_all) (defBody s_Reader_declare_all) (defScope s_Reader_declare_all) .none kV10 dc10 pm10 an10 cd10 ct10), sl10⟩)
    (c10 : PySem.W.codeIn K cd10 "Reader.declare_all" = true)
    (k10 : PySem.W.keepIn K (.ref f10) = true)
    (a11 : PySem.W.findIn K (.ref C0) "accept_block" = some (some (.ref f11)))
    (i11 : PySem.W.isFn K (.ref f11) = true)
    (l11 : K.lookup f11 = some ⟨oc11, od11, .func (PySem.W.fnOf "accept_block" "Reader.accept_block" (defArgs s_Reader_accept_block) (defBody s_Reader_accept_block) (defScope s_Reader_accept_block) .none kV11 dc11 pm11 an11 cd11 ct11), sl11⟩)
    (c11 : PySem.W.codeIn K cd11 "Reader.accept_block" = true)
    (k11 : PySem.W.keepIn K (.ref f11) = true)
    (a12 : PySem.W.findIn K (.ref C0) "open_block" = some (some (.ref f12)))
    (i12 : PySem.W.isFn K (.ref f12) = true)
    (l12 : K.lookup f12 = some ⟨oc12, od12, .func (PySem.W.fnOf "open_block" "Reader.open_block" (defArgs s_Reader_open_block) (defBody s_Reader_open_block) (defScope s_Reader_open_block) .none kV12 dc12 pm12 an12 cd12 ct12), sl12⟩)
    (c12 : PySem.W.codeIn K cd12 "Reader.open_block" = true)
    (k12 : PySem.W.keepIn K (.ref f12) = true)
    (a13 : PySem.W.findIn K (.ref C0) "accept_each" = some (some (.ref f13)))
    (i13 : PySem.W.isFn K (.ref f13) = true)
    (l13 : K.lookup f13 = some ⟨oc13, od13, .func (PySem.W.fnOf "accept_each" "Reader.accept_each" (defArgs s_Reader_accept_each) (defBody s_Reader_accept_each) (defScope s_Reader_accept_each) .none kV13 dc13 pm13 an13 cd13 ct13), sl13⟩)
    (c13 : PySem.W.codeIn K cd13 "Reader.accept_each" = true)
    (k13 : PySem.W.keepIn K (.ref f13) = true)
    (a14 : PySem.W.findIn K (.ref C0) "accept_other" = some (some (.ref f14)))
    (i14 : PySem.W.isFn K (.ref f14) = true)
    (l14 : K.lookup f14 = some ⟨oc14, od14, .func (PySem.W.fnOf "accept_other" "Reader.accept_other" (defArgs s_Reader_accept_other) (defBody s_Reader_accept_other) (defScope s_Reader_accept_other) .none kV14 dc14 pm14 an14 cd14 ct14), sl14⟩)
    (c14 : PySem.W.codeIn K cd14 "Reader.accept_other" = true)
    (k14 : PySem.W.keepIn K (.ref f14) = true)
    (a15 : PySem.W.findIn K (.ref C0) "accept_writing" = some (some (.ref f15)))
    (i15 : PySem.W.isFn K (.ref f15) = true)
    (l15 : K.lookup f15 = some ⟨oc15, od15, .func (PySem.W.fnOf "accept_writing" "Reader.accept_writing" (defArgs s_Reader_accept_writing) (defBody s_Reader_accept_writing) (defScope s_Reader_accept_writing) .none kV15 dc15 pm15 an15 cd15 ct15), sl15⟩)
    (c15 : PySem.W.codeIn K cd15 "Reader.accept_writing" = true)
    (k15 : PySem.W.keepIn K (.ref f15) = true)
    (a16 : PySem.W.findIn K (.ref C0) "is_value" = some (some (.ref f16)))
    (i16 : PySem.W.isFn K (.ref f16) = true)
    (l16 : K.lookup f16 = some ⟨oc16, od16, .func (PySem.W.fnOf "is_value" "Reader.is_value" (defArgs s_Reader_is_value) (defBody s_Reader_is_value) (defScope s_Reader_is_value) .none kV16 dc16 pm16 an16 cd16 ct16), sl16⟩)
    (c16 : PySem.W.codeIn K cd16 "Reader.is_value" = true)
    (k16 : PySem.W.keepIn K (.ref f16) = true)
    (a17 : PySem.W.findIn K (.ref C0) "accept_bind" = some (some (.ref f17)))
    (i17 : PySem.W.isFn K (.ref f17) = true)
    (l17 : K.lookup f17 = some ⟨oc17, od17, .func (PySem.W.fnOf "accept_bind" "Reader.accept_bind" (defArgs s_Reader_accept_bind) (defBody s_Reader_accept_bind) (defScope s_Reader_accept_bind) .none kV17 dc17 pm17 an17 cd17 ct17), sl17⟩)
    (c17 : PySem.W.codeIn K cd17 "Reader.accept_bind" = true)
    (k17 : PySem.W.keepIn K (.ref f17) = true)
    (a18 : PySem.W.findIn K (.ref C0) "accept_add" = some (some (.ref f18)))
    (i18 : PySem.W.isFn K (.ref f18) = true)
    (l18 : K.lookup f18 = some ⟨oc18, od18, .func (PySem.W.fnOf "accept_add" "Reader.accept_add" (defArgs s_Reader_accept_add) (defBody s_Reader_accept_add) (defScope s_Reader_accept_add) .none kV18 dc18 pm18 an18 cd18 ct18), sl18⟩)
    (c18 : PySem.W.codeIn K cd18 "Reader.accept_add" = true)
    (k18 : PySem.W.keepIn K (.ref f18) = true)
    (a19 : PySem.W.findIn K (.ref C1) "__init__" = some (some (.ref f19)))
    (i19 : PySem.W.isFn K (.ref f19) = true)
    (l19 : K.lookup f19 = some ⟨oc19, od19, .func (PySem.W.fnOf "__init__" "Program.__init__" (defArgs s_Program_init) (defBody s_Program_init) (defScope s_Program_init) .none kV19 dc19 pm19 an19 cd19 ct19), sl19⟩)
    (c19 : PySem.W.codeIn K cd19 "Program.__init__" = true)
    (k19 : PySem.W.keepIn K (.ref f19) = true)
    (a20 : PySem.W.findIn K (.ref X1) "__init__" = some (some (.ref f20)))
    (i20 : PySem.W.typeIn K (.ref f20) = some (.type "function"))
    (l20 : K.lookup f20 = some ⟨oc20, od20, .func (PySem.W.fnOf "__init__" "BadProgram.__init__" (defArgs s_BadProgram_init) (defBody s_BadProgram_init) (defScope s_BadProgram_init) .none kV20 dc20 pm20 an20 cd20 ct20), sl20⟩)
    (c20 : PySem.W.codeIn K cd20 "BadProgram.__init__" = true)
    (k20 : PySem.W.keepIn K (.ref f20) = true)
    (a21 : PySem.W.nsIn K mainGlobals "_law_bag" = some (some (.ref f21)))
    (l21 : K.lookup f21 = some ⟨oc21, od21, .func (PySem.W.fnOf "_law_bag" "_law_bag" (defArgs s_l_bag) (defBody s_l_bag) (defScope s_l_bag) .none kV21 dc21 pm21 an21 cd21 ct21), sl21⟩)
    (c21 : PySem.W.codeIn K cd21 "_law_bag" = true)
    (k21 : PySem.W.keepIn K (.ref f21) = true)
    (a22 : PySem.W.nsIn K mainGlobals "_law_take" = some (some (.ref f22)))
    (l22 : K.lookup f22 = some ⟨oc22, od22, .func (PySem.W.fnOf "_law_take" "_law_take" (defArgs s_l_take) (defBody s_l_take) (defScope s_l_take) .none kV22 dc22 pm22 an22 cd22 ct22), sl22⟩)
    (c22 : PySem.W.codeIn K cd22 "_law_take" = true)
    (k22 : PySem.W.keepIn K (.ref f22) = true)
    (a23 : PySem.W.nsIn K mainGlobals "_law_names" = some (some (.ref f23)))
    (l23 : K.lookup f23 = some ⟨oc23, od23, .func (PySem.W.fnOf "_law_names" "_law_names" (defArgs s_l_names) (defBody s_l_names) (defScope s_l_names) .none kV23 dc23 pm23 an23 cd23 ct23), sl23⟩)
    (c23 : PySem.W.codeIn K cd23 "_law_names" = true)
    (k23 : PySem.W.keepIn K (.ref f23) = true)
    (a24 : PySem.W.nsIn K mainGlobals "_law_at" = some (some (.ref f24)))
    (l24 : K.lookup f24 = some ⟨oc24, od24, .func (PySem.W.fnOf "_law_at" "_law_at" (defArgs s_l_at) (defBody s_l_at) (defScope s_l_at) .none kV24 dc24 pm24 an24 cd24 ct24), sl24⟩)
    (c24 : PySem.W.codeIn K cd24 "_law_at" = true)
    (k24 : PySem.W.keepIn K (.ref f24) = true)
    (a25 : PySem.W.nsIn K mainGlobals "_law_kind" = some (some (.ref f25)))
    (l25 : K.lookup f25 = some ⟨oc25, od25, .func (PySem.W.fnOf "_law_kind" "_law_kind" (defArgs s_l_kind) (defBody s_l_kind) (defScope s_l_kind) .none kV25 dc25 pm25 an25 cd25 ct25), sl25⟩)
    (c25 : PySem.W.codeIn K cd25 "_law_kind" = true)
    (k25 : PySem.W.keepIn K (.ref f25) = true)
    (a26 : PySem.W.nsIn K mainGlobals "_law_line" = some (some (.ref f26)))
    (l26 : K.lookup f26 = some ⟨oc26, od26, .func (PySem.W.fnOf "_law_line" "_law_line" (defArgs s_l_line) (defBody s_l_line) (defScope s_l_line) .none kV26 dc26 pm26 an26 cd26 ct26), sl26⟩)
    (c26 : PySem.W.codeIn K cd26 "_law_line" = true)
    (k26 : PySem.W.keepIn K (.ref f26) = true)
    (a27 : PySem.W.nsIn K mainGlobals "_law_right" = some (some (.ref f27)))
    (l27 : K.lookup f27 = some ⟨oc27, od27, .func (PySem.W.fnOf "_law_right" "_law_right" (defArgs s_l_right) (defBody s_l_right) (defScope s_l_right) .none kV27 dc27 pm27 an27 cd27 ct27), sl27⟩)
    (c27 : PySem.W.codeIn K cd27 "_law_right" = true)
    (k27 : PySem.W.keepIn K (.ref f27) = true)
    (a28 : PySem.W.nsIn K mainGlobals "_law_step" = some (some (.ref f28)))
    (l28 : K.lookup f28 = some ⟨oc28, od28, .func (PySem.W.fnOf "_law_step" "_law_step" (defArgs s_l_step) (defBody s_l_step) (defScope s_l_step) .none kV28 dc28 pm28 an28 cd28 ct28), sl28⟩)
    (c28 : PySem.W.codeIn K cd28 "_law_step" = true)
    (k28 : PySem.W.keepIn K (.ref f28) = true)
    (a29 : PySem.W.nsIn K mainGlobals "law" = some (some (.ref f29)))
    (l29 : K.lookup f29 = some ⟨oc29, od29, .func (PySem.W.fnOf "law" "law" (defArgs s_law) (defBody s_law) (defScope s_law) .none kV29 dc29 pm29 an29 cd29 ct29), sl29⟩)
    (c29 : PySem.W.codeIn K cd29 "law" = true)
    (k29 : PySem.W.keepIn K (.ref f29) = true)
    (pg0 : PySem.W.plainGet K C0 Str.empty = true)
    (hd0 : PySem.W.hasDictIn K C0 = true)
    (po0 : PySem.W.plainOver K C0 = true)
    (sa0 : PySem.W.findIn K (.ref C0) "__setattr__" = some (some (.builtin "object.__setattr__")))
    (mk0 : PySem.W.makesIn K C0 = true)
    (kc0 : PySem.W.keepIn K (.ref C0) = true)
    (n0_0 : PySem.W.findIn K (.ref C0) "manner" = some none)
    (n0_1 : PySem.W.findIn K (.ref C0) "options" = some none)
    (n0_2 : PySem.W.findIn K (.ref C0) "lists" = some none)
    (n0_3 : PySem.W.findIn K (.ref C0) "stage" = some none)
    (n0_4 : PySem.W.findIn K (.ref C0) "scopes" = some none)
    (n0_5 : PySem.W.findIn K (.ref C0) "blocks" = some none)
    (n0_6 : PySem.W.findIn K (.ref C0) "jumps" = some none)
    (n0_7 : PySem.W.findIn K (.ref C0) "loop" = some none)
    (n0_8 : PySem.W.findIn K (.ref C0) "adds" = some none)
    (n0_9 : PySem.W.findIn K (.ref C0) "shifts" = some none)
    (n0_10 : PySem.W.findIn K (.ref C0) "sizes" = some none)
    (n0_11 : PySem.W.findIn K (.ref C0) "size" = some none)
    (pg1 : PySem.W.plainGet K C1 Str.empty = true)
    (hd1 : PySem.W.hasDictIn K C1 = true)
    (po1 : PySem.W.plainOver K C1 = true)
    (sa1 : PySem.W.findIn K (.ref C1) "__setattr__" = some (some (.builtin "object.__setattr__")))
    (mk1 : PySem.W.makesIn K C1 = true)
    (kc1 : PySem.W.keepIn K (.ref C1) = true)
    (rd1 : PySem.W.readsIn K C1 (.type "type") = true)
    (rg1 : PySem.W.specialIn K (.ref C1) "__getattribute__" = some (some (.builtin "type.__getattribute__")))
    (n1_0 : PySem.W.findIn K (.ref C1) "manner" = some none)
    (n1_1 : PySem.W.findIn K (.ref C1) "options" = some none)
    (n1_2 : PySem.W.findIn K (.ref C1) "lists" = some none)
    (n1_3 : PySem.W.findIn K (.ref C1) "lines" = some none)
    (n1_4 : PySem.W.findIn K (.ref C1) "size" = some none)
    (n1_5 : PySem.W.findIn K (.ref C1) "rows" = some none)
    (n1_6 : PySem.W.findIn K (.ref C1) "jumps" = some none)
    (lv1_0 : PySem.W.findCls K (.ref C1) (.type "type") "LINES" = some (.val (.int 60 ltk1_0)))
    (xL0 : K.lookup X0 = some (excClassObj nmx0 qx0 X0 Nx0 bsx0 [.type "ValueError", .type "Exception", .type "BaseException", .type "object"] true snx0 subx0 abx0 colx0 ddx0 m0x0 m1x0 m2x0 m3x0 m5x0 "ValueError.__new__"))
    (sax0 : PySem.W.findIn K (.ref X0) "__setattr__" = some (some (.builtin "object.__setattr__")))
    (gax0 : PySem.W.findIn K (.ref X0) "__getattribute__" = some (some (.builtin "BaseException.__getattribute__")))
    (ggx0 : PySem.W.findIn K (.ref X0) "__getattr__" = some none)
    (eCx0 : PySem.W.subIn K (.ref X0) (.type "BaseException") = some true)
    (tCx0 : PySem.W.typeIn K (.ref X0) = some (.type "type"))
    (hCx0 : PySem.W.hasDictIn K X0 = true)
    (kXx0 : PySem.W.keepIn K (.ref X0) = true)
    (hax0 : PySem.W.findIn K (.ref X0) "__class__" = some (some (.builtin "object.__class__")))
    (hmx0 : PySem.W.mroIn K X0 (.type "object") = some true)
    (sx0_0 : PySem.W.subIn K (.ref X0) (.ref X0) = some true)
    (sx0_1 : PySem.W.subIn K (.ref X0) (.ref X1) = some false)
    (xL1 : K.lookup X1 = some (excClassObj nmx1 qx1 X1 Nx1 bsx1 [.ref X0, .type "ValueError", .type "Exception", .type "BaseException", .type "object"] true snx1 subx1 abx1 colx1 ddx1 m0x1 m1x1 m2x1 m3x1 m5x1 "ValueError.__new__"))
    (sax1 : PySem.W.findIn K (.ref X1) "__setattr__" = some (some (.builtin "object.__setattr__")))
    (gax1 : PySem.W.findIn K (.ref X1) "__getattribute__" = some (some (.builtin "BaseException.__getattribute__")))
    (ggx1 : PySem.W.findIn K (.ref X1) "__getattr__" = some none)
    (eCx1 : PySem.W.subIn K (.ref X1) (.type "BaseException") = some true)
    (tCx1 : PySem.W.typeIn K (.ref X1) = some (.type "type"))
    (hCx1 : PySem.W.hasDictIn K X1 = true)
    (kXx1 : PySem.W.keepIn K (.ref X1) = true)
    (hax1 : PySem.W.findIn K (.ref X1) "__class__" = some (some (.builtin "object.__class__")))
    (hmx1 : PySem.W.mroIn K X1 (.type "object") = some true)
    (nx1_0 : PySem.W.findIn K (.ref X1) "at" = some none)
    (sx1_0 : PySem.W.subIn K (.ref X1) (.ref X0) = some true)
    (sx1_1 : PySem.W.subIn K (.ref X1) (.ref X1) = some true)
    (y0 : PySem.W.specialIn K (.builtin "object.__class__") "__get__" = some (some (.builtin "getset_descriptor.__get__")))
    (y1 : PySem.W.takesIn K (.builtin "object.__class__") = some true)
    (kst_LETTERS : PySem.W.nsIn K mainGlobals "LETTERS" = some (some (.str "abcdefghijklmnopqrstuvwxyz" tk_LETTERS)))
    (kst_MOST_ADDS : PySem.W.nsIn K mainGlobals "MOST_ADDS" = some (some (.int 4 tk_MOST_ADDS)))
    (kst_MOST_COUNT : PySem.W.nsIn K mainGlobals "MOST_COUNT" = some (some (.int 20 tk_MOST_COUNT)))
    (kst_MOST_DEPTH : PySem.W.nsIn K mainGlobals "MOST_DEPTH" = some (some (.int 4 tk_MOST_DEPTH)))
    (kst_MOST_NAMES : PySem.W.nsIn K mainGlobals "MOST_NAMES" = some (some (.int 3 tk_MOST_NAMES)))
    (kst_MOST_SHIFTS : PySem.W.nsIn K mainGlobals "MOST_SHIFTS" = some (some (.int 4 tk_MOST_SHIFTS)))
    (kst_SIGNS : PySem.W.nsIn K mainGlobals "SIGNS" = some (some (.str "(),=<>+-." tk_SIGNS)))
    (kst_MANNERS : PySem.W.nsIn K mainGlobals "MANNERS" = some (some (.ref TT_MANNERS)))
    (ktu_MANNERS : K.lookup TT_MANNERS = some ⟨.type "tuple", ttd_MANNERS, .seq #[.str "order" ttk_MANNERS_0, .str "number" ttk_MANNERS_1, .str "name" ttk_MANNERS_2] ttn_MANNERS, tts_MANNERS⟩)
    (kst_RESERVED : PySem.W.nsIn K mainGlobals "RESERVED" = some (some (.ref TT_RESERVED)))
    (ktu_RESERVED : K.lookup TT_RESERVED = some ⟨.type "tuple", ttd_RESERVED, .seq #[.str "by" ttk_RESERVED_0, .str "order" ttk_RESERVED_1, .str "number" ttk_RESERVED_2, .str "name" ttk_RESERVED_3, .str "options" ttk_RESERVED_4, .str "lists" ttk_RESERVED_5, .str "text" ttk_RESERVED_6, .str "row" ttk_RESERVED_7, .str "say" ttk_RESERVED_8, .str "hole" ttk_RESERVED_9, .str "front" ttk_RESERVED_10, .str "back" ttk_RESERVED_11, .str "put" ttk_RESERVED_12, .str "bind" ttk_RESERVED_13, .str "add" ttk_RESERVED_14, .str "turn" ttk_RESERVED_15, .str "clear" ttk_RESERVED_16, .str "shift" ttk_RESERVED_17, .str "count" ttk_RESERVED_18, .str "each" ttk_RESERVED_19, .str "of" ttk_RESERVED_20, .str "down" ttk_RESERVED_21, .str "when" ttk_RESERVED_22, .str "else" ttk_RESERVED_23, .str "end" ttk_RESERVED_24, .str "ask" ttk_RESERVED_25] ttn_RESERVED, tts_RESERVED⟩)
    (kst_SIDES : PySem.W.nsIn K mainGlobals "SIDES" = some (some (.ref TT_SIDES)))
    (ktu_SIDES : K.lookup TT_SIDES = some ⟨.type "tuple", ttd_SIDES, .seq #[.str "front" ttk_SIDES_0, .str "back" ttk_SIDES_1] ttn_SIDES, tts_SIDES⟩)
    (z0 : PySem.W.nsIn K mainGlobals "all" = some none)
    (z1 : PySem.W.nsIn K mainGlobals "any" = some none)
    (z2 : PySem.W.nsIn K mainGlobals "bool" = some none)
    (z3 : PySem.W.nsIn K mainGlobals "enumerate" = some none)
    (z4 : PySem.W.nsIn K mainGlobals "int" = some none)
    (z5 : PySem.W.nsIn K mainGlobals "isinstance" = some none)
    (z6 : PySem.W.nsIn K mainGlobals "len" = some none)
    (z7 : PySem.W.nsIn K mainGlobals "max" = some none)
    (z8 : PySem.W.nsIn K mainGlobals "range" = some none)
    (z9 : PySem.W.nsIn K mainGlobals "str" = some none)
    (z10 : PySem.W.nsIn K mainGlobals "tuple" = some none), R) → R
def TopHyp : Prop := ∀ {q : Program} {loose : List Str} {XP : (Str → Option Value) → Heap → Prop} {YP : World → Heap → Prop} {d : DefRec} {K : Params → PySem.W.Frag}, d.params.defaults = [] → d.name = "law" → (∀ (w : World) (h : Heap), YP w h → (K w.params).In h) → (∀ w : World, TopFacts (K w.params)) →
  PySem.W.WalkO q loose XP YP PySem.Challenge.rw_ownholes_k23_scopes.row.toRowW d [] (fun f vs => PySem.call f vs)
/-- a value that holds on to a hypothesis -/
@[reducible] def Keep {α : Type _} (_ : TopHyp) (a : α) : α := a
end LW
section
open PySem PySem.W PyProof.Rows
local macro_rules | `(tactic| o_headL (kHook $k $a $e)) => `(tactic| o_headL (LW.Keep ‹LW.TopHyp› (kHook $k $a $e)))
set_option maxRecDepth 100000 in
set_option maxHeartbeats 8000000 in
theorem LW.run_top (W : LW.TopHyp) : PySem.Challenge.rw_ownholes_k23_scopes.Holds := by
  w_on; o_law; k_headL; (case hw => w_witness2)
  k_fill
  refine W rfl rfl (fun w h Y => PySem.W.kIn_of Y) ?F
  case F => as_aux_lemma =>
    intro w R k
    refine' k ?ax0 ?ax1 ?aC0 ?aC1 ?a0 ?l0 ?c0 ?k0 ?a1 ?l1 ?c1 ?k1 ?a2 ?l2 ?c2 ?k2 ?a3 ?i3 ?l3 ?c3 ?k3 ?a4 ?i4 ?l4 ?c4 ?k4 ?a5 ?i5 ?l5 ?c5 ?k5 ?a6 ?i6 ?l6 ?c6 ?k6 ?a7 ?i7 ?l7 ?lT7 ?c7 ?k7 ?a8 ?i8 ?l8 ?c8 ?k8 ?a9 ?i9 ?l9 ?c9 ?k9 ?a10 ?i10 ?l10 ?c10 ?k10 ?a11 ?i11 ?l11 ?c11 ?k11 ?a12 ?i12 ?l12 ?c12 ?k12 ?a13 ?i13 ?l13 ?c13 ?k13 ?a14 ?i14 ?l14 ?c14 ?k14 ?a15 ?i15 ?l15 ?c15 ?k15 ?a16 ?i16 ?l16 ?c16 ?k16 ?a17 ?i17 ?l17 ?c17 ?k17 ?a18 ?i18 ?l18 ?c18 ?k18 ?a19 ?i19 ?l19 ?c19 ?k19 ?a20 ?i20 ?l20 ?c20 ?k20 ?a21 ?l21 ?c21 ?k21 ?a22 ?l22 ?c22 ?k22 ?a23 ?l23 ?c23 ?k23 ?a24 ?l24 ?c24 ?k24 ?a25 ?l25 ?c25 ?k25 ?a26 ?l26 ?c26 ?k26 ?a27 ?l27 ?c27 ?k27 ?a28 ?l28 ?c28 ?k28 ?a29 ?l29 ?c29 ?k29 ?pg0 ?hd0 ?po0 ?sa0 ?mk0 ?kc0 ?n0_0 ?n0_1 ?n0_2 ?n0_3 ?n0_4 ?n0_5 ?n0_6 ?n0_7 ?n0_8 ?n0_9 ?n0_10 ?n0_11 ?pg1 ?hd1 ?po1 ?sa1 ?mk1 ?kc1 ?rd1 ?rg1 ?n1_0 ?n1_1 ?n1_2 ?n1_3 ?n1_4 ?n1_5 ?n1_6 ?lv1_0 ?xL0 ?sax0 ?gax0 ?ggx0 ?eCx0 ?tCx0 ?hCx0 ?kXx0 ?hax0 ?hmx0 ?sx0_0 ?sx0_1 ?xL1 ?sax1 ?gax1 ?ggx1 ?eCx1 ?tCx1 ?hCx1 ?kXx1 ?hax1 ?hmx1 ?nx1_0 ?sx1_0 ?sx1_1 ?y0 ?y1 ?kst_LETTERS ?kst_MOST_ADDS ?kst_MOST_COUNT ?kst_MOST_DEPTH ?kst_MOST_NAMES ?kst_MOST_SHIFTS ?kst_SIGNS ?kst_MANNERS ?ktu_MANNERS ?kst_RESERVED ?ktu_RESERVED ?kst_SIDES ?ktu_SIDES ?z0 ?z1 ?z2 ?z3 ?z4 ?z5 ?z6 ?z7 ?z8 ?z9 ?z10
    (case ax0 => k_is)
    (case ax1 => k_is)
    (case aC0 => k_is)
    (case aC1 => k_is)
    (case a0 => k_is)
    (case l0 => k_is)
    (case c0 => k_is)
    (case k0 => k_is)
    (case a1 => k_is)
    (case l1 => k_is)
    (case c1 => k_is)
    (case k1 => k_is)
    (case a2 => k_is)
    (case l2 => k_is)
    (case c2 => k_is)
    (case k2 => k_is)
    (case a3 => k_is)
    (case i3 => k_is)
    (case l3 => k_is)
    (case c3 => k_is)
    (case k3 => k_is)
    (case a4 => k_is)
    (case i4 => k_is)
    (case l4 => k_is)
    (case c4 => k_is)
    (case k4 => k_is)
    (case a5 => k_is)
    (case i5 => k_is)
    (case l5 => k_is)
    (case c5 => k_is)
    (case k5 => k_is)
    (case a6 => k_is)
    (case i6 => k_is)
    (case l6 => k_is)
    (case c6 => k_is)
    (case k6 => k_is)
    (case a7 => k_is)
    (case i7 => k_is)
    (case l7 => k_is)
    (case lT7 => k_is)
    (case c7 => k_is)
    (case k7 => k_is)
    (case a8 => k_is)
    (case i8 => k_is)
    (case l8 => k_is)
    (case c8 => k_is)
    (case k8 => k_is)
    (case a9 => k_is)
    (case i9 => k_is)
    (case l9 => k_is)
    (case c9 => k_is)
    (case k9 => k_is)
    (case a10 => k_is)
    (case i10 => k_is)
    (case l10 => k_is)
    (case c10 => k_is)
    (case k10 => k_is)
    (case a11 => k_is)
    (case i11 => k_is)
    (case l11 => k_is)
    (case c11 => k_is)
    (case k11 => k_is)
    (case a12 => k_is)
    (case i12 => k_is)
    (case l12 => k_is)
    (case c12 => k_is)
    (case k12 => k_is)
    (case a13 => k_is)
    (case i13 => k_is)
    (case l13 => k_is)
    (case c13 => k_is)
    (case k13 => k_is)
    (case a14 => k_is)
    (case i14 => k_is)
    (case l14 => k_is)
    (case c14 => k_is)
    (case k14 => k_is)
    (case a15 => k_is)
    (case i15 => k_is)
    (case l15 => k_is)
    (case c15 => k_is)
    (case k15 => k_is)
    (case a16 => k_is)
    (case i16 => k_is)
    (case l16 => k_is)
    (case c16 => k_is)
    (case k16 => k_is)
    (case a17 => k_is)
    (case i17 => k_is)
    (case l17 => k_is)
    (case c17 => k_is)
    (case k17 => k_is)
    (case a18 => k_is)
    (case i18 => k_is)
    (case l18 => k_is)
    (case c18 => k_is)
    (case k18 => k_is)
    (case a19 => k_is)
    (case i19 => k_is)
    (case l19 => k_is)
    (case c19 => k_is)
    (case k19 => k_is)
    (case a20 => k_is)
    (case i20 => k_is)
    (case l20 => k_is)
    (case c20 => k_is)
    (case k20 => k_is)
    (case a21 => k_is)
    (case l21 => k_is)
    (case c21 => k_is)
    (case k21 => k_is)
    (case a22 => k_is)
    (case l22 => k_is)
    (case c22 => k_is)
    (case k22 => k_is)
    (case a23 => k_is)
    (case l23 => k_is)
    (case c23 => k_is)
    (case k23 => k_is)
    (case a24 => k_is)
    (case l24 => k_is)
    (case c24 => k_is)
    (case k24 => k_is)
    (case a25 => k_is)
    (case l25 => k_is)
    (case c25 => k_is)
    (case k25 => k_is)
    (case a26 => k_is)
    (case l26 => k_is)
    (case c26 => k_is)
    (case k26 => k_is)
    (case a27 => k_is)
    (case l27 => k_is)
    (case c27 => k_is)
    (case k27 => k_is)
    (case a28 => k_is)
    (case l28 => k_is)
    (case c28 => k_is)
    (case k28 => k_is)
    (case a29 => k_is)
    (case l29 => k_is)
    (case c29 => k_is)
    (case k29 => k_is)
    (case pg0 => k_is)
    (case hd0 => k_is)
    (case po0 => k_is)
    (case sa0 => k_is)
    (case mk0 => k_is)
    (case kc0 => k_is)
    (case n0_0 => k_is)
    (case n0_1 => k_is)
    (case n0_2 => k_is)
    (case n0_3 => k_is)
    (case n0_4 => k_is)
    (case n0_5 => k_is)
    (case n0_6 => k_is)
    (case n0_7 => k_is)
    (case n0_8 => k_is)
    (case n0_9 => k_is)
    (case n0_10 => k_is)
    (case n0_11 => k_is)
    (case pg1 => k_is)
    (case hd1 => k_is)
    (case po1 => k_is)
    (case sa1 => k_is)
    (case mk1 => k_is)
    (case kc1 => k_is)
    (case rd1 => k_is)
    (case rg1 => k_is)
    (case n1_0 => k_is)
    (case n1_1 => k_is)
    (case n1_2 => k_is)
    (case n1_3 => k_is)
    (case n1_4 => k_is)
    (case n1_5 => k_is)
    (case n1_6 => k_is)
    (case lv1_0 => k_is)
    (case xL0 => k_is)
    (case sax0 => k_is)
    (case gax0 => k_is)
    (case ggx0 => k_is)
    (case eCx0 => k_is)
    (case tCx0 => k_is)
    (case hCx0 => k_is)
    (case kXx0 => k_is)
    (case hax0 => k_is)
    (case hmx0 => k_is)
    (case sx0_0 => k_is)
    (case sx0_1 => k_is)
    (case xL1 => k_is)
    (case sax1 => k_is)
    (case gax1 => k_is)
    (case ggx1 => k_is)
    (case eCx1 => k_is)
    (case tCx1 => k_is)
    (case hCx1 => k_is)
    (case kXx1 => k_is)
    (case hax1 => k_is)
    (case hmx1 => k_is)
    (case nx1_0 => k_is)
    (case sx1_0 => k_is)
    (case sx1_1 => k_is)
    (case y0 => k_is)
    (case y1 => k_is)
    (case kst_LETTERS => k_is)
    (case kst_MOST_ADDS => k_is)
    (case kst_MOST_COUNT => k_is)
    (case kst_MOST_DEPTH => k_is)
    (case kst_MOST_NAMES => k_is)
    (case kst_MOST_SHIFTS => k_is)
    (case kst_SIGNS => k_is)
    (case kst_MANNERS => k_is)
    (case ktu_MANNERS => k_is)
    (case kst_RESERVED => k_is)
    (case ktu_RESERVED => k_is)
    (case kst_SIDES => k_is)
    (case ktu_SIDES => k_is)
    (case z0 => k_is)
    (case z1 => k_is)
    (case z2 => k_is)
    (case z3 => k_is)
    (case z4 => k_is)
    (case z5 => k_is)
    (case z6 => k_is)
    (case z7 => k_is)
    (case z8 => k_is)
    (case z9 => k_is)
    (case z10 => k_is)
end
/-! Eg: step lemmas: each reading of the hand layer, from the left, as one backward step. -/
namespace Eg
open PySem L2
section
variable {σ σ' : L2.St} {H H' : Hp} {Q : VK} {i : Nat} {v x y z : V} {ta tb tc te tv : TE} {r r' : R2} {K : PySem.W.Frag} {p q a C dx : Addr} {t u c : TT} {D : Ends} {t1 t2 : TS} {b : Bool} {fs : List (Str × V)} {f : Str} {o o' : HO}
/-! heaps -/
theorem upd_old {o1 : HO} (h : H p = some o) (hp : H q = none) : upd H q o1 p = some o := by
  rw [upd_ne (ne_of_none h hp)]
  exact h
theorem upd_mut {o1 : HO} (hn : p ≠ q) (h : H p = some o) : upd H q o1 p = some o := by
  rw [upd_ne hn]
  exact h
/-! expressions -/
theorem w_op (h : ta σ H fun x H1 => tb σ H1 fun y H2 => r x y H2 Q) : tOp r ta tb σ H Q := h
theorem w_un {r : V → Hp → VK → Prop} (h : ta σ H fun x H1 => r x H1 Q) : tUn r ta σ H Q := h
theorem w_var (h : σ[i]? = some (some v)) (q : Q v H) : tVar i σ H Q := ⟨v, h, q⟩
theorem w_c (q : Q v H) : tC v σ H Q := q
theorem w_tup {t : TA} (h : t σ H fun xs H1 => xs.length ≤ sizeLine ∧ ∀ p, H1 p = none → Q (.ref p) (upd H1 p (.tup xs))) : tTup t σ H Q := h
theorem w_lst {t : TA} (h : t σ H fun xs H1 => xs.length ≤ sizeLine ∧ ∀ p, H1 p = none → Q (.ref p) (upd H1 p (.lst xs))) : tLst t σ H Q := h
theorem w_sz {xs : List V} {A : Prop} (h : xs.length ≤ 1000) (q : A) : xs.length ≤ sizeLine ∧ A := ⟨Nat.le_trans h (by decide), q⟩
theorem w_cb {r : List V → Hp → VK → Prop} {t : TA} (h : t σ H fun vs H1 => r vs H1 Q) : tCB r t σ H Q := h
theorem w_nil {Q : List V → Hp → Prop} (q : Q [] H) : tNil σ H Q := q
theorem w_cons {tr : TA} {Q : List V → Hp → Prop} (h : ta σ H fun x H1 => tr σ H1 fun xs H2 => Q (x :: xs) H2) : tCons ta tr σ H Q := h
theorem w_call {sp : Sp} {dvs : List V} {E : XK} {t : TA} (h : t σ H fun vs H1 => sp (vs ++ dvs) H1 Q E) : tCall sp dvs E t σ H Q := h
theorem w_bm {T : String} {r : V → List V → Hp → VK → Prop} {t : TA} (h : ta σ H fun x H1 => tyV K T x H1 ∧ t σ H1 fun xs H2 => r x xs H2 Q) : tBM K T r ta t σ H Q := h
theorem w_bm0 {T : String} {r : V → List V → Hp → VK → Prop} (h : ta σ H fun x H1 => tyV K T x H1 ∧ r x [] H1 Q) : tBM0 K T r ta σ H Q := h
theorem w_tyl {xs : List V} {A : Prop} (h : SqL K H p xs) (q : A) : tyV K "list" (.ref p) H ∧ A := ⟨.inl ⟨rfl, _, h⟩, q⟩
theorem w_if {t : TT} (h : t σ H fun c H1 => if c = true then ta σ H1 Q else tb σ H1 Q) : tIf t ta tb σ H Q := h
theorem w_sl {r : V → Option Int → Option Int → Hp → VK → Prop} {tl th : TO} (h : te σ H fun x H1 => tl σ H1 fun l H2 => th σ H2 fun u H3 => r x l u H3 Q) : tSl r te tl th σ H Q := h
theorem w_nopart {Q : Option Int → Hp → Prop} (q : Q none H) : tNoPart σ H Q := q
theorem w_chain (h : ta σ H fun x H1 => tb σ H1 fun y H2 => r x y H2 fun z H3 => ∃ k, z = .bl k ∧ (if k = true then tc σ H3 fun w' H4 => r' y w' H4 Q else Q (.bl false) H3)) : tChain r r' ta tb tc σ H Q := h
/-! operators by values -/
theorem w_rI0 {g : Int → Int → V} {i j : Int} (q : Q (g i j) H) : rI0 g (.int i) (.int j) H Q := ⟨i, j, rfl, rfl, q⟩
theorem w_rI {C : Int → Int → Prop} {g : Int → Int → V} {i j : Int} (hc : C i j) (q : Q (g i j) H) : rI C g (.int i) (.int j) H Q := ⟨i, j, rfl, rfl, hc, q⟩
theorem w_rU {g : Int → V} {i : Int} (q : Q (g i) H) : rU g (.int i) H Q := ⟨i, rfl, q⟩
theorem w_eq (h : scal x y = true) (q : Q (.bl (decide (x = y))) H) : rEq x y H Q := ⟨h, q⟩
theorem w_ne (h : scal x y = true) (q : Q (.bl (!decide (x = y))) H) : rNe x y H Q := ⟨h, q⟩
theorem w_ixL {xs : List V} {i : Int} (hs : SqL K H p xs) (hv : atI xs i = some v) (q : Q v H) : rIxL K (.ref p) (.int i) H Q := ⟨p, xs, i, v, rfl, rfl, hs, hv, q⟩
theorem w_ixT {xs : List V} {i : Int} (hs : SqT K H p xs) (hv : atI xs i = some v) (q : Q v H) : rIxT K (.ref p) (.int i) H Q := ⟨p, xs, i, v, rfl, rfl, hs, hv, q⟩
theorem w_setL {xs : List V} {k : Int} {j : Nat} {R : Hp → Prop} (h : H p = some (.lst xs)) (hj : ixN xs.length k = some j) (q : R (upd H p (.lst (xs.set j v)))) : rSetL (.ref p) (.int k) v H R := ⟨p, xs, k, j, rfl, rfl, h, hj, q⟩
theorem w_append {xs : List V} (h : H p = some (.lst xs)) (hz : xs.length < 100000) (q : Q .non (upd H p (.lst (xs ++ [v])))) : rAppend (.ref p) [v] H Q := ⟨p, xs, v, rfl, rfl, h, Nat.lt_of_lt_of_le hz (by decide), q⟩
def fldLeaf (K : PySem.W.Frag) (f : Str) (Q : VK) (x : V) (H1 : Hp) : Prop := ∃ a C dx fs v, x = .ref a ∧ H1 a = some (.ins C dx fs) ∧ Cls K C ∧ NoAttr K C f ∧ fs.lookup f = some v ∧ Q v H1
theorem w_fld (h : ta σ H (fldLeaf K f Q)) : tFld K ta f σ H Q := h
theorem c_fld (h : H p = some (.ins C dx fs)) (hc : Cls K C) (hn : NoAttr K C f) (hl : fs.lookup f = some v) (q : Q v H) : fldLeaf K f Q (.ref p) H := ⟨p, C, dx, fs, v, rfl, h, hc, hn, hl, q⟩
/-! calls by values -/
/-! tests -/
theorem w_test {R : Bool → Hp → Prop} (h : te σ H fun x H' => ∃ k, x = .bl k ∧ R k H') : tTest te σ H R := h
theorem w_B {R : Bool → Hp → Prop} (h : te σ H fun x H' => ∃ k, x = .bl k ∧ R k H') : tB te σ H R := h
theorem w_bl {R : Bool → Hp → Prop} (q : R b H) : ∃ k, V.bl b = .bl k ∧ R k H := ⟨b, rfl, q⟩
theorem w_bl' {G : Bool → Prop} (q : G b) : ∃ k, V.bl b = .bl k ∧ G k := ⟨b, rfl, q⟩
theorem w_and {R : Bool → Hp → Prop} (h : t σ H fun c H1 => if c = true then u σ H1 R else R false H1) : tAnd t u σ H R := h
theorem w_or {R : Bool → Hp → Prop} (h : t σ H fun c H1 => if c = true then R true H1 else u σ H1 R) : tOr t u σ H R := h
theorem w_not {R : Bool → Hp → Prop} (h : t σ H fun c H1 => R (!c) H1) : tNot t σ H R := h
theorem w_andV (h : ta σ H fun x H1 => ∃ c, x = .bl c ∧ if c = true then tb σ H1 Q else Q (.bl false) H1) : tAndV ta tb σ H Q := h
theorem w_orV (h : ta σ H fun x H1 => ∃ c, x = .bl c ∧ if c = true then Q (.bl true) H1 else tb σ H1 Q) : tOrV ta tb σ H Q := h
theorem w_notV (h : ta σ H fun x H1 => ∃ c, x = .bl c ∧ Q (.bl (!c)) H1) : tNotV ta σ H Q := h
/-! statements -/
theorem w_seq (h : t1 { D with nx := t2 D } σ H) : tSeq t1 t2 D σ H := h
theorem w_next (h : D.nx σ H) : tNext D σ H := h
theorem w_brk (h : D.bk σ H) : tBreak D σ H := h
theorem w_cont (h : D.ct σ H) : tCont D σ H := h
theorem w_nx {f1 f3 f4 : L2.St → Hp → Prop} {f2 : VK} (h : f1 σ H) : Ends.nx ⟨f1, f2, f3, f4⟩ σ H := h
theorem w_rt {f1 f3 f4 : L2.St → Hp → Prop} {f2 : VK} (h : f2 v H) : Ends.rt ⟨f1, f2, f3, f4⟩ v H := h
theorem w_bk {f1 f3 f4 : L2.St → Hp → Prop} {f2 : VK} (h : f3 σ H) : Ends.bk ⟨f1, f2, f3, f4⟩ σ H := h
theorem w_ct {f1 f3 f4 : L2.St → Hp → Prop} {f2 : VK} (h : f4 σ H) : Ends.ct ⟨f1, f2, f3, f4⟩ σ H := h
theorem w_drop (h : te σ H fun _ H1 => D.nx σ H1) : tDrop te D σ H := h
theorem w_ret (h : te σ H D.rt) : tRet te D σ H := h
theorem w_retN (h : D.rt .non H) : tRetN D σ H := h
theorem w_ifS (h : c σ H fun b H1 => if b = true then t1 D σ H1 else t2 D σ H1) : tIfS c t1 t2 D σ H := h
theorem w_asg {g : TG} (h : te σ H fun x H1 => g x σ H1 D.nx) : tAsg te g D σ H := h
theorem w_gN {R : L2.St → Hp → Prop} (h : R (σ.set i (some v)) H) : gName i v σ H R := h
theorem w_gSub {to ti : TE} {s : TSet} {R : L2.St → Hp → Prop} (h : to σ H fun o H1 => ti σ H1 fun i H2 => s o i v H2 fun H3 => R σ H3) : gSub to ti s v σ H R := h
theorem w_gTup {n : Nat} {g : TGs} {xs : List V} {R : L2.St → Hp → Prop} (hs : SqT K H p xs) (hn : xs.length = n) (h : g xs σ H R) : gTup K n g (.ref p) σ H R := ⟨p, xs, rfl, hs, hn, h⟩
theorem w_gNil {R : L2.St → Hp → Prop} (h : R σ H) : gNil [] σ H R := ⟨rfl, h⟩
theorem w_gCons {g : TG} {gs : TGs} {xs : List V} {R : L2.St → Hp → Prop} (h : g v σ H fun σ' H' => gs xs σ' H' R) : gCons g gs (v :: xs) σ H R := ⟨v, xs, rfl, h⟩
theorem w_for {wi : TI} {g : TG} {tb : TS} (h : wi σ H fun J H1 => ∃ W : Nat → Nat → L2.St → Hp → Prop, (∃ m, W 0 m σ H1) ∧ ∀ i m σ H, W i m σ H →
    (J.stop i H ∧ D.nx σ H) ∨ (J.go i H ∧ ∃ N : L2.St → Hp → Prop, (∀ σ' H', N σ' H' → ∃ m', m' < m ∧ W (i + 1) m' σ' H') ∧ ∀ x H', J.yld i H x H' → g x σ H' fun σ2 H2 => tb { D with nx := N, ct := N, bk := D.nx } σ2 H2)) : tFor wi g tb D σ H := h
theorem w_lc {wi : TI} {g : TG} {tt : TT} {vs : List Nat} (h : wi σ H fun J H1 => ∀ D, H1 D = none → ∃ W : Nat → Nat → Hp → Prop, (∃ m, W 0 m (upd H1 D (.lst []))) ∧ ∀ i m H, W i m H →
  (J.stop i H ∧ Q (.ref D) H) ∨ (J.go i H ∧ ∃ Nx : Hp → Prop, (∀ H', Nx H' → ∃ m', m' < m ∧ W (i + 1) m' H') ∧ ∀ x H', J.yld i H x H' → g x (wipe σ vs) H' fun σ2 H2 => wipe σ2 vs = wipe σ vs ∧ tt σ2 H2 fun b H3 =>
    if b = true then te σ2 H3 fun y H4 => ∃ acc, H4 D = some (.lst acc) ∧ acc.length < sizeLine ∧ Nx (upd H4 D (.lst (acc ++ [y]))) else Nx H3)) : tLc wi g tt te vs σ H Q := h
theorem w_yes {R : Bool → Hp → Prop} (h : R true H) : tYes σ H R := h
theorem w_sig (e : σ' = σ) {t : TS} (h : t D σ H) : t D σ' H := by
  rw [e]
  exact h
theorem w_par {j : Nat} {t : TA} (h : t σ H fun vs H1 => ∃ v w, vs = [v, w] ∧ D.nx ((σ.set i (some v)).set j (some w)) H1) : tPar i j t D σ H := h
theorem c_par {G : V → V → Prop} {v w : V} (q : G v w) : ∃ x y, [v, w] = [x, y] ∧ G x y := ⟨v, w, rfl, q⟩
/-! leaves by name -/
def rngLeaf (R : It → Hp → Prop) (vs : List V) (H1 : Hp) : Prop := ∃ j : Int, vs = [.int j] ∧ -(2 ^ 62) ≤ j ∧ j < 2 ^ 62 ∧ R (Itr 0 j.toNat) H1
def rng2Leaf (R : It → Hp → Prop) (vs : List V) (H1 : Hp) : Prop := ∃ i j : Int, vs = [.int i, .int j] ∧ (-(2 ^ 62) ≤ i ∧ i < 2 ^ 62 ∧ -(2 ^ 62) ≤ j ∧ j < 2 ^ 62) ∧ R (Itr i (j - i).toNat) H1
def lstLeaf (K : PySem.W.Frag) (R : It → Hp → Prop) (x : V) (H1 : Hp) : Prop := ∃ a, x = .ref a ∧ (∃ xs, SqL K H1 a xs) ∧ R (Itl K a) H1
def tupLeaf (K : PySem.W.Frag) (R : It → Hp → Prop) (x : V) (H1 : Hp) : Prop := ∃ a, x = .ref a ∧ (∃ xs, SqT K H1 a xs) ∧ R (Itt K a) H1
def zipLeaf (K : PySem.W.Frag) (R : It → Hp → Prop) (vs : List V) (H1 : Hp) : Prop := ∃ a b xs ys, vs = [.ref a, .ref b] ∧ SqL K H1 a xs ∧ SqL K H1 b ys ∧ R (Itz K a b) H1
def keysLeaf (R : It → Hp → Prop) (x : V) (H1 : Hp) : Prop := ∃ d o, x = .ref d ∧ ((∃ kvs, H1 d = some (.frz o (.dK kvs)) ∧ R (Itk d o kvs) H1) ∨ ∃ kvs, H1 d = some (.frz o (.dT kvs)) ∧ R (Itkt d o kvs) H1)
def partLeaf (Q : Option Int → Hp → Prop) (x : V) (H1 : Hp) : Prop := ∃ i, x = .int i ∧ Q (some i) H1
def dinLeaf (neg : Bool) (Q : VK) (y x : V) (H2 : Hp) : Prop := ∃ a o, x = .ref a ∧ DGet H2 a y o ∧ Q (.bl (if neg then !o.isSome else o.isSome)) H2
theorem w_part {Q : Option Int → Hp → Prop} (h : te σ H (partLeaf Q)) : tPart te σ H Q := h
theorem c_part {Q : Option Int → Hp → Prop} {j : Int} (q : Q (some j) H) : partLeaf Q (.int j) H := ⟨j, rfl, q⟩
theorem w_iL {tl : TE} {R : It → Hp → Prop} (h : tl σ H (lstLeaf K R)) : iList K tl σ H R := h
theorem c_iL {R : It → Hp → Prop} {xs : List V} (hs : SqL K H p xs) (q : R (Itl K p) H) : lstLeaf K R (.ref p) H := ⟨p, rfl, ⟨_, hs⟩, q⟩
theorem w_iT {tl : TE} {R : It → Hp → Prop} (h : tl σ H (tupLeaf K R)) : iTup K tl σ H R := h
theorem c_iT {R : It → Hp → Prop} {xs : List V} (hs : SqT K H p xs) (q : R (Itt K p) H) : tupLeaf K R (.ref p) H := ⟨p, rfl, ⟨_, hs⟩, q⟩
theorem w_iZ {t : TA} {R : It → Hp → Prop} (h : t σ H (zipLeaf K R)) : iZip K t σ H R := h
theorem c_iZ {R : It → Hp → Prop} {xs ys : List V} (h1 : SqL K H p xs) (h2 : SqL K H q ys) (k : R (Itz K p q) H) : zipLeaf K R [.ref p, .ref q] H := ⟨p, q, xs, ys, rfl, h1, h2, k⟩
theorem w_iR1 {t : TA} {R : It → Hp → Prop} (h : t σ H (rngLeaf R)) : iRng1 t σ H R := h
theorem c_iR1 {R : It → Hp → Prop} {n : Int} (h1 : -(2 ^ 62) ≤ n) (h2 : n < 2 ^ 62) (q : R (Itr 0 n.toNat) H) : rngLeaf R [.int n] H := ⟨n, rfl, h1, h2, q⟩
theorem w_iR2 {t : TA} {R : It → Hp → Prop} (h : t σ H (rng2Leaf R)) : iRng2 t σ H R := h
theorem c_iR2 {R : It → Hp → Prop} {n m : Int} (h1 : -(2 ^ 62) ≤ n ∧ n < 2 ^ 62 ∧ -(2 ^ 62) ≤ m ∧ m < 2 ^ 62) (q : R (Itr n (m - n).toNat) H) : rng2Leaf R [.int n, .int m] H := ⟨n, m, rfl, h1, q⟩
theorem w_iK {td : TE} {R : It → Hp → Prop} (h : td σ H (keysLeaf R)) : iKeys td σ H R := h
theorem w_din {ty td : TE} (h : ty σ H fun y H1 => td σ H1 fun x H2 => dinLeaf false Q y x H2) : tDIn ty td σ H Q := h
theorem w_dnin {ty td : TE} (h : ty σ H fun y H1 => td σ H1 fun x H2 => dinLeaf true Q y x H2) : tDNotIn ty td σ H Q := h
theorem c_din {r : Option V} (h : DGet H p y r) (q : Q (.bl r.isSome) H) : dinLeaf false Q y (.ref p) H := ⟨p, r, rfl, h, q⟩
/-! what is known of a branch -/
theorem br {c : Bool} {A B : Prop} (h1 : c = true → A) (h2 : c = false → B) : if c = true then A else B := by
  cases c with
  | true => exact h1 rfl
  | false => exact h2 rfl
theorem brT {c : Bool} {A B : Prop} (h : c = true) (h1 : A) : if c = true then A else B := by rw [if_pos h]; exact h1
theorem brF {c : Bool} {A B : Prop} (h : c = false) (h1 : B) : if c = true then A else B := by rw [if_neg (by rw [h]; decide)]; exact h1
theorem brD {c : Prop} [Decidable c] {A B : Prop} (h1 : c → A) (h2 : ¬ c → B) : if decide c = true then A else B := br (fun h => h1 (of_decide_eq_true h)) (fun h => h2 (of_decide_eq_false h))
theorem brDT {c : Prop} [Decidable c] {A B : Prop} (h : c) (h1 : A) : if decide c = true then A else B := brT (decide_eq_true h) h1
theorem brDF {c : Prop} [Decidable c] {A B : Prop} (h : ¬ c) (h1 : B) : if decide c = true then A else B := brF (decide_eq_false h) h1
theorem int_eq {i j : Int} : decide (V.int i = V.int j) = decide (i = j) := by
  by_cases e : i = j
  · subst e; simp
  · rw [decide_eq_false e, decide_eq_false (fun h => e (V.int.inj h))]
theorem str_eq {i j : Str} : decide (V.str i = V.str j) = decide (i = j) := by
  by_cases e : i = j
  · subst e; simp
  · rw [decide_eq_false e, decide_eq_false (fun h => e (V.str.inj h))]
end
/-! calls of built-ins by named readings -/
def rLenQ (K : PySem.W.Frag) : List V → Hp → VK → Prop := fun xs H Q => ∃ p ys, xs = [V.ref p] ∧ (SqL K H p ys ∨ SqT K H p ys) ∧ Q (.int (ys.length : Nat)) H
def rAbsQ : List V → Hp → VK → Prop := fun xs H Q => ∃ i, xs = [V.int i] ∧ Q (.int (if i < 0 then -i else i)) H
def rMin2Q : List V → Hp → VK → Prop := fun xs H Q => ∃ i j, xs = [V.int i, V.int j] ∧ Q (.int (if j < i then j else i)) H
def rMax2Q : List V → Hp → VK → Prop := fun xs H Q => ∃ i j, xs = [V.int i, V.int j] ∧ Q (.int (if j > i then j else i)) H
def rIntQ : List V → Hp → VK → Prop := fun xs H Q => (∃ i, xs = [V.int i] ∧ Q (.int i) H) ∨ ∃ k, xs = [V.bl k] ∧ Q (.int (if k then 1 else 0)) H
def rIsNQ : R2 := fun x y H Q => y = .non ∧ Q (.bl (decide (x = .non))) H
def rNotNQ : R2 := fun x y H Q => y = .non ∧ Q (.bl (!decide (x = .non))) H
section
variable {X : Cx}
theorem cr_len : CallR X (.builtin "len") (rLenQ X.K) := call_len_seq
theorem cr_max2 (h : X.calm = true) : CallR X (.builtin "max") rMax2Q := call_max2 h
theorem cr_int : CallR X (.type "int") rIntQ := call_int1
end
section
variable {σ σ' : L2.St} {H H' : Hp} {Q : VK} {i : Nat} {v x y z : V} {ta tb tc te tv td ty : TE} {K : PySem.W.Frag} {p q a C dx : Addr} {D : Ends} {b : Bool} {o : HO} {n m : Int}
theorem c_len {ys : List V} (h : SqL K H p ys) (q : Q (.int (ys.length : Nat)) H) : rLenQ K [V.ref p] H Q := ⟨p, ys, rfl, .inl h, q⟩
theorem c_abs (q : Q (.int (if n < 0 then -n else n)) H) : rAbsQ [V.int n] H Q := ⟨n, rfl, q⟩
theorem c_min2 (q : Q (.int (if m < n then m else n)) H) : rMin2Q [V.int n, V.int m] H Q := ⟨n, m, rfl, q⟩
theorem c_max2 (q : Q (.int (if m > n then m else n)) H) : rMax2Q [V.int n, V.int m] H Q := ⟨n, m, rfl, q⟩
theorem c_int (q : Q (.int n) H) : rIntQ [V.int n] H Q := .inl ⟨n, rfl, q⟩
theorem c_isN (q : Q (.bl (decide (x = .non))) H) : rIsNQ x .non H Q := ⟨rfl, q⟩
theorem c_notN (q : Q (.bl (!decide (x = .non))) H) : rNotNQ x .non H Q := ⟨rfl, q⟩
theorem c_isi {t u : Value} {c : V} (hc : ClsV c u) (ht : TyX K H x t) (hk : PySem.W.kitOne K t u = some b) (q : Q (.bl b) H) : rIsi K [x, c] H Q := ⟨x, c, t, u, b, rfl, hc, ht, hk, q⟩
/-! dicts -/
theorem w_dget (h : td σ H fun x H1 => ty σ H1 fun y H2 => ∃ a v, x = .ref a ∧ DGet H2 a y (some v) ∧ Q v H2) : tDGet td ty σ H Q := h
theorem w_dput (h : tv σ H fun v H1 => td σ H1 fun x H2 => ty σ H2 fun y H3 => ∃ a H4, x = .ref a ∧ DPut H3 a y v H4 ∧ D.nx σ H4) : sDPut td ty tv D σ H := h
theorem w_dnewT (h : ∀ p, H p = none → Q (.ref p) (upd H p (.dT []))) : tDNewT σ H Q := h
theorem w_dnewK (h : ∀ p, H p = none → Q (.ref p) (upd H p (.dK []))) : tDNewK σ H Q := h
/-! comprehensions -/
theorem w_wipe {vs : List Nat} {A : Prop} (hw : wipe σ' vs = wipe σ vs) (q : A) : wipe σ' vs = wipe σ vs ∧ A := ⟨hw, q⟩
/-! what stays of tuples -/
theorem frame_at (hf : ∀ b, b ≠ a → H' b = H b) (hn : p ≠ a) (h : H p = some o) : H' p = some o := by
  rw [hf p hn]
  exact h
theorem same_new {H0 : Hp} {o1 : HO} (h : Same H0 H) (hp : H p = none) : Same H0 (upd H p o1) := fun b o hb => upd_old (h b o hb) hp
/-- changed at p, which H0 does not know -/
theorem same_mut {H0 : Hp} {o1 : HO} (h : Same H0 H) (hp : H0 p = none) : Same H0 (upd H p o1) := fun b o hb => upd_mut (ne_of_none hb hp) (h b o hb)
end
section
variable {σ σ' : L2.St} {H H' : Hp} {Q : VK} {i : Nat} {v x y z : V} {ta tb tc te tv td ty : TE} {K : PySem.W.Frag} {p q a C dx : Addr} {D : Ends} {b : Bool} {o : HO} {n m : Int} {fs : List (Str × V)} {f mm : Str} {sp : Sp} {dvs : List V} {E : XK} {t : TA}
/-! fields, methods, instances -/
def sfldLeaf (K : PySem.W.Frag) (f : Str) (y : V) (R : Hp → Prop) (x : V) (H2 : Hp) : Prop := ∃ a C dx fs, x = .ref a ∧ H2 a = some (.ins C dx fs) ∧ Cls K C ∧ NoAttr K C f ∧ fs.length < 1000 ∧ R (upd H2 a (.ins C dx (putF f y fs)))
theorem w_sfld (h : tv σ H fun y H1 => ta σ H1 (sfldLeaf K f y (D.nx σ))) : sFld K ta tv f D σ H := h
theorem c_sfld {R : Hp → Prop} (h : H p = some (.ins C dx fs)) (hc : Cls K C) (hn : NoAttr K C f) (hl : fs.length < 1000) (q : R (upd H p (.ins C dx (putF f y fs)))) : sfldLeaf K f y R (.ref p) H := ⟨p, C, dx, fs, rfl, h, hc, hn, hl, q⟩
def methLeaf (C : Addr) (mm : Str) (sp : Sp) (dvs : List V) (E : XK) (t : TA) (σ : L2.St) (Q : VK) (x : V) (H1 : Hp) : Prop := ∃ a dx fs, x = .ref a ∧ H1 a = some (.ins C dx fs) ∧ fs.lookup mm = none ∧ t σ H1 fun vs H2 => sp (x :: (vs ++ dvs)) H2 Q E
theorem w_meth (h : ta σ H (methLeaf C mm sp dvs E t σ Q)) : tMeth C mm sp dvs E ta t σ H Q := h
theorem c_meth (h : H p = some (.ins C dx fs)) (hl : fs.lookup mm = none) (q : t σ H fun vs H2 => sp (.ref p :: (vs ++ dvs)) H2 Q E) : methLeaf C mm sp dvs E t σ Q (.ref p) H := ⟨p, dx, fs, rfl, h, hl, q⟩
def makeLeaf (C : Addr) (sp : Sp) (dvs : List V) (E : XK) (Q : VK) (vs : List V) (H1 : Hp) : Prop := ∀ x dx, H1 x = none → H1 dx = none → dx ≠ x → sp (.ref x :: (vs ++ dvs)) (upd (upd H1 dx (.own x)) x (.ins C dx [])) (fun v H2 => v = .non ∧ Q (.ref x) H2) E
theorem w_make {t : TA} (h : t σ H (makeLeaf C sp dvs E Q)) : tMake C sp dvs E t σ H Q := h
end
section
variable {X : Cx}
theorem peE {e : Expr} {t t' : TE} (h : PE X e t) (q : t = t') : PE X e t' := q ▸ h
theorem ptsE {e : List Expr} {t t' : TT} (h : PTs X e t) (q : t = t') : PTs X e t' := q ▸ h
end
end Eg

/-! DTx: dicts whose keys are tuples: comprehensions that make them, == and != of two, sorted of one. -/
namespace DTx
open PySem PySem.Spec PyProof.Rows L2
/-- the reading of such a comprehension -/
def tDt (wi : TI) (g : TG) (tt : TT) (tk tv : TE) (vs : List Nat) : TE := fun σ H Q => wi σ H fun J H1 => ∀ D, H1 D = none →
  ∃ W : Nat → Nat → Hp → Prop, (∃ m, W 0 m (upd H1 D (.dT []))) ∧ ∀ i m H, W i m H → (J.stop i H ∧ Q (.ref D) H) ∨
    (J.go i H ∧ ∃ Nx : Hp → Prop, (∀ H', Nx H' → ∃ m', m' < m ∧ W (i + 1) m' H') ∧ ∀ x H', J.yld i H x H' → g x (wipe σ vs) H' fun σ2 H2 => wipe σ2 vs = wipe σ vs ∧ tt σ2 H2 fun b H3 =>
      if b = true then tk σ2 H3 fun y H4 => tv σ2 H4 fun z H5 => ∃ ps k c, y = .ref c ∧ H5 c = some (.tup (k.map kV)) ∧ H5 D = some (.dT ps) ∧ ps.length < sizeLine ∧ Nx (upd H5 D (.dT (putK ps k z))) else Nx H3)
section
variable {X : Cx}
/-- the block of a comprehension, in short -/
abbrev InBlk (X : Cx) (scope : Scope) (φ : Cx → Prop) : Prop := ∀ (s : Shared) (H : Hp) (C : Addr) (cl : List (Str × Addr)) (fp : List Addr), φ (X.blk s H scope (compEnvC scope cl C X.env) fp)
end
end DTx

/-! DTx: == and != of two dicts with tuple keys and int values; sorted of such a dict. -/
namespace DTx
open PySem PySem.Spec PyProof.Rows L2 PySem.Calls
section
variable {prog : Program} {w : World} {T : Type} [DecidableEq T] {knd : HeapKind prog w T} {A : Around} {E : Value → Shared → Prop} {s : Shared}
/-- the ints that stand as values -/
def intV : Value → Option Int
  | .int i _ => some i
  | _ => none
/-- whether all pairs of one stand in the other -/
def subD (xs ys : List (T × Addr × Value)) : Bool := xs.all fun x => decide (((atKey ys x.1).map fun p => intV p.2) = some (intV x.2.2))
end
/-! over the layer -/
theorem pair_at {α β : Type} {F : α → β → Prop} {us : List α} {vs : List β} (r : Paired F us vs) : ∀ {j : Nat} {y : β}, vs[j]? = some y → ∃ x, us[j]? = some x ∧ F x y := by
  induction r with
  | nil => intro j y h; simp at h
  | @cons a b as bs hab t ih =>
    intro j y h
    cases j with
    | zero => exact ⟨a, rfl, by rw [← Option.some.inj (show some b = some y from h)]; exact hab⟩
    | succ j => exact ih (show bs[j]? = some y from h)
def isIntV : V → Prop := fun v => ∃ i, v = .int i
/-- the answer: the same pairs -/
def sameD (ks ls : List (List Key × V)) : Bool := ks.length == ls.length && ks.all fun p => decide (valV ls p.1 = some p.2)
def rEqT (neg : Bool) : R2 := fun x y H Q => ∃ a b ks ls, x = .ref a ∧ y = .ref b ∧ Rd H a (.dT ks) ∧ Rd H b (.dT ls) ∧ (∀ p ∈ ks, isIntV p.2) ∧ (∀ p ∈ ls, isIntV p.2) ∧ Q (.bl (if neg then !sameD ks ls else sameD ks ls)) H
theorem KT.ints {H : Hp} {ks : List (List Key × V)} {xs : List (List Key × Addr × Value)} (r : KT H ks xs) (h : ∀ p ∈ ks, isIntV p.2) : ∀ x ∈ xs, ∃ i t, x.2.2 = Value.int i t := by
  intro x hx
  obtain ⟨j, hj⟩ := List.mem_iff_getElem?.mp hx
  obtain ⟨p, hp, e⟩ := pair_at r hj
  obtain ⟨i, ei⟩ := h p (List.mem_of_getElem? hp)
  have e2 := e.2.2
  rw [ei] at e2
  obtain ⟨t, et⟩ := e2
  exact ⟨i, t, et⟩
end DTx

/-! DTx: sorted of a dict whose keys are tuples of ints, fewer than 64. -/
namespace DTx
open PySem PySem.Spec PyProof.Rows L2 PySem.Calls PySem.W
section
variable {prog : Program} {w : World} {A : Around} {E : Value → Shared → Prop} {s : Shared} {T : String} {r d : Addr} {n : Nat} {P : Nat → Value → Prop} {OK : Heap → Prop}
end
/-- sorted(d): the addresses of the keys, by their ints -/
def rSortD : List V → Hp → VK → Prop := fun vs H Q => ∃ (a : Addr) (ks : List (List Int × V)) (m : Nat) (B : Int), vs = [V.ref a] ∧ Rd H a (.dT (ks.map fun p => (p.1.map Sum.inl, p.2))) ∧ ks.length < 64 ∧ 1 ≤ m ∧ (∀ p ∈ ks, p.1.length = m ∧ TS.Bd B p.1) ∧
  ∀ (L : List (Addr × List Int)) (p : Addr), (L.map (·.2)).Perm (ks.map (·.1)) → L.Pairwise (fun q r => TS.code B q.2 ≤ TS.code B r.2) → (∀ q ∈ L, H q.1 = some (.tup (q.2.map V.int))) → H p = none → Q (.ref p) (upd H p (.lst (L.map fun q => V.ref q.1)))
end DTx

/-! DTx: {k: v} with a tuple as its one key. -/
namespace DTx
open PySem PySem.Spec PyProof.Rows L2 PySem.Calls
def tOne (tk tv : TE) : TE := fun σ H Q => ∀ p, H p = none → tk σ (upd H p (.dT [])) fun y H1 => tv σ H1 fun z H2 => H2 p = some (.dT []) ∧ ∃ k c, y = .ref c ∧ H2 c = some (.tup (k.map kV)) ∧ Q (.ref p) (upd H2 p (.dT [(k, z)]))
end DTx

/-! Bf: breadth first over sums: what is reached by n steps, with and without a limit. -/
namespace Bf
/-- x is reached from a by n steps out of S -/
inductive Rch (S : List Int) (a : Int) : Nat → Int → Prop
  | zero : Rch S a 0 a
  | succ {n : Nat} {x s : Int} : Rch S a n x → s ∈ S → Rch S a (n + 1) (x + s)
/-- the same, no number behind a beyond the limit -/
inductive RchB (S : List Int) (L : Int) (a : Int) : Nat → Int → Prop
  | zero : RchB S L a 0 a
  | succ {n : Nat} {x s : Int} : RchB S L a n x → s ∈ S → -L ≤ x + s → x + s ≤ L → RchB S L a (n + 1) (x + s)
/-- x is reached by i steps and by no fewer -/
def Dst (S : List Int) (L a : Int) (i : Nat) (x : Int) : Prop := RchB S L a i x ∧ ∀ j, j < i → ¬ RchB S L a j x
section
variable {S S' : List Int} {L L' a : Int} {i j n : Nat} {x y : Int}
theorem RchB.un (h : RchB S L a n x) : Rch S a n x := by
  induction h with
  | zero => exact .zero
  | succ _ hs _ _ ih => exact .succ ih hs
theorem RchB.lim (h : RchB S L a n x) (ha : -L ≤ a ∧ a ≤ L) : -L ≤ x ∧ x ≤ L := by
  cases h with
  | zero => exact ha
  | succ _ _ h1 h2 => exact ⟨h1, h2⟩
theorem Rch.sub (h : Rch S a n x) (hs : ∀ s ∈ S, s ∈ S') : Rch S' a n x := by
  induction h with
  | zero => exact .zero
  | succ _ h ih => exact .succ ih (hs _ h)
theorem RchB.sub (h : RchB S L a n x) (hs : ∀ s ∈ S, s ∈ S') : RchB S' L a n x := by
  induction h with
  | zero => exact .zero
  | succ _ h h1 h2 ih => exact .succ ih (hs _ h) h1 h2
/-- steps of 0 may be left out -/
theorem Rch.drop (h : Rch S a n x) (hs : ∀ s ∈ S, s ≠ 0 → s ∈ S') : ∃ m, m ≤ n ∧ Rch S' a m x := by
  induction h with
  | zero => exact ⟨0, Nat.le_refl _, .zero⟩
  | @succ n x s _ h ih =>
    obtain ⟨m, hm, r⟩ := ih
    by_cases e : s = 0
    · exact ⟨m, by omega, by rw [e, Int.add_zero]; exact r⟩
    · exact ⟨m + 1, by omega, .succ r (hs s h e)⟩
theorem Rch.list (h : Rch S a n x) : ∃ l : List Int, l.length = n ∧ (∀ s ∈ l, s ∈ S) ∧ a + l.sum = x := by
  induction h with
  | zero => exact ⟨[], rfl, (fun _ h => nomatch h), by simp⟩
  | @succ n x s _ hs ih =>
    obtain ⟨l, h1, h2, h3⟩ := ih
    refine ⟨s :: l, by simp [h1], fun t ht => ?_, by rw [List.sum_cons]; omega⟩
    rcases List.mem_cons.mp ht with e | ht
    · rw [e]; exact hs
    · exact h2 t ht
theorem Rch.front {s : Int} (h : Rch S (a + s) n x) (hs : s ∈ S) : Rch S a (n + 1) x := by
  induction h with
  | zero => exact .succ .zero hs
  | succ _ h ih => exact .succ ih h
theorem RchB.front {s : Int} (h : RchB S L (a + s) n x) (hs : s ∈ S) (h1 : -L ≤ a + s) (h2 : a + s ≤ L) : RchB S L a (n + 1) x := by
  induction h with
  | zero => exact .succ .zero hs h1 h2
  | succ _ h h3 h4 ih => exact .succ ih h h3 h4
theorem sum_erase {s : Int} : ∀ {l : List Int}, s ∈ l → (l.erase s).sum + s = l.sum
  | x :: l, h => by
    by_cases e : x = s
    · subst e
      rw [List.erase_cons_head, List.sum_cons]
      omega
    · rcases List.mem_cons.mp h with h | h
      · exact absurd h.symm e
      · rw [List.erase_cons_tail (by simpa using e), List.sum_cons, List.sum_cons]
        have := sum_erase h
        omega
theorem neg_of_sum : ∀ {l : List Int}, l.sum < 0 → ∃ s ∈ l, s < 0
  | [], h => by simp at h
  | x :: l, h => by
    by_cases e : x < 0
    · exact ⟨x, List.mem_cons_self, e⟩
    · rw [List.sum_cons] at h
      obtain ⟨s, hs, h0⟩ := neg_of_sum (l := l) (by omega)
      exact ⟨s, List.mem_cons_of_mem _ hs, h0⟩
theorem pos_of_sum : ∀ {l : List Int}, 0 < l.sum → ∃ s ∈ l, 0 < s
  | [], h => by simp at h
  | x :: l, h => by
    by_cases e : 0 < x
    · exact ⟨x, List.mem_cons_self, e⟩
    · rw [List.sum_cons] at h
      obtain ⟨s, hs, h0⟩ := pos_of_sum (l := l) (by omega)
      exact ⟨s, List.mem_cons_of_mem _ hs, h0⟩
/-- steps with the sum -a can be taken in an order that stays within the limit -/
theorem order (hS : ∀ s ∈ S, -L ≤ s ∧ s ≤ L) : ∀ (n : Nat) (l : List Int) (a : Int), l.length = n → (∀ s ∈ l, s ∈ S) → a + l.sum = 0 → -L ≤ a → a ≤ L → ∃ m, m ≤ n ∧ RchB S L a m 0
  | 0, l, a, hl, hm, h0, h1, h2 => by
    have : l = [] := List.length_eq_zero_iff.mp hl
    subst this
    have : a = 0 := by simpa using h0
    subst this
    exact ⟨0, Nat.le_refl _, .zero⟩
  | n + 1, l, a, hl, hm, h0, h1, h2 => by
    have go : ∀ s ∈ l, -L ≤ a + s → a + s ≤ L → ∃ m, m ≤ n + 1 ∧ RchB S L a m 0 := fun s hs g1 g2 => by
      have e := sum_erase hs
      obtain ⟨m, hmn, r⟩ := order hS n (l.erase s) (a + s) (by rw [List.length_erase_of_mem hs, hl]; rfl) (fun t ht => hm t (List.mem_of_mem_erase ht)) (by omega) g1 g2
      exact ⟨m + 1, by omega, r.front (hm s hs) g1 g2⟩
    by_cases c0 : a = 0
    · subst c0
      exact ⟨0, Nat.zero_le _, .zero⟩
    by_cases c : 0 < a
    · obtain ⟨s, hs, hn⟩ := neg_of_sum (l := l) (by omega)
      have := hS s (hm s hs)
      exact go s hs (by omega) (by omega)
    · obtain ⟨s, hs, hn⟩ := pos_of_sum (l := l) (by omega)
      have := hS s (hm s hs)
      exact go s hs (by omega) (by omega)
theorem Rch.within (h : Rch S a n 0) (hS : ∀ s ∈ S, -L ≤ s ∧ s ≤ L) (ha : -L ≤ a ∧ a ≤ L) : ∃ m, m ≤ n ∧ RchB S L a m 0 := by
  obtain ⟨l, h1, h2, h3⟩ := h.list
  exact order hS n l a h1 h2 h3 ha.1 ha.2
theorem Dst.one (h : Dst S L a i x) (h' : Dst S L a j x) : i = j := by
  rcases Nat.lt_trichotomy i j with c | c | c
  · exact absurd h.1 (h'.2 i c)
  · exact c
  · exact absurd h'.1 (h.2 j c)
theorem RchB.dst : ∀ {n : Nat} {x : Int}, RchB S L a n x → ∃ j, j ≤ n ∧ Dst S L a j x := by
  intro n
  induction n using Nat.strongRecOn with
  | _ n ih =>
    intro x h
    rcases Classical.em (∃ j, j < n ∧ RchB S L a j x) with ⟨j, hj, r⟩ | c
    · obtain ⟨k, hk, d⟩ := ih j hj r
      exact ⟨k, by omega, d⟩
    · exact ⟨n, Nat.le_refl _, h, fun j hj r => c ⟨j, hj, r⟩⟩
/-- what is known behind i turns: C what came, R the ring -/
structure Lev (S : List Int) (L a : Int) (i : Nat) (C R : List Int) : Prop where
  came : ∀ x, x ∈ C ↔ ∃ j, j ≤ i ∧ RchB S L a j x
  ring : ∀ x, x ∈ R ↔ Dst S L a i x
  nd : C.Nodup
theorem Lev.start : Lev S L a 0 [a] [a] := by
  refine ⟨fun x => ?_, fun x => ?_, by simp⟩
  · rw [List.mem_singleton]
    constructor
    · rintro rfl
      exact ⟨0, Nat.le_refl _, .zero⟩
    · rintro ⟨j, hj, h⟩
      have : j = 0 := by omega
      subst this
      cases h
      rfl
  · rw [List.mem_singleton]
    constructor
    · rintro rfl
      exact ⟨.zero, fun j hj => absurd hj (Nat.not_lt_zero _)⟩
    · rintro ⟨h, _⟩
      cases h
      rfl
/-- what is found in a turn -/
structure Found (S : List Int) (L : Int) (C R F : List Int) : Prop where
  mem : ∀ x, x ∈ F ↔ (x ∉ C ∧ -L ≤ x ∧ x ≤ L ∧ ∃ n ∈ R, ∃ s ∈ S, x = n + s)
  nd : F.Nodup
theorem Lev.next {C R F : List Int} (h : Lev S L a i C R) (f : Found S L C R F) : Lev S L a (i + 1) (C ++ F) F := by
  have key : ∀ x, x ∈ F ↔ Dst S L a (i + 1) x := fun x => by
    rw [f.mem]
    constructor
    · rintro ⟨hc, h1, h2, n, hn, s, hs, rfl⟩
      refine ⟨.succ ((h.ring n).mp hn).1 hs h1 h2, fun j hj r => hc ((h.came _).mpr ⟨j, by omega, r⟩)⟩
    · rintro ⟨r, hmin⟩
      cases r with
      | @succ _ n s r hs h1 h2 =>
        refine ⟨fun hc => ?_, h1, h2, n, (h.ring n).mpr ⟨r, fun j hj r' => ?_⟩, s, hs, rfl⟩
        · obtain ⟨j, hj, r'⟩ := (h.came _).mp hc
          exact hmin j (by omega) r'
        · exact hmin (j + 1) (by omega) (.succ r' hs h1 h2)
  refine ⟨fun x => ?_, key, ?_⟩
  · rw [List.mem_append]
    constructor
    · rintro (hx | hx)
      · obtain ⟨j, hj, r⟩ := (h.came x).mp hx
        exact ⟨j, by omega, r⟩
      · exact ⟨i + 1, Nat.le_refl _, ((key x).mp hx).1⟩
    · rintro ⟨j, hj, r⟩
      obtain ⟨k, hk, d⟩ := r.dst
      by_cases e : k = i + 1
      · exact .inr ((key x).mpr (e ▸ d))
      · exact .inl ((h.came x).mpr ⟨k, by omega, d.1⟩)
  · rw [List.nodup_append]
    refine ⟨h.nd, f.nd, fun x hx y hy e => ?_⟩
    exact ((f.mem y).mp hy).1 (e ▸ hx)
/-- the ring is empty: everything came -/
theorem Lev.all {C : List Int} (h : Lev S L a i C []) : ∀ n x, RchB S L a n x → x ∈ C := by
  intro n x r
  induction r with
  | zero => exact (h.came a).mpr ⟨0, Nat.zero_le _, .zero⟩
  | @succ n x s _ hs h1 h2 ih =>
    obtain ⟨j, hj, r⟩ := (h.came x).mp ih
    obtain ⟨k, hk, d⟩ := r.dst
    have : k ≠ i := fun e => by
      have := (h.ring x).mpr (e ▸ d)
      cases this
    exact (h.came _).mpr ⟨k + 1, by omega, .succ d.1 hs h1 h2⟩
theorem Lev.lim {C R : List Int} (h : Lev S L a i C R) (ha : -L ≤ a ∧ a ≤ L) {x : Int} (hx : x ∈ C) : -L ≤ x ∧ x ≤ L := by
  obtain ⟨j, _, r⟩ := (h.came x).mp hx
  exact r.lim ha
theorem Lev.sub {C R : List Int} (h : Lev S L a i C R) : ∀ x ∈ R, x ∈ C := fun x hx => (h.came x).mpr ⟨i, Nat.le_refl _, ((h.ring x).mp hx).1⟩
/-- a list of different numbers within the limit is no longer than the limit allows -/
theorem few {C : List Int} (nd : C.Nodup) (h : ∀ x ∈ C, -L ≤ x ∧ x ≤ L) (hL : 0 ≤ L) : (C.length : Int) ≤ 2 * L + 1 := by
  have key : ∀ (D : List Int) (k : Nat), D.Nodup → (∀ x ∈ D, 0 ≤ x ∧ x < (k : Int)) → D.length ≤ k := by
    intro D k
    induction k generalizing D with
    | zero =>
      intro _ hb
      cases D with
      | nil => exact Nat.le_refl _
      | cons x D =>
        have := hb x List.mem_cons_self
        omega
    | succ k ih =>
      intro hn hb
      have := ih (D.erase (k : Int)) (hn.erase _) fun x hx => by
        have h1 := hb x (List.mem_of_mem_erase hx)
        have h2 := (hn.mem_erase_iff.mp hx).1
        omega
      have l := List.length_erase (a := (k : Int)) (l := D)
      split at l <;> omega
  have := key (C.map fun x => x + L) (2 * L + 1).toNat (by
    refine List.pairwise_map.mpr (nd.imp ?_)
    intro x y hxy e
    omega) (fun x hx => by
      obtain ⟨y, hy, rfl⟩ := List.mem_map.mp hx
      have := h y hy
      omega)
  rw [List.length_map] at this
  omega
/-- the least number of steps that lead to 0 -/
def Least (S : List Int) (a : Int) : Option Nat → Prop
  | none => ∀ n, ¬ Rch S a n 0
  | some m => Rch S a m 0 ∧ ∀ n, Rch S a n 0 → m ≤ n
theorem Least.one {o o' : Option Nat} (h : Least S a o) (h' : Least S a o') : o = o' := by
  cases o with
  | none => cases o' with
    | none => rfl
    | some m => exact absurd h'.1 (h m)
  | some m => cases o' with
    | none => exact absurd h.1 (h' m)
    | some k =>
      have h1 := h.2 k h'.1
      have h2 := h'.2 m h.1
      rw [show m = k by omega]
/-- the same steps but 0 -/
theorem Least.steps {o : Option Nat} (h : Least S a o) (e : ∀ s, s ≠ 0 → (s ∈ S ↔ s ∈ S')) : Least S' a o := by
  have f : ∀ n, Rch S' a n 0 → ∃ m, m ≤ n ∧ Rch S a m 0 := fun n r => r.drop fun s hs hn => (e s hn).mpr hs
  have g : ∀ n, Rch S a n 0 → ∃ m, m ≤ n ∧ Rch S' a m 0 := fun n r => r.drop fun s hs hn => (e s hn).mp hs
  cases o with
  | none =>
    intro n r
    obtain ⟨m, _, r⟩ := f n r
    exact h m r
  | some k =>
    obtain ⟨m, hm, r⟩ := g k h.1
    obtain ⟨m', hm', r'⟩ := f m r
    have := h.2 m' r'
    have e : m = k := by omega
    subst e
    refine ⟨r, fun n r => ?_⟩
    obtain ⟨m2, hm2, r2⟩ := f n r
    have := h.2 m2 r2
    omega
end
end Bf

/-! Sm: dicts from int lists to ints, as lists of pairs; forms. -/
namespace Sm
open PySem L2
abbrev DI := List (List Int × Int)
abbrev ek (k : List Int) : List Key := k.map Sum.inl
def enc (ps : DI) : List (List Key × V) := ps.map fun p => (ek p.1, V.int p.2)
def getI (ps : DI) (k : List Int) : Option Int := (ps.find? fun p => decide (p.1 = k)).map (·.2)
def putI (ps : DI) (k : List Int) (v : Int) : DI := if (ps.any fun p => decide (p.1 = k)) = true then ps.map (fun p => if p.1 = k then (p.1, v) else p) else ps ++ [(k, v)]
theorem ek_inj {a b : List Int} : ek a = ek b ↔ a = b := by
  constructor
  · intro h
    induction a generalizing b with
    | nil => cases b with
      | nil => rfl
      | cons y ys => cases h
    | cons x xs ih => cases b with
      | nil => cases h
      | cons y ys =>
        injection h with h1 h2
        rw [Sum.inl.inj h1, ih h2]
  · intro h; rw [h]
theorem val_enc (ps : DI) (k : List Int) : valV (enc ps) (ek k) = (getI ps k).map V.int := by
  induction ps with
  | nil => rfl
  | cons p r ih =>
    show valV ((ek p.1, V.int p.2) :: enc r) (ek k) = _
    by_cases e : p.1 = k
    · rw [valV_pos (by rw [e])]
      simp [getI, e]
    · rw [valV_neg (fun h => e (ek_inj.mp h)), ih]
      simp [getI, e]
theorem put_enc (ps : DI) (k : List Int) (v : Int) : putK (enc ps) (ek k) (.int v) = enc (putI ps k v) := by
  have e : ((enc ps).any fun kv => decide (kv.1 = ek k)) = (ps.any fun p => decide (p.1 = k)) := by
    unfold enc
    rw [List.any_map]
    congr 1
    funext p
    exact decide_eq_decide.mpr ek_inj
  unfold putK putI
  rw [e]
  split
  · unfold enc
    rw [List.map_map, List.map_map]
    refine List.map_congr_left fun p _ => ?_
    show (if ek p.1 = ek k then (ek p.1, V.int v) else (ek p.1, V.int p.2)) = _
    by_cases h : p.1 = k
    · rw [if_pos (by rw [h])]
      simp [h]
    · rw [if_neg (fun z => h (ek_inj.mp z))]
      simp [h]
  · simp [enc]
theorem getI_none {ps : DI} {k : List Int} (h : k ∉ ps.map (·.1)) : getI ps k = none := by
  unfold getI
  rw [Option.map_eq_none_iff, List.find?_eq_none]
  intro p hp e
  exact h (List.mem_map.mpr ⟨p, hp, of_decide_eq_true e⟩)
theorem getI_mem {ps : DI} (nd : (ps.map (·.1)).Nodup) {p : List Int × Int} (hp : p ∈ ps) : getI ps p.1 = some p.2 := by
  induction ps with
  | nil => cases hp
  | cons q r ih =>
    have nd' : (q.1 :: r.map (·.1)).Nodup := nd
    obtain ⟨h1, h2⟩ := List.nodup_cons.mp nd'
    rcases List.mem_cons.mp hp with rfl | hp
    · simp [getI]
    · have : ¬ q.1 = p.1 := fun e => h1 (e ▸ List.mem_map.mpr ⟨p, hp, rfl⟩)
      have ih' := ih h2 hp
      simp only [getI, List.find?_cons] at ih' ⊢
      rw [decide_eq_false this]
      exact ih'
/-- the steps that are not 0 -/
def nz (ps : DI) : DI := ps.filter fun p => decide (p.2 ≠ 0)
theorem nz_sub {ps : DI} {p : List Int × Int} (h : p ∈ nz ps) : p ∈ ps := (List.mem_filter.mp h).1
theorem nd_nz {ps : DI} (nd : (ps.map (·.1)).Nodup) : ((nz ps).map (·.1)).Nodup := by
  unfold nz
  exact nd.sublist ((List.filter_sublist).map _)
/-- refs of tuples of ints -/
def TupsAt (H : Hp) : List V → List (List Int) → Prop := Paired fun v k => ∃ t, v = .ref t ∧ H t = some (.tup (k.map V.int))
theorem TupsAt.same {H H' : Hp} (e : ∀ b ys, H b = some (.tup ys) → H' b = some (.tup ys)) {xs : List V} {ks : List (List Int)} (h : TupsAt H xs ks) : TupsAt H' xs ks :=
  Paired.mapP h fun _ _ ⟨t, a, b⟩ => ⟨t, a, e _ _ b⟩
theorem TupsAt.get {H : Hp} {xs : List V} {ks : List (List Int)} (h : TupsAt H xs ks) {i : Nat} {x : V} (hx : xs[i]? = some x) : ∃ k t, ks[i]? = some k ∧ x = .ref t ∧ H t = some (.tup (k.map V.int)) := by
  induction h generalizing i with
  | nil => simp at hx
  | @cons a b as bs hab r ih =>
    cases i with
    | zero =>
      obtain ⟨t, e1, e2⟩ := hab
      have e : a = x := Option.some.inj hx
      exact ⟨b, t, rfl, by rw [← e, e1], e2⟩
    | succ i => exact ih hx
theorem TupsAt.app {H : Hp} {xs ys : List V} {ks ls : List (List Int)} (h : TupsAt H xs ks) (h' : TupsAt H ys ls) : TupsAt H (xs ++ ys) (ks ++ ls) := by
  induction h with
  | nil => exact h'
  | cons hab r ih => exact .cons hab ih
theorem TupsAt.erase {H : Hp} {xs : List V} {ks : List (List Int)} (h : TupsAt H xs ks) (j : Nat) : TupsAt H (xs.eraseIdx j) (ks.eraseIdx j) := by
  induction h generalizing j with
  | nil => exact .nil
  | cons hab r ih =>
    cases j with
    | zero => exact r
    | succ j => exact .cons hab (ih j)
theorem TupsAt.len {H : Hp} {xs : List V} {ks : List (List Int)} (h : TupsAt H xs ks) : xs.length = ks.length := Paired.length h
/-- a sort: three ints from 0 to 2 -/
def Sort3 (k : List Int) : Prop := k.length = 3 ∧ TS.Bd 3 k
end Sm

/-! Tx: texts with holes, plainly: lists of code points, words, counts, labels, tokens, parts. -/
namespace Tx
open PySem PySem.Builtin PySem.Builtin.Str L2 SX
/-! ### single signs, slices, find -/
theorem one_lt (c d : Nat) : ([c] < [d]) = (c < d) := by
  apply propext
  constructor
  · intro h
    cases h with
    | rel h => exact h
    | cons h => cases h
  · intro h
    exact List.Lex.rel h
/-! ### words, counts, labels -/
def low (c : Nat) : Bool := decide (97 ≤ c) && decide (c ≤ 122)
def dig (c : Nat) : Bool := decide (48 ≤ c) && decide (c ≤ 57)
def wordB (l : List Nat) : Bool := decide (1 ≤ l.length) && decide (l.length ≤ 8) && l.all low
def countB (l : List Nat) : Bool := decide (1 ≤ l.length) && decide (l.length ≤ 6) && !(decide (l.head? = some 48) && decide (l ≠ [48])) && l.all dig
def stem (l : List Nat) : List Nat := (l.reverse.dropWhile dig).reverse
def labelB (l : List Nat) : Bool := wordB (stem l) && (decide (stem l = l) || countB (l.drop (stem l).length))
def litB (c : Nat) : Bool := decide (32 ≤ c) && decide (c ≤ 126) && decide (c ≠ 37) && decide (c ≠ 123) && decide (c ≠ 125)
def digits10 : List Nat := [48, 49, 50, 51, 52, 53, 54, 55, 56, 57]
theorem digits10_S : ("0123456789" : Str) = S digits10 := by decide +kernel
theorem mem_digits10 (c : Nat) : decide (c ∈ digits10) = dig c := by
  unfold digits10 dig
  rw [← Bool.decide_and]
  refine decide_eq_decide.mpr ?_
  simp only [List.mem_cons, List.not_mem_nil, or_false]
  omega
theorem contains_digits (c : Nat) : (S digits10).cps.contains c = dig c := by
  rw [← mem_digits10]
  show digits10.toArray.contains c = _
  rw [List.contains_toArray, List.contains_eq_mem]
theorem stem_app (l : List Nat) : ∃ d, l = stem l ++ d ∧ d.all dig = true := by
  refine ⟨(l.reverse.takeWhile dig).reverse, ?_, ?_⟩
  · unfold stem
    rw [← List.reverse_append, List.takeWhile_append_dropWhile, List.reverse_reverse]
  · rw [List.all_reverse, List.all_eq_true]
    exact fun x hx => List.all_eq_true.mp (List.all_takeWhile (p := dig) (l := l.reverse)) x hx
theorem rstrip_digits (l : List Nat) : Txt.rstripChars (S l) (S digits10) = S (stem l) := by
  have e0 : (fun c => (S digits10).cps.contains c) = dig := funext contains_digits
  have lo0 : stripLo (S digits10).cps.contains false (S l) = 0 := rfl
  have hlen : (S l).length = l.length := S_len l
  have tw : (l.reverse.takeWhile dig).length + (stem l).length = l.length := by
    unfold stem
    rw [List.length_reverse, ← List.length_append, List.takeWhile_append_dropWhile, List.length_reverse]
  have hi0 : stripHi (S digits10).cps.contains true (S l) 0 = (stem l).length := by
    show (S l).length - ((l.drop 0).reverse.takeWhile (S digits10).cps.contains).length = _
    rw [List.drop_zero, hlen, show (S digits10).cps.contains = dig from e0]
    omega
  unfold Txt.rstripChars Txt.stripBy stripSame
  rw [lo0, hi0]
  obtain ⟨d, hd, _⟩ := stem_app l
  split
  · rename_i h
    have h2 : (stem l).length = l.length := by
      rw [hlen] at h
      simpa using h
    have : d = [] := by
      have := congrArg List.length hd
      rw [List.length_append] at this
      exact List.eq_nil_of_length_eq_zero (by omega)
    rw [this, List.append_nil] at hd
    rw [← hd]
  · unfold stripped
    rw [lo0, hi0]
    refine TL.ext_tl ?_
    rw [TL.tl_strSub]
    show (l.drop 0).take ((stem l).length - 0) = stem l
    rw [List.drop_zero, Nat.sub_zero]
    have : (stem l ++ d).take (stem l).length = stem l := List.take_left
    rw [← hd] at this
    exact this
/-! ### tokens and parts -/
inductive Tk | ch (c : Nat) | ho (k : List Nat)
  deriving DecidableEq
def flat : List Tk → List Nat
  | [] => []
  | .ch c :: r => c :: flat r
  | .ho k :: r => 123 :: (k ++ 125 :: flat r)
/-- a part: a literal, or something else that is told by its tag -/
inductive Pc | say (l : List Nat) | oth (tag : Str) (xs : List V)
def Pc.vs : Pc → List V
  | .say l => [.str "say", .str (S l)]
  | .oth t xs => .str t :: xs
def Pc.ok : Pc → Prop
  | .say _ => True
  | .oth t xs => t ≠ "say" ∧ 1 ≤ xs.length ∧ xs.length ≤ 5
def hole (k : List Nat) : Pc := .oth "hole" [.str (S k)]
/-- the parts as they are read -/
def raw : List Nat → List Tk → List Pc
  | cur, [] => [.say cur]
  | cur, .ch c :: r => raw (cur ++ [c]) r
  | cur, .ho k :: r => .say cur :: hole k :: raw [] r
/-- one part more -/
def put (acc : List Pc) : Pc → List Pc
  | .oth t xs => acc ++ [.oth t xs]
  | .say l => if l = [] then acc else match acc.getLast? with
    | some (.say m) => acc.dropLast ++ [.say (m ++ l)]
    | _ => acc ++ [.say l]
def merge (ps : List Pc) : List Pc := ps.foldl put []
/-- parts in the heap -/
def PcsAt (H : Hp) : List V → List Pc → Prop := Paired fun v p => ∃ t, v = .ref t ∧ H t = some (.tup p.vs)
theorem PcsAt.same {H H' : Hp} (e : ∀ b ys, H b = some (.tup ys) → H' b = some (.tup ys)) {xs : List V} {ps : List Pc} (h : PcsAt H xs ps) : PcsAt H' xs ps :=
  Paired.mapP h fun _ _ ⟨t, a, b⟩ => ⟨t, a, e _ _ b⟩
theorem PcsAt.get {H : Hp} {xs : List V} {ps : List Pc} (h : PcsAt H xs ps) {i : Nat} {x : V} (hx : xs[i]? = some x) : ∃ p t, ps[i]? = some p ∧ x = .ref t ∧ H t = some (.tup p.vs) := by
  induction h generalizing i with
  | nil => simp at hx
  | @cons a b as bs hab r ih =>
    cases i with
    | zero =>
      obtain ⟨t, e1, e2⟩ := hab
      have e : a = x := Option.some.inj hx
      exact ⟨b, t, rfl, by rw [← e, e1], e2⟩
    | succ i => exact ih hx
theorem PcsAt.app {H : Hp} {xs ys : List V} {ps qs : List Pc} (h : PcsAt H xs ps) (h' : PcsAt H ys qs) : PcsAt H (xs ++ ys) (ps ++ qs) := by
  induction h with
  | nil => exact h'
  | cons hab r ih => exact .cons hab ih
theorem PcsAt.len {H : Hp} {xs : List V} {ps : List Pc} (h : PcsAt H xs ps) : xs.length = ps.length := Paired.length h
theorem PcsAt.one {H : Hp} {t : Addr} {p : Pc} (h : H t = some (.tup p.vs)) : PcsAt H [.ref t] [p] := .cons ⟨t, rfl, h⟩ .nil
theorem PcsAt.dropLast {H : Hp} {xs : List V} {ps : List Pc} (h : PcsAt H xs ps) : PcsAt H xs.dropLast ps.dropLast := by
  induction h with
  | nil => exact .nil
  | @cons a b as bs hab r ih =>
    cases r with
    | nil => exact .nil
    | cons h2 r2 => exact .cons hab ih
/-! sizes -/
def szP : Pc → Nat | .say l => l.length | .oth _ _ => 0
def sz (ps : List Pc) : Nat := (ps.map szP).sum
theorem last_split {α : Type} {l : List α} {x : α} (h : l.getLast? = some x) : l = l.dropLast ++ [x] := by
  rcases List.eq_nil_or_concat l with rfl | ⟨r, y, rfl⟩
  · cases h
  · rw [List.concat_eq_append] at h ⊢
    rw [List.getLast?_append] at h
    have : y = x := Option.some.inj h
    rw [this, List.dropLast_append_of_ne_nil (by simp)]
    simp
/-! the end of a list -/
theorem atI_last {α : Type} {xs : List α} {x : α} (h : xs.getLast? = some x) : atI xs (-1) = some x := by
  have e := last_split h
  have hl : 0 < xs.length := by
    cases xs with
    | nil => cases h
    | cons a r => simp
  have h2 : xs[xs.length - 1]? = some x := by rw [← List.getLast?_eq_getElem?]; exact h
  unfold atI
  have hix : ixN xs.length (-1) = some (xs.length - 1) := by
    unfold ixN
    rw [if_neg (by decide), if_pos (by omega)]
    congr 1
    omega
  rw [hix]
  exact h2
theorem ixN_last {n : Nat} (h : 0 < n) : ixN n (-1) = some (n - 1) := by
  unfold ixN
  rw [if_neg (by decide), if_pos (by omega)]
  congr 1
  omega
theorem atI_hd {α : Type} {x : α} {xs : List α} : atI (x :: xs) 0 = some x := atI_nat (j := 0) rfl
theorem atI_hd1 {α : Type} {x y : α} {xs : List α} : atI (x :: y :: xs) 1 = some y := atI_nat (j := 1) rfl
theorem set_last {α : Type} {xs : List α} {y : α} (h : xs ≠ []) : xs.set (xs.length - 1) y = xs.dropLast ++ [y] := by
  rcases List.eq_nil_or_concat xs with rfl | ⟨r, z, rfl⟩
  · exact absurd rfl h
  · rw [List.concat_eq_append, List.length_append, List.dropLast_append_of_ne_nil (by simp)]
    show (r ++ [z]).set (r.length + 1 - 1) y = _
    rw [Nat.add_sub_cancel, List.set_append_right _ _ (Nat.le_refl _), Nat.sub_self]
    simp
theorem PcsAt.last {H : Hp} {xs : List V} {ps : List Pc} (h : PcsAt H xs ps) {p : Pc} (hp : ps.getLast? = some p) : ∃ t, xs.getLast? = some (.ref t) ∧ H t = some (.tup p.vs) := by
  rw [List.getLast?_eq_getElem?] at hp
  have hl := h.len
  have hx : ps.length - 1 < xs.length := by
    have := (List.getElem?_eq_some_iff.mp hp).1
    omega
  obtain ⟨q, t, h1, h2, h3⟩ := h.get (List.getElem?_eq_getElem hx)
  rw [hp] at h1
  cases h1
  exact ⟨t, by rw [List.getLast?_eq_getElem?, hl, List.getElem?_eq_getElem hx, h2], h3⟩
end Tx

/-! Sl: comprehensions of ints over the keys of a dict with int-tuple keys. -/
namespace Sl
open PySem L2 Sm
end Sl

/-! Gt: what a dict of steps gives for each sort. -/
namespace Sm
open PySem L2
def gt (qs : DI) (k : List Int) : Int := (getI qs k).getD 0
theorem keys_putI {ps : DI} {k : List Int} {v : Int} : (putI ps k v).map (·.1) = if k ∈ ps.map (·.1) then ps.map (·.1) else ps.map (·.1) ++ [k] := by
  have e : (ps.any fun p => decide (p.1 = k)) = true ↔ k ∈ ps.map (·.1) := by
    rw [List.any_eq_true, List.mem_map]
    exact ⟨fun ⟨p, h, e⟩ => ⟨p, h, of_decide_eq_true e⟩, fun ⟨p, h, e⟩ => ⟨p, h, decide_eq_true e⟩⟩
  unfold putI
  by_cases h : k ∈ ps.map (·.1)
  · rw [if_pos (e.mpr h), if_pos h, List.map_map]
    refine List.map_congr_left fun p _ => ?_
    show (if p.1 = k then (p.1, v) else p).1 = p.1
    split <;> rfl
  · rw [if_neg (fun z => h (e.mp z)), if_neg h, List.map_append]
    rfl
theorem nd_putI {ps : DI} {k : List Int} {v : Int} (h : (ps.map (·.1)).Nodup) : ((putI ps k v).map (·.1)).Nodup := by
  rw [keys_putI]
  split
  · exact h
  · next n =>
    rw [List.nodup_append]
    exact ⟨h, by simp, fun a ha b hb e => n (by rw [List.mem_singleton.mp hb] at e; exact e ▸ ha)⟩
theorem gt_mem {ps : DI} (nd : (ps.map (·.1)).Nodup) {p : List Int × Int} (hp : p ∈ ps) : gt ps p.1 = p.2 := by
  unfold gt
  rw [getI_mem nd hp]
  rfl
theorem gt_none {ps : DI} {k : List Int} (h : k ∉ ps.map (·.1)) : gt ps k = 0 := by
  unfold gt
  rw [getI_none h]
  rfl
theorem nodup_len {α : Type} [BEq α] [LawfulBEq α] : ∀ (l D : List α), l.Nodup → (∀ x ∈ l, x ∈ D) → l.length ≤ D.length
  | [], _, _, _ => Nat.zero_le _
  | x :: l, D, hn, hs => by
    obtain ⟨h1, h2⟩ := List.nodup_cons.mp hn
    have hx : x ∈ D := hs x List.mem_cons_self
    have ih := nodup_len l (D.erase x) h2 fun y hy => by
      have hne : y ≠ x := fun e => h1 (e ▸ hy)
      exact (List.mem_erase_of_ne hne).2 (hs y (List.mem_cons_of_mem _ hy))
    have e := List.length_erase_of_mem hx
    have hp : 0 < D.length := List.length_pos_of_mem hx
    rw [List.length_cons]
    omega
def all27 : List (List Int) := (List.range 27).map fun (i : Nat) => [(i : Int) / 9, (i : Int) / 3 % 3, (i : Int) % 3]
theorem mem27 {k : List Int} (h : Sort3 k) : k ∈ all27 := by
  obtain ⟨hl, hb⟩ := h
  match k, hl with
  | [a, b, c], _ =>
    have ha := hb a (by simp)
    have hb' := hb b (by simp)
    have hc := hb c (by simp)
    refine List.mem_map.mpr ⟨(a * 9 + b * 3 + c).toNat, List.mem_range.mpr (by omega), ?_⟩
    have e : (((a * 9 + b * 3 + c).toNat : Nat) : Int) = a * 9 + b * 3 + c := by omega
    rw [e]
    have e1 : (a * 9 + b * 3 + c) / 9 = a := by omega
    have e2 : (a * 9 + b * 3 + c) / 3 % 3 = b := by omega
    have e3 : (a * 9 + b * 3 + c) % 3 = c := by omega
    rw [e1, e2, e3]
/-- steps as dicts have them: each sort once -/
structure Keys3 (ps : DI) : Prop where
  nd : (ps.map (·.1)).Nodup
  s3 : ∀ p ∈ ps, Sort3 p.1
theorem Keys3.sz {ps : DI} (h : Keys3 ps) : ps.length ≤ 27 := by
  have := nodup_len (ps.map (·.1)) all27 h.nd fun k hk => by
    obtain ⟨p, hp, rfl⟩ := List.mem_map.mp hk
    exact mem27 (h.s3 p hp)
  rw [List.length_map] at this
  exact this
theorem Keys3.nil : Keys3 [] := ⟨List.nodup_nil, fun _ h => nomatch h⟩
theorem Keys3.nz {ps : DI} (h : Keys3 ps) : Keys3 (nz ps) := ⟨nd_nz h.nd, fun p hp => h.s3 p (nz_sub hp)⟩
theorem Keys3.put {ps : DI} (h : Keys3 ps) {k : List Int} (hk : Sort3 k) (v : Int) : Keys3 (putI ps k v) := ⟨nd_putI h.nd, fun p hp => by
  have : p.1 ∈ (putI ps k v).map (·.1) := List.mem_map.mpr ⟨p, hp, rfl⟩
  rw [keys_putI] at this
  have h2 : p.1 ∈ ps.map (·.1) ∨ p.1 = k := by
    split at this
    · exact .inl this
    · rcases List.mem_append.mp this with h | h
      · exact .inl h
      · exact .inr (List.mem_singleton.mp h)
  rcases h2 with h2 | h2
  · obtain ⟨q, hq, e⟩ := List.mem_map.mp h2
    rw [← e]
    exact h.s3 q hq
  · rw [h2]
    exact hk⟩
/-- the steps of a form -/
structure Good (qs : DI) : Prop extends Keys3 qs where
  nz : ∀ p ∈ qs, p.2 ≠ 0
theorem Good.mem {qs : DI} (h : Good qs) (k : List Int) : k ∈ qs.map (·.1) ↔ gt qs k ≠ 0 := by
  constructor
  · intro hk
    obtain ⟨p, hp, rfl⟩ := List.mem_map.mp hk
    rw [gt_mem h.nd hp]
    exact h.nz p hp
  · intro hk
    rcases Classical.em (k ∈ qs.map (·.1)) with c | c
    · exact c
    · exact absurd (gt_none c) hk
/-- the sum of a form at counts -/
def atC (qs cs : DI) : Int := (cs.map fun y => gt qs y.1 * y.2).sum
end Sm

/-! Tc: the cells of a query: literals and holes with a key. -/
namespace Tc
open PySem L2 SX Tx
abbrev Cl := Sum (List Nat) Key
instance : LawfulBEq (Sum Int Str) where
  eq_of_beq {a b} h := by
    cases a with
    | inl i =>
      cases b with
      | inl j => exact congrArg Sum.inl (eq_of_beq (show (i == j) = true from h))
      | inr t => cases h
    | inr x =>
      cases b with
      | inl j => cases h
      | inr y => exact congrArg Sum.inr (eq_of_beq (show (x == y) = true from h))
  rfl {a} := by
    cases a with
    | inl i => exact beq_self_eq_true i
    | inr x => exact beq_self_eq_true x
def pc : Cl → Pc
  | .inl l => .say l
  | .inr k => .oth "hole" [kV k]
def putC (acc : List Cl) : Cl → List Cl
  | .inr k => acc ++ [.inr k]
  | .inl l => if l = [] then acc else match acc.getLast? with
    | some (.inl m) => acc.dropLast ++ [.inl (m ++ l)]
    | _ => acc ++ [.inl l]
def mergeC (cs : List Cl) : List Cl := cs.foldl putC []
def rawC : List Nat → List Tk → List Cl
  | cur, [] => [.inl cur]
  | cur, .ch c :: r => rawC (cur ++ [c]) r
  | cur, .ho k :: r => .inl cur :: .inr (.inr (S k)) :: rawC [] r
/-- the cells that are read -/
def read (ts : List Tk) : List Cl := mergeC (rawC [] ts)
/-- the keys of the holes -/
def keys (cs : List Cl) : List Key := cs.filterMap fun | .inl _ => none | .inr k => some k
/-- the keys of a text's holes, as they stand -/
def holes (ts : List Tk) : List (List Nat) := ts.filterMap fun | .ch _ => none | .ho k => some k
/-! keys by manners -/
def toI : Key → Int
  | .inl i => i
  | .inr s => (intText? s).getD 0
/-- one cell keyed, n holes stand ahead of it -/
def key1 (m : Str) (n : Nat) : Cl → Cl
  | .inl l => .inl l
  | .inr k => .inr (if m = "name" then k else if m = "number" then .inl (toI k) else .inl (n : Int))
def keyC (m : Str) : Nat → List Cl → List Cl
  | _, [] => []
  | n, c :: r => key1 m n c :: keyC m (n + (keys [c]).length) r
/-! each once -/
def add1 (acc : List Key) (k : Key) : List Key := if k ∈ acc then acc else acc ++ [k]
def uniq (ks : List Key) : List Key := ks.foldl add1 []
/-! keys as values -/
/-! cells with their addresses -/
def isHole : Cl → Bool | .inl _ => false | .inr _ => true
def keyV : Cl → V | .inl _ => .non | .inr k => kV k
end Tc

/-! Ow: what a class of the program's own answers to operators, len, [], truth, in, a call. -/
namespace Ow
open PySem PySem.Spec PyProof.Rows L2
section
variable {X : Cx} {CX : CXT} {k : Nat} {f : Addr} {fd : FuncData} {ps : List Str} {sp : Sp} {E : XK}
/-- x op y by x's own method, y of the same class -/
def rOwn2 (C : Addr) (sp : Sp) (E : XK) : R2 := fun x y H Q => ∃ a b dx dy fs gs, x = .ref a ∧ y = .ref b ∧ H a = some (.ins C dx fs) ∧ H b = some (.ins C dy gs) ∧ sp [x, y] H Q E
/-- -x, ~x by its own method -/
def rOwn1 (C : Addr) (sp : Sp) (E : XK) : V → Hp → VK → Prop := fun x H Q => ∃ a dx fs, x = .ref a ∧ H a = some (.ins C dx fs) ∧ sp [x] H Q E
/-- x[i] by its own __getitem__ -/
def rOwnIx (C : Addr) (sp : Sp) (E : XK) : R2 := fun x y H Q => ∃ a dx fs, x = .ref a ∧ H a = some (.ins C dx fs) ∧ sp [x, y] H Q E
variable {a b : Expr} {ta tb : TE} {pos : Pos}
/-- len(x) by its own __len__ -/
def rOwnLen (C : Addr) (sp : Sp) (E : XK) : List V → Hp → VK → Prop := fun xs H Q => ∃ a dx fs, xs = [.ref a] ∧ H a = some (.ins C dx fs) ∧ sp [.ref a] H (fun v H' => ∃ n : Int, v = .int n ∧ 0 ≤ n ∧ n < 2 ^ 63 ∧ Q (.int n) H') E
end
section
variable {K : PySem.W.Frag} {X : Cx} {σ : L2.St} {H : Hp} {Q : VK} {E : XK} {sp : Sp} {C a b dx dy : Addr} {fs gs : List (Str × V)} {y : V} {tf : TE} {t : TA}
def callLeaf (X : Cx) (C : Addr) (sp : Sp) (E : XK) (t : TA) (σ : L2.St) (Q : VK) (y : V) (H1 : Hp) : Prop := ∃ a, y = V.ref a ∧ t σ H1 fun vs H2 => StX.InsC X H2 a C ∧ sp (V.ref a :: vs) H2 Q E
def callArgs (X : Cx) (C : Addr) (sp : Sp) (E : XK) (a : Addr) (Q : VK) (vs : List V) (H2 : Hp) : Prop := StX.InsC X H2 a C ∧ sp (V.ref a :: vs) H2 Q E
def getLeaf (t : TE) (t' : TE) (σ : L2.St) (Q : VK) (x : V) (H1 : Hp) : Prop := ∃ a, x = .ref a ∧ IsD H1 a ∧ t σ H1 fun y H2 => t' σ H2 fun z H3 => ∃ o, DGet H3 a y o ∧ Q (o.getD z) H3
theorem nT : (!true) = false := rfl
end
end Ow

/-! Tl: comprehensions over dicts with int and text keys, over lists with a test, over enumerate. -/
namespace Tl
open PySem L2
section
variable {σ : L2.St} {H : Hp} {c : Addr} {kvs : List (Key × V)} {j : Nat} {te td : TE} {tt : TT} {Q : VK}
/-- behind a lock: what stood stands, new things are new -/
def LockAt (H : Hp) (c : Addr) (od : Obj) (kvs : List (Key × V)) (H' : Hp) : Prop := H' c = some (.frz od (.dK kvs)) ∧ ∀ b o, H b = some o → b ≠ c → H' b = some o
theorem LockAt.to {H H' H'' : Hp} {c : Addr} {od : Obj} {kvs : List (Key × V)} (h : LockAt H c od kvs H') (s : Same H' H'') : LockAt H c od kvs H'' := ⟨s _ _ h.1, fun b o e n => s _ _ (h.2 b o e n)⟩
theorem putK_new {kvs : List (Key × V)} {k : Key} {v : V} (h : k ∉ kvs.map (·.1)) : putK kvs k v = kvs ++ [(k, v)] := by
  unfold putK
  have : (kvs.any fun p => decide (p.1 = k)) = false := by
    rw [← Bool.not_eq_true, List.any_eq_true]
    rintro ⟨p, hp, e⟩
    exact h (List.mem_map.mpr ⟨p, hp, of_decide_eq_true e⟩)
  first
    | rw [if_neg (by rw [this]; exact Bool.false_ne_true)]
    | simp [this]
/-- numbered from f on -/
def numd (f : Int) : List V → List (Key × V)
  | [] => []
  | x :: r => (.inl f, x) :: numd (f + 1) r
end
section
variable {σ : L2.St} {H : Hp} {K : PySem.W.Frag} {a : Addr} {j : Nat} {ti te : TE} {tt : TT} {Q : VK}
/-- [F p for p in xs if P p], xs a list of things that stand as they are -/
theorem fm_list {α : Type} {xs : List α} {G F : α → V} {P : α → Bool} (ha : H a = some (.lst (xs.map G))) (hsz : xs.length < 100000)
    (hi : ∀ R : VK, R (.ref a) H → ti σ H R)
    (test : ∀ (H' : Hp) (z : α) (R : Bool → Hp → Prop), Same H H' → z ∈ xs → (∀ H'', Same H' H'' → R (P z) H'') → tt ((wipe σ [j]).set j (some (G z))) H' R)
    (elt : ∀ (H' : Hp) (z : α) (R : VK), Same H H' → z ∈ xs → P z = true → (∀ H'', Same H' H'' → R (F z) H'') → te ((wipe σ [j]).set j (some (G z))) H' R)
    (done : ∀ (D : Addr) (H' : Hp), H D = none → Same H H' → H' D = some (.lst ((xs.filter P).map F)) → Q (.ref D) H') : tLc (iList K ti) (gName j) tt te [j] σ H Q := by
  refine Eg.w_lc (Eg.w_iL (hi _ (Eg.c_iL (SqL.of ha) ?_)))
  intro D hD
  refine lc_list (xs := xs.map G) (fun n H' => Same H H' ∧ H' D = some (.lst (((xs.take n).filter P).map F))) ⟨Eg.same_new (Same.refl _) hD, upd_same⟩ (fun n H' _ h => SqL.of (h.1 _ _ ha)) ?_ ?_
  · rintro n x H1 hx ⟨s1, h2⟩
    rw [List.getElem?_map] at hx
    obtain ⟨z, hz, rfl⟩ := Option.map_eq_some_iff.mp hx
    obtain ⟨hlt, he⟩ := List.getElem?_eq_some_iff.mp hz
    refine Eg.w_gN (Eg.w_wipe ?_ (test H1 z _ s1 (List.mem_of_getElem? hz) fun H2 s2 => ?_))
    · show (((σ.set j none).set j (some (G z))).set j none) = σ.set j none
      rw [List.set_set, List.set_set]
    · have fl := List.length_filter_le P (xs.take n)
      rw [List.length_take] at fl
      cases hp : P z with
      | true =>
        refine iteT (elt H2 z _ (s1.trans s2) (List.mem_of_getElem? hz) hp fun H3 s3 => ⟨_, s3 _ _ (s2 _ _ h2), ?_, Eg.same_mut ((s1.trans s2).trans s3) hD, ?_⟩)
        · rw [List.length_map, sizeLine_eq]
          omega
        · rw [upd_same, List.take_succ_eq_append_getElem hlt, he, List.filter_append]
          simp [hp]
      | false =>
        refine iteF ⟨s1.trans s2, ?_⟩
        rw [s2 _ _ h2, List.take_succ_eq_append_getElem hlt, he, List.filter_append]
        simp [hp]
  · rintro H1 ⟨s1, h2⟩
    rw [List.length_map, List.take_length] at h2
    exact done D H1 hD s1 h2
def enumLeaf (K : PySem.W.Frag) (R : It → Hp → Prop) (vs : List V) (H1 : Hp) : Prop := ∃ (a : Addr) (xs : List V), vs = [.ref a] ∧ SqL K H1 a xs ∧ R (Ite K a) H1
theorem w_iE {t : TA} {R : It → Hp → Prop} (h : t σ H (enumLeaf K R)) : iEnum K t σ H R := h
theorem c_iE {R : It → Hp → Prop} {xs : List V} (hs : SqL K H a xs) (q : R (Ite K a) H) : enumLeaf K R [.ref a] H := ⟨a, xs, rfl, hs, q⟩
end
end Tl

/-! Sl2: comprehensions of ints over a locked dict told by any expression, over lists of ints. -/
namespace Sl
open PySem L2 Sm
/-- the numbers that were seen -/
def SeenL (H : Hp) (d : Addr) (xs : List Int) : Prop := H d = some (.dK (xs.map fun x => (Sum.inl x, V.bl true)))
theorem seen_val {xs : List Int} {n : Int} : valV (xs.map fun x => ((Sum.inl x : Key), V.bl true)) (Sum.inl n) = if n ∈ xs then some (.bl true) else none := by
  induction xs with
  | nil => rfl
  | cons x r ih =>
    rw [List.map_cons]
    by_cases e : x = n
    · rw [valV_pos (by rw [e]), if_pos (by rw [e]; exact List.mem_cons_self)]
    · rw [valV_neg (fun z => e (Sum.inl.inj z)), ih]
      by_cases h : n ∈ r
      · rw [if_pos h, if_pos (List.mem_cons_of_mem _ h)]
      · rw [if_neg h, if_neg (fun z => (List.mem_cons.mp z).elim (fun z => e z.symm) h)]
theorem SeenL.get {H : Hp} {d : Addr} {xs : List Int} (h : SeenL H d xs) (n : Int) : ∃ r, DGet H d (.int n) r ∧ r.isSome = decide (n ∈ xs) := by
  refine ⟨_, DGet.k (k := Sum.inl n) h, ?_⟩
  rw [seen_val]
  by_cases e : n ∈ xs
  · rw [if_pos e, decide_eq_true e]; rfl
  · rw [if_neg e, decide_eq_false e]; rfl
theorem SeenL.put {H : Hp} {d : Addr} {xs : List Int} {n : Int} (h : SeenL H d xs) (hn : n ∉ xs) (hs : xs.length < 100000) :
    ∃ kvs, DPut H d (.int n) (.bl true) (upd H d (.dK kvs)) ∧ SeenL (upd H d (.dK kvs)) d (xs ++ [n]) := by
  have p := DPut.k (k := Sum.inl n) (v := .bl true) h (by rw [List.length_map, sizeLine_eq]; omega)
  rw [putK_new _ (by rw [seen_val, if_neg hn])] at p
  refine ⟨_, p, ?_⟩
  unfold SeenL
  rw [upd_same, List.map_append]
  rfl
end Sl
namespace Eg
open PySem L2
def dispLeaf (p : Addr) (x : V) (Q : VK) (y : V) (H2 : Hp) : Prop := H2 p = some (.dK []) ∧ ∃ k : Key, x = kV k ∧ Q (.ref p) (upd H2 p (.dK [(k, y)]))
theorem w_disp1 {tk tv : TE} {σ : L2.St} {H : Hp} {Q : VK} (h : ∀ p, H p = none → tk σ (upd H p (.dK [])) fun x H1 => tv σ H1 (dispLeaf p x Q)) : tDisp [(tk, tv)] σ H Q := by
  intro p hp
  show tk σ _ fun x H1 => tv σ H1 fun y H2 => _
  have e : (fun x H1 => tv σ H1 fun y H2 => H2 p = some (.dK []) ∧ ∃ kvs : List (Key × V), [(x, y)] = kvs.map (fun kv => (kV kv.1, kv.2)) ∧ kvs.length ≤ 15 ∧ Q (.ref p) (upd H2 p (.dK (mergeK [] kvs)))) = fun x H1 => tv σ H1 (dispLeaf p x Q) := by
    funext x H1
    congr 1
    funext y H2
    refine propext ⟨?_, ?_⟩
    · rintro ⟨h0, kvs, e, _, q⟩
      match kvs, e, q with
      | [(k, z)], e, q =>
        have e := (List.cons.inj e).1
        have e1 : x = kV k := (Prod.mk.inj e).1
        have e2 : y = z := (Prod.mk.inj e).2
        exact ⟨h0, k, e1, by rw [e2]; exact q⟩
    · rintro ⟨h0, k, e, q⟩
      exact ⟨h0, [(k, y)], by rw [e]; rfl, (show 1 ≤ 15 by decide), q⟩
  have := h p hp
  rw [← e] at this
  exact this
theorem c_dispI {H : Hp} {Q : VK} {p : Addr} {n : Int} {y : V} (h : H p = some (.dK [])) (q : Q (.ref p) (upd H p (.dK [(Sum.inl n, y)]))) : dispLeaf p (.int n) Q y H := ⟨h, Sum.inl n, rfl, q⟩
def rTupQ (K : PySem.W.Frag) : List V → Hp → VK → Prop := fun xs H Q => ∃ p ys, xs = [V.ref p] ∧ ((SqL K H p ys ∧ ∀ l, H l = none → Q (.ref l) (upd H l (.tup ys))) ∨ (SqT K H p ys ∧ Q (.ref p) H))
theorem cr_tup {X : Cx} : CallR X (.type "tuple") (rTupQ X.K) := call_tuple_of
theorem c_tupL {K : PySem.W.Frag} {H : Hp} {p : Addr} {Q : VK} {ys : List V} (h : SqL K H p ys) (q : ∀ l, H l = none → Q (.ref l) (upd H l (.tup ys))) : rTupQ K [V.ref p] H Q := ⟨p, ys, rfl, .inl ⟨h, q⟩⟩
end Eg

/-! Gd: defs that tell data as text (repr, str, f-strings): the promise where nothing that tells itself is under way. -/
namespace Gd
open PySem PySem.Spec PyProof.Rows L2
/-- nothing that tells itself is under way -/
def Still (A : Around) : Prop := A.guards = some []
structure FnG (P : Program) (w : World) (K : PySem.W.Frag) (mg : Str → Option Value) (base : Heap) (CX : CXT) (k : Nat) (f : Addr) (fd : FuncData) (ps : List Str) (sp : Sp) : Prop where
  lenG : ∀ vs H Q E, sp vs H Q E → vs.length = ps.length
  runG : ∀ (A : Around) (out : List Env) (s : Shared) (H : Hp) (ar : Args) (us : List Value) (vs : List V) (Q : VK) (E : XK), Room k A → Still A → Env0 P w K mg base A out s H → BindsTo s fd ar (ps.zip us) → Vals vs us →
    sp vs H Q E → codeAny (model P w) A (.call (.ref f) ar) (CR CX out P w H s Q E) s
section
variable {P : Program} {w : World} {K : PySem.W.Frag} {mg : Str → Option Value} {base : Heap} {CX : CXT} {k : Nat} {f : Addr} {fd : FuncData} {ps : List Str} {sp : Sp}
theorem FnG.of (F : FnOk P w K mg base CX k f fd ps sp) : FnG P w K mg base CX k f fd ps sp := ⟨F.len, fun A out s H ar us vs Q E hr _ => F.run A out s H ar us vs Q E hr⟩
theorem u70 {A : Around} {k : Nat} (h : Room k A) : A.units + 70 < cLine := by
  have := h.un
  omega
end
section
variable {X : Cx} {CX : CXT} {k : Nat} {f C : Addr} {fd : FuncData} {ps : List Str} {sp : Sp} {dvs : List V} {ds : List Value} {E : XK} {x m : Str} {p pos apos : Pos} {e o : Expr} {es : List Expr} {ta : TE} {t : TA}
/-- repr(x) of data -/
def rRepr (K : PySem.W.Frag) : List V → Hp → VK → Prop := fun xs H Q => ∃ (a : Addr) (d : PyData), xs = [V.ref a] ∧ Dp K H (.ref a) d ∧ d.showable = true ∧ d.hasDict = false ∧ d.depth ≤ 64 ∧ d.shown.length ≤ sizeLine ∧ Q (.str d.shown) H
/-- {x} of data -/
def tFmtD (K : PySem.W.Frag) (te : TE) : TE := fun σ H Q => te σ H fun x H1 => ∃ (a : Addr) (d : PyData), x = .ref a ∧ Dp K H1 (.ref a) d ∧ d.showable = true ∧ d.hasDict = false ∧ d.depth ≤ 64 ∧ d.shown.length ≤ sizeLine ∧ Q (.str d.shown) H1
/-- str(x) by its own __str__ -/
def rOwnStr (C : Addr) (sp : Sp) (E : XK) : List V → Hp → VK → Prop := fun xs H Q => ∃ a dx fs, xs = [V.ref a] ∧ H a = some (.ins C dx fs) ∧ sp [V.ref a] H (fun v H' => ∃ z, v = .str z ∧ Q (.str z) H') E
end
end Gd

/-! Fs: a form as a text: the pieces and their lengths. -/
namespace Fs
open PySem L2 Sm
abbrev tI (i : Int) : Str := Str.ofString (toString i)
theorem log_small {i : Int} (h : i.natAbs < 1000000000) : i.natAbs.log2 < 1920 := by
  by_cases z : i.natAbs = 0
  · rw [z]
    decide
  · refine (Nat.log2_lt z).mpr (Nat.lt_of_lt_of_le h ?_)
    exact Nat.le_trans (show (1000000000 : Nat) ≤ 2 ^ 30 by decide) (Nat.pow_le_pow_right (by decide) (by decide))
def tupS (k : List Int) : Str := tupleText (k.map tI)
def signS (z : Int) : Str := if decide (z < 0) = true then "-" else "+"
def partS (k : List Int) (z : Int) : Str := Str.empty ++ (" " : Str) ++ signS z ++ (" " : Str) ++ tI (if z < 0 then -z else z) ++ (" * " : Str) ++ tupS k
def shownS (st : Int) (ks : List (List Int)) (f : List Int → Int) : Str := ks.foldl (fun a k => a ++ partS k (f k)) (tI st)
def small (k : List Int) : Prop := k.length = 3 ∧ ∀ x ∈ k, x.natAbs < 1000000000
theorem sum_le {α : Type} (f : α → Nat) (c : Nat) : ∀ {l : List α}, (∀ x ∈ l, f x ≤ c) → (l.map f).sum ≤ c * l.length
  | [], _ => Nat.le_refl _
  | x :: l, h => by
    rw [List.map_cons, List.sum_cons, List.length_cons, Nat.mul_succ]
    have := h x List.mem_cons_self
    have := sum_le f c (l := l) fun y hy => h y (List.mem_cons_of_mem _ hy)
    omega
theorem sp1 : ((" " : Str)).length = 1 := by decide +kernel
theorem sp3 : ((" * " : Str)).length = 3 := by decide +kernel
theorem emp0 : Str.empty.length = 0 := by decide +kernel
theorem sg1 (z : Int) : (signS z).length = 1 := by
  unfold signS
  split <;> decide +kernel
/-- what the law adds for one sort -/
def stepS (a : Str) (k : List Int) (z : Int) : Str := a ++ (if decide (z < 0) = true then (" - " : Str) else (" + " : Str)) ++ tI (if z < 0 then -z else z) ++ (" * " : Str)
def tailS (b : Str) (k : List Int) : Str := b ++ ("(" : Str) ++ Txt.join (", " : Str) (k.map tI) ++ (")" : Str)
end Fs

/-! Ge: the end of a law whose def tells data as text. -/
namespace Gd
open PySem PySem.Spec PyProof.Rows L2
end Gd

/-! Es: backward steps of the readings of texts. -/
namespace Es
open PySem L2
section
variable {σ : L2.St} {H : Hp} {Q : VK} {ts : List TE} {acc y : Str} {K : PySem.W.Frag} {te to : TE}
def jsL (ts : List TE) (acc : Str) (σ : L2.St) (R : Str → Hp → Prop) : VK := fun x H1 => ∃ y : Str, x = .str y ∧ (acc ++ y).length ≤ sizeLine ∧ tJs ts (acc ++ y) σ H1 R
theorem js_nil {R : Str → Hp → Prop} (q : R acc H) : tJs [] acc σ H R := q
theorem js_cons {t : TE} {R : Str → Hp → Prop} (h : t σ H (jsL ts acc σ R)) : tJs (t :: ts) acc σ H R := h
theorem js_leaf {R : Str → Hp → Prop} (hz : (acc ++ y).length ≤ sizeLine) (q : tJs ts (acc ++ y) σ H R) : jsL ts acc σ R (.str y) H := ⟨y, rfl, hz, q⟩
def fmL (Q : VK) : VK := fun x H1 => (∃ y : Str, x = .str y ∧ y.length ≤ sizeLine ∧ Q (.str y) H1) ∨ ∃ i : Int, x = .int i ∧ i.natAbs.log2 < 1920 ∧ Q (.str (toString i)) H1
theorem w_fmt (h : te σ H (fmL Q)) : tFmt te σ H Q := h
theorem fm_str (hz : y.length ≤ sizeLine) (q : Q (.str y) H) : fmL Q (.str y) H := .inl ⟨y, rfl, hz, q⟩
theorem fm_int {i : Int} (hz : i.natAbs.log2 < 1920) (q : Q (.str (Str.ofString (toString i))) H) : fmL Q (.int i) H := .inr ⟨i, rfl, hz, q⟩
def fdL (K : PySem.W.Frag) (Q : VK) : VK := fun x H1 => ∃ (a : Addr) (d : PyData), x = .ref a ∧ Dp K H1 (.ref a) d ∧ d.showable = true ∧ d.hasDict = false ∧ d.depth ≤ 64 ∧ d.shown.length ≤ sizeLine ∧ Q (.str d.shown) H1
theorem w_fmtD (h : te σ H (fdL K Q)) : Gd.tFmtD K te σ H Q := h
def jnL (K : PySem.W.Frag) (y : Str) (Q : VK) : VK := fun x H => ∃ a p, ∃ ys : List Str, V.str y = .str a ∧ [x] = [.ref p] ∧ (SqL K H p (ys.map V.str) ∨ SqT K H p (ys.map V.str)) ∧ (ys.map (·.length)).sum + ys.length * a.length ≤ 16777216 ∧ Q (.str (Txt.join a ys)) H
/-- 'sep'.join(xs) -/
theorem w_join (h : te σ H (jnL K y Q)) : tM1 (fun x xs H Q => ∃ a p, ∃ ys : List Str, x = .str a ∧ xs = [.ref p] ∧ (SqL K H p (ys.map V.str) ∨ SqT K H p (ys.map V.str)) ∧ (ys.map (·.length)).sum + ys.length * a.length ≤ 16777216 ∧ Q (.str (Txt.join a ys)) H) (tC (.str y)) te σ H Q := ⟨⟨_, rfl⟩, h⟩
theorem jn_leaf {a : Str} {p : Addr} {ys : List Str} (hs : SqL K H p (ys.map V.str) ∨ SqT K H p (ys.map V.str)) (hz : (ys.map (·.length)).sum + ys.length * a.length ≤ 16777216) (q : Q (.str (Txt.join a ys)) H) : jnL K a Q (.ref p) H := ⟨a, p, ys, rfl, rfl, hs, hz, q⟩
def rAddS : R2 := fun x y H Q => ∃ i j, x = .str i ∧ y = .str j ∧ i.length + j.length ≤ sizeLine ∧ Q (.str (i ++ j)) H
theorem op_addS {X : Cx} : OpR X (binaryOp .Add) rAddS := op_add_str
theorem c_addS {i j : Str} (hz : i.length + j.length ≤ sizeLine) (q : Q (.str (i ++ j)) H) : rAddS (.str i) (.str j) H Q := ⟨i, j, rfl, rfl, hz, q⟩
def rStrI : List V → Hp → VK → Prop := fun xs H Q => ∃ i, xs = [V.int i] ∧ i.natAbs.log2 < 1920 ∧ Q (.str (toString i)) H
theorem c_strI {i : Int} (hz : i.natAbs.log2 < 1920) (q : Q (.str (Str.ofString (toString i))) H) : rStrI [.int i] H Q := ⟨i, rfl, hz, q⟩
/-- 'a' if t else 'b' -/
theorem w_ifSS {t : TT} {a b : Str} (h : t σ H fun c H1 => Q (.str (if c = true then a else b)) H1) : tIf t (tC (.str a)) (tC (.str b)) σ H Q := by
  have e : (fun (c : Bool) (H1 : Hp) => Q (.str (if c = true then a else b)) H1) = fun c H1 => if c = true then tC (.str a) σ H1 Q else tC (.str b) σ H1 Q := by
    funext c H1
    cases c <;> rfl
  rw [e] at h
  exact h
end
end Es

/-! Tw: readings for texts: dead statements, constants of the module, walks over a text, steps. -/
namespace Tw
open PySem PySem.Spec PyProof.Rows L2 SX Tx
section
variable {X : Cx}
theorem pe_globS {x : Str} {v : V} {pos : Pos} (hg : Gl X x) (hm : ∃ u, X.mg x = some u ∧ RelV v u) (hd : (x == ("__debug__" : Str)) = false := by decide) : PE X (.Name x pos) (tC v) := by
  obtain ⟨u, h, r⟩ := hm
  exact pe_glob hg h r hd
def rLenS : List V → Hp → VK → Prop := fun xs H Q => ∃ z, xs = [V.str z] ∧ z.length ≤ sizeLine ∧ Q (.int z.length) H
theorem cr_lenS : CallR X (.builtin "len") rLenS := call_len_str
def rOrd : List V → Hp → VK → Prop := fun xs H Q => ∃ x : Str, xs = [V.str x] ∧ x.length = 1 ∧ Q (.int (x.cps.getD 0 0 : Nat)) H
def rLeS : R2 := fun x y H Q => ∃ i j : Str, x = .str i ∧ y = .str j ∧ Q (.bl (!decide (j.cps.toList < i.cps.toList))) H
def rInS : R2 := fun x y H Q => ∃ i j : Str, x = .str i ∧ y = .str j ∧ Q (.bl (!(Builtin.Str.occurrences j i 0 j.length 1).isEmpty)) H
theorem op_inS : OpR X (compareOp .In) rInS := op_in_str
def rNotInS : R2 := fun x y H Q => ∃ i j : Str, x = .str i ∧ y = .str j ∧ Q (.bl (!(!(Builtin.Str.occurrences j i 0 j.length 1).isEmpty))) H
def rRs : V → List V → Hp → VK → Prop := fun x xs H Q => ∃ a b : Str, x = .str a ∧ xs = [.str b] ∧ a.length ≤ sizeLine ∧ Q (.str (Txt.rstripChars a b)) H
def rF3 : V → List V → Hp → VK → Prop := fun x xs H Q => ∃ (a b : Str) (i : Int), x = .str a ∧ xs = [.str b, .int i] ∧ Q (.int (Txt.find3 a b i)) H
end
section
variable {σ σ' : L2.St} {H H' : Hp} {Q : VK} {K : PySem.W.Frag} {p : Addr} {te : TE} {l m a b : List Nat} {c d : Nat}
theorem len_ok (h : l.length < 100000) : (S l).length ≤ sizeLine := by
  rw [S_len, sizeLine_eq]
  omega
theorem c_lenS (h : l.length < 100000) (q : Q (.int (l.length : Nat)) H) : rLenS [.str (S l)] H Q := ⟨_, rfl, len_ok h, by rw [S_len]; exact q⟩
theorem c_ord (q : Q (.int (c : Nat)) H) : rOrd [.str (S [c])] H Q := ⟨_, rfl, rfl, q⟩
theorem le_one (c d : Nat) : (!decide ((S [d]).cps.toList < (S [c]).cps.toList)) = decide (c ≤ d) := by
  have e : decide ((S [d]).cps.toList < (S [c]).cps.toList) = decide (d < c) := decide_eq_decide.mpr (iff_of_eq (one_lt d c))
  rw [e, ← decide_not]
  exact decide_eq_decide.mpr Nat.not_lt
theorem c_leS (q : Q (.bl (decide (c ≤ d))) H) : rLeS (.str (S [c])) (.str (S [d])) H Q := ⟨_, _, rfl, rfl, by rw [le_one]; exact q⟩
theorem c_inS (q : Q (.bl (decide (c ∈ l))) H) : rInS (.str (S [c])) (.str (S l)) H Q := ⟨_, _, rfl, rfl, by rw [in_one]; exact q⟩
theorem c_notInS (q : Q (.bl (!decide (c ∈ l))) H) : rNotInS (.str (S [c])) (.str (S l)) H Q := ⟨_, _, rfl, rfl, by rw [in_one]; exact q⟩
theorem c_leA (q : Q (.bl (decide (97 ≤ d))) H) : rLeS (.str "a") (.str (S [d])) H Q := by
  rw [show ("a" : Str) = S [97] by decide +kernel]
  exact c_leS q
theorem c_leZ (q : Q (.bl (decide (c ≤ 122))) H) : rLeS (.str (S [c])) (.str "z") H Q := by
  rw [show ("z" : Str) = S [122] by decide +kernel]
  exact c_leS q
theorem c_inDig (q : Q (.bl (dig c)) H) : rInS (.str (S [c])) (.str "0123456789") H Q := by
  rw [digits10_S]
  refine c_inS ?_
  rw [mem_digits10]
  exact q
theorem c_notInBr (q : Q (.bl (!decide (c = 123 ∨ c = 125))) H) : rNotInS (.str (S [c])) (.str "{}") H Q := by
  rw [show ("{}" : Str) = S [123, 125] by decide +kernel]
  refine c_notInS ?_
  rw [show decide (c ∈ [123, 125]) = decide (c = 123 ∨ c = 125) from decide_eq_decide.mpr (by simp)]
  exact q
theorem c_all {bs : List Bool} (h : H p = some (.lst (bs.map V.bl))) (q : Q (.bl (bs.all id)) H) : rAll K [V.ref p] H Q := ⟨p, bs, rfl, SqL.of h, q⟩
theorem all_map {f : Nat → Bool} (h : H p = some (.lst (l.map fun c => V.bl (f c)))) (q : Q (.bl (l.all f)) H) : rAll K [V.ref p] H Q :=
  c_all (bs := l.map f) (by rw [h, List.map_map]; rfl) (by rw [List.all_map]; exact q)
theorem c_rs (h : l.length < 100000) (q : Q (.str (S (stem l))) H) : rRs (.str (S l)) [.str "0123456789"] H Q := ⟨_, _, rfl, rfl, len_ok h, by rw [digits10_S, rstrip_digits]; exact q⟩
theorem c_ixS {i : Int} {n : Nat} (h : l.length < 100000) (hi : i = (n : Int)) (hc : l[n]? = some c) (q : Q (.str (S [c])) H) : rIxS (.str (S l)) (.int i) H Q := by
  subst hi
  exact ⟨_, _, c, rfl, rfl, len_ok h, atI_nat hc, q⟩
theorem c_addSS (h : a.length + b.length < 100000) (q : Q (.str (S (a ++ b))) H) : Es.rAddS (.str (S a)) (.str (S b)) H Q := ⟨_, _, rfl, rfl, by rw [S_len, S_len, sizeLine_eq]; omega, by rw [S_cat]; exact q⟩
def strLeaf (R : It → Hp → Prop) : VK := fun v H1 => ∃ x : Str, v = .str x ∧ R (Its x) H1
theorem w_iStr {ti : TE} {R : It → Hp → Prop} (h : ti σ H (strLeaf R)) : iStr ti σ H R := h
theorem c_iStr {R : It → Hp → Prop} {x : Str} (q : R (Its x) H) : strLeaf R (.str x) H := ⟨x, rfl, q⟩
theorem w_tyS {x : Str} {A : Prop} (q : A) : tyV K "str" (.str x) H ∧ A := ⟨rfl, q⟩
theorem br_nt {A B : Prop} (h : B) : if (!true) = true then A else B := h
theorem br_nf {A B : Prop} (h : A) : if (!false) = true then A else B := h
/-! isinstance of plain values -/
theorem isi_str {x : Str} {n : String} {r : Bool} (e : kitB "str" n = some r) (q : Q (.bl r) H) : rIsi K [.str x, .ty n] H Q := Eg.c_isi (.ty _) (.base (.str x)) (kit_ty e) q
end
/-- [F z for z in text] -/
theorem map_str {σ : L2.St} {H : Hp} {l : List Nat} {j : Nat} {ti te : TE} {F : Nat → V} {Q : VK} (hsz : l.length < 100000)
    (hi : ∀ R : VK, R (.str (S l)) H → ti σ H R)
    (elt : ∀ (H' : Hp) (z : Nat) (R : VK), Same H H' → z ∈ l → R (F z) H' → te ((wipe σ [j]).set j (some (.str (S [z])))) H' R)
    (done : ∀ (D : Addr) (H' : Hp), H D = none → Same H H' → H' D = some (.lst (l.map F)) → Q (.ref D) H') : tLc (iStr ti) (gName j) tYes te [j] σ H Q := by
  refine Eg.w_lc (w_iStr (hi _ (c_iStr ?_)))
  intro D hD
  refine lc_it (walk_str (z := S l)) (fun n H' => Same H H' ∧ H' D = some (.lst ((l.take n).map F))) ⟨Eg.same_new (Same.refl _) hD, upd_same⟩ (fun n H' _ h => trivial) ?_ ?_
  · rintro n x _ H1 hn ⟨s1, h2⟩ ⟨rfl, c, hc, rfl⟩
    have hc : l[n]? = some c := by simpa using hc
    obtain ⟨hlt, he⟩ := List.getElem?_eq_some_iff.mp hc
    refine Eg.w_gN (Eg.w_wipe ?_ (Eg.w_yes (iteT (elt H1 c _ s1 (List.mem_of_getElem? hc) ⟨_, h2, ?_, Eg.same_mut s1 hD, ?_⟩))))
    · show (((σ.set j none).set j (some (V.str (S [c])))).set j none) = σ.set j none
      rw [List.set_set, List.set_set]
    · rw [List.length_map, List.length_take, sizeLine_eq]
      omega
    · rw [upd_same, List.take_succ_eq_append_getElem hlt, he]
      simp
  · rintro H1 ⟨s1, h2⟩
    rw [show (S l).cps.size = l.length by simp, List.take_length] at h2
    exact done D H1 hD s1 h2
end Tw
/-! xs == [], whatever stands in xs -/
namespace Tw
open PySem PySem.Spec PyProof.Rows L2 SX Tx
def rEmp (neg : Bool) : R2 := fun x y H Q => ∃ (a b : Addr) (xs : List V), x = .ref a ∧ y = .ref b ∧ H a = some (.lst xs) ∧ H b = some (.lst []) ∧ Q (.bl (if neg then !xs.isEmpty else xs.isEmpty)) H
section
variable {X : Cx}
theorem lst_is {pins : List (Addr × Obj)} {σ : L2.St} {H : Hp} {s : Shared} {a : Addr} {xs : List V} (I : Inv X pins σ H s) (h : H a = some (.lst xs)) : ∃ its : Array Value, s.heap.IsList a its ∧ its.size = xs.length := by
  obtain ⟨its, n, m, r, h1⟩ := (show ObjOk X.prog X.w H s.heap a (.lst xs) from I.hok a _ h)
  exact ⟨_, ⟨_, h1, rfl, _, rfl⟩, by simpa using (Paired.length r).symm⟩
theorem op_neE (hu : X.A.units < cLine) : OpR X (compareOp .NotEq) (rEmp true) := by
  intro pins s σ H x y v u Q I rx ry h
  obtain ⟨a, b, xs, rfl, rfl, ha, hb, q⟩ := h
  cases (show v = Value.ref a from rx)
  cases (show u = Value.ref b from ry)
  obtain ⟨i1, l1, e1⟩ := lst_is I ha
  obtain ⟨i2, l2, e2⟩ := lst_is I hb
  cases xs with
  | nil =>
    refine SeqAt.RcNeAt.lists (e := fun _ => true) l1 l2 (by rw [e1, e2]) hu (fun j h1 _ => ?_) X.prog X.w _ _ (fin_bl I q ?_)
    · rw [e1] at h1
      exact absurd h1 (Nat.not_lt_zero _)
    · rw [e1]
      rfl
  | cons y ys =>
    exact SeqAt.RcNeAt.lists_lengths l1 l2 (by rw [e1, e2]; rfl) hu X.prog X.w _ _ (fin_bl I q rfl)
end
theorem c_neE {a b : Addr} {xs : List V} {H : Hp} {Q : VK} (ha : H a = some (.lst xs)) (hb : H b = some (.lst [])) (q : Q (.bl (!xs.isEmpty)) H) : rEmp true (.ref a) (.ref b) H Q := ⟨a, b, xs, rfl, rfl, ha, hb, q⟩
theorem c_eqE {a b : Addr} {xs : List V} {H : Hp} {Q : VK} (ha : H a = some (.lst xs)) (hb : H b = some (.lst [])) (q : Q (.bl xs.isEmpty) H) : rEmp false (.ref a) (.ref b) H Q := ⟨a, b, xs, rfl, rfl, ha, hb, q⟩
end Tw

/-! keys: in, sorted, dicts, int of a text -/
namespace Tw
open PySem PySem.Spec PyProof.Rows L2 SX Tx Tc
section
variable {X : Cx}
def rIntS : List V → Hp → VK → Prop := fun xs H Q => ∃ a n, xs = [V.str a] ∧ PySem.intText? a = some n ∧ a.length ≤ 640 ∧ Q (.int n) H
theorem cr_intS : CallR X (.type "int") rIntS := call_int_str
def rSortedIS (K : PySem.W.Frag) : List V → Hp → VK → Prop := fun xs H Q => rSorted K xs H Q ∨ rSortedS K xs H Q
end
section
variable {H : Hp} {Q : VK} {K : PySem.W.Frag} {p : Addr} {k : Key} {ks : List Key} {kvs : List (Key × V)}
theorem dgetK (h : Rd H p (.dK kvs)) : DGet H p (kV k) (valV kvs k) := .inl ⟨kvs, k, h, rfl, rfl⟩
end
end Tw

/-! Mk: o.m(a, .., k = v), own methods with keyword-only parameters; name = {..} with keys ints or texts on one line. -/
namespace Mk
open PySem PySem.Spec PyProof.Rows L2
/-- two values and one keyword -/
def g21 {α : Type} : List α → List α → List α
  | [a, b], [c] => [a, b, c]
  | _, _ => []
def methKLeaf (C : Addr) (m : Str) (sp : Sp) (gV : List V → List V → List V) (E : XK) (t tk : TA) (σ : L2.St) (Q : VK) (x : V) (H1 : Hp) : Prop := ∃ a dx fs, x = .ref a ∧ H1 a = some (.ins C dx fs) ∧ fs.lookup m = none ∧ t σ H1 fun vs H2 => tk σ H2 fun zs H3 => sp (gV (x :: vs) zs) H3 Q E
def tMethK (C : Addr) (m : Str) (sp : Sp) (gV : List V → List V → List V) (E : XK) (ta : TE) (t tk : TA) : TE := fun σ H Q => ta σ H (methKLeaf C m sp gV E t tk σ Q)
section
variable {X : Cx} {CX : CXT} {k : Nat} {f C : Addr} {fd : FuncData} {ps ks : List Str} {sp : Sp} {E : XK} {m : Str} {apos pos : Pos} {e o : Expr} {es : List Expr} {kws : List Keyword} {ta : TE} {t tk : TA} {g : List Value → List Value → List Value} {gV : List V → List V → List V}
end
section
variable {σ : L2.St} {H : Hp} {Q : VK} {C p dx : Addr} {m : Str} {sp : Sp} {gV : List V → List V → List V} {E : XK} {ta : TE} {t tk : TA} {fs : List (Str × V)}
def propLeaf (C : Addr) (sp : Sp) (dvs : List V) (E : XK) (Q : VK) (x : V) (H1 : Hp) : Prop := ∃ a dx fs, x = .ref a ∧ H1 a = some (.ins C dx fs) ∧ sp (.ref a :: dvs) H1 Q E
end
section
variable {X : Cx}
end
/-! x.clear() of a list or a dict; tuple(xs) -/
def clrLeaf (K : PySem.W.Frag) (Q : VK) (x : V) (H1 : Hp) : Prop := ∃ a, x = .ref a ∧ ((∃ kvs, H1 a = some (.dK kvs) ∧ Q .non (upd H1 a (.dK []))) ∨ ∃ xs, H1 a = some (.lst xs) ∧ Q .non (upd H1 a (.lst [])))
def tClr (K : PySem.W.Frag) (to : TE) : TE := fun σ H Q => to σ H (clrLeaf K Q)
section
variable {X : Cx} {o : Expr} {to : TE} {apos cpos : Pos}
end
section
variable {σ : L2.St} {H : Hp} {Q : VK} {K : PySem.W.Frag} {p : Addr} {xs : List V} {ta : TE}
end
/-! x != y, both data (lists, tuples, ..) or both dicts of flat values that are alike -/
def rNeE (K : PySem.W.Frag) : R2 := fun x y H Q => rNeD K x y H Q ∨ rNeDA x y H Q
def rEqE (K : PySem.W.Frag) : R2 := fun x y H Q => rEqD K x y H Q ∨ rEqDA x y H Q
/-! len and list of a list, a tuple or a dict -/
def rLenE (K : PySem.W.Frag) : List V → Hp → VK → Prop := fun xs H Q => Eg.rLenQ K xs H Q ∨ ∃ a kvs, xs = [V.ref a] ∧ H a = some (.dK kvs) ∧ Q (.int (kvs.length : Nat)) H
def rListL (K : PySem.W.Frag) : List V → Hp → VK → Prop := fun xs H Q => ∃ p ys, xs = [V.ref p] ∧ (SqL K H p ys ∨ SqT K H p ys) ∧ ∀ l, H l = none → Q (.ref l) (upd H l (.lst ys))
def rListE (K : PySem.W.Frag) : List V → Hp → VK → Prop := fun xs H Q => rListL K xs H Q ∨ ∃ a kvs, xs = [V.ref a] ∧ H a = some (.dK kvs) ∧ ∀ p, H p = none → Q (.ref p) (upd H p (.lst (kvs.map fun kv => kV kv.1)))
section
variable {H : Hp} {Q : VK} {K : PySem.W.Frag} {p : Addr} {ys : List V} {kvs : List (Key × V)}
end
/-! displays of dicts, pair by pair -/
section
variable {σ : L2.St} {H : Hp} {tk tv : TE} {r : List (TE × TE)}
theorem w_pairC {R : List (V × V) → Hp → Prop} (h : tk σ H fun x H1 => tv σ H1 fun y H2 => tPairs r σ H2 fun ps H3 => R ((x, y) :: ps) H3) : tPairs ((tk, tv) :: r) σ H R := h
theorem w_pairN {R : List (V × V) → Hp → Prop} (h : R [] H) : tPairs [] σ H R := h
end
/-! repr of data, of None too -/
def rReprA (K : PySem.W.Frag) : List V → Hp → VK → Prop := fun xs H Q => Gd.rRepr K xs H Q ∨ (xs = [V.non] ∧ Q (.str "None") H)
end Mk

/-! Ex: several except clauses, each with a name or none, each of one class or of several; fields of the caught one, isinstance of it; own exception classes under own bases, made by an __init__ that is walked. -/
namespace Ex
open PySem PySem.Spec PyProof.Rows L2
abbrev HS := List Value × Option Nat × (Addr → Value → Option Addr → TS)
/-- what the clauses wish of an exception of the body, one after the other -/
def wHds (K : PySem.W.Frag) (Wout : WX) (D : Ends) : List HS → WX
  | [] => Wout
  | (cs, none, ts) :: r => fun cls d σ H => ∃ b, PySem.W.exmAny K cls cs = some b ∧ (b = true → ∀ a, H a = none → ts a cls d D σ H) ∧ (b = false → wHds K Wout D r cls d σ H)
  | (cs, some i, ts) :: r => fun cls d σ H => ∃ b, PySem.W.exmAny K cls cs = some b ∧
      (b = true → ∀ a, H a = none → ts a cls d { nx := fun σ' H' => D.nx (σ'.set i none) H', rt := D.rt, bk := fun σ' H' => D.bk (σ'.set i none) H', ct := fun σ' H' => D.ct (σ'.set i none) H' } (σ.set i (some (.ref a))) H) ∧ (b = false → wHds K Wout D r cls d σ H)
/-- the test of a clause: the classes that it names -/
def ExTest (X : Cx) (t : Expr) (cs : List Value) : Prop :=
  ∀ (a : Addr) (oe : Obj) (pn pins : List (Addr × Obj)) (σ : L2.St) (H : Hp) (s : Shared) (cls : Value) (b : Bool) (Q : Bool → Shared → Prop) (E : Value → Shared → Prop), Inv (X.suite a ((a, oe) :: pn)) pins σ H s → PySem.W.Looks (model X.prog X.w) s.heap (typeOf (.ref a)) cls →
    PySem.W.exmAny X.K cls cs = some b → (∀ h', (∀ q o, s.heap.get? q = some o → h'.get? q = some o) → Q b { s with heap := h' }) →
    wpAny (model X.prog X.w) (X.A.mark (some (.ref a))) (eval t X.env) (fun c s₁ => wpAny (model X.prog X.w) (X.A.mark (some (.ref a))) (excMatches (.ref a) c) Q E s₁) E s
theorem exmAny_one {K : PySem.W.Frag} {cls c : Value} {b : Bool} (h : PySem.W.exmAny K cls [c] = some b) : PySem.W.exmOne K cls c = some b := by
  obtain ⟨b1, d1, h1, h2, e⟩ := PySem.W.exmAny_cons h
  have : some false = some d1 := h2
  cases this
  rw [Bool.or_false] at e
  rw [e]
  exact h1
theorem test_one {X : Cx} {x : Str} {c : Value} {np : Pos} (hc : Names X x c) : ExTest X (.Name x np) [c] := by
  intro a oe pn pins σ H s cls b Q E S LT hb q
  have LM := PySem.W.exm_one (M := model X.prog X.w) S.kIn LT (exmAny_one hb)
  obtain ⟨hg, hdbg, hm | ⟨hm, hv, hnn⟩⟩ := hc
  · exact ld_glob (X := X.suite a ((a, oe) :: pn)) S hg hm (LM.here (q s.heap fun _ _ z => z)) hdbg
  · exact ld_blt (X := X.suite a ((a, oe) :: pn)) S hg hm hv (LM.here (q s.heap fun _ _ z => z)) hnn hdbg
inductive HdsA (X : Cx) : List ExceptHandler → List HS → Prop
  | nil : HdsA X [] []
  | plain {t : Expr} {cs : List Value} {ts : Addr → Value → Option Addr → TS} {b₀ : Stmt} {suite : List Stmt} {pos' : Pos} {hds : List ExceptHandler} {l : List HS} (ht : ExTest X t cs)
      (hsu : ∀ (a : Addr) (oe : Obj) (cls : Value) (d : Option Addr) (pn : List (Addr × Obj)), Zc cls d oe → (∃ vs, oe.data = .fields vs) → X.base.get? a = none → PSs (X.suite a ((a, oe) :: pn)) (b₀ :: suite) (ts a cls d)) (r : HdsA X hds l) :
      HdsA X (.ExceptHandler (some t) none (b₀ :: suite) pos' :: hds) ((cs, none, ts) :: l)
  | as {t : Expr} {cs : List Value} {n : Str} {i : Nat} {ts : Addr → Value → Option Addr → TS} {b₀ : Stmt} {suite : List Stmt} {pos' : Pos} {hds : List ExceptHandler} {l : List HS} (hN : X.N.Nodup) (hi : X.N[i]? = some n) (hln : X.env.kindOf n = some .local) (ht : ExTest X t cs)
      (hsu : ∀ (a : Addr) (oe : Obj) (cls : Value) (d : Option Addr) (pn : List (Addr × Obj)), Zc cls d oe → (∃ vs, oe.data = .fields vs) → X.base.get? a = none → PSs (X.suite a ((a, oe) :: pn)) (b₀ :: suite) (ts a cls d)) (r : HdsA X hds l) :
      HdsA X (.ExceptHandler (some t) (some n) (b₀ :: suite) pos' :: hds) ((cs, some i, ts) :: l)
theorem traced_keep {h h' base : Heap} {e : Addr} {Z : Obj → Prop} {fl : Value} (x : HandSPX.TracedZ h base e Z fl) (k : ∀ q o, h.get? q = some o → h'.get? q = some o) : HandSPX.TracedZ h' base e Z fl := by
  obtain ⟨oe, vs, T, oT, ts, he, hz, hd, h1, hn, hT, ht, hdT, h3⟩ := x
  exact ⟨oe, vs, T, oT, ts, k _ _ he, hz, hd, h1, hn, hT, k _ _ ht, hdT, h3⟩
theorem flying_keep {base h h' : Heap} {l : List Env} {e : Addr} {Z : Obj → Prop} (x : HandSPX.FlyingZ base l e Z h) (k : ∀ q o, h.get? q = some o → h'.get? q = some o) : HandSPX.FlyingZ base l e Z h' := by
  obtain ⟨x1, x2, x3, x4⟩ := x
  exact ⟨fun b o hb => k _ _ (x1 b o hb), x2, x3.of_keeps fun b o hb _ => ⟨o, k b _ hb, rfl⟩, traced_keep x4 k⟩
section
variable {X : Cx} {body : List Stmt} {h₀ : ExceptHandler} {hds : List ExceptHandler} {l : List HS} {pos : Pos} {tb : WX → TS} {Wout : WX}
theorem ps_try_hds (hs : X.stack = X.env :: X.outer) (hf : X.env.frame = some X.env.locals) (tk : Takes X Wout)
    (hb : ∀ (W : WX) (pn : List (Addr × Obj)) (xe : Value → Shared → Prop), Takes (X.tr pn xe) W → PassesOwn (model X.prog X.w) X.A X.env xe → PSs (X.tr pn xe) body (tb W))
    (hh : HdsA X (h₀ :: hds) l) : PS X (.Try body (h₀ :: hds) [] [] pos) (fun D σ H => tb (wHds X.K Wout D l) D σ H) := by
  refine ⟨fun pins s σ H D I h => ?_⟩
  have ok := I.ok
  have hfr : X.A.frames = some (X.env :: X.outer) := by rw [ok.frames, hs]
  refine wpAny_Try_except ?_
  refine wpAny_mono ((hb (wHds X.K Wout D l) (X.pn ++ pins) (fun e s₁ => wpAny (model X.prog X.w) X.A (noteFrame e X.env) (fun _ s₂ => wpAny (model X.prog X.w) X.A (setFlight e none) (fun _ s₃ =>
    wpAny (model X.prog X.w) X.A (handleBy e X.env (h₀ :: hds)) (SP X pins D) X.xe s₃) X.xe s₂) X.xe s₁) (fun u s' xx => ?_) PassesOwn.looking).run [] s σ H D (I.toTry _) h) (fun f s1 hsp => ?_) (fun e s1 he => he)
  · obtain ⟨a, B, sI, pins', σ', H', cls, d, rfl, J', nb, up, sky, na, os, ag, w⟩ := xx
    have J : Inv X pins σ' H' sI := J'.ofTry ok
    have sky' : Sky B (X.env :: X.outer) a (Zc cls d) X.env.locals s'.heap := by rw [← hs]; exact sky
    show wpAny (model X.prog X.w) X.A (noteFrame (.ref a) X.env) _ _ _
    refine Sky.land Zc.steady hfr hf sky' fun h3 fl3 up3 => ?_
    have notFr : ∀ {h : Heap} {o : Obj} {vs : Array Value}, h.FunFrames B (X.env :: X.outer) → h.get? a = some o → o.data = .fields vs → a ∉ frs (X.env :: X.outer) := fun {h o vs} ff e dd hm => by
      obtain ⟨_, o', e', hnf⟩ := ff.mem hm
      rw [e] at e'; cases e'
      exact hnf _ dd
    have nfr : a ∉ frs (X.env :: X.outer) := by
      obtain ⟨oe3, vs3, he3, hz3, hd3⟩ := fl3.there
      exact notFr fl3.2.2.1 he3 hd3
    have nL : a ≠ X.env.locals := fun z => nfr (List.mem_filterMap.mpr ⟨X.env, List.mem_cons_self, by rw [hf, z]⟩)
    have nF : a ∉ X.fs := fun hm => by
      obtain ⟨e, he, q⟩ := List.mem_filterMap.mp hm
      exact nfr (List.mem_filterMap.mpr ⟨e, List.mem_cons_of_mem _ he, q⟩)
    have nb0 : X.base.get? a = none := by
      have hBa : B.get? a = none := by
        rcases sky' with ⟨_, h, _⟩ | h | h
        · exact h
        · exact h.2.1
        · exact h.2.1
      cases e : X.base.get? a with
      | none => rfl
      | some o =>
        have h1 := nb a o (J.bk a o e) (by rw [hs]; exact nfr)
        rw [hBa] at h1
        cases h1
    have go : ∀ {hds' : List ExceptHandler} {l' : List HS}, HdsA X hds' l' → ∀ h3 : Heap, HandSPX.FlyingZ B (X.env :: X.outer) a (Zc cls d) h3 → s'.heap.UpToSlots h3 → wHds X.K Wout D l' cls d σ' H' →
        wpAny (model X.prog X.w) X.A (handleBy (.ref a) X.env hds') (SP X pins D) X.xe { s' with heap := h3 } := by
      intro hds' l' hk
      induction hk with
      | nil =>
        intro h3 fl3 up3 w
        refine wpAny_handleBy_nil ?_
        obtain ⟨k1, k2, k3, oe, vs, T, oT, ts', he, hz, hd, h1, hr⟩ := id fl3
        unfold PySem.passOn
        refine wpAny_bind (wpAny_field he hd h1 ?_)
        rw [if_neg (show ¬ ((Value.ref T == Value.none) = true) from by simp)]
        have fin : wpAny (model X.prog X.w) X.A (setFlight (.ref a) X.env.frame) (fun _ s4 => wpAny (model X.prog X.w) X.A (throw (.ref a) : Sem Flow) (SP X pins D) X.xe s4) X.xe { s' with heap := h3 } := by
          rw [hf]
          refine HandSPX.setFlight_upZ fl3 fun h4 hh4 up4 => wpAny_throw (tk _ _ ?_)
          exact ⟨a, B, sI, pins, σ', H', cls, d, rfl, J, nb, (up.trans up3).trans up4, .inr (.inr (by rw [hs]; exact hh4)), na, os, ag, w⟩
        first
          | exact wpAny_bind (wpAny_pure (wpAny_bind fin))
          | exact wpAny_bind fin
      | @plain t cs ts b₀ suite pos' hds2 l2 ht hsu r ih =>
        intro h3 fl3 up3 w
        obtain ⟨b, hb1, hyes, hno⟩ := w
        have J3 : Inv X pins σ' H' { s' with heap := h3 } := J.landed nb fl3.1 (up.trans up3) os ag
        obtain ⟨oe3, vs3, he3, hz3, hd3⟩ := fl3.there
        have S3 := J3.suite he3 hd3 na nL nF
        refine wpAny_handleBy_cons (codeAny_handlers_test ?_) (by intro q; cases q)
        have LT : PySem.W.Looks (model X.prog X.w) h3 (typeOf (.ref a)) cls := fun A Q E s k q => wpAny_typeOf_ref (k _ _ he3) (by rw [hz3.1]; exact q)
        refine ht a oe3 _ _ _ _ _ cls b _ _ S3 LT hb1 fun h3' k3 => ?_
        have fl3' := flying_keep fl3 k3
        have up3' : s'.heap.UpToSlots h3' := up3.trans fun q o e _ => ⟨o.slots, k3 _ _ e⟩
        cases b with
        | true =>
          refine codeAny_handlers_suite ?_
          refine HandSPX.lands_againZ fl3' fun h4 fl4 up4 => ?_
          have J4 : Inv X pins σ' H' { s' with heap := h4 } := J.landed nb fl4.1 ((up.trans up3').trans up4) os ag
          obtain ⟨oe4, vs4, he4, hz4, hd4⟩ := fl4.there
          have S4 := J4.suite he4 hd4 na nL nF
          refine wpAny_mono ((hsu a oe4 cls d (X.pn ++ pins) hz4 ⟨_, hd4⟩ nb0).run [] _ _ H' _ S4 (hyes rfl a na)) (fun f s6 hsp => ?_) (fun _ _ z => False.elim z)
          cases f with
          | next =>
            obtain ⟨σ6, H6, S6, q6⟩ := hsp
            exact ⟨_, _, S6.unsuite ok, q6⟩
          | brk =>
            obtain ⟨σ6, H6, S6, q6⟩ := hsp
            exact ⟨_, _, S6.unsuite ok, q6⟩
          | cont =>
            obtain ⟨σ6, H6, S6, q6⟩ := hsp
            exact ⟨_, _, S6.unsuite ok, q6⟩
          | ret u =>
            obtain ⟨v6, σ6, H6, S6, r6, q6⟩ := hsp
            exact ⟨_, _, _, S6.unsuite ok, r6, q6⟩
        | false =>
          show wpAny _ X.A (handleBy (.ref a) X.env hds2) _ _ _
          exact ih h3' fl3' up3' (hno rfl)
      | @as t cs n i ts b₀ suite pos' hds2 l2 hN hi hln ht hsu r ih =>
        intro h3 fl3 up3 w
        obtain ⟨b, hb1, hyes, hno⟩ := w
        have J3 : Inv X pins σ' H' { s' with heap := h3 } := J.landed nb fl3.1 (up.trans up3) os ag
        obtain ⟨oe3, vs3, he3, hz3, hd3⟩ := fl3.there
        have S3 := J3.suite he3 hd3 na nL nF
        refine wpAny_handleBy_cons (codeAny_handlers_test ?_) (by intro q; cases q)
        have LT : PySem.W.Looks (model X.prog X.w) h3 (typeOf (.ref a)) cls := fun A Q E s k q => wpAny_typeOf_ref (k _ _ he3) (by rw [hz3.1]; exact q)
        refine ht a oe3 _ _ _ _ _ cls b _ _ S3 LT hb1 fun h3' k3 => ?_
        have fl3' := flying_keep fl3 k3
        have up3' : s'.heap.UpToSlots h3' := up3.trans fun q o e _ => ⟨o.slots, k3 _ _ e⟩
        cases b with
        | true =>
          refine codeAny_handlers_suite_as ?_
          refine HandSPX.lands_againZ fl3' fun h4 fl4 up4 => ?_
          have J4 : Inv X pins σ' H' { s' with heap := h4 } := J.landed nb fl4.1 ((up.trans up3').trans up4) os ag
          obtain ⟨oe4, vs4, he4, hz4, hd4⟩ := fl4.there
          have S4 := J4.suite he4 hd4 na nL nF
          refine store_ok (X := X.suite a ((a, oe4) :: (X.pn ++ pins))) (v := .ref a) S4 hN hi (.inl hln) rfl (fun s5 S5 => ?_) (.inr hln)
          refine wpAny_mono ((hsu a oe4 cls d (X.pn ++ pins) hz4 ⟨_, hd4⟩ nb0).run [] s5 _ H' _ S5 (hyes rfl a na)) (fun f s6 hsp => ?_) (fun _ _ z => False.elim z)
          have end_ : ∀ {σ6 : L2.St} {H6 : Hp} {Q : Shared → Prop}, Inv (X.suite a ((a, oe4) :: (X.pn ++ pins))) [] σ6 H6 s6 → (∀ s7, Inv X pins (σ6.set i none) H6 s7 → Q s7) →
              wpAny (model X.prog X.w) X.A (do bindName X.env n .none; unbindBehindTheSuite X.env n pos') (fun _ s7 => Q s7) X.xe s6 := fun {σ6 H6 Q} S6 hq => gone_ok (S6.unsuite ok) hN hi hln hq
          cases f with
          | next =>
            obtain ⟨σ6, H6, S6, q6⟩ := hsp
            exact end_ S6 fun s7 J7 => ⟨_, _, J7, q6⟩
          | brk =>
            obtain ⟨σ6, H6, S6, q6⟩ := hsp
            exact end_ S6 fun s7 J7 => ⟨_, _, J7, q6⟩
          | cont =>
            obtain ⟨σ6, H6, S6, q6⟩ := hsp
            exact end_ S6 fun s7 J7 => ⟨_, _, J7, q6⟩
          | ret u =>
            obtain ⟨v6, σ6, H6, S6, r6, q6⟩ := hsp
            exact end_ S6 fun s7 J7 => ⟨_, _, _, J7, r6, q6⟩
        | false =>
          show wpAny _ X.A (handleBy (.ref a) X.env hds2) _ _ _
          exact ih h3' fl3' up3' (hno rfl)
    exact go hh h3 fl3 up3 w
  · cases f with
    | next =>
      obtain ⟨σ', H', J', q⟩ := hsp
      exact wpAny_execs_nil ⟨σ', H', J'.ofTry ok, q⟩
    | brk =>
      obtain ⟨σ', H', J', q⟩ := hsp
      exact ⟨σ', H', J'.ofTry ok, q⟩
    | cont =>
      obtain ⟨σ', H', J', q⟩ := hsp
      exact ⟨σ', H', J'.ofTry ok, q⟩
    | ret u =>
      obtain ⟨v, σ', H', J', r, q⟩ := hsp
      exact ⟨v, σ', H', J'.ofTry ok, r, q⟩
end
/-! what is told of the caught one: its fields, isinstance -/
/-- what the class D must say -/
structure XcC (K : PySem.W.Frag) (D : Addr) : Prop where
  ga : PySem.W.findIn K (.ref D) "__getattribute__" = some (some (.builtin "BaseException.__getattribute__"))
  gg : PySem.W.findIn K (.ref D) "__getattr__" = some none
  hs : PySem.W.subIn K (.ref D) (.type "BaseException") = some true
  hd : PySem.W.hasDictIn K D = true
  ha : PySem.W.findIn K (.ref D) "__class__" = some (some (.builtin "object.__class__"))
  hn : PySem.W.specialIn K (.builtin "object.__class__") "__get__" = some (some (.builtin "getset_descriptor.__get__"))
  ht : PySem.W.takesIn K (.builtin "object.__class__") = some true
  hm : PySem.W.mroIn K D (.type "object") = some true
theorem hd_cls {K : PySem.W.Frag} {D : Addr} (h : PySem.W.hasDictIn K D = true) : (PySem.W.clsIn K D).isSome = true := by
  obtain ⟨cd, hc, _⟩ := PySem.W.any_some h
  rw [hc]
  rfl
def xgLeaf (K : PySem.W.Frag) (a : Addr) (cls : Value) (d : Option Addr) (f : Str) (Q : VK) (x : V) (H1 : Hp) : Prop :=
  x = .ref a ∧ ∃ C, cls = .ref C ∧ XcC K C ∧ PySem.W.findIn K (.ref C) f = some none ∧ ∃ (dd : Addr) (fs : List (Str × V)) (v : V), d = some dd ∧ H1 dd = some (.xd fs) ∧ fs.lookup f = some v ∧ Q v H1
def tXg (K : PySem.W.Frag) (a : Addr) (cls : Value) (d : Option Addr) (f : Str) (te : TE) : TE := fun σ H Q => te σ H (xgLeaf K a cls d f Q)
theorem inst_of {X : Cx} {pins : List (Addr × Obj)} {σ : L2.St} {H : Hp} {s : Shared} {a C : Addr} {oe : Obj} {dd : Addr} {pn : List (Addr × Obj)} {fs : List (Str × V)} (I : Inv (X.suite a ((a, oe) :: pn)) pins σ H s) (hz : Zc (.ref C) (some dd) oe) (hf : ∃ vs, oe.data = .fields vs) (ea : H dd = some (.xd fs)) :
    ∃ (od : Obj) (mA : Str → Option Value), PySem.W.InstAt s.heap a oe C (some od) ∧ (∀ f, RelO (fs.lookup f) (mA f)) ∧ (∀ f, PySem.W.lookIn f od = some (mA f)) := by
  obtain ⟨ha, _⟩ := I.pin (a, oe) (List.mem_append_left _ List.mem_cons_self)
  obtain ⟨vs, hd⟩ := hf
  have hx : ObjOk X.prog X.w H s.heap dd (.xd fs) := I.hok dd _ ea
  obtain ⟨mA, hns, hr⟩ := hx
  obtain ⟨od, ho, hl⟩ := lookIn_ns hns
  exact ⟨od, mA, ⟨ha, hz.1, by unfold PySem.W.notCls; rw [hd] <;> rfl, by rw [hz.2]; exact ho⟩, hr, hl⟩
section
variable {X : Cx} {a : Addr} {oe : Obj} {cls : Value} {d : Option Addr} {pn : List (Addr × Obj)} {e : Expr} {te : TE} {pos : Pos} {n : Str}
theorem pe_xg (hz : Zc cls d oe) (hf : ∃ vs, oe.data = .fields vs) (he : PE (X.suite a ((a, oe) :: pn)) e te) (hb : attributeBase e n X.env (eval e X.env) = eval e X.env := by rfl) :
    PE (X.suite a ((a, oe) :: pn)) (.Attribute e n pos) (tXg X.K a cls d n te) := by
  refine ⟨fun pins s σ H Q I h => ?_⟩
  refine attr_of hb (thn (he.run pins s σ H _ I h) fun u s1 ⟨x, H1, I1, rx, ex, C, ec, T, hno, dd, fs, v, ed, ea, l, q⟩ => ?_)
  subst ex
  obtain rfl : u = Value.ref a := rx
  subst ec
  subst ed
  obtain ⟨od, mA, J, hr, hl⟩ := inst_of I1 hz hf ea
  obtain ⟨u, hu, ru⟩ := RelO.some_of (v := v) (o := mA n) (by rw [← l]; exact hr n)
  exact HandSPX.exc_get I1.kIn J T.ga T.gg T.hs (PySem.W.findObj_own T.hd hno rfl (by rw [hl, hu])) (handed_of ru) ⟨v, H1, I1.tok _, ru, q⟩
/-- isinstance(e, c), e the exception that the suite holds -/
def rIsX (K : PySem.W.Frag) (a : Addr) (cls : Value) (d : Option Addr) : List V → Hp → VK → Prop := fun xs H Q => ∃ (D dd : Addr) (fs : List (Str × V)) (c : V) (cv : Value) (b : Bool), xs = [.ref a, c] ∧ cls = .ref D ∧ d = some dd ∧ H dd = some (.xd fs) ∧ XcC K D ∧
  (∀ u, RelV c u → u = cv) ∧ PySem.W.kitOne K (.ref D) cv = some b ∧ Q (.bl b) H
theorem cr_isX (hz : Zc cls d oe) (hf : ∃ vs, oe.data = .fields vs) : CallR (X.suite a ((a, oe) :: pn)) (.builtin "isinstance") (rIsX X.K a cls d) := by
  intro pins s σ H xs us Q I r h
  obtain ⟨D, dd, fs, c, cv, b, rfl, rfl, rfl, ea, C, hcv, e, q⟩ := h
  cases r with
  | cons rx rr =>
    cases rr with
    | cons rt rr =>
      cases rr
      cases rx
      have ec := hcv _ rt
      subst ec
      obtain ⟨od, mA, J, _, _⟩ := inst_of I hz hf ea
      exact PySem.W.kia_one (PySem.W.kitx_exc (hd_cls C.hd) C.ga C.gg C.hs C.ha C.hn C.ht C.hm) I.kIn J e (fun z => nomatch z) fun tk => ⟨.bl b, H, I.kept (t' := tk) fun _ _ z => z, rfl, q⟩
end
/-! raise C(y): C's own __init__ stores one field, or two -/
def spX1 (C : Addr) (f : Str) : Sp := fun vs H Q _ => ∃ (a : Addr) (y : V), vs = [.ref a, y] ∧ H a = some (exo a C none) ∧ ∀ dx, H dx = none → dx ≠ a → Q .non (upd (upd H dx (exd dx [(f, y)])) a (exo a C (some dx)))
def mkLeaf (C : Addr) (sp : Sp) (dvs : List V) (Q : XK) (vs : List V) (H1 : Hp) : Prop := vs.length ≤ 1000 ∧ ∀ a, H1 a = none → sp (.ref a :: (vs ++ dvs)) (upd H1 a (exo a C none))
  (fun v H2 => v = .non ∧ ∃ (d : Addr) (fs : List (Str × V)), H2 a = some (exo a C (some d)) ∧ H2 d = some (exd d fs) ∧ H1 d = none ∧ Q (.ref C) (some d) (upd (del H2 a) d (.xd fs))) (fun _ _ _ => False)
def tRs (C : Addr) (sp : Sp) (W : WX) (ta : TA) : TS := fun _ σ H => tMkO C sp [] ta σ H fun cls d H' => W cls d σ H'
section
variable {σ : L2.St} {H : Hp} {D : Ends} {C : Addr} {f : Str} {W : WX} {ta : TA} {y : V} {te : TE} {sp : Sp}
theorem w_rs (h : ta σ H (mkLeaf C sp [] fun cls d H' => W cls d σ H')) : tRs C sp W ta D σ H := h
theorem c_mk1 {Q : XK} (q : ∀ d, H d = none → Q (.ref C) (some d) (upd H d (.xd [(f, y)]))) : mkLeaf C (spX1 C f) [] Q [y] H := by
  refine ⟨by show 1 ≤ 1000; decide, fun a ha => ⟨a, y, rfl, upd_same, fun dx hdx hne => ⟨rfl, dx, [(f, y)], upd_same, ?_, ?_, ?_⟩⟩⟩
  · rw [upd_ne hne, upd_same]
  · rw [upd_ne hne] at hdx
    exact hdx
  · rw [upd_ne hne] at hdx
    have e : upd (del (upd (upd (upd H a (exo a C none)) dx (exd dx [(f, y)])) a (exo a C (some dx))) a) dx (.xd [(f, y)]) = upd H dx (.xd [(f, y)]) := by
      funext b
      by_cases h1 : b = dx
      · rw [h1, upd_same, upd_same]
      · rw [upd_ne h1, upd_ne h1]
        by_cases h2 : b = a
        · rw [h2, del_same, ha]
        · rw [del_ne h2, upd_ne h2, upd_ne h1, upd_ne h2]
    rw [e]
    exact q dx hdx
theorem w_xg {K : PySem.W.Frag} {a : Addr} {cls : Value} {d : Option Addr} {Q : VK} (h : te σ H (xgLeaf K a cls d f Q)) : tXg K a cls d f te σ H Q := h
theorem c_xg {K : PySem.W.Frag} {a dd C : Addr} {fs : List (Str × V)} {v : V} {Q : VK} (T : XcC K C) (hno : PySem.W.findIn K (.ref C) f = some none) (h : H dd = some (.xd fs)) (l : fs.lookup f = some v) (q : Q v H) : xgLeaf K a (.ref C) (some dd) f Q (.ref a) H := ⟨rfl, C, rfl, T, hno, dd, fs, v, rfl, h, l, q⟩
theorem c_isX {K : PySem.W.Frag} {a dd D : Addr} {fs : List (Str × V)} {c : V} {cv : Value} {b : Bool} {Q : VK} (h : H dd = some (.xd fs)) (T : XcC K D) (hc : ∀ u, RelV c u → u = cv) (hk : PySem.W.kitOne K (.ref D) cv = some b) (q : Q (.bl b) H) : rIsX K a (.ref D) (some dd) [.ref a, c] H Q := ⟨D, dd, fs, c, cv, b, rfl, rfl, rfl, h, T, hc, hk, q⟩
/-- self.f = y of an exception that is being made -/
def ostLeaf (K : PySem.W.Frag) (f : Str) (y : V) (R : Hp → Prop) (x : V) (H2 : Hp) : Prop := ∃ a C : Addr, x = .ref a ∧ OexC K C ∧ PySem.W.findIn K (.ref C) f = some none ∧
  ((H2 a = some (exo a C none) ∧ ∀ dx, H2 dx = none → dx ≠ a → R (upd (upd H2 dx (exd dx [(f, y)])) a (exo a C (some dx)))) ∨
    ∃ (dx : Addr) (fs : List (Str × V)), H2 a = some (exo a C (some dx)) ∧ H2 dx = some (exd dx fs) ∧ fs.length ≤ 900 ∧ R (upd H2 dx (exd dx ((f, y) :: fs))))
end
section
variable {X : Cx} {CX : CXT} {x : Str} {C fI : Addr} {k : Nat} {fd : FuncData} {ps : List Str} {sp : Sp} {e : Expr} {es : List Expr} {ta : TA} {p pos pos2 : Pos} {W : WX}
theorem ps_rs (hc : X.calm = true) (tk : Takes X W) (T : OexC X.K C) (iC : PySem.W.findIn X.K (.ref C) "__init__" = some (some (.ref fI))) (tI : PySem.W.typeIn X.K (.ref fI) = some (.type "function"))
    (F1 : FnOk X.prog X.w X.K X.mg X.base CX k fI fd ps sp) (hr : Room (k + 1) X.A) (hb : Binds X.K fd ps []) (hx : Passes CX X (fun _ _ _ => False)) (hg : Gl X x) (hm : X.mg x = some (.ref C)) (ha : PA X (e :: es) ta)
    (hdb : (x == ("__debug__" : Str)) = false := by decide) (he : starEach (e :: es) X.env = (false, eval e X.env) :: starEach es X.env := by rfl) (hpl : (backTo pos (starEach es X.env)).any (·.1) = false := by rfl) :
    PS X (.Raise (some (.Call (.Name x p) (e :: es) [] pos)) none pos2) (tRs C sp W ta) := ps_raise hc tk (pmk_oex T iC tI F1 hr hb .nil hx hg hm ha hdb he hpl)
end
/-- what the text says of an own exception class whose __init__ is f -/
structure XT (K : PySem.W.Frag) (C f : Addr) : Prop where
  oex : OexC K C
  ini : PySem.W.findIn K (.ref C) "__init__" = some (some (.ref f))
  fn : PySem.W.typeIn K (.ref f) = some (.type "function")
  xc : XcC K C
/-! o.m(a, .., k = v) in a try -/
section
variable {X : Cx} {CX : CXT} {k : Nat} {f C : Addr} {fd : FuncData} {ps ks : List Str} {sp : Sp} {E : L2.St → XK} {m : Str} {apos pos : Pos} {e o : Expr} {es : List Expr} {kws : List Keyword} {ta : TE} {t tk : TA} {g : List Value → List Value → List Value} {gV : List V → List V → List V}
def mkSLeaf (C : Addr) (m : Str) (sp : Sp) (gV : List V → List V → List V) (E : L2.St → XK) (t tk : TA) (σ : L2.St) (Q : VK) (x : V) (H1 : Hp) : Prop := ∃ a dx fs, x = .ref a ∧ H1 a = some (.ins C dx fs) ∧ fs.lookup m = none ∧ t σ H1 fun vs H2 => tk σ H2 fun zs H3 => sp (gV (x :: vs) zs) H3 Q (E σ)
def tMethKS (C : Addr) (m : Str) (sp : Sp) (gV : List V → List V → List V) (E : L2.St → XK) (ta : TE) (t tk : TA) : TE := fun σ H Q => ta σ H (mkSLeaf C m sp gV E t tk σ Q)
end
section
variable {σ : L2.St} {H : Hp} {Q : VK} {C p dx : Addr} {m : Str} {sp : Sp} {gV : List V → List V → List V} {E : L2.St → XK} {ta : TE} {t tk : TA} {fs : List (Str × V)}
end
/-! which clause -/
section
variable {K : PySem.W.Frag} {Wout : WX} {D : Ends} {cs : List Value} {ts : Addr → Value → Option Addr → TS} {r : List HS} {cls : Value} {d : Option Addr} {σ : L2.St} {H : Hp} {i : Nat}
theorem hd_yes (h : PySem.W.exmAny K cls cs = some true) (q : ∀ a, H a = none → ts a cls d { nx := fun σ' H' => D.nx (σ'.set i none) H', rt := D.rt, bk := fun σ' H' => D.bk (σ'.set i none) H', ct := fun σ' H' => D.ct (σ'.set i none) H' } (σ.set i (some (.ref a))) H) : wHds K Wout D ((cs, some i, ts) :: r) cls d σ H := ⟨true, h, fun _ => q, fun z => nomatch z⟩
theorem exm1 {C : Addr} {b : Bool} (h : PySem.W.subIn K cls (.ref C) = some b) (h1 : PySem.W.subIn K (.ref C) (.type "BaseException") = some true) (hd : PySem.W.hasDictIn K C = true) (ht : PySem.W.typeIn K (.ref C) = some (.type "type")) : PySem.W.exmAny K cls [.ref C] = some b := by
  obtain ⟨cd, hc, _⟩ := PySem.W.any_some hd
  have e1 : (PySem.W.subIn K (.ref C) (.type "BaseException") == some true) = true := by rw [h1] <;> rfl
  have e2 : ((PySem.W.clsIn K C).isSome && PySem.W.typeIn K (.ref C) == some (.type "type")) = true := by rw [hc, ht] <;> rfl
  have e3 : PySem.W.exmOne K cls (.ref C) = some b := by
    show (if (PySem.W.subIn K (.ref C) (.type "BaseException") == some true) = true then (if ((PySem.W.clsIn K C).isSome && PySem.W.typeIn K (.ref C) == some (.type "type")) = true then PySem.W.subIn K cls (.ref C) else none) else none) = some b
    rw [if_pos e1, if_pos e2]
    exact h
  unfold PySem.W.exmAny
  rw [e3]
  show some (b || false) = some b
  rw [Bool.or_false]
/-- isinstance(e, C) -/
theorem kit1 {C D : Addr} {b : Bool} (h : PySem.W.subIn K (.ref D) (.ref C) = some b) (hb : D = C → b = true) (hd : PySem.W.hasDictIn K C = true) (ht : PySem.W.typeIn K (.ref C) = some (.type "type")) : PySem.W.kitOne K (.ref D) (.ref C) = some b := by
  unfold PySem.W.kitOne
  by_cases e : D = C
  · subst e
    rw [if_pos (by simp), hb rfl]
  · rw [if_neg (by simpa using e)]
    obtain ⟨cd, hc, _⟩ := PySem.W.any_some hd
    have e2 : ((PySem.W.clsIn K C).isSome && PySem.W.typeIn K (.ref C) == some (.type "type")) = true := by rw [hc, ht] <;> rfl
    show (if ((PySem.W.clsIn K C).isSome && PySem.W.typeIn K (.ref C) == some (.type "type")) = true then PySem.W.subIn K (.ref D) (.ref C) else none) = some b
    rw [if_pos e2]
    exact h
end
/-- a class that an except clause may name -/
structure XN (K : PySem.W.Frag) (C : Addr) : Prop where
  bs : PySem.W.subIn K (.ref C) (.type "BaseException") = some true
  hd : PySem.W.hasDictIn K C = true
  ty : PySem.W.typeIn K (.ref C) = some (.type "type")
theorem XN.exm {K : PySem.W.Frag} {C : Addr} {cls : Value} {b : Bool} (n : XN K C) (h : PySem.W.subIn K cls (.ref C) = some b) : PySem.W.exmAny K cls [.ref C] = some b := exm1 h n.bs n.hd n.ty
theorem XN.kit {K : PySem.W.Frag} {C D : Addr} {b : Bool} (n : XN K C) (h : PySem.W.subIn K (.ref D) (.ref C) = some b) (hc : PySem.W.subIn K (.ref C) (.ref C) = some true) : PySem.W.kitOne K (.ref D) (.ref C) = some b :=
  kit1 h (fun e => by subst e; rw [h] at hc; exact Option.some.inj hc) n.hd n.ty
end Ex

/-! Pz: classes whose __init__ has a default, *values and **named; static methods; classmethods. -/
namespace Pz
open PySem PySem.Spec PyProof.Rows L2 StX
section
variable {CX : CXT} {P : Program} {w : World} {K : PySem.W.Frag} {mg : Str → Option Value} {base : Heap} {k : Nat} {f T : Addr} {name qual : Str} {params : Arguments} {body : List Stmt} {scope : Scope} {kV doc pm cdv ct oc : Value} {an od : Option Addr}
  {osl : Array (Option Value)} {N : List Str} {sp : Sp} {oT : Obj} {du : Value} {dv : V} {nT : Nat} {p1 p2 pv pd : Str}
/-- what a call binds when its positional values are us, the rest goes into a tuple, and an empty dict stands for the names -/
def Lays (T : Addr) (du : Value) (m : Sem (List (Str × Value))) (bs : List (Str × Value)) (rest : List Value) (pv pd : Str) : Prop :=
  ∃ kk : Option (Array Value) → Sem (List (Str × Value)), m = (seqItems? (.ref T) >>= kk) ∧ kk (some #[du]) = (newTuple rest >>= fun t => (alloc ({ cls := .type "dict", data := .dict #[] } : Obj) : Sem Addr) >>= fun d => pure (bs ++ [(pv, t), (pd, Value.ref d)]))
/-- def f(self, text=d, *values, **named), called without keywords -/
theorem fn_starkwD (lk : K.lookup f = some ⟨oc, od, .func (PySem.W.fnOf name qual params body scope (.ref T) kV doc pm an cdv ct), osl⟩) (lT : K.lookup T = some oT) (hT : oT.data = .seq #[du] nT) (rd : RelV dv du)
    (hcd : PySem.W.codeIn K cdv qual = true) (S : FnScope N [p1, p2, pv, pd] scope) (hCX : CXUp CX)
    (hb : ∀ (a b : Value) (rest : List Value), Lays T du (bindArgs (PySem.W.fnOf name qual params body scope (.ref T) kV doc pm an cdv ct) ⟨a :: b :: rest, []⟩) [(p1, a), (p2, b)] rest pv pd)
    (hb0 : ∀ a : Value, Lays T du (bindArgs (PySem.W.fnOf name qual params body scope (.ref T) kV doc pm an cdv ct) ⟨[a], []⟩) [(p1, a), (p2, du)] [] pv pd)
    (hbody : ∀ (A : Around) (outer : List Env) (s : Shared) (H : Hp) (vs : List V) (Q : VK) (E : XK), Room k (A.deeper (envOfC qual scope s.heap.objs.size f cdv)) → sp vs H Q E →
      ∃ t, PSs (cxOf CX P w K mg base N qual scope f cdv A outer s H E) body t ∧ t { nx := fun _ H' => Q .non H', rt := Q } (start N vs) H) :
    FnR P w K mg base CX (k + 1) f (fun vs H Q E => ∃ (x y : V) (rest : List V), (vs = x :: y :: rest ∨ (vs = [x] ∧ y = dv ∧ rest = [])) ∧ rest.length ≤ sizeLine ∧ ∀ p d, H p = Option.none → H d = Option.none → d ≠ p → sp [x, y, V.ref p, V.ref d] (upd (upd H p (.tup rest)) d (.dK [])) Q E) := by
  intro A outer s H us vs Q E hr e0 r hsp
  obtain ⟨x, y, rest, ev, hz, hq⟩ := hsp
  have KX : K.In s.heap := e0.mod.kin.keeps fun b o e => (e0.bs b o e).1
  obtain ⟨u1, u2, ur, rx, ry, rr, lay⟩ : ∃ (u1 u2 : Value) (ur : List Value), RelV x u1 ∧ RelV y u2 ∧ Vals rest ur ∧ Lays T du (bindArgs (PySem.W.fnOf name qual params body scope (.ref T) kV doc pm an cdv ct) ⟨us, []⟩) [(p1, u1), (p2, u2)] ur pv pd := by
    rcases ev with rfl | ⟨rfl, rfl, rfl⟩
    · cases r with
      | cons a r1 =>
        cases r1 with
        | cons b r2 => exact ⟨_, _, _, a, b, r2, hb _ _ _⟩
    · cases r with
      | cons a r1 =>
        cases r1
        exact ⟨_, _, _, a, rd, .nil, hb0 _⟩
  obtain ⟨kk, e1, e2⟩ := lay
  have hn : H s.heap.objs.size = Option.none := e0.hok.fresh (Nat.le_refl _)
  have hl2 : ur.length ≤ sizeLine := by rw [← rr.length]; exact hz
  refine run_bnd lk hcd S hr e0 (G := fun xs H2 => ∃ p d, H p = Option.none ∧ H d = Option.none ∧ d ≠ p ∧ xs = [x, y, V.ref p, V.ref d] ∧ H2 = upd (upd H p (.tup rest)) d (.dK [])) (fun A' Ex Q' h => ?_) fun s2 H2 xs ⟨p, d, hp, hd, hne, ex, eH⟩ hr' => ?_
  · rw [e1]
    refine wpAny_bind (wpAny_seqItems (KX _ _ lT) hT ?_)
    rw [e2]
    refine wpAny_bind (wpAny_newTuple (wpAny_bind (wpAny_alloc (wpAny_pure ?_))) hl2)
    have new : ObjOk P w (upd H s.heap.objs.size (.tup rest)) (s.heap.push ({ cls := .type "tuple", data := .seq ur.toArray } : Obj)) s.heap.objs.size (.tup rest) := ⟨hz, ur, rr, ⟨_, Heap.get?_push_size _ rfl, rfl, _, rfl⟩⟩
    have e1 := env0_laid e0 new
    have un1 := un_laid (fs := frs outer) (s := s) (o := ({ cls := .type "tuple", data := .seq ur.toArray } : Obj)) (u := .tup rest) hn
    have hn2 := e1.hok.fresh (Nat.le_refl _)
    have e2 := env0_laid (u := .dK []) (o := ({ cls := .type "dict", data := .dict #[] } : Obj)) e1 (dk_empty _ (env0_big e1))
    have un2 := un1.trans (un_laid (fs := frs outer) (s := { s with heap := s.heap.push ({ cls := .type "tuple", data := .seq ur.toArray } : Obj) }) (o := ({ cls := .type "dict", data := .dict #[] } : Obj)) (u := .dK []) hn2)
    have sz : (s.heap.push ({ cls := .type "tuple", data := .seq ur.toArray } : Obj)).objs.size = s.heap.objs.size + 1 := Heap.size_push _ _
    have ne : (s.heap.push ({ cls := .type "tuple", data := .seq ur.toArray } : Obj)).objs.size ≠ s.heap.objs.size := by
      rw [sz]
      exact Nat.succ_ne_self _
    have hd : H (s.heap.push ({ cls := .type "tuple", data := .seq ur.toArray } : Obj)).objs.size = Option.none := e0.hok.fresh (by rw [sz]; exact Nat.le_succ _)
    exact h _ _ [x, y, V.ref s.heap.objs.size, V.ref (s.heap.push ({ cls := .type "tuple", data := .seq ur.toArray } : Obj)).objs.size] [u1, u2, Value.ref s.heap.objs.size, Value.ref (s.heap.push ({ cls := .type "tuple", data := .seq ur.toArray } : Obj)).objs.size] e2 un2 rfl
      (fun e s' => hCX outer s H _ _ E e s' un2 (fun b o q => Heap.get?_push_of_some _ (Heap.get?_push_of_some _ q)) rfl) (.cons rx (.cons ry (.cons rfl (.cons rfl .nil)))) rfl ⟨_, _, hn, hd, ne, rfl, rfl⟩
  · subst ex eH
    exact hbody A outer s2 _ _ Q E hr' (hq p d hp hd hne)
end
section
variable {X : Cx} {CX : CXT} {k i : Nat} {f C p g : Addr} {mc : Value} {sp : Sp} {E : XK} {x m : Str} {e o : Expr} {es : List Expr} {ta : TE} {t : TA} {p0 pos apos : Pos} {pl : Sem Bool}
/-- cls(..), cls a local that holds the class -/
def tMkVar (i : Nat) (C : Addr) (sp : Sp) (E : XK) (t : TA) : TE := fun σ H Q => σ[i]? = some (some (.ref C)) ∧ tMakeR C sp E t σ H Q
/-- C.m is a static method: its record at p, its def at g -/
structure CSta (K : PySem.W.Frag) (C : Addr) (mc : Value) (m : Str) (p g : Addr) : Prop where
  at_ : PySem.W.findCls K (.ref C) mc m = some (.get (.builtin "staticmethod.__get__") (.ref p) .none (.ref C))
  rc : ∃ rest, PySem.W.recIn K p "staticmethod" = some (.ref g :: rest)
  kp : PySem.W.keepIn K (.ref g) = true
/-- C.m(e, ..), m a static method -/
def tSMeth (C : Addr) (sp : Sp) (E : XK) (ta : TE) (t : TA) : TE := fun σ H Q => ta σ H fun x H1 => x = .ref C ∧ t σ H1 fun vs H2 => sp vs H2 Q E
end
/-- a def with one default, *values and **named, as it stands behind the top -/
structure FunS (K : PySem.W.Frag) (x qual : Str) (st : Stmt) (p1 p2 pv pd : Str) (dv : V) (f : Addr) : Prop where
  ex : ∃ (oc : Value) (od : Option Addr) (T : Addr) (oT : Obj) (du : Value) (nT : Nat) (kV doc pm : Value) (an : Option Addr) (cdv ct : Value) (osl : Array (Option Value)),
    K.lookup f = some ⟨oc, od, .func (PySem.W.fnOf x qual (defArgs st) (defBody st) (defScope st) (.ref T) kV doc pm an cdv ct), osl⟩ ∧ K.lookup T = some oT ∧ oT.data = .seq #[du] nT ∧ RelV dv du ∧ PySem.W.codeIn K cdv qual = true ∧
    (∀ (a b : Value) (rest : List Value), Lays T du (bindArgs (PySem.W.fnOf x qual (defArgs st) (defBody st) (defScope st) (.ref T) kV doc pm an cdv ct) ⟨a :: b :: rest, []⟩) [(p1, a), (p2, b)] rest pv pd) ∧
    ∀ a : Value, Lays T du (bindArgs (PySem.W.fnOf x qual (defArgs st) (defBody st) (defScope st) (.ref T) kV doc pm an cdv ct) ⟨[a], []⟩) [(p1, a), (p2, du)] [] pv pd
theorem FunS.ok {CX : CXT} {P : Program} {w : World} {K : PySem.W.Frag} {mg : Str → Option Value} {base : Heap} {k : Nat} {f : Addr} {x qual : Str} {st : Stmt} {N : List Str} {sp : Sp} {p1 p2 pv pd : Str} {dv : V} (F : FunS K x qual st p1 p2 pv pd dv f) (S : FnScope N [p1, p2, pv, pd] (defScope st)) (hCX : CXUp CX)
    (hbody : ∀ (cdv : Value) (A : Around) (outer : List Env) (s : Shared) (H : Hp) (vs : List V) (Q : VK) (E : XK), Room k (A.deeper (envOfC qual (defScope st) s.heap.objs.size f cdv)) → sp vs H Q E →
      ∃ t, PSs (cxOf CX P w K mg base N qual (defScope st) f cdv A outer s H E) (defBody st) t ∧ t { nx := fun _ H' => Q .non H', rt := Q } (start N vs) H) :
    FnR P w K mg base CX (k + 1) f (fun vs H Q E => ∃ (x y : V) (rest : List V), (vs = x :: y :: rest ∨ (vs = [x] ∧ y = dv ∧ rest = [])) ∧ rest.length ≤ sizeLine ∧ ∀ p d, H p = Option.none → H d = Option.none → d ≠ p → sp [x, y, V.ref p, V.ref d] (upd (upd H p (.tup rest)) d (.dK [])) Q E) := by
  obtain ⟨oc, od, T, oT, du, nT, kV, doc, pm, an, cdv, ct, osl, lk, lT, hT, rd, hcd, hb, hb0⟩ := F.ex
  exact fn_starkwD lk lT hT rd hcd S hCX hb hb0 fun A outer s H vs Q E => hbody cdv A outer s H vs Q E
/-! named leaves -/
section
variable {K : PySem.W.Frag} {σ : L2.St} {H : Hp} {Q : VK} {te : TE} {t : TA} {C : Addr} {sp : Sp} {E : XK}
def starL (K : PySem.W.Frag) (t : TA) (σ : L2.St) (R : List V → Hp → Prop) : VK := fun x H1 => ∃ p xs, x = V.ref p ∧ (SqT K H1 p xs ∨ SqL K H1 p xs) ∧ t σ H1 fun ys H2 => R (xs ++ ys) H2
/-- the promise of a def with a default, *values and **named, from that of its body -/
def SpStar (dv : V) (sp : Sp) : Sp := fun vs H Q E => ∃ (x y : V) (rest : List V), (vs = x :: y :: rest ∨ (vs = [x] ∧ y = dv ∧ rest = [])) ∧ rest.length ≤ sizeLine ∧ ∀ p d, H p = Option.none → H d = Option.none → d ≠ p → sp [x, y, V.ref p, V.ref d] (upd (upd H p (.tup rest)) d (.dK [])) Q E
def mkRL (C : Addr) (sp : Sp) (E : XK) (Q : VK) : List V → Hp → Prop := fun vs H1 => ∀ x dx, H1 x = Option.none → H1 dx = Option.none → dx ≠ x → sp (V.ref x :: vs) (upd (upd H1 dx (.own x)) x (.ins C dx [])) (fun v H2 => v = .non ∧ Q (.ref x) H2) E
end
end Pz

/-! Po: own operators where the other side is a text; += without an own in-place method; bool(own); o[i] = v by an own method. -/
namespace Po
open PySem PySem.Spec PySem.Calls PySem.W
section
variable {prog : Program} {w : World} {A : Around} {E : Value → Shared → Prop} {s : Shared} {K : Frag} {x C L f g : Addr} {h₀ : Heap} {m : Str → Option Value} {ox : Obj} {od : Option Obj}
end
section
open L2 PyProof.Rows
variable {X : Cx} {CX : CXT} {k : Nat} {f g : Addr} {fd : FuncData} {ps : List Str} {sp : Sp} {E : XK} {C : Addr}
def rOwnS (C : Addr) (sp : Sp) (E : XK) : R2 := fun x y H Q => ∃ a z dx fs, x = .ref a ∧ y = .str z ∧ H a = some (.ins C dx fs) ∧ sp [x, y] H Q E
def rOwnSR (C : Addr) (sp : Sp) (E : XK) : R2 := fun x y H Q => ∃ a z dx fs, y = .ref a ∧ x = .str z ∧ H a = some (.ins C dx fs) ∧ sp [y, x] H Q E
/-- a class of which it is known that it has no own += -/
def NoIAdd (K : Frag) (C : Addr) : Prop := findIn K (.ref C) "__iadd__" = some none ∧ ∃ cd, clsIn K C = some cd ∧ cd.mro = [.ref C, .type "object"]
/-- bool(x) by its own __bool__ -/
def rOwnBool (C : Addr) (sp : Sp) (E : XK) : List V → Hp → VK → Prop := fun xs H Q => ∃ a dx fs, xs = [V.ref a] ∧ H a = some (.ins C dx fs) ∧ sp [V.ref a] H (fun v H' => ∃ b, v = .bl b ∧ Q (.bl b) H') E
/-- o[i] = v by o's own __setitem__ -/
def rOwnSet (C : Addr) (sp : Sp) (E : XK) : TSet := fun o i v H Q => ∃ a dx fs, o = .ref a ∧ H a = some (.ins C dx fs) ∧ sp [o, i, v] H (fun _ H' => Q H') E
end
section
open L2
variable {σ : L2.St} {H : Hp} {Q : VK} {E : XK} {sp : Sp} {C a dx : Addr} {fs : List (Str × V)} {y v : V} {z : Str}
/-- a test that is a list's truth -/
def truLeaf (K : Frag) (Q : Bool → Hp → Prop) (x : V) (H' : Hp) : Prop := ∃ k, TruV K x H' k ∧ Q k H'
def tTru (K : Frag) (te : TE) : TT := fun σ H Q => te σ H (truLeaf K Q)
theorem pt_tru {X : Cx} {a : Expr} {ta : TE} (ha : PE X a ta) (he : ∀ whole, isTrue a X.env whole = (do let v ← whole; standAt a.pos; holding [v] (truthy v))) : PT X a (tTru X.K ta) := pt_truth ha he
theorem w_tru {K : Frag} {te : TE} {R : Bool → Hp → Prop} (h : te σ H (truLeaf K R)) : tTru K te σ H R := h
theorem c_truL {K : Frag} {xs : List V} {R : Bool → Hp → Prop} (h : H a = some (.lst xs)) (q : R (!xs.isEmpty) H) : truLeaf K R (.ref a) H := ⟨!xs.isEmpty, .inl ⟨xs, SqL.of h, rfl⟩, q⟩
/-- bool(a list) -/
def rBoolL (K : Frag) : List V → Hp → VK → Prop := fun xs H Q => ∃ (a : Addr) (zs : List V), xs = [.ref a] ∧ SqL K H a zs ∧ Q (.bl (!zs.isEmpty)) H
end
section
open L2
end
/-! lists or tuples -/
section
open L2 PyProof.Rows
def SeqAt (H : Hp) (a : Addr) (xs : List V) : Prop := H a = some (.lst xs) ∨ H a = some (.tup xs)
theorem SeqAt.keep {H H' : Hp} {a : Addr} {xs : List V} (h : SeqAt H a xs) (s : ∀ o, H a = some o → H' a = some o) : SeqAt H' a xs := h.elim (fun h => .inl (s _ h)) fun h => .inr (s _ h)
def seqLeaf (K : Frag) (R : It → Hp → Prop) (x : V) (H1 : Hp) : Prop := Eg.lstLeaf K R x H1 ∨ Eg.tupLeaf K R x H1
def iSeq (K : Frag) (te : TE) : TI := fun σ H R => te σ H (seqLeaf K R)
def rIxA (K : Frag) : R2 := fun x y H Q => rIxL K x y H Q ∨ rIxT K x y H Q
variable {K : Frag} {σ : L2.St} {H : Hp} {Q : VK} {te : TE} {a : Addr} {xs : List V}
end
/-! v in own; xs[i:j] = ys -/
section
open L2 PyProof.Rows
variable {X : Cx} {CX : CXT} {k : Nat} {f : Addr} {fd : FuncData} {ps : List Str} {sp : Sp} {E : XK} {C : Addr}
def rOwnIn (C : Addr) (sp : Sp) (E : XK) : R2 := fun x y H Q => ∃ a dx fs, y = .ref a ∧ H a = some (.ins C dx fs) ∧ sp [y, x] H (fun v H' => ∃ b, v = .bl b ∧ Q (.bl b) H') E
/-- o[i:j] = v, v another list -/
def slcLeaf (v o i j : V) (R : Hp → Prop) (H : Hp) : Prop := ∃ (l b : Addr) (xs ys : List V) (a c : Int), o = .ref l ∧ v = .ref b ∧ i = .int a ∧ j = .int c ∧ H l = some (.lst xs) ∧ H b = some (.lst ys) ∧ l ≠ b ∧ 0 ≤ a ∧ a ≤ c ∧ c ≤ xs.length ∧ xs.length + ys.length ≤ sizeLine ∧ R (upd H l (.lst (xs.take a.toNat ++ ys ++ xs.drop c.toNat)))
def gSlc (to tl th : TE) : TG := fun v σ H R => to σ H fun o H1 => tl σ H1 fun i H2 => th σ H2 fun j H3 => slcLeaf v o i j (R σ) H3
end
end Po

/-! Co: o() and o(e, ..) of an own instance, inside a try too; C(e, ..) inside a try; defs whose last parameters have defaults. -/
namespace Co
open PySem PySem.Spec PyProof.Rows L2
/-- a def whose last parameters have the defaults dvs -/
structure FunP (K : PySem.W.Frag) (x qual : Str) (st : Stmt) (ps : List Str) (dvs : List V) (f : Addr) (fd : FuncData) : Prop where
  fD : FunD K x qual (defArgs st) (defBody st) (defScope st) dvs [] f fd
section
variable {P : Program} {w : World} {K : PySem.W.Frag} {mg : Str → Option Value} {base : Heap} {x qual : Str} {st : Stmt} {f : Addr} {fd : FuncData} {N ps qs : List Str} {k : Nat} {sp : Sp} {dvs : List V}
theorem FunP.ok (F : FunP K x qual st qs dvs f fd) (S : FnScope N ps (defScope st)) (len : ∀ vs H Q E, sp vs H Q E → vs.length = ps.length)
    (hbody : ∀ (cdv : Value) (A : Around) (outer : List Env) (s : Shared) (H : Hp) (vs : List V) (Q : VK) (E : XK), Room k (A.deeper (envOfC qual (defScope st) s.heap.objs.size f cdv)) → sp vs H Q E →
      ∃ t, PSs (cxOf CX0 P w K mg base N qual (defScope st) f cdv A outer s H E).nox (defBody st) t ∧ t { nx := fun _ H' => Q .non H', rt := Q } (start N vs) H) : FnOk P w K mg base CX0 (k + 1) f fd ps sp := by
  refine F.fD.ok S len fun cdv A outer s H vs Q E hr h => ?_
  obtain ⟨t, a, b⟩ := hbody cdv A outer s H vs Q E hr h
  exact ⟨t, a.nox, b⟩
theorem FunP.okX (F : FunP K x qual st qs dvs f fd) (S : FnScope N ps (defScope st)) (len : ∀ vs H Q E, sp vs H Q E → vs.length = ps.length)
    (hbody : ∀ (cdv : Value) (A : Around) (outer : List Env) (s : Shared) (H : Hp) (vs : List V) (Q : VK) (E : XK), Room k (A.deeper (envOfC qual (defScope st) s.heap.objs.size f cdv)) → sp vs H Q E →
      ∃ t, PSs (cxOf (L2.CX P w) P w K mg base N qual (defScope st) f cdv A outer s H E) (defBody st) t ∧ t { nx := fun _ H' => Q .non H', rt := Q } (start N vs) H) : FnOk P w K mg base (L2.CX P w) (k + 1) f fd ps sp := by
  exact F.fD.ok S len hbody
theorem FunP.kp (F : FunP K x qual st qs dvs f fd) : PySem.W.keepIn K (.ref f) = true := F.fD.kp
end
def callSLeaf (C : Addr) (sp : Sp) (E : L2.St → XK) (t : TA) (σ : L2.St) (Q : VK) (y : V) (H1 : Hp) : Prop := ∃ a, y = V.ref a ∧ t σ H1 fun vs H2 => (∃ dx fs, H2 a = some (.ins C dx fs)) ∧ sp (V.ref a :: vs) H2 Q (E σ)
def tCallOS (C : Addr) (sp : Sp) (E : L2.St → XK) (tf : TE) (t : TA) : TE := fun σ H Q => tf σ H (callSLeaf C sp E t σ Q)
def mkSLeaf (C : Addr) (sp : Sp) (E : XK) (Q : VK) (vs : List V) (H1 : Hp) : Prop := ∀ x dx, H1 x = Option.none → H1 dx = Option.none → dx ≠ x →
  sp (V.ref x :: vs) (upd (upd H1 dx (.own x)) x (.ins C dx [])) (fun v H2 => v = .non ∧ Q (.ref x) H2) E
def tMakeS (C : Addr) (sp : Sp) (E : L2.St → XK) (t : TA) : TE := fun σ H Q => t σ H (mkSLeaf C sp (E σ) Q)
section
variable {X : Cx} {CX : CXT} {k i : Nat} {f C g : Addr} {sp : Sp} {x : Str} {e fe : Expr} {es : List Expr} {tf : TE} {t : TA} {p pos : Pos}
/-- C(e, ..) inside a try -/
theorem pe_makeS {E : L2.St → XK} (M : Mk X.K C f) (F : FnR X.prog X.w X.K X.mg X.base CX k f sp) (hr : Room (k + 1) X.A) (hg : Gl X x) (hm : X.mg x = some (.ref C)) (hx : ∀ σ, PassesAt CX X σ (E σ)) (ha : PA X (e :: es) t) (hdb : (x == ("__debug__" : Str)) = false := by decide)
    (he : starEach (e :: es) X.env = (false, eval e X.env) :: starEach es X.env := by rfl) (hpl : (backTo pos (starEach es X.env)).any (·.1) = false := by rfl) : PE X (.Call (.Name x p) (e :: es) [] pos) (tMakeS C sp E t) := by
  refine ⟨fun pins s σ H Q I h => ?_⟩
  refine wpAny_Call_Name_kw (ld_glob I hg hm ?_ hdb)
  refine PySem.W.callWith_K (h₀ := X.base) I.ok.mod.kin M.kp (thn (ha.run pos pins s σ H _ I h) fun us s1 ⟨vs, H1, I1, r, q⟩ => ⟨I1.kIn, ?_⟩) he hpl
  have hq := q (s1.heap.objs.size + 1) s1.heap.objs.size (I1.hok.fresh (Nat.le_succ _)) (I1.hok.fresh (Nat.le_refl _)) (Nat.ne_of_lt (Nat.lt_succ_self _))
  have I2 := Inv.made (C := C) I1
  have r2 : Vals (V.ref (s1.heap.objs.size + 1) :: vs) (Value.ref (s1.heap.objs.size + 1) :: us) := .cons rfl r
  refine wpAny_call (make_map (f := f) I1.kIn M.makes M.init (beq_iff_eq.mp M.fn) (codeAny_mono (F _ X.stack _ _ (Value.ref (s1.heap.objs.size + 1) :: us) _ _ (E σ) (hr.make C us []) (I2.env0.make C us []) r2 hq) fun r s' hq' => ?_))
  cases r with
  | error e => exact hx σ pins _ _ e s' I2 hq'
  | ok fl =>
    cases fl with
    | ret u =>
      obtain ⟨v, H', I3, rv, ev, q3⟩ := I2.after hq'
      subst ev
      exact ⟨rv, ⟨V.ref (s1.heap.objs.size + 1), H', I3, rfl, q3⟩⟩
    | next => exact False.elim hq'
    | brk => exact False.elim hq'
    | cont => exact False.elim hq'
end
section
variable {K : PySem.W.Frag} {X : Cx} {σ : L2.St} {H : Hp} {Q : VK} {E : L2.St → XK} {sp : Sp} {C a dx : Addr} {fs : List (Str × V)} {tf : TE} {t : TA}
def callSArgs (C : Addr) (sp : Sp) (E : XK) (a : Addr) (Q : VK) (vs : List V) (H2 : Hp) : Prop := (∃ dx fs, H2 a = some (.ins C dx fs)) ∧ sp (V.ref a :: vs) H2 Q E
theorem w_makeS (h : t σ H (mkSLeaf C sp (E σ) Q)) : tMakeS C sp E t σ H Q := h
end
/-! a tuple that stands in the frozen part (a default value) where a list or a tuple is wanted -/
def Fz (K : PySem.W.Frag) (a : Addr) (xs : List V) : Prop := ∀ H, SqT K H a xs
section
variable {K : PySem.W.Frag} {σ : L2.St} {H : Hp} {Q : VK} {a : Addr} {xs : List V}
end
end Co

/-! Pg: x not in a tuple, of data. -/
namespace Pg
open PySem PySem.Spec PyProof.Rows L2
def rNotInT (K : PySem.W.Frag) : R2 := fun x y H Q => ∃ d ds, Dp K H x d ∧ Dp K H y (.tuple ds) ∧ SeqAt.shaped d = true ∧ SeqAt.shaped (.tuple ds) = true ∧ Q (.bl (!ds.any fun z => PyData.eqv z d)) H
theorem op_notInT {X : Cx} (hu : X.A.units + 65 < cLine) : OpR X (compareOp .NotIn) (rNotInT X.K) := by
  intro pins s σ H x y v u Q I rx ry h
  obtain ⟨d, ds, hd, he, sd, se, q⟩ := h
  obtain ⟨as, r1⟩ := Dp.reads I d x v hd rx
  obtain ⟨bs, r2⟩ := Dp.reads I (.tuple ds) y u he ry
  exact SeqAt.notIn_tuple_reads r2 r1 (SeqAt.canLay_of_shaped se) (SeqAt.canLay_of_shaped sd) (room_in_shaped sd hu) ⟨.bl _, H, I, rfl, q⟩
end Pg

local macro_rules | `(tactic| walk_at "blk") => `(tactic| first | exact rfl | dsimp only [L2.cxOf, L2.Cx.nox, L2.Cx.wish, L2.Cx.blk])
local macro_rules | `(tactic| walk_at "hp") => `(tactic| first
  | assumption
  | exact L2.upd_same
  | (refine Eg.upd_old ?_ (by assumption); walk_at "hp")
  | (refine Eg.upd_mut (by first | assumption | exact Ne.symm (by assumption)) ?_; walk_at "hp")
  | (refine Eg.frame_at (by assumption) (by first | assumption | exact Ne.symm (by assumption)) ?_; walk_at "hp")
  | ((refine (show L2.Same _ _ by assumption) _ _ ?_); walk_at "hp"))
local macro_rules | `(tactic| walk_at "sq") => `(tactic| first
  | assumption
  | exact L2.SqL.of (by walk_at "hp")
  | exact L2.SqT.of (by walk_at "hp"))
local macro_rules | `(tactic| walk_at "g0") => `(tactic| first
  | with_reducible refine Eg.w_seq ?_
  | (with_reducible show L2.Ends.nx _ _ _; with_reducible refine Eg.w_nx ?_)
  | with_reducible refine Eg.w_asg ?_
  | with_reducible refine Eg.w_gN ?_
  | with_reducible refine Eg.w_op ?_
  | with_reducible refine Eg.w_c ?_
  | ((with_reducible refine' Eg.w_var ?hv ?_); (case hv => exact rfl))
  | with_reducible refine Eg.w_cons ?_
  | with_reducible refine Eg.w_nil ?_
  | with_reducible refine Eg.w_rI0 ?_
  | ((with_reducible refine' Eg.w_rI ?hc ?_); (case hc => walk_at "cond"))
  | with_reducible refine Eg.w_rU ?_
  | with_reducible refine Eg.w_un ?_
  | ((with_reducible refine' Eg.w_ixL ?hs ?hv ?_); (case hs => walk_at "sq"); (case hv => walk_at "at"))
  | ((with_reducible refine' Eg.w_ixT ?hs ?hv ?_); (case hs => walk_at "sq"); (case hv => walk_at "at"))
  | with_reducible refine Eg.w_cb ?_
  | with_reducible refine Eg.w_call ?_
  | with_reducible refine Eg.w_ifS ?_
  | with_reducible refine Eg.w_test ?_
  | with_reducible refine Eg.w_B ?_
  | with_reducible refine Eg.w_bl ?_
  | with_reducible refine Eg.w_bl' ?_
  | with_reducible refine Eg.w_ret ?_
  | (with_reducible show L2.Ends.rt _ _ _; with_reducible refine Eg.w_rt ?_)
  | with_reducible refine Eg.w_next ?_
  | with_reducible refine Eg.w_drop ?_
  | with_reducible refine Eg.w_gSub ?_
  | ((with_reducible refine' Eg.w_setL ?hs ?hv ?_); (case hs => walk_at "hp"); (case hv => exact rfl))
  | with_reducible refine Eg.c_int ?_
  | with_reducible refine Eg.c_abs ?_
  | with_reducible refine Eg.c_min2 ?_
  | with_reducible refine Eg.c_max2 ?_
  | with_reducible refine Eg.c_isN ?_
  | with_reducible refine Eg.c_notN ?_
  | ((with_reducible refine' Eg.c_len ?hs ?_); (case hs => walk_at "sq"))
  | with_reducible refine Eg.w_dget ?_
  | with_reducible refine Eg.w_din ?_
  | with_reducible refine Eg.w_dnin ?_
  | with_reducible refine Eg.w_dput ?_
  | with_reducible refine Eg.w_dnewT ?_
  | with_reducible refine Eg.w_dnewK ?_
  | with_reducible refine Eg.w_iK ?_
  | ((with_reducible refine' Eg.w_eq ?hs ?_); (case hs => rfl))
  | ((with_reducible refine' Eg.w_ne ?hs ?_); (case hs => rfl))
  | with_reducible refine Es.w_ifSS ?_
  | with_reducible refine Eg.w_if ?_
  | with_reducible refine Eg.w_not ?_
  | with_reducible refine Eg.w_andV ?_
  | with_reducible refine Eg.w_orV ?_
  | with_reducible refine Eg.w_notV ?_
  | with_reducible refine Eg.w_chain ?_
  | with_reducible refine Eg.w_tup ?_
  | with_reducible refine Eg.w_lst ?_
  | ((with_reducible refine' Eg.w_sz ?hs ?_); (case hs => first | decide | (simp only [List.length_cons, List.length_nil]; omega)))
  | with_reducible refine Eg.w_bm ?_
  | with_reducible refine Eg.w_bm0 ?_
  | ((with_reducible refine' Eg.w_tyl ?hs ?_); (case hs => walk_at "sq"))
  | ((with_reducible refine' Eg.w_append ?hs ?hz ?_); (case hs => walk_at "hp"); (case hz => walk_at "size"))
  | with_reducible refine Eg.w_fld ?_
  | ((with_reducible refine' Eg.c_fld ?hs ?hc ?hn ?hl ?_); (case hs => walk_at "hp"); (case hc => assumption); (case hn => assumption); (case hl => walk_at "lk"))
  | with_reducible refine Eg.w_sl ?_
  | with_reducible refine Eg.w_sfld ?_
  | ((with_reducible refine' Eg.c_sfld ?hs ?hc ?hn ?hl ?_); (case hs => walk_at "hp"); (case hc => assumption); (case hn => assumption); (case hl => walk_at "few"))
  | with_reducible refine Eg.w_meth ?_
  | ((with_reducible refine' Eg.c_meth ?hs ?hl ?_); (case hs => walk_at "hp"); (case hl => walk_at "lk"))
  | with_reducible refine Eg.w_make ?_
  | with_reducible refine Eg.w_nopart ?_
  | with_reducible refine Eg.w_part ?_
  | with_reducible refine Eg.c_part ?_
  | ((with_reducible refine' Eg.w_gTup ?hs ?hn ?_); (case hs => walk_at "sq"); (case hn => exact rfl))
  | with_reducible refine Eg.w_gCons ?_
  | with_reducible refine Eg.w_gNil ?_
  | with_reducible refine Eg.w_for ?_
  | with_reducible refine Eg.w_iL ?_
  | with_reducible refine Eg.w_iR1 ?_
  | with_reducible refine Eg.w_iR2 ?_
  | ((with_reducible refine' Eg.c_iR2 ?hs ?_); (case hs => first | decide | (refine ⟨?_, ?_, ?_, ?_⟩ <;> omega)))
  | with_reducible refine Eg.w_iT ?_
  | ((with_reducible refine' Eg.c_iT ?hs ?_); (case hs => walk_at "sq"))
  | with_reducible refine Eg.w_iZ ?_
  | ((with_reducible refine' Eg.c_iZ ?hs ?hz ?_); (case hs => walk_at "sq"); (case hz => walk_at "sq"))
  | with_reducible refine Eg.w_lc ?_
  | with_reducible refine Eg.w_yes ?_
  | with_reducible refine Eg.w_par ?_
  | with_reducible refine Eg.c_par ?_
  | ((with_reducible show DTx.tDt _ _ _ _ _ _ _ _ _); unfold DTx.tDt)
  | ((with_reducible refine' Eg.w_wipe ?hs ?_); (case hs => exact rfl))
  | with_reducible refine L2.iteT ?_
  | with_reducible refine L2.iteF ?_
  | ((with_reducible show ∃ acc, _ = some (L2.HO.lst acc) ∧ acc.length < PySem.sizeLine ∧ _); (refine' ⟨_, ?hs, Nat.lt_of_lt_of_le (m := 100000) ?hz (by decide), ?_⟩); (case hs => walk_at "hp"); (case hz => walk_at "size"))
  | ((with_reducible refine' Eg.c_iR1 ?hs ?hz ?_); (case hs => first | decide | omega); (case hz => first | decide | omega))
  | ((with_reducible refine' Eg.c_iL ?hs ?_); (case hs => walk_at "sq"))
  | with_reducible refine Eg.w_disp1 ?_
  | ((with_reducible refine' Eg.c_dispI ?hs ?_); (case hs => walk_at "hp"))
  | with_reducible refine Eg.w_retN ?_
  | with_reducible refine Eg.w_brk ?_
  | with_reducible refine Eg.w_cont ?_
  | with_reducible refine Es.js_cons ?_
  | with_reducible refine Es.js_nil ?_
  | ((with_reducible refine' Es.js_leaf ?hz ?_); (case hz => walk_at "len"))
  | with_reducible refine Es.w_fmt ?_
  | ((with_reducible refine' Es.fm_str ?hz ?_); (case hz => walk_at "len"))
  | ((with_reducible refine' Es.fm_int ?hz ?_); (case hz => exact Fs.log_small (by first | assumption | omega)))
  | with_reducible refine Es.w_fmtD ?_
  | with_reducible refine Es.w_join ?_
  | ((with_reducible refine' Es.c_addS ?hz ?_); (case hz => walk_at "len"))
  | ((with_reducible refine' Es.c_strI ?hz ?_); (case hz => exact Fs.log_small (by first | assumption | omega)))
  | (with_reducible show L2.Ends.bk _ _ _; with_reducible refine Eg.w_bk ?_)
  | (with_reducible show L2.Ends.ct _ _ _; with_reducible refine Eg.w_ct ?_))
local macro_rules | `(tactic| walk_at "g2") => `(tactic| first
  | with_reducible refine Eg.w_seq ?_
  | (with_reducible show L2.Ends.nx _ _ _; with_reducible refine Eg.w_nx ?_)
  | with_reducible refine Eg.w_asg ?_
  | with_reducible refine Eg.w_gN ?_
  | with_reducible refine Eg.w_op ?_
  | with_reducible refine Eg.w_c ?_
  | ((with_reducible refine' Eg.w_var ?hv ?_); (case hv => exact rfl))
  | with_reducible refine Eg.w_cons ?_
  | with_reducible refine Eg.w_nil ?_
  | with_reducible refine Eg.w_rI0 ?_
  | ((with_reducible refine' Eg.w_rI ?hc ?_); (case hc => walk_at "cond"))
  | with_reducible refine Eg.w_rU ?_
  | with_reducible refine Eg.w_un ?_
  | ((with_reducible refine' Eg.w_ixL ?hs ?hv ?_); (case hs => walk_at "sq"); (case hv => walk_at "at"))
  | ((with_reducible refine' Eg.w_ixT ?hs ?hv ?_); (case hs => walk_at "sq"); (case hv => walk_at "at"))
  | with_reducible refine Eg.w_cb ?_
  | with_reducible refine Eg.w_call ?_
  | with_reducible refine Eg.w_ifS ?_
  | with_reducible refine Eg.w_test ?_
  | with_reducible refine Eg.w_B ?_
  | with_reducible refine Eg.w_bl ?_
  | with_reducible refine Eg.w_bl' ?_
  | with_reducible refine Eg.w_ret ?_
  | (with_reducible show L2.Ends.rt _ _ _; with_reducible refine Eg.w_rt ?_)
  | with_reducible refine Eg.w_next ?_
  | with_reducible refine Eg.w_drop ?_
  | with_reducible refine Eg.w_gSub ?_
  | ((with_reducible refine' Eg.w_setL ?hs ?hv ?_); (case hs => walk_at "hp"); (case hv => exact rfl))
  | with_reducible refine Eg.c_int ?_
  | with_reducible refine Eg.c_abs ?_
  | with_reducible refine Eg.c_min2 ?_
  | with_reducible refine Eg.c_max2 ?_
  | with_reducible refine Eg.c_isN ?_
  | with_reducible refine Eg.c_notN ?_
  | ((with_reducible refine' Eg.c_len ?hs ?_); (case hs => walk_at "sq"))
  | with_reducible refine Eg.w_dget ?_
  | with_reducible refine Eg.w_din ?_
  | with_reducible refine Eg.w_dnin ?_
  | with_reducible refine Eg.w_dput ?_
  | with_reducible refine Eg.w_dnewT ?_
  | with_reducible refine Eg.w_dnewK ?_
  | with_reducible refine Eg.w_iK ?_
  | ((with_reducible refine' Eg.w_eq ?hs ?_); (case hs => rfl))
  | ((with_reducible refine' Eg.w_ne ?hs ?_); (case hs => rfl))
  | with_reducible refine Es.w_ifSS ?_
  | with_reducible refine Eg.w_if ?_
  | with_reducible refine Eg.w_not ?_
  | with_reducible refine Eg.w_andV ?_
  | with_reducible refine Eg.w_orV ?_
  | with_reducible refine Eg.w_notV ?_
  | with_reducible refine Eg.w_chain ?_
  | with_reducible refine Eg.w_tup ?_
  | with_reducible refine Eg.w_lst ?_
  | ((with_reducible refine' Eg.w_sz ?hs ?_); (case hs => first | decide | (simp only [List.length_cons, List.length_nil]; omega)))
  | with_reducible refine Eg.w_bm ?_
  | with_reducible refine Eg.w_bm0 ?_
  | ((with_reducible refine' Eg.w_tyl ?hs ?_); (case hs => walk_at "sq"))
  | ((with_reducible refine' Eg.w_append ?hs ?hz ?_); (case hs => walk_at "hp"); (case hz => walk_at "size"))
  | with_reducible refine Eg.w_fld ?_
  | ((with_reducible refine' Eg.c_fld ?hs ?hc ?hn ?hl ?_); (case hs => walk_at "hp"); (case hc => assumption); (case hn => assumption); (case hl => walk_at "lk"))
  | with_reducible refine Eg.w_sl ?_
  | with_reducible refine Eg.w_sfld ?_
  | ((with_reducible refine' Eg.c_sfld ?hs ?hc ?hn ?hl ?_); (case hs => walk_at "hp"); (case hc => assumption); (case hn => assumption); (case hl => walk_at "few"))
  | with_reducible refine Eg.w_meth ?_
  | ((with_reducible refine' Eg.c_meth ?hs ?hl ?_); (case hs => walk_at "hp"); (case hl => walk_at "lk"))
  | with_reducible refine Eg.w_make ?_
  | with_reducible refine Eg.w_nopart ?_
  | with_reducible refine Eg.w_part ?_
  | with_reducible refine Eg.c_part ?_
  | ((with_reducible refine' Eg.w_gTup ?hs ?hn ?_); (case hs => walk_at "sq"); (case hn => exact rfl))
  | with_reducible refine Eg.w_gCons ?_
  | with_reducible refine Eg.w_gNil ?_
  | with_reducible refine Eg.w_for ?_
  | with_reducible refine Eg.w_iL ?_
  | with_reducible refine Eg.w_iR1 ?_
  | with_reducible refine Eg.w_iR2 ?_
  | ((with_reducible refine' Eg.c_iR2 ?hs ?_); (case hs => first | decide | (refine ⟨?_, ?_, ?_, ?_⟩ <;> omega)))
  | with_reducible refine Eg.w_iT ?_
  | ((with_reducible refine' Eg.c_iT ?hs ?_); (case hs => walk_at "sq"))
  | with_reducible refine Eg.w_iZ ?_
  | ((with_reducible refine' Eg.c_iZ ?hs ?hz ?_); (case hs => walk_at "sq"); (case hz => walk_at "sq"))
  | with_reducible refine Eg.w_yes ?_
  | with_reducible refine Eg.w_par ?_
  | with_reducible refine Eg.c_par ?_
  | ((with_reducible show DTx.tDt _ _ _ _ _ _ _ _ _); unfold DTx.tDt)
  | ((with_reducible refine' Eg.w_wipe ?hs ?_); (case hs => exact rfl))
  | with_reducible refine L2.iteT ?_
  | with_reducible refine L2.iteF ?_
  | ((with_reducible show ∃ acc, _ = some (L2.HO.lst acc) ∧ acc.length < PySem.sizeLine ∧ _); (refine' ⟨_, ?hs, Nat.lt_of_lt_of_le (m := 100000) ?hz (by decide), ?_⟩); (case hs => walk_at "hp"); (case hz => walk_at "size"))
  | ((with_reducible refine' Eg.c_iR1 ?hs ?hz ?_); (case hs => first | decide | omega); (case hz => first | decide | omega))
  | ((with_reducible refine' Eg.c_iL ?hs ?_); (case hs => walk_at "sq"))
  | with_reducible refine Eg.w_disp1 ?_
  | ((with_reducible refine' Eg.c_dispI ?hs ?_); (case hs => walk_at "hp"))
  | with_reducible refine Eg.w_retN ?_
  | with_reducible refine Eg.w_brk ?_
  | with_reducible refine Eg.w_cont ?_
  | with_reducible refine Es.js_cons ?_
  | with_reducible refine Es.js_nil ?_
  | ((with_reducible refine' Es.js_leaf ?hz ?_); (case hz => walk_at "len"))
  | with_reducible refine Es.w_fmt ?_
  | ((with_reducible refine' Es.fm_str ?hz ?_); (case hz => walk_at "len"))
  | ((with_reducible refine' Es.fm_int ?hz ?_); (case hz => exact Fs.log_small (by first | assumption | omega)))
  | with_reducible refine Es.w_fmtD ?_
  | with_reducible refine Es.w_join ?_
  | ((with_reducible refine' Es.c_addS ?hz ?_); (case hz => walk_at "len"))
  | ((with_reducible refine' Es.c_strI ?hz ?_); (case hz => exact Fs.log_small (by first | assumption | omega)))
  | (with_reducible show L2.Ends.bk _ _ _; with_reducible refine Eg.w_bk ?_)
  | (with_reducible show L2.Ends.ct _ _ _; with_reducible refine Eg.w_ct ?_))
local macro_rules | `(tactic| walk_at "at") => `(tactic| first | exact rfl | assumption)
local macro_rules | `(tactic| walk_at "size") => `(tactic| first | decide | omega | (simp only [List.length_append, List.length_map, List.length_cons, List.length_nil]; omega))
local macro_rules | `(tactic| walk_at "cond") => `(tactic| first | assumption | decide | exact ⟨by decide, by decide⟩ | exact .inl ⟨by omega, by omega⟩ | exact .inr ⟨by omega, by omega⟩ | exact ⟨by omega, by omega⟩ | exact ⟨by omega, by omega, by omega⟩ | (show (0 : Int) < _; omega))
local macro_rules | `(tactic| walk_at "g1") => `(tactic| first | walk_at "g0" | with_reducible refine Eg.w_and ?_ | with_reducible refine Eg.w_or ?_)
local macro_rules | `(tactic| walk_at "go") => `(tactic| repeat walk_at "g1")
local macro_rules | `(tactic| walk_at "gp") => `(tactic| repeat walk_at "g0")
local macro_rules | `(tactic| walk_at "lk") => `(tactic| first | assumption | exact rfl | decide +kernel)
local macro_rules | `(tactic| walk_at "few") => `(tactic| first | decide | exact (show 1 < 1000 by decide) | exact (show 2 < 1000 by decide) | exact (show 3 < 1000 by decide) | exact (show 4 < 1000 by decide) | exact (show 5 < 1000 by decide))
local macro_rules | `(tactic| walk_at "g3") => `(tactic| first | walk_at "g2" | with_reducible refine Eg.w_and ?_ | with_reducible refine Eg.w_or ?_)
local macro_rules | `(tactic| walk_at "gw") => `(tactic| repeat walk_at "g3")
local macro_rules | `(tactic| walk_at "len") => `(tactic| first | assumption | (simp only [PySem.strLen_append, PySem.sizeLine_eq, Fs.sp1, Fs.sp3, Fs.emp0, Fs.sg1, Fs.tI]; omega))

local macro_rules | `(tactic| walk_at "tx") => `(tactic| first
  | ((with_reducible refine' Tw.c_lenS ?hz ?_); (case hz => first | assumption | omega))
  | with_reducible refine Tw.c_ord ?_
  | with_reducible refine Tw.c_leS ?_
  | with_reducible refine Tw.c_leA ?_
  | with_reducible refine Tw.c_leZ ?_
  | with_reducible refine Tw.c_inDig ?_
  | with_reducible refine Tw.c_notInBr ?_
  | with_reducible refine Tw.c_inS ?_
  | with_reducible refine Tw.c_notInS ?_
  | ((with_reducible refine' Tw.c_rs ?hz ?_); (case hz => first | assumption | omega))
  | with_reducible refine Tw.w_iStr ?_
  | with_reducible refine Tw.w_tyS ?_
  | with_reducible refine Tw.c_iStr ?_
  | ((with_reducible refine' Tw.c_addSS ?hz ?_); (case hz => first | assumption | omega | (simp only [List.length_append, List.length_cons, List.length_nil]; omega)))
  | ((with_reducible refine' Tw.c_neE ?hs ?hn ?_); (case hs => walk_at "hp"); (case hn => walk_at "hp"))
  | ((with_reducible refine' Tw.c_eqE ?hs ?hn ?_); (case hs => walk_at "hp"); (case hn => walk_at "hp"))
  | with_reducible refine Tw.br_nt ?_
  | with_reducible refine Tw.br_nf ?_
  | ((with_reducible refine' Tw.isi_str ?hz ?_); (case hz => exact rfl)))
local macro_rules | `(tactic| walk_at "at") => `(tactic| first | exact Tx.atI_hd | exact Tx.atI_hd1 | exact Tx.atI_last (by assumption))
local macro_rules | `(tactic| walk_at "g0") => `(tactic| walk_at "tx")
local macro_rules | `(tactic| walk_at "g2") => `(tactic| walk_at "tx")

section
namespace LW
open PySem L2 SX Tx
structure Ad where
  a_is_name : Addr
  d_is_name : FuncData
  a_is_literal : Addr
  d_is_literal : FuncData
  a_is_numeral : Addr
  d_is_numeral : FuncData
  a_Reader_init : Addr
  d_Reader_init : FuncData
  a_Reader_kind_of : Addr
  d_Reader_kind_of : FuncData
  a_Reader_declare : Addr
  d_Reader_declare : FuncData
  a_Reader_is_local : Addr
  d_Reader_is_local : FuncData
  a_Reader_grow : Addr
  d_Reader_grow : FuncData
  a_Reader_accept : Addr
  d_Reader_accept : FuncData
  a_Reader_accept_manner : Addr
  d_Reader_accept_manner : FuncData
  a_Reader_declare_all : Addr
  d_Reader_declare_all : FuncData
  a_Reader_accept_block : Addr
  d_Reader_accept_block : FuncData
  a_Reader_open_block : Addr
  d_Reader_open_block : FuncData
  a_Reader_accept_each : Addr
  d_Reader_accept_each : FuncData
  a_Reader_accept_other : Addr
  d_Reader_accept_other : FuncData
  a_Reader_accept_writing : Addr
  d_Reader_accept_writing : FuncData
  a_Reader_is_value : Addr
  d_Reader_is_value : FuncData
  a_Reader_accept_bind : Addr
  d_Reader_accept_bind : FuncData
  a_Reader_accept_add : Addr
  d_Reader_accept_add : FuncData
  a_Program_init : Addr
  d_Program_init : FuncData
  a_BadProgram_init : Addr
  d_BadProgram_init : FuncData
  a_l_bag : Addr
  d_l_bag : FuncData
  a_l_take : Addr
  d_l_take : FuncData
  a_l_names : Addr
  d_l_names : FuncData
  a_l_at : Addr
  d_l_at : FuncData
  a_l_kind : Addr
  d_l_kind : FuncData
  a_l_line : Addr
  d_l_line : FuncData
  a_l_right : Addr
  d_l_right : FuncData
  a_l_step : Addr
  d_l_step : FuncData
  a_law : Addr
  d_law : FuncData
  c_Reader : Addr
  c_Program : Addr
  c_OwnholesError : Addr
  c_BadProgram : Addr
structure Txt (K : PySem.W.Frag) (mg : Str → Option Value) (Z : Ad) : Prop where
  F_is_name : Fun K "is_name" "is_name" s_is_name Z.a_is_name Z.d_is_name
  b_is_name : Binds K Z.d_is_name ["part"] []
  g_is_name : mg "is_name" = some (.ref Z.a_is_name)
  F_is_literal : Fun K "is_literal" "is_literal" s_is_literal Z.a_is_literal Z.d_is_literal
  b_is_literal : Binds K Z.d_is_literal ["part"] []
  g_is_literal : mg "is_literal" = some (.ref Z.a_is_literal)
  F_is_numeral : Fun K "is_numeral" "is_numeral" s_is_numeral Z.a_is_numeral Z.d_is_numeral
  b_is_numeral : Binds K Z.d_is_numeral ["part"] []
  g_is_numeral : mg "is_numeral" = some (.ref Z.a_is_numeral)
  F_Reader_init : Fun K "__init__" "Reader.__init__" s_Reader_init Z.a_Reader_init Z.d_Reader_init
  b_Reader_init : Binds K Z.d_Reader_init ["self"] []
  m_Reader_init : Meth K Z.c_Reader "__init__" Z.a_Reader_init
  F_Reader_kind_of : Fun K "kind_of" "Reader.kind_of" s_Reader_kind_of Z.a_Reader_kind_of Z.d_Reader_kind_of
  b_Reader_kind_of : Binds K Z.d_Reader_kind_of ["self", "name"] []
  m_Reader_kind_of : Meth K Z.c_Reader "kind_of" Z.a_Reader_kind_of
  F_Reader_declare : Fun K "declare" "Reader.declare" s_Reader_declare Z.a_Reader_declare Z.d_Reader_declare
  b_Reader_declare : Binds K Z.d_Reader_declare ["self", "name", "kind"] []
  m_Reader_declare : Meth K Z.c_Reader "declare" Z.a_Reader_declare
  F_Reader_is_local : Fun K "is_local" "Reader.is_local" s_Reader_is_local Z.a_Reader_is_local Z.d_Reader_is_local
  b_Reader_is_local : Binds K Z.d_Reader_is_local ["self", "name"] []
  m_Reader_is_local : Meth K Z.c_Reader "is_local" Z.a_Reader_is_local
  F_Reader_grow : Co.FunP K "grow" "Reader.grow" s_Reader_grow ["self", "name", "many"] [.int 1] Z.a_Reader_grow Z.d_Reader_grow
  bp_Reader_grow_1 : ∃ ds, Vals [.int 1] ds ∧ Binds K Z.d_Reader_grow ["self", "name", "many"] ds
  bp_Reader_grow_2 : ∃ ds, Vals [] ds ∧ Binds K Z.d_Reader_grow ["self", "name", "many"] ds
  m_Reader_grow : Meth K Z.c_Reader "grow" Z.a_Reader_grow
  F_Reader_accept : Fun K "accept" "Reader.accept" s_Reader_accept Z.a_Reader_accept Z.d_Reader_accept
  b_Reader_accept : Binds K Z.d_Reader_accept ["self", "at", "parts"] []
  m_Reader_accept : Meth K Z.c_Reader "accept" Z.a_Reader_accept
  F_Reader_accept_manner : Fun K "accept_manner" "Reader.accept_manner" s_Reader_accept_manner Z.a_Reader_accept_manner Z.d_Reader_accept_manner
  b_Reader_accept_manner : Binds K Z.d_Reader_accept_manner ["self", "parts"] []
  m_Reader_accept_manner : Meth K Z.c_Reader "accept_manner" Z.a_Reader_accept_manner
  F_Reader_declare_all : Fun K "declare_all" "Reader.declare_all" s_Reader_declare_all Z.a_Reader_declare_all Z.d_Reader_declare_all
  b_Reader_declare_all : Binds K Z.d_Reader_declare_all ["self", "names", "kind"] []
  m_Reader_declare_all : Meth K Z.c_Reader "declare_all" Z.a_Reader_declare_all
  F_Reader_accept_block : Fun K "accept_block" "Reader.accept_block" s_Reader_accept_block Z.a_Reader_accept_block Z.d_Reader_accept_block
  b_Reader_accept_block : Binds K Z.d_Reader_accept_block ["self", "at", "parts"] []
  m_Reader_accept_block : Meth K Z.c_Reader "accept_block" Z.a_Reader_accept_block
  F_Reader_open_block : Fun K "open_block" "Reader.open_block" s_Reader_open_block Z.a_Reader_open_block Z.d_Reader_open_block
  b_Reader_open_block : Binds K Z.d_Reader_open_block ["self", "at", "kind"] []
  m_Reader_open_block : Meth K Z.c_Reader "open_block" Z.a_Reader_open_block
  F_Reader_accept_each : Fun K "accept_each" "Reader.accept_each" s_Reader_accept_each Z.a_Reader_accept_each Z.d_Reader_accept_each
  b_Reader_accept_each : Binds K Z.d_Reader_accept_each ["self", "at", "parts"] []
  m_Reader_accept_each : Meth K Z.c_Reader "accept_each" Z.a_Reader_accept_each
  F_Reader_accept_other : Fun K "accept_other" "Reader.accept_other" s_Reader_accept_other Z.a_Reader_accept_other Z.d_Reader_accept_other
  b_Reader_accept_other : Binds K Z.d_Reader_accept_other ["self", "parts"] []
  m_Reader_accept_other : Meth K Z.c_Reader "accept_other" Z.a_Reader_accept_other
  F_Reader_accept_writing : Fun K "accept_writing" "Reader.accept_writing" s_Reader_accept_writing Z.a_Reader_accept_writing Z.d_Reader_accept_writing
  b_Reader_accept_writing : Binds K Z.d_Reader_accept_writing ["self", "parts"] []
  m_Reader_accept_writing : Meth K Z.c_Reader "accept_writing" Z.a_Reader_accept_writing
  F_Reader_is_value : Fun K "is_value" "Reader.is_value" s_Reader_is_value Z.a_Reader_is_value Z.d_Reader_is_value
  b_Reader_is_value : Binds K Z.d_Reader_is_value ["self", "name"] []
  m_Reader_is_value : Meth K Z.c_Reader "is_value" Z.a_Reader_is_value
  F_Reader_accept_bind : Fun K "accept_bind" "Reader.accept_bind" s_Reader_accept_bind Z.a_Reader_accept_bind Z.d_Reader_accept_bind
  b_Reader_accept_bind : Binds K Z.d_Reader_accept_bind ["self", "parts"] []
  m_Reader_accept_bind : Meth K Z.c_Reader "accept_bind" Z.a_Reader_accept_bind
  F_Reader_accept_add : Fun K "accept_add" "Reader.accept_add" s_Reader_accept_add Z.a_Reader_accept_add Z.d_Reader_accept_add
  b_Reader_accept_add : Binds K Z.d_Reader_accept_add ["self", "kind", "parts"] []
  m_Reader_accept_add : Meth K Z.c_Reader "accept_add" Z.a_Reader_accept_add
  F_Program_init : Fun K "__init__" "Program.__init__" s_Program_init Z.a_Program_init Z.d_Program_init
  b_Program_init : Binds K Z.d_Program_init ["self", "text"] []
  m_Program_init : Meth K Z.c_Program "__init__" Z.a_Program_init
  F_BadProgram_init : Fun K "__init__" "BadProgram.__init__" s_BadProgram_init Z.a_BadProgram_init Z.d_BadProgram_init
  b_BadProgram_init : Binds K Z.d_BadProgram_init ["self", "at"] []
  F_l_bag : Fun K "_law_bag" "_law_bag" s_l_bag Z.a_l_bag Z.d_l_bag
  b_l_bag : Binds K Z.d_l_bag ["_law_script", "_law_k"] []
  g_l_bag : mg "_law_bag" = some (.ref Z.a_l_bag)
  F_l_take : Fun K "_law_take" "_law_take" s_l_take Z.a_l_take Z.d_l_take
  b_l_take : Binds K Z.d_l_take ["_law_bag_here", "_law_many"] []
  g_l_take : mg "_law_take" = some (.ref Z.a_l_take)
  F_l_names : Fun K "_law_names" "_law_names" s_l_names Z.a_l_names Z.d_l_names
  b_l_names : Binds K Z.d_l_names ["_law_bag_here", "_law_many"] []
  g_l_names : mg "_law_names" = some (.ref Z.a_l_names)
  F_l_at : Fun K "_law_at" "_law_at" s_l_at Z.a_l_at Z.d_l_at
  b_l_at : Binds K Z.d_l_at ["_law_text"] []
  g_l_at : mg "_law_at" = some (.ref Z.a_l_at)
  F_l_kind : Fun K "_law_kind" "_law_kind" s_l_kind Z.a_l_kind Z.d_l_kind
  b_l_kind : Binds K Z.d_l_kind ["_law_scopes", "_law_name"] []
  g_l_kind : mg "_law_kind" = some (.ref Z.a_l_kind)
  F_l_line : Fun K "_law_line" "_law_line" s_l_line Z.a_l_line Z.d_l_line
  b_l_line : Binds K Z.d_l_line ["_law_bag_here", "_law_names_here", "_law_blocks"] []
  g_l_line : mg "_law_line" = some (.ref Z.a_l_line)
  F_l_right : Fun K "_law_right" "_law_right" s_l_right Z.a_l_right Z.d_l_right
  b_l_right : Binds K Z.d_l_right ["_law_scopes", "_law_parts"] []
  g_l_right : mg "_law_right" = some (.ref Z.a_l_right)
  F_l_step : Fun K "_law_step" "_law_step" s_l_step Z.a_l_step Z.d_l_step
  b_l_step : Binds K Z.d_l_step ["_law_scopes", "_law_blocks", "_law_parts"] []
  g_l_step : mg "_law_step" = some (.ref Z.a_l_step)
  F_law : Fun K "law" "law" s_law Z.a_law Z.d_law
  b_law : Binds K Z.d_law ["_law_script"] []
  g_law : mg "law" = some (.ref Z.a_law)
  cl_Reader : Cls K Z.c_Reader
  g_Reader : mg "Reader" = some (.ref Z.c_Reader)
  mk_Reader : Mk K Z.c_Reader Z.a_Reader_init
  n_Reader_manner : NoAttr K Z.c_Reader "manner"
  n_Reader_options : NoAttr K Z.c_Reader "options"
  n_Reader_lists : NoAttr K Z.c_Reader "lists"
  n_Reader_stage : NoAttr K Z.c_Reader "stage"
  n_Reader_scopes : NoAttr K Z.c_Reader "scopes"
  n_Reader_blocks : NoAttr K Z.c_Reader "blocks"
  n_Reader_jumps : NoAttr K Z.c_Reader "jumps"
  n_Reader_loop : NoAttr K Z.c_Reader "loop"
  n_Reader_adds : NoAttr K Z.c_Reader "adds"
  n_Reader_shifts : NoAttr K Z.c_Reader "shifts"
  n_Reader_sizes : NoAttr K Z.c_Reader "sizes"
  n_Reader_size : NoAttr K Z.c_Reader "size"
  cl_Program : Cls K Z.c_Program
  g_Program : mg "Program" = some (.ref Z.c_Program)
  mk_Program : Mk K Z.c_Program Z.a_Program_init
  cr_Program : ClX.CRead K Z.c_Program (.type "type")
  n_Program_manner : NoAttr K Z.c_Program "manner"
  n_Program_options : NoAttr K Z.c_Program "options"
  n_Program_lists : NoAttr K Z.c_Program "lists"
  n_Program_lines : NoAttr K Z.c_Program "lines"
  n_Program_size : NoAttr K Z.c_Program "size"
  n_Program_rows : NoAttr K Z.c_Program "rows"
  n_Program_jumps : NoAttr K Z.c_Program "jumps"
  v_Program_LINES : ∃ u : Value, ClX.CVal K Z.c_Program (.type "type") "LINES" (.int 60) u
  g_OwnholesError : mg "OwnholesError" = some (.ref Z.c_OwnholesError)
  xn_OwnholesError : Ex.XN K Z.c_OwnholesError
  s_OwnholesError_OwnholesError : PySem.W.subIn K (.ref Z.c_OwnholesError) (.ref Z.c_OwnholesError) = some true
  s_OwnholesError_BadProgram : PySem.W.subIn K (.ref Z.c_OwnholesError) (.ref Z.c_BadProgram) = some false
  g_BadProgram : mg "BadProgram" = some (.ref Z.c_BadProgram)
  xn_BadProgram : Ex.XN K Z.c_BadProgram
  x_BadProgram : Ex.XT K Z.c_BadProgram Z.a_BadProgram_init
  no_BadProgram_at : PySem.W.findIn K (.ref Z.c_BadProgram) "at" = some none
  s_BadProgram_OwnholesError : PySem.W.subIn K (.ref Z.c_BadProgram) (.ref Z.c_OwnholesError) = some true
  s_BadProgram_BadProgram : PySem.W.subIn K (.ref Z.c_BadProgram) (.ref Z.c_BadProgram) = some true
  u_all : mg "all" = none
  u_any : mg "any" = none
  u_bool : mg "bool" = none
  u_enumerate : mg "enumerate" = none
  u_int : mg "int" = none
  u_isinstance : mg "isinstance" = none
  u_len : mg "len" = none
  u_max : mg "max" = none
  u_range : mg "range" = none
  u_str : mg "str" = none
  u_tuple : mg "tuple" = none
  g_LETTERS : ∃ u, mg "LETTERS" = some u ∧ RelV (.str "abcdefghijklmnopqrstuvwxyz") u
  g_MOST_ADDS : ∃ u, mg "MOST_ADDS" = some u ∧ RelV (.int 4) u
  g_MOST_COUNT : ∃ u, mg "MOST_COUNT" = some u ∧ RelV (.int 20) u
  g_MOST_DEPTH : ∃ u, mg "MOST_DEPTH" = some u ∧ RelV (.int 4) u
  g_MOST_NAMES : ∃ u, mg "MOST_NAMES" = some u ∧ RelV (.int 3) u
  g_MOST_SHIFTS : ∃ u, mg "MOST_SHIFTS" = some u ∧ RelV (.int 4) u
  g_SIGNS : ∃ u, mg "SIGNS" = some u ∧ RelV (.str "(),=<>+-.") u
  g_MANNERS : ∃ T : Addr, mg "MANNERS" = some (.ref T) ∧ ∀ H, SqT K H T [.str "order", .str "number", .str "name"]
  g_RESERVED : ∃ T : Addr, mg "RESERVED" = some (.ref T) ∧ ∀ H, SqT K H T [.str "by", .str "order", .str "number", .str "name", .str "options", .str "lists", .str "text", .str "row", .str "say", .str "hole", .str "front", .str "back", .str "put", .str "bind", .str "add", .str "turn", .str "clear", .str "shift", .str "count", .str "each", .str "of", .str "down", .str "when", .str "else", .str "end", .str "ask"]
  g_SIDES : ∃ T : Addr, mg "SIDES" = some (.ref T) ∧ ∀ H, SqT K H T [.str "front", .str "back"]

/-! programs: names, literals, numerals -/
/-- the kept words -/
def resT : List Str := ["by", "order", "number", "name", "options", "lists", "text", "row", "say", "hole", "front", "back", "put", "bind", "add", "turn", "clear", "shift", "count", "each", "of", "down", "when", "else", "end", "ask"]
def resL : List (List Nat) := resT.map fun z => z.cps.toList
theorem res_S : resT = resL.map S := by decide +kernel
def signL : List Nat := [40, 41, 44, 61, 60, 62, 43, 45, 46]
theorem sign_S : ("(),=<>+-." : Str) = S signL := by decide +kernel
theorem low_S : ("abcdefghijklmnopqrstuvwxyz" : Str) = S ((List.range 26).map (97 + ·)) := by decide +kernel
def nameB (l : List Nat) : Bool := decide (1 ≤ l.length) && decide (l.length ≤ 8) && !(decide (l ∈ resL)) && l.all low
def lsB (c : Nat) : Bool := low c || decide (c ∈ signL)
def litL (l : List Nat) : Bool := decide (1 ≤ l.length) && decide (l.length ≤ 8) && l.all lsB
def numB (l : List Nat) : Bool := decide (1 ≤ l.length) && decide (l.length ≤ 2) && l.all dig && !(decide (l.length = 2) && decide (l.head? = some 48)) && decide ((intText? (S l)).getD 0 ≤ 20)
theorem inV_texts (l : List Nat) (ts : List (List Nat)) : inV (.str (S l)) (ts.map fun t => .str (S t)) = decide (l ∈ ts) := by
  unfold inV
  rw [List.any_map]
  by_cases h : l ∈ ts
  · rw [decide_eq_true h, List.any_eq_true]
    refine ⟨l, h, ?_⟩
    show (S l == S l) = true
    exact beq_self_eq_true _
  · rw [decide_eq_false h, List.any_eq_false]
    intro t ht e
    have e : (S t == S l) = true := e
    exact h (S_inj (eq_of_beq e) ▸ ht)
theorem res_V : [V.str "by", .str "order", .str "number", .str "name", .str "options", .str "lists", .str "text", .str "row", .str "say", .str "hole", .str "front", .str "back", .str "put", .str "bind", .str "add", .str "turn", .str "clear", .str "shift", .str "count", .str "each", .str "of", .str "down", .str "when", .str "else", .str "end", .str "ask"] = resL.map fun t => .str (S t) := by
  have := congrArg (List.map V.str) res_S
  rw [List.map_map] at this
  exact this
theorem low_in (c : Nat) : decide (c ∈ (List.range 26).map (97 + ·)) = low c := by
  unfold low
  by_cases h : 97 ≤ c ∧ c ≤ 122
  · rw [decide_eq_true h.1, decide_eq_true h.2, Bool.and_true, decide_eq_true]
    exact List.mem_map.mpr ⟨c - 97, List.mem_range.mpr (by omega), by omega⟩
  · rw [decide_eq_false]
    · by_cases h1 : 97 ≤ c
      · rw [decide_eq_true h1, decide_eq_false (fun z => h ⟨h1, z⟩)]
        rfl
      · rw [decide_eq_false h1]
        rfl
    · intro z
      obtain ⟨i, hi, e⟩ := List.mem_map.mp z
      have := List.mem_range.mp hi
      exact h ⟨by omega, by omega⟩
theorem zero_one (c : Nat) : decide (V.str (S [c]) = V.str "0") = decide ([c] = [48]) := by
  rw [show ("0" : Str) = S [48] by decide +kernel]
  exact decide_eq_decide.mpr ⟨fun z => S_inj (V.str.inj z), fun z => by rw [z]⟩
theorem dig_in {c : Nat} (h : dig c = true) : c ∈ (List.range 10).map (48 + ·) := by
  unfold dig at h
  simp only [Bool.and_eq_true, decide_eq_true_eq] at h
  exact List.mem_map.mpr ⟨c - 48, List.mem_range.mpr (by omega), by omega⟩
theorem int_one : ∀ c ∈ (List.range 10).map (48 + ·), ((intText? (S [c])).isSome) = true := by decide +kernel
theorem int_two : ∀ c ∈ (List.range 10).map (48 + ·), ∀ d ∈ (List.range 10).map (48 + ·), ((intText? (S [c, d])).isSome) = true := by decide +kernel
theorem int_some {l : List Nat} (h1 : 1 ≤ l.length) (h2 : l.length ≤ 2) (h : l.all dig = true) : ∃ n, intText? (S l) = some n := by
  refine Option.isSome_iff_exists.mp ?_
  match l, h1, h2, h with
  | [c], _, _, h =>
    exact int_one c (dig_in (List.all_eq_true.mp h c List.mem_cons_self))
  | [c, d], _, _, h =>
    exact int_two c (dig_in (List.all_eq_true.mp h c List.mem_cons_self)) d (dig_in (List.all_eq_true.mp h d (List.mem_cons_of_mem _ List.mem_cons_self)))
def sp_is_name : Sp := fun vs H Q _ => ∃ l : List Nat, vs = [.str (S l)] ∧ l.length < 100000 ∧ ∀ H', Same H H' → Q (.bl (nameB l)) H'
def sp_is_literalP : Sp := fun vs H Q _ => ∃ l : List Nat, vs = [.str (S l)] ∧ l.length < 100000 ∧ ∀ H', Same H H' → Q (.bl (litL l)) H'
def sp_is_numeral : Sp := fun vs H Q _ => ∃ l : List Nat, vs = [.str (S l)] ∧ l.length < 100000 ∧ ∀ H', Same H H' → Q (.bl (numB l)) H'
section
variable {P : Program} {w : World} {K : PySem.W.Frag} {mg : Str → Option Value} {base : Heap} {Z : Ad}
theorem ok_is_name (T : Txt K mg Z) : FnOk P w K mg base CX0 1 Z.a_is_name Z.d_is_name ["part"] sp_is_name := by
  refine T.F_is_name.ok sc_is_name (fun vs H Q E h => ?_) (fun cdv A outer s H vs Q E hr h => ?_)
  · obtain ⟨l, rfl, _⟩ := h
    rfl
  · obtain ⟨l, rfl, hl, q⟩ := h
    have nd := sc_is_name.nd
    have hR := T.g_RESERVED.choose_spec.2
    refine ⟨_, (pss_cons (ps_if (PW.pt (pw_or (pt_not (pt_chain op_le op_le pe_int (pe_callB Tw.cr_lenS (by rfl) T.u_len (by decide +kernel) (pa_cons (pv 0) pa_nil)) pe_int)) (pw_or1 (pt_cmpR op_in_seq (pv 0) (pe_glob (v := .ref T.g_RESERVED.choose) (by rfl) T.g_RESERVED.choose_spec.1 rfl) (by rfl)))))
  (pss_one (ps_ret pe_bl))
  pss_nil)
  (pss_one (ps_ret (pe_callB (cr_all rfl) (by rfl) T.u_all (by decide +kernel) (pa_cons (pe_lc (own := [("char", 1)]) rfl nd (pi_str (pv 0)) (blkOk_by (N := N_is_name) (sc := defScope s_is_name) (by decide +kernel)) (fun _ _ _ _ _ => (pg_name (i := 1) nd rfl (Or.inl rfl))) (fun _ _ _ _ _ => pts_nil) (fun _ _ _ _ _ => (Eg.peE (pe_cmpR Tw.op_inS (pv 1) (Tw.pe_globS (by rfl) T.g_LETTERS) (by rfl)) (by walk_at "blk")))) pa_nil))))), ?_⟩
    generalize T.g_RESERVED.choose = R at hR ⊢
    refine Eg.w_sig (σ := [some (.str (S l)), none]) rfl ?_
    walk_at "go"
    have wl : nameB l = (decide ((1 : Int) ≤ (l.length : Nat)) && decide (((l.length : Nat) : Int) ≤ 8) && !(decide (l ∈ resL)) && l.all low) := by
      unfold nameB
      congr 3
      · exact decide_eq_decide.mpr (by omega)
      · exact decide_eq_decide.mpr (by omega)
    rw [wl] at q
    by_cases h1 : (1 : Int) ≤ (l.length : Nat)
    · rw [decide_eq_true h1] at q ⊢
      walk_at "go"
      by_cases h2 : ((l.length : Nat) : Int) ≤ 8
      · rw [decide_eq_true h2] at q ⊢
        walk_at "go"
        refine ⟨R, _, rfl, .inr (hR _), rfl, rfl, ?_⟩
        rw [if_neg Bool.false_ne_true, res_V, inV_texts]
        by_cases h3 : l ∈ resL
        · rw [decide_eq_true h3] at q ⊢
          walk_at "go"
          exact q H (Same.refl H)
        · rw [decide_eq_false h3] at q ⊢
          walk_at "gw"
          rw [low_S]
          refine Tw.map_str (F := fun c => .bl (low c)) hl (fun R h => Eg.w_var rfl h) (fun H' z R s1 hz h => ?_) (fun D H1 hD s1 h1 => ?_)
          · walk_at "go"
            rw [low_in]
            exact h
          · walk_at "go"
            refine Tw.all_map h1 ?_
            walk_at "go"
            exact q H1 s1
      · rw [decide_eq_false h2] at q ⊢
        walk_at "go"
        exact q H (Same.refl H)
    · rw [decide_eq_false h1] at q ⊢
      walk_at "go"
      exact q H (Same.refl H)
theorem ok_is_literal (T : Txt K mg Z) : FnOk P w K mg base CX0 1 Z.a_is_literal Z.d_is_literal ["part"] sp_is_literalP := by
  refine T.F_is_literal.ok sc_is_literal (fun vs H Q E h => ?_) (fun cdv A outer s H vs Q E hr h => ?_)
  · obtain ⟨l, rfl, _⟩ := h
    rfl
  · obtain ⟨l, rfl, hl, q⟩ := h
    have nd := sc_is_literal.nd
    refine ⟨_, (pss_one (ps_ret (pe_and (pe_chain op_le op_le pe_int (pe_callB Tw.cr_lenS (by rfl) T.u_len (by decide +kernel) (pa_cons (pv 0) pa_nil)) pe_int) (pe_one (pe_callB (cr_all rfl) (by rfl) T.u_all (by decide +kernel) (pa_cons (pe_lc (own := [("char", 1)]) rfl nd (pi_str (pv 0)) (blkOk_by (N := N_is_literal) (sc := defScope s_is_literal) (by decide +kernel)) (fun _ _ _ _ _ => (pg_name (i := 1) nd rfl (Or.inl rfl))) (fun _ _ _ _ _ => pts_nil) (fun _ _ _ _ _ => (Eg.peE (pe_or (pe_cmpR Tw.op_inS (pv 1) (Tw.pe_globS (by rfl) T.g_LETTERS) (by rfl)) (pe_one (pe_cmpR Tw.op_inS (pv 1) (Tw.pe_globS (by rfl) T.g_SIGNS) (by rfl)))) (by walk_at "blk")))) pa_nil)))))), ?_⟩
    refine Eg.w_sig (σ := [some (.str (S l)), none]) rfl ?_
    walk_at "go"
    have wl : litL l = (decide ((1 : Int) ≤ (l.length : Nat)) && decide (((l.length : Nat) : Int) ≤ 8) && l.all lsB) := by
      unfold litL
      congr 2
      · exact decide_eq_decide.mpr (by omega)
      · exact decide_eq_decide.mpr (by omega)
    rw [wl] at q
    by_cases h1 : (1 : Int) ≤ (l.length : Nat)
    · rw [decide_eq_true h1] at q ⊢
      walk_at "go"
      by_cases h2 : ((l.length : Nat) : Int) ≤ 8
      · rw [decide_eq_true h2] at q ⊢
        walk_at "gw"
        rw [low_S, sign_S]
        refine Tw.map_str (F := fun c => .bl (lsB c)) hl (fun R h => Eg.w_var rfl h) (fun H' z R s1 hz h => ?_) (fun D H1 hD s1 h1 => ?_)
        · unfold lsB at h
          walk_at "go"
          rw [low_in]
          refine Eg.br (fun e => ?_) (fun e => ?_)
          · rw [e, Bool.true_or] at h
            walk_at "go"
            exact h
          · rw [e, Bool.false_or] at h
            walk_at "go"
            exact h
        · walk_at "go"
          refine Tw.all_map h1 ?_
          walk_at "go"
          exact q H1 s1
      · rw [decide_eq_false h2] at q ⊢
        walk_at "go"
        exact q H (Same.refl H)
    · rw [decide_eq_false h1] at q ⊢
      walk_at "go"
      exact q H (Same.refl H)
theorem ok_is_numeral (T : Txt K mg Z) : FnOk P w K mg base CX0 1 Z.a_is_numeral Z.d_is_numeral ["part"] sp_is_numeral := by
  refine T.F_is_numeral.ok sc_is_numeral (fun vs H Q E h => ?_) (fun cdv A outer s H vs Q E hr h => ?_)
  · obtain ⟨l, rfl, _⟩ := h
    rfl
  · obtain ⟨l, rfl, hl, q⟩ := h
    have nd := sc_is_numeral.nd
    refine ⟨_, (pss_cons (ps_if (PW.pt (pw_or (pt_not (pt_chain op_le op_le pe_int (pe_callB Tw.cr_lenS (by rfl) T.u_len (by decide +kernel) (pa_cons (pv 0) pa_nil)) pe_int)) (pw_or1 (pt_not (pt_val (pe_callB (cr_all rfl) (by rfl) T.u_all (by decide +kernel) (pa_cons (pe_lc (own := [("char", 1)]) rfl nd (pi_str (pv 0)) (blkOk_by (N := N_is_numeral) (sc := defScope s_is_numeral) (by decide +kernel)) (fun _ _ _ _ _ => (pg_name (i := 1) nd rfl (Or.inl rfl))) (fun _ _ _ _ _ => pts_nil) (fun _ _ _ _ _ => (Eg.peE (pe_cmpR Tw.op_inS (pv 1) pe_str (by rfl)) (by walk_at "blk")))) pa_nil)))))))
  (pss_one (ps_ret pe_bl))
  pss_nil)
  (pss_cons (ps_if (PW.pt (pw_and (pt_cmpR op_eq (pe_callB Tw.cr_lenS (by rfl) T.u_len (by decide +kernel) (pa_cons (pv 0) pa_nil)) pe_int (nomark _)) (pw_and1 (pt_cmpR op_eq (pe_ix ix_str (pv 0) pe_int (fun _ _ => rfl)) pe_str (nomark _)))))
  (pss_one (ps_ret pe_bl))
  pss_nil)
  (pss_one (ps_ret (pe_cmpR op_le (pe_callTy Tw.cr_intS (by rfl) T.u_int (by decide +kernel) (pa_cons (pv 0) pa_nil)) (Tw.pe_globS (by rfl) T.g_MOST_COUNT) (nomark _)))))), ?_⟩
    refine Eg.w_sig (σ := [some (.str (S l)), none]) rfl ?_
    walk_at "go"
    have wl : numB l = (decide ((1 : Int) ≤ (l.length : Nat)) && decide (((l.length : Nat) : Int) ≤ 2) && l.all dig && !(decide (((l.length : Nat) : Int) = 2) && decide (l.head? = some 48)) && decide ((intText? (S l)).getD 0 ≤ 20)) := by
      unfold numB
      congr 4
      · exact decide_eq_decide.mpr (by omega)
      · exact decide_eq_decide.mpr (by omega)
      · exact decide_eq_decide.mpr (by omega)
    rw [wl] at q
    by_cases h1 : (1 : Int) ≤ (l.length : Nat)
    · rw [decide_eq_true h1] at q ⊢
      walk_at "go"
      by_cases h2 : ((l.length : Nat) : Int) ≤ 2
      · rw [decide_eq_true h2] at q ⊢
        walk_at "gw"
        refine Tw.map_str (F := fun c => .bl (dig c)) hl (fun R h => Eg.w_var rfl h) (fun H' z R s1 hz h => ?_) (fun D H1 hD s1 h1 => ?_)
        · walk_at "go"
          exact h
        · walk_at "go"
          refine Tw.all_map h1 ?_
          cases h3 : l.all dig with
          | false =>
            rw [h3] at q
            walk_at "go"
            exact q H1 s1
          | true =>
            rw [h3] at q
            obtain ⟨n, hn⟩ := int_some (by omega) (by omega) h3
            rw [hn] at q
            walk_at "go"
            by_cases h4 : ((l.length : Nat) : Int) = 2
            · rw [decide_eq_true (by rw [h4] : V.int ((l.length : Nat) : Int) = V.int 2)]
              rw [decide_eq_true h4] at q
              walk_at "go"
              cases l with
              | nil => cases h4
              | cons c r =>
                refine Tw.c_ixS hl (n := 0) rfl rfl ?_
                walk_at "go"
                rw [zero_one]
                by_cases h5 : [c] = [48]
                · rw [decide_eq_true h5]
                  rw [decide_eq_true (show (c :: r).head? = some 48 by rw [(List.cons.inj h5).1]; rfl)] at q
                  walk_at "go"
                  exact q H1 s1
                · rw [decide_eq_false h5]
                  rw [decide_eq_false (fun z => h5 (by rw [Option.some.inj z]) : ¬ (c :: r).head? = some 48)] at q
                  walk_at "go"
                  refine ⟨_, n, rfl, hn, by show (c :: r).length ≤ 640; omega, ?_⟩
                  walk_at "go"
                  exact q H1 s1
            · rw [decide_eq_false (fun z => h4 (V.int.inj z))]
              rw [decide_eq_false h4] at q
              walk_at "go"
              refine ⟨_, n, rfl, hn, by show l.length ≤ 640; omega, ?_⟩
              walk_at "go"
              exact q H1 s1
      · rw [decide_eq_false h2] at q ⊢
        walk_at "go"
        exact q H (Same.refl H)
    · rw [decide_eq_false h1] at q ⊢
      walk_at "go"
      exact q H (Same.refl H)
end
end LW
end

section
local macro_rules | `(tactic| walk_at "tx") => `(tactic| first
  | ((with_reducible refine' Eg.c_sfld ?hs ?hc ?hn ?hl ?_); (case hs => walk_at "hp"); (case hc => assumption); (case hn => assumption); (case hl => exact Nat.le_of_ble_eq_true rfl)))
namespace LW
open PySem L2 SX Tx
/-! programs: the reader -/
abbrev Nm := List Nat
def getA {α β : Type} [DecidableEq α] (xs : List (α × β)) (a : α) : Option β := (xs.find? fun p => decide (p.1 = a)).map (·.2)
def putA {α β : Type} [DecidableEq α] (xs : List (α × β)) (a : α) (b : β) : List (α × β) := if (xs.any fun p => decide (p.1 = a)) = true then xs.map fun p => if p.1 = a then (p.1, b) else p else xs ++ [(a, b)]
structure RS where
  man : Str
  opts : List Nm
  lsts : List Nm
  stage : Nat
  scs : List (List (Nm × Str))
  blks : List (Nat × Str)
  jmps : List (Nat × (Int × Int))
  loop : Nat
  adds : Nat
  shifts : Nat
  szs : List (Nm × Int)
  size : Int
def RS.new : RS := ⟨"", [], [], 0, [[]], [], [], 0, 0, 0, [], 0⟩
theorem key_eq {a b : Nm} : ((.inr (S a) : Key) = .inr (S b)) ↔ a = b := ⟨fun e => S_inj (Sum.inr.inj e), fun e => by rw [e]⟩
theorem int_eq {a b : Nat} : ((.inl (a : Int) : Key) = .inl (b : Int)) ↔ a = b := ⟨fun e => Int.ofNat.inj (Sum.inl.inj e), fun e => by rw [e]⟩
section
variable {α β : Type} [DecidableEq α] {g : α → Key} {f : β → V}
theorem val_enc (hg : ∀ a b, g a = g b ↔ a = b) (n : α) : ∀ xs : List (α × β), valV (xs.map fun p => (g p.1, f p.2)) (g n) = (getA xs n).map f
  | [] => rfl
  | x :: r => by
    have ih := val_enc hg n r
    unfold valV getA at ih ⊢
    rw [List.map_cons, List.find?_cons, List.find?_cons]
    by_cases h : x.1 = n
    · rw [decide_eq_true h, decide_eq_true ((hg _ _).mpr h)]
      rfl
    · rw [decide_eq_false h, decide_eq_false (fun e => h ((hg _ _).mp e))]
      exact ih
theorem put_enc (hg : ∀ a b, g a = g b ↔ a = b) (n : α) (v : β) (xs : List (α × β)) : putK (xs.map fun p => (g p.1, f p.2)) (g n) (f v) = (putA xs n v).map fun p => (g p.1, f p.2) := by
  have e : ∀ p : α × β, decide (g p.1 = g n) = decide (p.1 = n) := fun p => decide_eq_decide.mpr (hg _ _)
  unfold putK putA
  rw [List.any_map]
  have e2 : (xs.any ((fun kv : Key × V => decide (kv.1 = g n)) ∘ fun p => (g p.1, f p.2))) = xs.any fun p => decide (p.1 = n) := by
    congr 1
    funext p
    exact e p
  rw [e2]
  split
  · rw [List.map_map, List.map_map]
    refine List.map_congr_left fun p _ => ?_
    show (if g p.1 = g n then (g p.1, f v) else (g p.1, f p.2)) = (g (if p.1 = n then (p.1, v) else p).1, f (if p.1 = n then (p.1, v) else p).2)
    by_cases h : p.1 = n
    · rw [if_pos h, if_pos ((hg _ _).mpr h)]
    · rw [if_neg h, if_neg (fun z => h ((hg _ _).mp z))]
  · rw [List.map_append]
    rfl
theorem putA_len (xs : List (α × β)) (n : α) (v : β) : (putA xs n v).length ≤ xs.length + 1 := by
  unfold putA
  split
  · rw [List.length_map]
    omega
  · rw [List.length_append]
    exact Nat.le_refl _
end
def encS (sc : List (Nm × Str)) : List (Key × V) := sc.map fun p => (.inr (S p.1), .str p.2)
def encZ (z : List (Nm × Int)) : List (Key × V) := z.map fun p => (.inr (S p.1), .int p.2)
theorem val_S (sc : List (Nm × Str)) (n : Nm) : valV (encS sc) (.inr (S n)) = (getA sc n).map V.str := val_enc (g := fun a => .inr (S a)) (fun _ _ => key_eq) n sc
theorem val_Z (z : List (Nm × Int)) (n : Nm) : valV (encZ z) (.inr (S n)) = (getA z n).map V.int := val_enc (g := fun a => .inr (S a)) (fun _ _ => key_eq) n z
theorem put_S (sc : List (Nm × Str)) (n : Nm) (k : Str) : putK (encS sc) (.inr (S n)) (.str k) = encS (putA sc n k) := put_enc (g := fun a => .inr (S a)) (f := V.str) (fun _ _ => key_eq) n k sc
theorem put_Z (z : List (Nm × Int)) (n : Nm) (i : Int) : putK (encZ z) (.inr (S n)) (.int i) = encZ (putA z n i) := put_enc (g := fun a => .inr (S a)) (f := V.int) (fun _ _ => key_eq) n i z
/-- where the reader's things stand -/
structure RA where
  dx : Addr
  o : Addr
  l : Addr
  sc : Addr
  bl : Addr
  j : Addr
  sz : Addr
  ds : List Addr
  bls : List V
  jk : List (Key × V)
def fldsR (rs : RS) (A : RA) : List (Str × V) := [("manner", .str rs.man), ("options", .ref A.o), ("lists", .ref A.l), ("stage", .int (rs.stage : Int)), ("scopes", .ref A.sc), ("blocks", .ref A.bl), ("jumps", .ref A.j), ("loop", .int (rs.loop : Int)), ("adds", .int (rs.adds : Int)), ("shifts", .int (rs.shifts : Int)), ("sizes", .ref A.sz), ("size", .int rs.size)]
structure RAt (C : Addr) (H0 H : Hp) (r : Addr) (rs : RS) (A : RA) : Prop where
  ob : H r = some (.ins C A.dx (fldsR rs A))
  op : H A.o = some (.tup (rs.opts.map fun n => V.str (S n)))
  li : H A.l = some (.tup (rs.lsts.map fun n => V.str (S n)))
  sc : H A.sc = some (.lst (A.ds.map V.ref))
  ds : Paired (fun d s => H d = some (.dK (encS s))) A.ds rs.scs
  nd : A.ds.Nodup
  bl : H A.bl = some (.lst A.bls)
  bs : Paired (fun v (b : Nat × Str) => ∃ t, v = V.ref t ∧ H t = some (.tup [.int (b.1 : Int), .str b.2])) A.bls rs.blks
  ju : H A.j = some (.dK A.jk)
  js : Paired (fun (p : Key × V) (q : Nat × (Int × Int)) => ∃ t, p = (.inl (q.1 : Int), V.ref t) ∧ H t = some (.tup [.int q.2.1, .int q.2.2])) A.jk rs.jmps
  sz : H A.sz = some (.dK (encZ rs.szs))
  nj : A.j ≠ A.sz
  dj : ∀ d ∈ A.ds, d ≠ A.j ∧ d ≠ A.sz
  nb : A.sc ≠ A.bl
  r0 : H0 r = none
  s0 : H0 A.sc = none
  b0 : H0 A.bl = none
  j0 : H0 A.j = none
  z0 : H0 A.sz = none
  d0 : ∀ d ∈ A.ds, H0 d = none
theorem RAt.keep {C : Addr} {H0 H H' : Hp} {r : Addr} {rs : RS} {A : RA} (h : RAt C H0 H r rs A) (s : Same H H') : RAt C H0 H' r rs A :=
  ⟨s _ _ h.ob, s _ _ h.op, s _ _ h.li, s _ _ h.sc, Paired.mapP h.ds fun _ _ e => s _ _ e, h.nd, s _ _ h.bl, Paired.mapP h.bs fun _ _ ⟨t, e, e2⟩ => ⟨t, e, s _ _ e2⟩, s _ _ h.ju, Paired.mapP h.js fun _ _ ⟨t, e, e2⟩ => ⟨t, e, s _ _ e2⟩, s _ _ h.sz, h.nj, h.dj, h.nb, h.r0, h.s0, h.b0, h.j0, h.z0, h.d0⟩
def kindO (scs : List (List (Nm × Str))) (n : Nm) : Option Str := scs.findSome? fun sc => getA sc n
def kindOf (scs : List (List (Nm × Str))) (n : Nm) : Str := (kindO scs n).getD ""
theorem pair_getL {α β : Type} {F : α → β → Prop} : ∀ {xs : List α} {ys : List β} {i : Nat} {x : α}, Paired F xs ys → xs[i]? = some x → ∃ y, ys[i]? = some y ∧ F x y
  | _, _, 0, _, .cons h _, e => ⟨_, rfl, by cases e; exact h⟩
  | _, _, i + 1, x, .cons _ t, e => pair_getL (i := i) t e
theorem kind_drop {scs : List (List (Nm × Str))} {j : Nat} {sc : List (Nm × Str)} {n : Nm} (h : scs[j]? = some sc) : kindO (scs.drop j) n = match getA sc n with | some k => some k | none => kindO (scs.drop (j + 1)) n := by
  obtain ⟨hlt, he⟩ := List.getElem?_eq_some_iff.mp h
  rw [List.drop_eq_getElem_cons hlt, he]
  unfold kindO
  rw [List.findSome?_cons]
  cases getA sc n <;> rfl
def sp_Reader_init (C : Addr) : Sp := fun vs H Q _ => ∃ r dx : Addr, vs = [.ref r] ∧ H r = some (.ins C dx []) ∧
  ∀ (H' : Hp) (A : RA), (∀ H0, Same H0 H → H0 r = none → RAt C H0 H' r RS.new A) → (∀ c o, H c = some o → c ≠ r → H' c = some o) → Q .non H'
def sp_Reader_kind_of (C : Addr) : Sp := fun vs H Q _ => ∃ (H0 : Hp) (r : Addr) (rs : RS) (A : RA) (n : Nm), vs = [.ref r, .str (S n)] ∧ RAt C H0 H r rs A ∧ Q (.str (kindOf rs.scs n)) H
section
variable {P : Program} {w : World} {K : PySem.W.Frag} {mg : Str → Option Value} {base : Heap} {Z : Ad}
set_option maxHeartbeats 8000000 in
theorem ok_Reader_init (T : Txt K mg Z) : FnOk P w K mg base CX0 1 Z.a_Reader_init Z.d_Reader_init ["self"] (sp_Reader_init Z.c_Reader) := by
  refine T.F_Reader_init.ok sc_Reader_init (fun vs H Q E h => ?_) (fun cdv A outer s H vs Q E hr h => ?_)
  · obtain ⟨r, dx, rfl, _⟩ := h
    rfl
  · obtain ⟨r, dx, rfl, ho, q⟩ := h
    have nd := sc_Reader_init.nd
    have cR := T.cl_Reader
    have n0 := T.n_Reader_manner
    have n1 := T.n_Reader_options
    have n2 := T.n_Reader_lists
    have n3 := T.n_Reader_stage
    have n4 := T.n_Reader_scopes
    have n5 := T.n_Reader_blocks
    have n6 := T.n_Reader_jumps
    have n7 := T.n_Reader_loop
    have n8 := T.n_Reader_adds
    have n9 := T.n_Reader_shifts
    have n10 := T.n_Reader_sizes
    have n11 := T.n_Reader_size
    refine ⟨_, (pss_cons (ps_fld (pv 0) pe_str rfl)
  (pss_cons (ps_fld (pv 0) (pe_tup pa_nil) rfl)
  (pss_cons (ps_fld (pv 0) (pe_tup pa_nil) rfl)
  (pss_cons (ps_fld (pv 0) pe_int rfl)
  (pss_cons (ps_fld (pv 0) (pe_lst (pa_cons pe_dnewK pa_nil)) rfl)
  (pss_cons (ps_fld (pv 0) (pe_lst pa_nil) rfl)
  (pss_cons (ps_fld (pv 0) pe_dnewK rfl)
  (pss_cons (ps_fld (pv 0) pe_int rfl)
  (pss_cons (ps_fld (pv 0) pe_int rfl)
  (pss_cons (ps_fld (pv 0) pe_int rfl)
  (pss_cons (ps_fld (pv 0) pe_dnewK rfl)
  (pss_one (ps_fld (pv 0) pe_int rfl))))))))))))), ?_⟩
    refine Eg.w_sig (σ := [some (.ref r)]) rfl ?_
    walk_at "go"
    intro o o0
    have r_o : r ≠ o := ne_of_none (by walk_at "hp") o0
    have e_o : H o = none := by
      cases e : H o with
      | none => rfl
      | some ob => exact absurd rfl (ne_of_none (a := o) (o := ob) (by walk_at "hp") o0)
    walk_at "go"
    intro l l0
    have r_l : r ≠ l := ne_of_none (by walk_at "hp") l0
    have o_l : o ≠ l := ne_of_none (o := .tup []) (by walk_at "hp") l0
    have e_l : H l = none := by
      cases e : H l with
      | none => rfl
      | some ob => exact absurd rfl (ne_of_none (a := l) (o := ob) (by walk_at "hp") l0)
    walk_at "go"
    intro d d0
    have r_d : r ≠ d := ne_of_none (by walk_at "hp") d0
    have o_d : o ≠ d := ne_of_none (o := .tup []) (by walk_at "hp") d0
    have l_d : l ≠ d := ne_of_none (o := .tup []) (by walk_at "hp") d0
    have e_d : H d = none := by
      cases e : H d with
      | none => rfl
      | some ob => exact absurd rfl (ne_of_none (a := d) (o := ob) (by walk_at "hp") d0)
    walk_at "go"
    intro sc s0
    have r_sc : r ≠ sc := ne_of_none (Eg.upd_old upd_same d0) s0
    have o_sc : o ≠ sc := ne_of_none (o := .tup []) (by walk_at "hp") s0
    have l_sc : l ≠ sc := ne_of_none (o := .tup []) (by walk_at "hp") s0
    have d_sc : d ≠ sc := ne_of_none (o := .dK []) (by walk_at "hp") s0
    have e_sc : H sc = none := by
      cases e : H sc with
      | none => rfl
      | some ob => exact absurd rfl (ne_of_none (a := sc) (o := ob) (by walk_at "hp") s0)
    walk_at "go"
    intro bl b0
    have r_bl : r ≠ bl := ne_of_none (by walk_at "hp") b0
    have o_bl : o ≠ bl := ne_of_none (o := .tup []) (by walk_at "hp") b0
    have l_bl : l ≠ bl := ne_of_none (o := .tup []) (by walk_at "hp") b0
    have d_bl : d ≠ bl := ne_of_none (o := .dK []) (by walk_at "hp") b0
    have sc_bl : sc ≠ bl := ne_of_none (o := .lst [V.ref d]) (by walk_at "hp") b0
    have e_bl : H bl = none := by
      cases e : H bl with
      | none => rfl
      | some ob => exact absurd rfl (ne_of_none (a := bl) (o := ob) (by walk_at "hp") b0)
    walk_at "go"
    intro j j0
    have r_j : r ≠ j := ne_of_none (by walk_at "hp") j0
    have o_j : o ≠ j := ne_of_none (o := .tup []) (by walk_at "hp") j0
    have l_j : l ≠ j := ne_of_none (o := .tup []) (by walk_at "hp") j0
    have d_j : d ≠ j := ne_of_none (o := .dK []) (by walk_at "hp") j0
    have sc_j : sc ≠ j := ne_of_none (o := .lst [V.ref d]) (by walk_at "hp") j0
    have bl_j : bl ≠ j := ne_of_none (o := .lst []) (by walk_at "hp") j0
    have e_j : H j = none := by
      cases e : H j with
      | none => rfl
      | some ob => exact absurd rfl (ne_of_none (a := j) (o := ob) (by walk_at "hp") j0)
    walk_at "go"
    intro sz z0
    have r_sz : r ≠ sz := ne_of_none (by walk_at "hp") z0
    have o_sz : o ≠ sz := ne_of_none (o := .tup []) (by walk_at "hp") z0
    have l_sz : l ≠ sz := ne_of_none (o := .tup []) (by walk_at "hp") z0
    have d_sz : d ≠ sz := ne_of_none (o := .dK []) (by walk_at "hp") z0
    have sc_sz : sc ≠ sz := ne_of_none (o := .lst [V.ref d]) (by walk_at "hp") z0
    have bl_sz : bl ≠ sz := ne_of_none (o := .lst []) (by walk_at "hp") z0
    have j_sz : j ≠ sz := ne_of_none (o := .dK []) (by walk_at "hp") z0
    have e_sz : H sz = none := by
      cases e : H sz with
      | none => rfl
      | some ob => exact absurd rfl (ne_of_none (a := sz) (o := ob) (by walk_at "hp") z0)
    walk_at "go"
    refine q _ ⟨dx, o, l, sc, bl, j, sz, [d], [], []⟩ (fun H0 s hr0 => ?_) (fun c ob e n => by walk_at "hp")
    exact ⟨upd_same, by walk_at "hp", by walk_at "hp", by walk_at "hp", .cons (show _ = some (HO.dK []) by walk_at "hp") .nil, List.pairwise_singleton _ _, by walk_at "hp", .nil, by walk_at "hp", .nil, by walk_at "hp", j_sz, (fun u hu => by rw [List.mem_singleton.mp hu]; exact ⟨d_j, d_sz⟩), sc_bl, hr0, s.free e_sc, s.free e_bl, s.free e_j, s.free e_sz, fun u hu => by rw [List.mem_singleton.mp hu]; exact s.free e_d⟩
theorem ok_Reader_kind_of (T : Txt K mg Z) : FnOk P w K mg base CX0 1 Z.a_Reader_kind_of Z.d_Reader_kind_of ["self", "name"] (sp_Reader_kind_of Z.c_Reader) := by
  refine T.F_Reader_kind_of.ok sc_Reader_kind_of (fun vs H Q E h => ?_) (fun cdv A outer s H vs Q E hr h => ?_)
  · obtain ⟨H0, r, rs, B, n, rfl, _⟩ := h
    rfl
  · obtain ⟨H0, r, rs, B, n, rfl, h, q⟩ := h
    have nd := sc_Reader_kind_of.nd
    have hu := hu_of hr
    have cR := T.cl_Reader
    have n1 := T.n_Reader_scopes
    have lk1 : (fldsR rs B).lookup ("scopes" : Str) = some (V.ref B.sc) := rfl
    have ho := h.ob
    have hsc := h.sc
    refine ⟨_, (pss_cons (ps_for PassesOwn.never rfl (pi_list (pe_fld (pv 0) rfl)) (pg_name (i := 2) nd rfl (Or.inl rfl))
  (pss_one (ps_if (pt_cmp (pc_din hu (pv 1) (pv 2)))
  (pss_one (ps_ret (pe_dget hu (pv 2) (pv 1) (fun _ _ => rfl))))
  pss_nil)))
  (pss_one (ps_ret pe_str))), ?_⟩
    refine Eg.w_sig (σ := [some (.ref r), some (.str (S n)), none]) rfl ?_
    walk_at "go"
    refine for_list (xs := B.ds.map V.ref) (fun j σ' H' => ∃ v2 : Option V, σ' = [some (.ref r), some (.str (S n)), v2] ∧ H = H' ∧ kindO rs.scs n = kindO (rs.scs.drop j) n) ⟨none, rfl, rfl, rfl⟩ ?_ ?_ ?_
    · rintro j _ _ _ ⟨v2, rfl, rfl, _⟩
      exact SqL.of hsc
    · rintro j x _ _ hx ⟨v2, rfl, rfl, hk⟩
      rw [List.getElem?_map] at hx
      obtain ⟨d, hd, rfl⟩ := Option.map_eq_some_iff.mp hx
      obtain ⟨sc, hs, hdk⟩ := pair_getL h.ds hd
      rw [kind_drop hs] at hk
      have dg := Tw.dgetK (k := .inr (S n)) (.inl hdk)
      rw [val_S] at dg
      walk_at "go"
      refine Eg.c_din dg ?_
      cases e : getA sc n with
      | none =>
        rw [e] at hk
        rw [show (Option.map V.str (none : Option Str)).isSome = false from rfl]
        walk_at "go"
        exact ⟨_, rfl, rfl, hk⟩
      | some k =>
        rw [e] at hk dg
        rw [show (Option.map V.str (some k)).isSome = true from rfl]
        walk_at "go"
        refine ⟨d, .str k, rfl, dg, ?_⟩
        walk_at "go"
        have e : kindOf rs.scs n = k := by
          unfold kindOf
          rw [hk]
          rfl
        rw [e] at q
        exact q
    · rintro _ _ ⟨v2, rfl, rfl, hk⟩
      rw [List.length_map, Paired.length h.ds, List.drop_length] at hk
      walk_at "go"
      have e : kindOf rs.scs n = "" := by
        unfold kindOf
        rw [hk]
        rfl
      rw [e] at q
      exact q
end
end LW
end

section
local macro_rules | `(tactic| walk_at "tx") => `(tactic| first
  | ((with_reducible refine' Eg.c_sfld ?hs ?hc ?hn ?hl ?_); (case hs => walk_at "hp"); (case hc => assumption); (case hn => assumption); (case hl => exact Nat.le_of_ble_eq_true rfl)))
namespace LW
open PySem L2 SX Tx
/-! programs: names declared, sizes, blocks opened -/
theorem pair_last {α β : Type} {F : α → β → Prop} : ∀ {xs : List α} {ys : List β}, Paired F xs ys → ys ≠ [] → ∃ xi x yi y, xs = xi ++ [x] ∧ ys = yi ++ [y] ∧ Paired F xi yi ∧ F x y
  | _, _, .nil, h => absurd rfl h
  | x :: _, y :: _, .cons (l₁ := r) (l₂ := t) h p, _ => by
    cases p with
    | nil => exact ⟨[], x, [], y, rfl, rfl, .nil, h⟩
    | cons h' p' =>
      obtain ⟨xi, x', yi, y', e1, e2, e3, e4⟩ := pair_last (Paired.cons h' p') (fun z => nomatch z)
      exact ⟨x :: xi, x', y :: yi, y', by rw [e1]; rfl, by rw [e2]; rfl, .cons h e3, e4⟩
theorem pair_app {α β : Type} {F : α → β → Prop} : ∀ {xs xs' : List α} {ys ys' : List β}, Paired F xs ys → Paired F xs' ys' → Paired F (xs ++ xs') (ys ++ ys')
  | _, _, _, _, .nil, q => q
  | _, _, _, _, .cons h p, q => .cons h (pair_app p q)
def modL (scs : List (List (Nm × Str))) (n : Nm) (k : Str) : List (List (Nm × Str)) := match scs.getLast? with
  | some l => scs.dropLast ++ [putA l n k]
  | none => scs
theorem modL_app (i : List (List (Nm × Str))) (l : List (Nm × Str)) (n : Nm) (k : Str) : modL (i ++ [l]) n k = i ++ [putA l n k] := by
  unfold modL
  rw [List.getLast?_concat, List.dropLast_concat]
def RS.wt (rs : RS) : Nat := rs.szs.length + rs.jmps.length + rs.scs.length + rs.blks.length + (rs.scs.map List.length).sum
theorem wt_last {rs : RS} {si : List (List (Nm × Str))} {sl : List (Nm × Str)} (e : rs.scs = si ++ [sl]) : sl.length ≤ rs.wt := by
  unfold RS.wt
  rw [e, List.map_append, List.sum_append]
  simp only [List.map_cons, List.map_nil, List.sum_cons, List.sum_nil]
  omega
theorem RAt.decl {C : Addr} {H0 H H' : Hp} {r : Addr} {rs : RS} {A : RA} {di : List Addr} {dl : Addr} {si : List (List (Nm × Str))} {sl : List (Nm × Str)} {n : Nm} {k : Str} {i : Int} (h : RAt C H0 H r rs A) (eD : A.ds = di ++ [dl]) (eS : rs.scs = si ++ [sl])
    (pi : Paired (fun d s => H d = some (.dK (encS s))) di si) (hdl : H dl = some (.dK (encS sl))) (kk : ∀ c o, H c = some o → c ≠ dl → c ≠ A.sz → H' c = some o) (hz : H' A.sz = some (.dK (encZ (putA rs.szs n i)))) (hd : H' dl = some (.dK (encS (putA sl n k)))) :
    RAt C H0 H' r { rs with scs := modL rs.scs n k, szs := putA rs.szs n i } A := by
  have nt : ∀ {c : Addr} {o : HO}, H c = some o → (∀ ys, o ≠ .dK ys) → c ≠ dl ∧ c ≠ A.sz := fun e n => ⟨fun z => n _ (by rw [z, hdl] at e; exact (Option.some.inj e).symm), fun z => n _ (by rw [z, h.sz] at e; exact (Option.some.inj e).symm)⟩
  have go : ∀ {c : Addr} {o : HO}, H c = some o → (∀ ys, o ≠ .dK ys) → H' c = some o := fun e n => kk _ _ e (nt e n).1 (nt e n).2
  have dm : dl ∈ A.ds := by rw [eD]; exact List.mem_append.mpr (.inr List.mem_cons_self)
  obtain ⟨dj, dz⟩ := h.dj dl dm
  have nd := h.nd
  rw [eD] at nd
  have sep := (List.nodup_append.mp nd).2.2
  have go2 : ∀ {xs : List Addr} {ys : List (List (Nm × Str))}, Paired (fun d s => H d = some (.dK (encS s))) xs ys → (∀ x ∈ xs, x ≠ dl ∧ x ≠ A.sz) → Paired (fun d s => H' d = some (.dK (encS s))) xs ys := by
    intro xs ys p
    induction p with
    | nil => exact fun _ => .nil
    | cons a _ ih => exact fun m => .cons (kk _ _ a (m _ List.mem_cons_self).1 (m _ List.mem_cons_self).2) (ih fun x hx => m x (List.mem_cons_of_mem _ hx))
  refine ⟨go h.ob (fun _ z => nomatch z), go h.op (fun _ z => nomatch z), go h.li (fun _ z => nomatch z), go h.sc (fun _ z => nomatch z), ?_, h.nd, go h.bl (fun _ z => nomatch z), Paired.mapP h.bs fun _ _ ⟨t, e, e2⟩ => ⟨t, e, go e2 (fun _ z => nomatch z)⟩, kk _ _ h.ju dj.symm h.nj, Paired.mapP h.js fun _ _ ⟨t, e, e2⟩ => ⟨t, e, go e2 (fun _ z => nomatch z)⟩, hz, h.nj, h.dj, h.nb, h.r0, h.s0, h.b0, h.j0, h.z0, h.d0⟩
  show Paired (fun d s => H' d = some (.dK (encS s))) A.ds (modL rs.scs n k)
  rw [eS, modL_app, eD]
  exact pair_app (go2 pi fun x hx => ⟨sep x hx dl List.mem_cons_self, (h.dj x (by rw [eD]; exact List.mem_append.mpr (.inl hx))).2⟩) (.cons hd .nil)
def declR (rs : RS) (n : Nm) (k : Str) : Option RS := if (nameB n && decide (kindOf rs.scs n = "")) = true then some { rs with scs := modL rs.scs n k, szs := putA rs.szs n 0 } else none
/-- what comes of a step of the reader -/
def Out (C : Addr) (H0 H : Hp) (r : Addr) (res : Option RS) (Q : VK) : Prop := (res = none → ∀ H', Same H0 H' → Q (.bl false) H') ∧ ∀ rs', res = some rs' → ∀ H' A', RAt C H0 H' r rs' A' → Same H0 H' → Q (.bl true) H'
def sp_Reader_declare (C : Addr) : Sp := fun vs H Q _ => ∃ (H0 : Hp) (r : Addr) (rs : RS) (A : RA) (n : Nm) (k : Str), vs = [.ref r, .str (S n), .str k] ∧ RAt C H0 H r rs A ∧ Same H0 H ∧ rs.scs ≠ [] ∧ rs.wt < 50000 ∧ n.length < 100000 ∧ Out C H0 H r (declR rs n k) Q
theorem inV_strs {k : Str} (ts : List Str) : inV (.str k) (ts.map V.str) = decide (k ∈ ts) := by
  unfold inV
  rw [List.any_map]
  by_cases h : k ∈ ts
  · rw [decide_eq_true h, List.any_eq_true]
    refine ⟨k, h, ?_⟩
    show (k == k) = true
    exact beq_self_eq_true _
  · rw [decide_eq_false h, List.any_eq_false]
    intro t ht e
    have e : (t == k) = true := e
    exact h (eq_of_beq e ▸ ht)
theorem get_put {α β : Type} [DecidableEq α] (n : α) (v : β) (xs : List (α × β)) : getA (putA xs n v) n = some v := by
  unfold putA
  split
  · rename_i h
    unfold getA
    induction xs with
    | nil => cases h
    | cons x r ih =>
      rw [List.map_cons, List.find?_cons]
      by_cases e : x.1 = n
      · rw [if_pos e, decide_eq_true (show (x.1, v).1 = n from e)]
        rfl
      · rw [if_neg e, decide_eq_false e]
        rw [List.any_cons, decide_eq_false e, Bool.false_or] at h
        exact ih h
  · rename_i h
    unfold getA
    have h' : ∀ x ∈ xs, ¬ (decide (x.1 = n)) = true := by
      intro x hx z
      exact h (List.any_eq_true.mpr ⟨x, hx, z⟩)
    rw [List.find?_append, List.find?_eq_none.mpr h']
    simp
theorem cut_drop (xs : List V) (e : Nat) : cutV xs (some (e : Int)) none = xs.drop e := by
  unfold cutV
  rw [show HT.sIx xs.length xs.length none = xs.length from rfl, HT.sIx_nat]
  by_cases h : e ≤ xs.length
  · rw [Nat.min_eq_left h, List.take_of_length_le (by rw [List.length_drop]; omega)]
  · rw [Nat.min_eq_right (by omega), List.drop_length, List.drop_of_length_le (by omega), List.take_nil]
theorem RAt.chg {C : Addr} {H0 H H' : Hp} {r : Addr} {rs rs' : RS} {A : RA} (h : RAt C H0 H r rs A) (e1 : rs'.opts = rs.opts) (e2 : rs'.lsts = rs.lsts) (e3 : rs'.scs = rs.scs) (e4 : rs'.blks = rs.blks) (e5 : rs'.jmps = rs.jmps)
    (k : ∀ c o, H c = some o → c ≠ A.sz → c ≠ r → H' c = some o) (ho : H' r = some (.ins C A.dx (fldsR rs' A))) (hz : H' A.sz = some (.dK (encZ rs'.szs))) : RAt C H0 H' r rs' A := by
  have go : ∀ {c : Addr} {o : HO}, H c = some o → (∀ ys, o ≠ .dK ys) → (∀ c d f, o ≠ .ins c d f) → H' c = some o := fun e n1 n2 => k _ _ e (fun z => n1 _ (by rw [z, h.sz] at e; exact (Option.some.inj e).symm)) (fun z => n2 _ _ _ (by rw [z, h.ob] at e; exact (Option.some.inj e).symm))
  have rd : ∀ {c : Addr} {kvs : List (Key × V)}, H c = some (.dK kvs) → c ≠ r := fun e => ne_of e h.ob (fun z => nomatch z)
  have goD : ∀ {xs : List Addr} {ys : List (List (Nm × Str))}, Paired (fun d s => H d = some (.dK (encS s))) xs ys → (∀ x ∈ xs, x ≠ A.sz) → Paired (fun d s => H' d = some (.dK (encS s))) xs ys := by
    intro xs ys p
    induction p with
    | nil => exact fun _ => .nil
    | cons a _ ih => exact fun m => .cons (k _ _ a (m _ List.mem_cons_self) (rd a)) (ih fun x hx => m x (List.mem_cons_of_mem _ hx))
  refine ⟨ho, by rw [e1]; exact go h.op (fun _ z => nomatch z) (fun _ _ _ z => nomatch z), by rw [e2]; exact go h.li (fun _ z => nomatch z) (fun _ _ _ z => nomatch z), go h.sc (fun _ z => nomatch z) (fun _ _ _ z => nomatch z), by rw [e3]; exact goD h.ds fun x hx => (h.dj x hx).2, h.nd, go h.bl (fun _ z => nomatch z) (fun _ _ _ z => nomatch z),
    by rw [e4]; exact Paired.mapP h.bs fun _ _ ⟨t, e, e2⟩ => ⟨t, e, go e2 (fun _ z => nomatch z) (fun _ _ _ z => nomatch z)⟩, k _ _ h.ju h.nj (rd h.ju), by rw [e5]; exact Paired.mapP h.js fun _ _ ⟨t, e, e2⟩ => ⟨t, e, go e2 (fun _ z => nomatch z) (fun _ _ _ z => nomatch z)⟩, hz, h.nj, h.dj, h.nb, h.r0, h.s0, h.b0, h.j0, h.z0, h.d0⟩
def valueB (rs : RS) (n : Nm) : Bool := decide (kindOf rs.scs n ∈ (["option", "item"] : List Str))
def localB (rs : RS) (n : Nm) : Bool := decide (rs.loop = 0) || (rs.scs.drop rs.loop).any fun sc => (getA sc n).isSome
def growR (rs : RS) (n : Nm) (m : Int) : RS := { rs with szs := putA rs.szs n ((getA rs.szs n).getD 0 + m), size := if (getA rs.szs n).getD 0 + m > rs.size then (getA rs.szs n).getD 0 + m else rs.size }
def sp_Reader_is_value (C : Addr) : Sp := fun vs H Q _ => ∃ (H0 : Hp) (r : Addr) (rs : RS) (A : RA) (n : Nm), vs = [.ref r, .str (S n)] ∧ RAt C H0 H r rs A ∧ ∀ H', Same H H' → Q (.bl (valueB rs n)) H'
def sp_Reader_is_local (C : Addr) : Sp := fun vs H Q _ => ∃ (H0 : Hp) (r : Addr) (rs : RS) (A : RA) (n : Nm), vs = [.ref r, .str (S n)] ∧ RAt C H0 H r rs A ∧ rs.wt < 50000 ∧ ∀ H', Same H H' → Q (.bl (localB rs n)) H'
def sp_Reader_grow (C : Addr) : Sp := fun vs H Q _ => ∃ (H0 : Hp) (r : Addr) (rs : RS) (A : RA) (n : Nm) (m z : Int), vs = [.ref r, .str (S n), .int m] ∧ RAt C H0 H r rs A ∧ Same H0 H ∧ getA rs.szs n = some z ∧ rs.wt < 50000 ∧
  ∀ H' A', RAt C H0 H' r (growR rs n m) A' → Same H0 H' → Q (.bl true) H'
section
variable {P : Program} {w : World} {K : PySem.W.Frag} {mg : Str → Option Value} {base : Heap} {Z : Ad}
theorem ok_Reader_declare (T : Txt K mg Z) : FnOk P w K mg base CX0 2 Z.a_Reader_declare Z.d_Reader_declare ["self", "name", "kind"] (sp_Reader_declare Z.c_Reader) := by
  refine T.F_Reader_declare.ok sc_Reader_declare (fun vs H Q E h => ?_) (fun cdv A outer s H vs Q E hr h => ?_)
  · obtain ⟨H0, r, rs, B, n, k, rfl, _⟩ := h
    rfl
  · obtain ⟨H0, r, rs, B, n, k, rfl, h, s0, hne, wt, nl, q⟩ := h
    have nd := sc_Reader_declare.nd
    have hu := hu_of hr
    have cR := T.cl_Reader
    have n1 := T.n_Reader_scopes
    have n2 := T.n_Reader_sizes
    have lk0 : (fldsR rs B).lookup ("kind_of" : Str) = none := rfl
    have lk1 : (fldsR rs B).lookup ("scopes" : Str) = some (V.ref B.sc) := rfl
    have lk2 : (fldsR rs B).lookup ("sizes" : Str) = some (V.ref B.sz) := rfl
    refine ⟨_, (pss_cons (ps_if (PW.pt (pw_or (pt_not (pt_val (pe_call (ok_is_name T) (hr.mono (by decide)) (by rfl) T.g_is_name T.F_is_name.kp T.b_is_name .nil pass0 (pa_cons (pv 1) pa_nil)))) (pw_or1 (pt_cmpR op_ne (pe_meth (pv 0) T.cl_Reader T.m_Reader_kind_of (ok_Reader_kind_of T) (hr.mono (by decide)) T.b_Reader_kind_of .nil pass0 (pa_cons (pv 1) pa_nil)) pe_str (nomark _)))))
  (pss_one (ps_ret pe_bl))
  pss_nil)
  (pss_cons (ps_dput hu (pe_ix ix_list (pe_fld (pv 0) rfl) (pe_un un_neg pe_int) (fun _ _ => rfl)) (pv 1) (pv 2) rfl)
  (pss_cons (ps_dput hu (pe_fld (pv 0) rfl) (pv 1) pe_int rfl)
  (pss_one (ps_ret pe_bl))))), ?_⟩
    refine Eg.w_sig (σ := [some (.ref r), some (.str (S n)), some (.str k)]) rfl ?_
    walk_at "go"
    refine ⟨n, rfl, nl, fun H1 s1 => ?_⟩
    have h1 := h.keep s1
    have ho := h1.ob
    cases e1 : nameB n with
    | false =>
      walk_at "go"
      exact q.1 (by unfold declR; rw [e1]; rfl) H1 (s0.trans s1)
    | true =>
      walk_at "go"
      refine ⟨H0, r, rs, B, n, rfl, h1, ?_⟩
      walk_at "go"
      by_cases e2 : kindOf rs.scs n = ""
      · rw [decide_eq_true (show V.str (kindOf rs.scs n) = V.str "" by rw [e2])]
        walk_at "go"
        obtain ⟨di, dl, si, sl, eD, eS, pi, hdl⟩ := pair_last h1.ds hne
        have hsc := h1.sc
        have hz := h1.sz
        have iL : atI (B.ds.map V.ref) (-1) = some (V.ref dl) := Tx.atI_last (by rw [eD, List.map_append, List.getLast?_append]; rfl)
        have lw := wt_last eS
        have zw : rs.szs.length ≤ rs.wt := by unfold RS.wt; omega
        have dm : dl ∈ B.ds := by rw [eD]; exact List.mem_append.mpr (.inr List.mem_cons_self)
        obtain ⟨dj, dz⟩ := h1.dj dl dm
        refine Eg.w_ixL (SqL.of hsc) iL ?_
        walk_at "go"
        refine ⟨dl, _, rfl, DPut.k (k := .inr (S n)) hdl (by rw [sizeLine_eq]; unfold encS; rw [List.length_map]; omega), ?_⟩
        rw [put_S]
        have k2 : ∀ c o, H1 c = some o → c ≠ dl → upd H1 dl (.dK (encS (putA sl n k))) c = some o := fun c o e n => Eg.upd_mut n e
        have h2d : upd H1 dl (.dK (encS (putA sl n k))) dl = some (.dK (encS (putA sl n k))) := upd_same
        generalize upd H1 dl (.dK (encS (putA sl n k))) = H2 at k2 h2d ⊢
        have h2r := k2 _ _ ho (ne_of ho hdl (fun z => nomatch z))
        have h2z := k2 _ _ hz dz.symm
        walk_at "go"
        refine ⟨B.sz, _, rfl, DPut.k (k := .inr (S n)) h2z (by rw [sizeLine_eq]; unfold encZ; rw [List.length_map]; omega), ?_⟩
        rw [put_Z]
        have k3 : ∀ c o, H1 c = some o → c ≠ dl → c ≠ B.sz → upd H2 B.sz (.dK (encZ (putA rs.szs n 0))) c = some o := fun c o e n1 n2 => Eg.upd_mut n2 (k2 _ _ e n1)
        have h3z : upd H2 B.sz (.dK (encZ (putA rs.szs n 0))) B.sz = some (.dK (encZ (putA rs.szs n 0))) := upd_same
        have h3d : upd H2 B.sz (.dK (encZ (putA rs.szs n 0))) dl = some (.dK (encS (putA sl n k))) := Eg.upd_mut dz h2d
        generalize upd H2 B.sz (.dK (encZ (putA rs.szs n 0))) = H3 at k3 h3z h3d ⊢
        walk_at "go"
        refine q.2 { rs with scs := modL rs.scs n k, szs := putA rs.szs n 0 } (by unfold declR; rw [e1, decide_eq_true e2]; rfl) H3 B (h1.decl eD eS pi hdl k3 h3z h3d) fun c o e => k3 _ _ ((s0.trans s1) _ _ e) (ne_of_none e (h1.d0 dl dm)) (ne_of_none e h1.z0)
      · rw [decide_eq_false (show ¬ V.str (kindOf rs.scs n) = V.str "" from fun z => e2 (V.str.inj z))]
        walk_at "go"
        exact q.1 (by unfold declR; rw [e1, decide_eq_false e2]; rfl) H1 (s0.trans s1)
theorem ok_Reader_is_value (T : Txt K mg Z) : FnOk P w K mg base CX0 2 Z.a_Reader_is_value Z.d_Reader_is_value ["self", "name"] (sp_Reader_is_value Z.c_Reader) := by
  refine T.F_Reader_is_value.ok sc_Reader_is_value (fun vs H Q E h => ?_) (fun cdv A outer s H vs Q E hr h => ?_)
  · obtain ⟨H0, r, rs, B, n, rfl, _⟩ := h
    rfl
  · obtain ⟨H0, r, rs, B, n, rfl, h, q⟩ := h
    have nd := sc_Reader_is_value.nd
    have cR := T.cl_Reader
    have lk0 : (fldsR rs B).lookup ("kind_of" : Str) = none := rfl
    have ho := h.ob
    refine ⟨_, (pss_one (ps_ret (pe_cmpR op_in_seq (pe_meth (pv 0) T.cl_Reader T.m_Reader_kind_of (ok_Reader_kind_of T) (hr.mono (by decide)) T.b_Reader_kind_of .nil pass0 (pa_cons (pv 1) pa_nil)) (pe_tup (pa_cons pe_str (pa_cons pe_str pa_nil))) (by rfl)))), ?_⟩
    refine Eg.w_sig (σ := [some (.ref r), some (.str (S n))]) rfl ?_
    walk_at "go"
    refine ⟨H0, r, rs, B, n, rfl, h, ?_⟩
    walk_at "go"
    intro t ht
    have h1t : upd H t (.tup [.str "option", .str "item"]) t = some (.tup [.str "option", .str "item"]) := upd_same
    have s1 : Same H (upd H t (.tup [.str "option", .str "item"])) := fun c o e => Eg.upd_old e ht
    generalize upd H t (.tup [.str "option", .str "item"]) = H1 at h1t s1 ⊢
    refine ⟨t, _, rfl, .inr (SqT.of h1t), rfl, rfl, ?_⟩
    rw [if_neg Bool.false_ne_true]
    have e := inV_strs (k := kindOf rs.scs n) ["option", "item"]
    rw [show ([("option" : Str), "item"].map V.str) = [V.str "option", V.str "item"] from rfl] at e
    rw [e]
    exact q H1 s1
theorem ok_Reader_grow (T : Txt K mg Z) : FnOk P w K mg base CX0 1 Z.a_Reader_grow Z.d_Reader_grow ["self", "name", "many"] (sp_Reader_grow Z.c_Reader) := by
  refine T.F_Reader_grow.ok sc_Reader_grow (fun vs H Q E h => ?_) (fun cdv A outer s H vs Q E hr h => ?_)
  · obtain ⟨H0, r, rs, B, n, m, z, rfl, _⟩ := h
    rfl
  · obtain ⟨H0, r, rs, B, n, m, z, rfl, h, s0, hz, wt, q⟩ := h
    have nd := sc_Reader_grow.nd
    have hu := hu_of hr
    have cR := T.cl_Reader
    have n1 := T.n_Reader_sizes
    have n2 := T.n_Reader_size
    have lk1 : (fldsR rs B).lookup ("sizes" : Str) = some (V.ref B.sz) := rfl
    have lk2 : (fldsR rs B).lookup ("size" : Str) = some (V.int rs.size) := rfl
    have ho := h.ob
    have hsz := h.sz
    have dg := Tw.dgetK (k := .inr (S n)) (.inl hsz)
    rw [val_Z, hz] at dg
    have zw : rs.szs.length ≤ rs.wt := by unfold RS.wt; omega
    refine ⟨_, (pss_cons (ps_daug hu (pe_fld (pv 0) rfl) (pv 1) (pv 2) ip_add (by intros; rfl))
  (pss_cons (ps_fld (pv 0) (pe_callB (Eg.cr_max2 rfl) (by rfl) T.u_max (by decide +kernel) (pa_cons (pe_fld (pv 0) rfl) (pa_cons (pe_dget hu (pe_fld (pv 0) rfl) (pv 1) (fun _ _ => rfl)) pa_nil))) rfl)
  (pss_one (ps_ret pe_bl)))), ?_⟩
    refine Eg.w_sig (σ := [some (.ref r), some (.str (S n)), some (.int m)]) rfl ?_
    walk_at "go"
    unfold sDAug
    walk_at "go"
    refine ⟨B.sz, .int z, rfl, dg, ?_⟩
    walk_at "go"
    refine ⟨z, m, rfl, rfl, ?_⟩
    refine ⟨_, DPut.k (k := .inr (S n)) hsz (by rw [sizeLine_eq]; unfold encZ; rw [List.length_map]; omega), ?_⟩
    rw [put_Z]
    have k2 : ∀ c o, H c = some o → c ≠ B.sz → upd H B.sz (.dK (encZ (putA rs.szs n (z + m)))) c = some o := fun c o e n => Eg.upd_mut n e
    have h2z : upd H B.sz (.dK (encZ (putA rs.szs n (z + m)))) B.sz = some (.dK (encZ (putA rs.szs n (z + m)))) := upd_same
    generalize upd H B.sz (.dK (encZ (putA rs.szs n (z + m)))) = H2 at k2 h2z ⊢
    have h2o := k2 _ _ ho (ne_of ho hsz (fun z => nomatch z))
    have dg2 := Tw.dgetK (k := .inr (S n)) (.inl h2z)
    rw [val_Z, get_put] at dg2
    walk_at "go"
    refine ⟨B.sz, .int (z + m), rfl, dg2, ?_⟩
    walk_at "go"
    have e : growR rs n m = { rs with szs := putA rs.szs n (z + m), size := if z + m > rs.size then z + m else rs.size } := by
      unfold growR
      rw [hz]
      rfl
    rw [e] at q
    refine q _ B (h.chg rfl rfl rfl rfl rfl (fun c o e n1 n2 => Eg.upd_mut n2 (k2 _ _ e n1)) upd_same (Eg.upd_mut (ne_of ho hsz (fun z => nomatch z)).symm h2z)) fun c o e => Eg.upd_mut (ne_of_none e h.r0) (k2 _ _ (s0 _ _ e) (ne_of_none e h.z0))
theorem ok_Reader_is_local (T : Txt K mg Z) : FnOk P w K mg base CX0 1 Z.a_Reader_is_local Z.d_Reader_is_local ["self", "name"] (sp_Reader_is_local Z.c_Reader) := by
  refine T.F_Reader_is_local.ok sc_Reader_is_local (fun vs H Q E h => ?_) (fun cdv A outer s H vs Q E hr h => ?_)
  · obtain ⟨H0, r, rs, B, n, rfl, _⟩ := h
    rfl
  · obtain ⟨H0, r, rs, B, n, rfl, h, wt, q⟩ := h
    have nd := sc_Reader_is_local.nd
    have hu := hu_of hr
    have cR := T.cl_Reader
    have n1 := T.n_Reader_scopes
    have n2 := T.n_Reader_loop
    have lk1 : (fldsR rs B).lookup ("scopes" : Str) = some (V.ref B.sc) := rfl
    have lk2 : (fldsR rs B).lookup ("loop" : Str) = some (V.int (rs.loop : Int)) := rfl
    have ho := h.ob
    have hsc := h.sc
    refine ⟨_, (pss_cons (ps_if (pt_cmpR op_eq (pe_fld (pv 0) rfl) pe_int (nomark _))
  (pss_one (ps_ret pe_bl))
  pss_nil)
  (pss_one (ps_ret (pe_callB (cr_any rfl) (by rfl) T.u_any (by decide +kernel) (pa_cons (pe_lc (own := [("scope", 2)]) rfl nd (pi_list (pe_slice sl_list (pe_fld (pv 0) rfl) (po_some (pe_fld (pv 0) rfl)) po_none)) (blkOk_by (N := N_Reader_is_local) (sc := defScope s_Reader_is_local) (by decide +kernel)) (fun _ _ _ _ _ => (pg_name (i := 2) nd rfl (Or.inl rfl))) (fun _ _ _ _ _ => pts_nil) (fun _ _ _ _ _ => (Eg.peE (pe_cmp (pc_din hu (pv 1) (pv 2)) rfl) (by walk_at "blk")))) pa_nil))))), ?_⟩
    refine Eg.w_sig (σ := [some (.ref r), some (.str (S n)), none]) rfl ?_
    walk_at "go"
    by_cases e : rs.loop = 0
    · rw [decide_eq_true (by rw [e]; rfl : V.int (rs.loop : Int) = V.int 0)]
      walk_at "go"
      have el : localB rs n = true := by unfold localB; rw [decide_eq_true e]; rfl
      rw [el] at q
      exact q H (Same.refl H)
    · rw [decide_eq_false (fun z => e (by have := V.int.inj z; omega) : ¬ V.int (rs.loop : Int) = V.int 0)]
      walk_at "gw"
      refine Eg.w_lc (Eg.w_iL ?_)
      walk_at "go"
      refine ⟨B.sc, _, rfl, SqL.of hsc, fun p hp => ?_⟩
      rw [cut_drop]
      have h1p : upd H p (.lst ((B.ds.map V.ref).drop rs.loop)) p = some (.lst ((B.ds.drop rs.loop).map V.ref)) := by rw [List.map_drop]; exact upd_same
      have s1 : Same H (upd H p (.lst ((B.ds.map V.ref).drop rs.loop))) := fun c o e => Eg.upd_old e hp
      generalize upd H p (.lst ((B.ds.map V.ref).drop rs.loop)) = H1 at h1p s1 ⊢
      refine Eg.c_iL (SqL.of h1p) ?_
      intro D hD
      have dsl := Paired.length h.ds
      have scl : rs.scs.length ≤ rs.wt := by unfold RS.wt; omega
      refine lc_list (xs := (B.ds.drop rs.loop).map V.ref) (fun i H' => Same H1 H' ∧ H' D = some (.lst (((rs.scs.drop rs.loop).take i).map fun sc => V.bl (getA sc n).isSome))) ⟨Eg.same_new (Same.refl _) hD, upd_same⟩ (fun i H' _ h => SqL.of (h.1 _ _ h1p)) ?_ ?_
      · rintro i x H2 hx ⟨s2, h2⟩
        rw [List.getElem?_map] at hx
        obtain ⟨d, hd, rfl⟩ := Option.map_eq_some_iff.mp hx
        rw [List.getElem?_drop] at hd
        obtain ⟨sc, hs, hdk⟩ := pair_getL h.ds hd
        have hs' : (rs.scs.drop rs.loop)[i]? = some sc := by rw [List.getElem?_drop]; exact hs
        obtain ⟨hlt, he⟩ := List.getElem?_eq_some_iff.mp hs'
        have dg := Tw.dgetK (k := .inr (S n)) (.inl ((s1.trans s2) _ _ hdk))
        rw [val_S] at dg
        refine Eg.w_gN (Eg.w_wipe rfl (Eg.w_yes (iteT ?_)))
        walk_at "go"
        refine Eg.c_din dg ?_
        refine ⟨_, h2, by rw [List.length_map, List.length_take, List.length_drop, sizeLine_eq]; omega, Eg.same_mut s2 hD, ?_⟩
        rw [upd_same, List.take_succ_eq_append_getElem hlt, he, List.map_append, Option.isSome_map]
        rfl
      · rintro H2 ⟨s2, h2⟩
        rw [List.length_map, List.length_drop, dsl, ← List.length_drop, List.take_length] at h2
        walk_at "go"
        refine ⟨D, (rs.scs.drop rs.loop).map fun sc => (getA sc n).isSome, rfl, SqL.of (by rw [h2, List.map_map]; rfl), ?_⟩
        have el : localB rs n = ((rs.scs.drop rs.loop).map fun sc => (getA sc n).isSome).any id := by
          unfold localB
          rw [decide_eq_false e, Bool.false_or, List.any_map]
          rfl
        rw [← el]
        exact q H2 (s1.trans s2)
end
end LW
end

section
local macro_rules | `(tactic| walk_at "tx") => `(tactic| first
  | ((with_reducible refine' Eg.c_sfld ?hs ?hc ?hn ?hl ?_); (case hs => walk_at "hp"); (case hc => assumption); (case hn => assumption); (case hl => exact Nat.le_of_ble_eq_true rfl)))
namespace LW
open PySem L2 SX Tx
/-! programs: blocks opened, names of a line declared -/
theorem RAt.base {C : Addr} {H0 H1 H : Hp} {r : Addr} {rs : RS} {A : RA} (h : RAt C H1 H r rs A) (s : Same H0 H1) : RAt C H0 H r rs A :=
  ⟨h.ob, h.op, h.li, h.sc, h.ds, h.nd, h.bl, h.bs, h.ju, h.js, h.sz, h.nj, h.dj, h.nb, s.free h.r0, s.free h.s0, s.free h.b0, s.free h.j0, s.free h.z0, fun d hd => s.free (h.d0 d hd)⟩
def RA.own (A : RA) (r c : Addr) : Prop := c = r ∨ c = A.sc ∨ c = A.bl ∨ c = A.j ∨ c = A.sz ∨ c ∈ A.ds
open Classical in
/-- all but the reader's own things stands -/
theorem RAt.rebase {C : Addr} {H0 H : Hp} {r : Addr} {rs : RS} {A : RA} (h : RAt C H0 H r rs A) (s : Same H0 H) : ∃ H1, RAt C H1 H r rs A ∧ Same H1 H ∧ Same H0 H1 ∧ ∀ c o, H c = some o → ¬ A.own r c → H1 c = some o := by
  have no : ∀ c o, H0 c = some o → ¬ A.own r c := fun c o e z => by
    rcases z with z | z | z | z | z | z
    · rw [z, h.r0] at e
      cases e
    · rw [z, h.s0] at e
      cases e
    · rw [z, h.b0] at e
      cases e
    · rw [z, h.j0] at e
      cases e
    · rw [z, h.z0] at e
      cases e
    · rw [h.d0 c z] at e
      cases e
  have ow : ∀ c, A.own r c → (if A.own r c then none else H c) = none := fun c z => if_pos z
  refine ⟨fun c => if A.own r c then none else H c, ?_, fun c o e => ?_, fun c o e => ?_, fun c o e n => ?_⟩
  · exact ⟨h.ob, h.op, h.li, h.sc, h.ds, h.nd, h.bl, h.bs, h.ju, h.js, h.sz, h.nj, h.dj, h.nb, ow _ (.inl rfl), ow _ (.inr (.inl rfl)), ow _ (.inr (.inr (.inl rfl))), ow _ (.inr (.inr (.inr (.inl rfl)))), ow _ (.inr (.inr (.inr (.inr (.inl rfl))))), fun d hd => ow _ (.inr (.inr (.inr (.inr (.inr hd)))))⟩
  · have e : (if A.own r c then none else H c) = some o := e
    split at e
    · cases e
    · exact e
  · show (if A.own r c then none else H c) = some o
    rw [if_neg (no c o e)]
    exact s c o e
  · show (if A.own r c then none else H c) = some o
    rw [if_neg n]
    exact e
theorem RAt.lst {C : Addr} {H0 H : Hp} {r : Addr} {rs : RS} {A : RA} {c : Addr} {xs : List V} (h : RAt C H0 H r rs A) (e : H c = some (.lst xs)) (n1 : c ≠ A.sc) (n2 : c ≠ A.bl) : ¬ A.own r c := fun z => by
  rcases z with z | z | z | z | z | z
  · exact ne_of e h.ob (fun z => nomatch z) z
  · exact n1 z
  · exact n2 z
  · exact ne_of e h.ju (fun z => nomatch z) z
  · exact ne_of e h.sz (fun z => nomatch z) z
  · obtain ⟨i, hi⟩ := List.mem_iff_getElem?.mp z
    obtain ⟨s, _, hd⟩ := pair_getL h.ds hi
    rw [e] at hd
    cases hd
theorem declR_wt {rs rs' : RS} {n : Nm} {k : Str} (h : declR rs n k = some rs') (hs : rs.scs ≠ []) : rs'.wt ≤ rs.wt + 2 ∧ rs'.scs ≠ [] ∧ rs'.loop = rs.loop ∧ rs'.scs.length = rs.scs.length := by
  unfold declR at h
  split at h
  · cases h
    obtain ⟨i, l, e⟩ : ∃ i l, rs.scs = i ++ [l] := ⟨rs.scs.dropLast, rs.scs.getLast hs, (List.dropLast_concat_getLast hs).symm⟩
    have h1 := putA_len rs.szs n 0
    have h2 := putA_len l n k
    have em : modL rs.scs n k = i ++ [putA l n k] := by rw [e, modL_app]
    refine ⟨?_, ?_, rfl, ?_⟩
    · show (putA rs.szs n 0).length + rs.jmps.length + (modL rs.scs n k).length + rs.blks.length + ((modL rs.scs n k).map List.length).sum ≤ rs.wt + 2
      unfold RS.wt
      rw [em, e, List.length_append, List.length_append, List.map_append, List.map_append, List.sum_append, List.sum_append]
      simp only [List.map_cons, List.map_nil, List.sum_cons, List.sum_nil, List.length_cons, List.length_nil]
      omega
    · show modL rs.scs n k ≠ []
      rw [em]
      exact fun z => by cases i <;> cases z
    · show (modL rs.scs n k).length = _
      rw [em, e, List.length_append, List.length_append]
      rfl
  · cases h
theorem js_put {H : Hp} {t : Addr} {at_ : Nat} {x y : Int} : ∀ {jk : List (Key × V)} {js : List (Nat × (Int × Int))}, Paired (fun (p : Key × V) (q : Nat × (Int × Int)) => ∃ t, p = (.inl (q.1 : Int), V.ref t) ∧ H t = some (.tup [.int q.2.1, .int q.2.2])) jk js → H t = some (.tup [.int x, .int y]) →
    Paired (fun (p : Key × V) (q : Nat × (Int × Int)) => ∃ t, p = (.inl (q.1 : Int), V.ref t) ∧ H t = some (.tup [.int q.2.1, .int q.2.2])) (putK jk (.inl (at_ : Int)) (.ref t)) (putA js at_ (x, y)) := by
  intro jk js p ht
  have ea : (jk.any fun kv => decide (kv.1 = (.inl (at_ : Int) : Key))) = js.any fun q => decide (q.1 = at_) := by
    induction p with
    | nil => rfl
    | cons a _ ih =>
      obtain ⟨u, rfl, _⟩ := a
      rw [List.any_cons, List.any_cons, ih]
      congr 1
      exact decide_eq_decide.mpr int_eq
  unfold putK putA
  rw [ea]
  split
  · rename_i hh
    clear ea hh
    induction p with
    | nil => exact .nil
    | @cons p q r t' a _ ih =>
      obtain ⟨u, rfl, hu⟩ := a
      refine .cons ?_ ih
      dsimp only
      by_cases e : q.1 = at_
      · rw [if_pos (int_eq.mpr e), if_pos e]
        exact ⟨t, rfl, ht⟩
      · rw [if_neg (fun z => e (int_eq.mp z)), if_neg e]
        exact ⟨u, rfl, hu⟩
  · exact pair_app p (.cons ⟨t, rfl, ht⟩ .nil)
def decAll (rs : RS) (k : Str) : List Nm → Option RS
  | [] => some rs
  | n :: r => match declR rs n k with
    | some rs' => decAll rs' k r
    | none => none
def declsR (rs : RS) (ns : List Nm) (k : Str) : Option RS := if (decide (1 ≤ ns.length) && decide (ns.length ≤ 3)) = true then decAll rs k ns else none
def openR (rs : RS) (at_ : Nat) (k : Str) : Option RS := if rs.blks.length ≥ 4 then none else some { rs with blks := rs.blks ++ [(at_, k)], scs := rs.scs ++ [[]], jmps := putA rs.jmps at_ (-1, -1) }
def manR (rs : RS) (ps : List Nm) : Option RS := match ps with
  | [a, b] => if (decide (S a = "by") && decide (S b ∈ (["order", "number", "name"] : List Str))) = true then some { rs with man := S b, stage := 1 } else none
  | _ => none
def sp_Reader_declare_all (C : Addr) : Sp := fun vs H Q _ => ∃ (H0 : Hp) (r a : Addr) (rs : RS) (A : RA) (ns : List Nm) (k : Str), vs = [.ref r, .ref a, .str k] ∧ RAt C H0 H r rs A ∧ Same H0 H ∧ rs.scs ≠ [] ∧ rs.wt < 40000 ∧ H0 a = some (.lst (ns.map fun n => V.str (S n))) ∧ ns.length < 1000 ∧ (∀ n ∈ ns, n.length < 100000) ∧ Out C H0 H r (declsR rs ns k) Q
def sp_Reader_accept_manner (C : Addr) : Sp := fun vs H Q _ => ∃ (H0 : Hp) (r a : Addr) (rs : RS) (A : RA) (ps : List Nm), vs = [.ref r, .ref a] ∧ RAt C H0 H r rs A ∧ Same H0 H ∧ H0 a = some (.lst (ps.map fun n => V.str (S n))) ∧ Out C H0 H r (manR rs ps) Q
def sp_Reader_open_block (C : Addr) : Sp := fun vs H Q _ => ∃ (H0 : Hp) (r : Addr) (at_ : Nat) (rs : RS) (A : RA) (k : Str), vs = [.ref r, .int (at_ : Int), .str k] ∧ RAt C H0 H r rs A ∧ Same H0 H ∧ rs.wt < 40000 ∧ Out C H0 H r (openR rs at_ k) Q
section
variable {P : Program} {w : World} {K : PySem.W.Frag} {mg : Str → Option Value} {base : Heap} {Z : Ad}
theorem ok_Reader_declare_all (T : Txt K mg Z) : FnOk P w K mg base CX0 3 Z.a_Reader_declare_all Z.d_Reader_declare_all ["self", "names", "kind"] (sp_Reader_declare_all Z.c_Reader) := by
  refine T.F_Reader_declare_all.ok sc_Reader_declare_all (fun vs H Q E h => ?_) (fun cdv A outer s H vs Q E hr h => ?_)
  · obtain ⟨H0, r, a, rs, B, ns, k, rfl, _⟩ := h
    rfl
  · obtain ⟨H0, r, a, rs, B, ns, k, rfl, h, s0, hne, wt, ha, nl, nll, q⟩ := h
    have nd := sc_Reader_declare_all.nd
    have hu := hu_of hr
    have cR := T.cl_Reader
    have h_a := s0 _ _ ha
    have ml : (ns.map fun n => V.str (S n)).length = ns.length := List.length_map ..
    refine ⟨_, (pss_cons (ps_if (pt_not (pt_chain op_le op_le pe_int (pe_callB Eg.cr_len (by rfl) T.u_len (by decide +kernel) (pa_cons (pv 1) pa_nil)) (Tw.pe_globS (by rfl) T.g_MOST_NAMES)))
  (pss_one (ps_ret pe_bl))
  pss_nil)
  (pss_cons (ps_for PassesOwn.never rfl (pi_list (pv 1)) (pg_name (i := 3) nd rfl (Or.inl rfl))
  (pss_one (ps_if (pt_not (pt_val (pe_meth (pv 0) T.cl_Reader T.m_Reader_declare (ok_Reader_declare T) (hr.mono (by decide)) T.b_Reader_declare .nil pass0 (pa_cons (pv 3) (pa_cons (pv 2) pa_nil)))))
  (pss_one (ps_ret pe_bl))
  pss_nil)))
  (pss_one (ps_ret pe_bl)))), ?_⟩
    refine Eg.w_sig (σ := [some (.ref r), some (.ref a), some (.str k), none]) rfl ?_
    walk_at "go"
    rw [ml]
    have fail : ∀ H', Same H0 H' → declsR rs ns k = none → Q (.bl false) H' := fun H' s e => q.1 e H' s
    by_cases h1 : (1 : Int) ≤ (ns.length : Nat)
    · rw [decide_eq_true h1]
      walk_at "go"
      by_cases h2 : ((ns.length : Nat) : Int) ≤ 3
      · rw [decide_eq_true h2]
        walk_at "go"
        have ed : declsR rs ns k = decAll rs k ns := by
          unfold declsR
          rw [decide_eq_true (show 1 ≤ ns.length by omega), decide_eq_true (show ns.length ≤ 3 by omega)]
          rfl
        refine for_list (xs := ns.map fun n => V.str (S n)) (fun j σ' H' => ∃ (v3 : Option V) (rs' : RS) (A' : RA), σ' = [some (.ref r), some (.ref a), some (.str k), v3] ∧ RAt Z.c_Reader H0 H' r rs' A' ∧ Same H0 H' ∧ rs'.scs ≠ [] ∧ rs'.wt ≤ rs.wt + 2 * j ∧ decAll rs k ns = decAll rs' k (ns.drop j)) ⟨none, rs, B, rfl, h, s0, hne, Nat.le_refl _, rfl⟩ ?_ ?_ ?_
        · rintro j _ H' _ ⟨v3, rs', A', rfl, _, s', _⟩
          exact SqL.of (s' _ _ ha)
        · rintro j x _ H' hx ⟨v3, rs', A', rfl, h', s', hne', wt', e'⟩
          rw [List.getElem?_map] at hx
          obtain ⟨n, hn, rfl⟩ := Option.map_eq_some_iff.mp hx
          obtain ⟨hlt, he⟩ := List.getElem?_eq_some_iff.mp hn
          rw [List.drop_eq_getElem_cons hlt, he, decAll] at e'
          have ho' := h'.ob
          have lk0 : (fldsR rs' A').lookup ("declare" : Str) = none := rfl
          walk_at "go"
          refine ⟨H0, r, rs', A', n, k, rfl, h', s', hne', by omega, nll n (List.mem_of_getElem? hn), fun e H2 s2 => ?_, fun rs2 e H2 A2 h2 s2 => ?_⟩
          · walk_at "go"
            exact fail H2 s2 (by rw [ed, e', e])
          · walk_at "go"
            obtain ⟨w1, w2, _, _⟩ := declR_wt e hne'
            exact ⟨_, rs2, A2, rfl, h2, s2, w2, by omega, by rw [e', e]⟩
        · rintro _ H' ⟨v3, rs', A', rfl, h', s', _, _, e'⟩
          walk_at "go"
          rw [ml, List.drop_length] at e'
          exact q.2 rs' (by rw [ed, e']; rfl) H' A' h' s'
      · rw [decide_eq_false h2]
        walk_at "go"
        exact fail H s0 (by unfold declsR; rw [decide_eq_false (show ¬ ns.length ≤ 3 by omega), Bool.and_false]; rfl)
    · rw [decide_eq_false h1]
      walk_at "go"
      exact fail H s0 (by unfold declsR; rw [decide_eq_false (show ¬ 1 ≤ ns.length by omega)]; rfl)
theorem ok_Reader_accept_manner (T : Txt K mg Z) : FnOk P w K mg base CX0 1 Z.a_Reader_accept_manner Z.d_Reader_accept_manner ["self", "parts"] (sp_Reader_accept_manner Z.c_Reader) := by
  refine T.F_Reader_accept_manner.ok sc_Reader_accept_manner (fun vs H Q E h => ?_) (fun cdv A outer s H vs Q E hr h => ?_)
  · obtain ⟨H0, r, a, rs, B, ps, rfl, _⟩ := h
    rfl
  · obtain ⟨H0, r, a, rs, B, ps, rfl, h, s0, ha, q⟩ := h
    have nd := sc_Reader_accept_manner.nd
    have hu := hu_of hr
    have cR := T.cl_Reader
    have n1 := T.n_Reader_manner
    have n2 := T.n_Reader_stage
    have hM := T.g_MANNERS.choose_spec.2
    have ho := h.ob
    have h_a := s0 _ _ ha
    refine ⟨_, (pss_cons (ps_if (PW.pt (pw_or (pt_cmpR op_ne (pe_callB Eg.cr_len (by rfl) T.u_len (by decide +kernel) (pa_cons (pv 1) pa_nil)) pe_int (nomark _)) (pw_or (pt_cmpR op_ne (pe_ix ix_list (pv 1) pe_int (fun _ _ => rfl)) pe_str (nomark _)) (pw_or1 (pt_cmpR op_notIn_seq (pe_ix ix_list (pv 1) pe_int (fun _ _ => rfl)) (pe_glob (v := .ref T.g_MANNERS.choose) (by rfl) T.g_MANNERS.choose_spec.1 rfl) (by rfl))))))
  (pss_one (ps_ret pe_bl))
  pss_nil)
  (pss_cons (ps_fld (pv 0) (pe_ix ix_list (pv 1) pe_int (fun _ _ => rfl)) rfl)
  (pss_cons (ps_fld (pv 0) pe_int rfl)
  (pss_one (ps_ret pe_bl))))), ?_⟩
    generalize T.g_MANNERS.choose = R at hM ⊢
    refine Eg.w_sig (σ := [some (.ref r), some (.ref a)]) rfl ?_
    walk_at "go"
    rw [List.length_map]
    by_cases e1 : ps.length = 2
    · match ps, e1 with
      | [x, y], _ =>
        rw [show decide (V.int (([x, y] : List Nm).length : Int) = V.int 2) = true from decide_eq_true rfl]
        walk_at "go"
        show (if (!decide (V.str (S x) = V.str "by")) = true then _ else _)
        by_cases e2 : S x = "by"
        · rw [decide_eq_true (show V.str (S x) = V.str "by" by rw [e2])]
          walk_at "go"
          refine ⟨R, _, rfl, .inr (hM _), rfl, rfl, ?_⟩
          rw [if_pos rfl]
          have ei := inV_strs (k := S y) ["order", "number", "name"]
          rw [show ([("order" : Str), "number", "name"].map V.str) = [V.str "order", V.str "number", V.str "name"] from rfl] at ei
          rw [show ((fun n => V.str (S n)) y) = V.str (S y) from rfl, ei]
          by_cases e3 : S y ∈ (["order", "number", "name"] : List Str)
          · rw [decide_eq_true e3]
            walk_at "go"
            have em : manR rs [x, y] = some { rs with man := S y, stage := 1 } := by
              show (if (decide (S x = "by") && decide (S y ∈ (["order", "number", "name"] : List Str))) = true then _ else _) = _
              rw [decide_eq_true e2, decide_eq_true e3]
              rfl
            refine q.2 _ em _ B (h.chg rfl rfl rfl rfl rfl (fun c o e _ n => Eg.upd_mut n (Eg.upd_mut n e)) upd_same ?_) fun c o e => ?_
            · have zr : B.sz ≠ r := (ne_of ho h.sz (fun z => nomatch z)).symm
              exact Eg.upd_mut zr (Eg.upd_mut zr h.sz)
            · have n := ne_of_none e h.r0
              exact Eg.upd_mut n (Eg.upd_mut n (s0 _ _ e))
          · rw [decide_eq_false e3]
            walk_at "go"
            exact q.1 (by show (if (decide (S x = "by") && decide (S y ∈ (["order", "number", "name"] : List Str))) = true then _ else _) = none; rw [decide_eq_false e3, Bool.and_false]; rfl) H s0
        · rw [decide_eq_false (show ¬ V.str (S x) = V.str "by" from fun z => e2 (V.str.inj z))]
          walk_at "go"
          exact q.1 (by show (if (decide (S x = "by") && _) = true then _ else _) = none; rw [decide_eq_false e2]; rfl) H s0
    · rw [show decide (V.int (ps.length : Int) = V.int 2) = false from decide_eq_false (fun z => e1 (by have := V.int.inj z; omega))]
      walk_at "go"
      refine q.1 ?_ H s0
      unfold manR
      split
      · exact absurd rfl e1
      · rfl
theorem ok_Reader_open_block (T : Txt K mg Z) : FnOk P w K mg base CX0 1 Z.a_Reader_open_block Z.d_Reader_open_block ["self", "at", "kind"] (sp_Reader_open_block Z.c_Reader) := by
  refine T.F_Reader_open_block.ok sc_Reader_open_block (fun vs H Q E h => ?_) (fun cdv A outer s H vs Q E hr h => ?_)
  · obtain ⟨H0, r, at_, rs, B, k, rfl, _⟩ := h
    rfl
  · obtain ⟨H0, r, at_, rs, B, k, rfl, h, s0, wt, q⟩ := h
    have nd := sc_Reader_open_block.nd
    have hu := hu_of hr
    have cR := T.cl_Reader
    have n1 := T.n_Reader_blocks
    have n2 := T.n_Reader_scopes
    have n3 := T.n_Reader_jumps
    have lk1 : (fldsR rs B).lookup ("blocks" : Str) = some (V.ref B.bl) := rfl
    have lk2 : (fldsR rs B).lookup ("scopes" : Str) = some (V.ref B.sc) := rfl
    have lk3 : (fldsR rs B).lookup ("jumps" : Str) = some (V.ref B.j) := rfl
    have ho := h.ob
    have hbl := h.bl
    have bl := Paired.length h.bs
    refine ⟨_, (pss_cons (ps_if (pt_cmpR op_ge (pe_callB Eg.cr_len (by rfl) T.u_len (by decide +kernel) (pa_cons (pe_fld (pv 0) rfl) pa_nil)) (Tw.pe_globS (by rfl) T.g_MOST_DEPTH) (nomark _))
  (pss_one (ps_ret pe_bl))
  pss_nil)
  (pss_cons (ps_expr (pe_bm PySem.F.plainAttrs_list PySem.F.slot_list_append PySem.F.type_list_append mt_append (pe_fld (pv 0) rfl) (pa_cons (pe_tup (pa_cons (pv 1) (pa_cons (pv 2) pa_nil))) pa_nil)))
  (pss_cons (ps_expr (pe_bm PySem.F.plainAttrs_list PySem.F.slot_list_append PySem.F.type_list_append mt_append (pe_fld (pv 0) rfl) (pa_cons pe_dnewK pa_nil)))
  (pss_cons (ps_dput hu (pe_fld (pv 0) rfl) (pv 1) (pe_tup (pa_cons (pe_un un_neg pe_int) (pa_cons (pe_un un_neg pe_int) pa_nil))) rfl)
  (pss_one (ps_ret pe_bl)))))), ?_⟩
    refine Eg.w_sig (σ := [some (.ref r), some (.int (at_ : Int)), some (.str k)]) rfl ?_
    walk_at "go"
    rw [bl]
    by_cases e1 : rs.blks.length ≥ 4
    · rw [decide_eq_true (by omega : (rs.blks.length : Int) ≥ 4)]
      walk_at "go"
      exact q.1 (by unfold openR; rw [if_pos e1]) H s0
    · rw [decide_eq_false (by omega : ¬ (rs.blks.length : Int) ≥ 4)]
      walk_at "go"
      intro t ht
      have h1t : upd H t (.tup [.int (at_ : Int), .str k]) t = some (.tup [.int (at_ : Int), .str k]) := upd_same
      have s1 : Same H (upd H t (.tup [.int (at_ : Int), .str k])) := fun c o e => Eg.upd_old e ht
      generalize upd H t (.tup [.int (at_ : Int), .str k]) = H1 at h1t s1 ⊢
      have h1 := h.keep s1
      have h1bl := h1.bl
      have h1o := h1.ob
      have rbl : r ≠ B.bl := ne_of h1o h1bl (fun z => nomatch z)
      have bll : B.bls.length < 4 := by omega
      have h1sc := h1.sc
      have h1j := h1.ju
      have scn := h1.nb
      have rsc : r ≠ B.sc := ne_of h1o h1sc (fun z => nomatch z)
      walk_at "go"
      intro d hd
      have k2 : ∀ c o, H1 c = some o → c ≠ B.bl → upd H1 B.bl (.lst (B.bls ++ [.ref t])) c = some o := fun c o e n => Eg.upd_mut n e
      have h2bl : upd H1 B.bl (.lst (B.bls ++ [.ref t])) B.bl = some (.lst (B.bls ++ [.ref t])) := upd_same
      generalize upd H1 B.bl (.lst (B.bls ++ [.ref t])) = H2 at hd k2 h2bl ⊢
      have s3 : Same H2 (upd H2 d (.dK [])) := fun c o e => Eg.upd_old e hd
      have h3d : upd H2 d (.dK []) d = some (.dK []) := upd_same
      generalize upd H2 d (.dK []) = H3 at s3 h3d ⊢
      have h3sc := s3 _ _ (k2 _ _ h1sc scn)
      have h3o := s3 _ _ (k2 _ _ h1o rbl)
      have dsl := Paired.length h.ds
      have scw : rs.scs.length ≤ rs.wt := by unfold RS.wt; omega
      have jsl := Paired.length h.js
      have jw : rs.jmps.length ≤ rs.wt := by unfold RS.wt; omega
      have dsz : (B.ds.map V.ref).length < 100000 := by rw [List.length_map]; omega
      walk_at "go"
      intro t2 ht2
      have k4 : ∀ c o, H3 c = some o → c ≠ B.sc → upd H3 B.sc (.lst (B.ds.map V.ref ++ [.ref d])) c = some o := fun c o e n => Eg.upd_mut n e
      have h4sc : upd H3 B.sc (.lst (B.ds.map V.ref ++ [.ref d])) B.sc = some (.lst (B.ds.map V.ref ++ [.ref d])) := upd_same
      generalize upd H3 B.sc (.lst (B.ds.map V.ref ++ [.ref d])) = H4 at ht2 k4 h4sc ⊢
      have h5t : upd H4 t2 (.tup [.int (-1), .int (-1)]) t2 = some (.tup [.int (-1), .int (-1)]) := upd_same
      have s5 : Same H4 (upd H4 t2 (.tup [.int (-1), .int (-1)])) := fun c o e => Eg.upd_old e ht2
      generalize upd H4 t2 (.tup [.int (-1), .int (-1)]) = H5 at h5t s5 ⊢
      have h5o := s5 _ _ (k4 _ _ h3o rsc)
      have jb : B.j ≠ B.bl := ne_of h1j h1bl (fun z => nomatch z)
      have js : B.j ≠ B.sc := ne_of h1j h1sc (fun z => nomatch z)
      have h5j := s5 _ _ (k4 _ _ (s3 _ _ (k2 _ _ h1j jb)) js)
      walk_at "go"
      refine ⟨B.j, _, rfl, DPut.k (k := .inl (at_ : Int)) h5j (by rw [sizeLine_eq]; omega), ?_⟩
      have k6 : ∀ c o, H5 c = some o → c ≠ B.j → upd H5 B.j (.dK (putK B.jk (.inl (at_ : Int)) (.ref t2))) c = some o := fun c o e n => Eg.upd_mut n e
      have h6j : upd H5 B.j (.dK (putK B.jk (.inl (at_ : Int)) (.ref t2))) B.j = some (.dK (putK B.jk (.inl (at_ : Int)) (.ref t2))) := upd_same
      generalize upd H5 B.j (.dK (putK B.jk (.inl (at_ : Int)) (.ref t2))) = H6 at k6 h6j ⊢
      have kk : ∀ c o, H1 c = some o → c ≠ B.bl → c ≠ B.sc → c ≠ B.j → H6 c = some o := fun c o e n1 n2 n3 => k6 _ _ (s5 _ _ (k4 _ _ (s3 _ _ (k2 _ _ e n1)) n2)) n3
      walk_at "go"
      have lt : ∀ {c : Addr} {o : HO}, H c = some o → (∀ ys, o ≠ .lst ys) → (∀ ys, o ≠ .dK ys) → H6 c = some o := fun e n1 n2 => kk _ _ (s1 _ _ e) (fun z => n1 _ (by rw [z, h.bl] at e; exact (Option.some.inj e).symm)) (fun z => n1 _ (by rw [z, h.sc] at e; exact (Option.some.inj e).symm)) (fun z => n2 _ (by rw [z, h.ju] at e; exact (Option.some.inj e).symm))
      have dK6 : ∀ {c : Addr} {ks : List (Key × V)}, H c = some (.dK ks) → c ≠ B.j → H6 c = some (.dK ks) := fun e n => kk _ _ (s1 _ _ e) (ne_of e h.bl (fun z => nomatch z)) (ne_of e h.sc (fun z => nomatch z)) n
      have dbl : d ≠ B.bl := (ne_of_none h2bl hd).symm
      have fr : ∀ c o, H1 c = some o → c ≠ d := fun c o e => by
        by_cases z : c = B.bl
        · rw [z]
          exact dbl.symm
        · exact ne_of_none (k2 _ _ e z) hd
      have dj : d ≠ B.j := (fr _ _ h1j).symm
      have dsz' : d ≠ B.sz := (fr _ _ h1.sz).symm
      have dsc : d ≠ B.sc := (fr _ _ h1sc).symm
      have d1 : H1 d = none := by
        cases e : H1 d with
        | none => rfl
        | some o => exact absurd rfl (fr _ _ e)
      have goD : ∀ {xs : List Addr} {ys : List (List (Nm × Str))}, Paired (fun d s => H d = some (.dK (encS s))) xs ys → (∀ x ∈ xs, x ≠ B.j) → Paired (fun d s => H6 d = some (.dK (encS s))) xs ys := by
        intro xs ys p
        induction p with
        | nil => exact fun _ => .nil
        | cons a _ ih => exact fun m => .cons (dK6 a (m _ List.mem_cons_self)) (ih fun x hx => m x (List.mem_cons_of_mem _ hx))
      refine q.2 { rs with blks := rs.blks ++ [(at_, k)], scs := rs.scs ++ [[]], jmps := putA rs.jmps at_ (-1, -1) } (by unfold openR; rw [if_neg e1]) H6 { B with ds := B.ds ++ [d], bls := B.bls ++ [.ref t], jk := putK B.jk (.inl (at_ : Int)) (.ref t2) } ⟨lt h.ob (fun _ z => nomatch z) (fun _ z => nomatch z), lt h.op (fun _ z => nomatch z) (fun _ z => nomatch z), lt h.li (fun _ z => nomatch z) (fun _ z => nomatch z), ?_, ?_, ?_, ?_, ?_, h6j, ?_, dK6 h.sz h.nj.symm, h.nj, ?_, h.nb, h.r0, h.s0, h.b0, h.j0, h.z0, ?_⟩ ?_
      · show H6 B.sc = some (.lst ((B.ds ++ [d]).map V.ref))
        rw [List.map_append]
        exact k6 _ _ (s5 _ _ h4sc) js.symm
      · exact pair_app (goD h.ds fun x hx => (h.dj x hx).1) (.cons (show H6 d = some (.dK []) from k6 _ _ (s5 _ _ (k4 _ _ h3d dsc)) dj) .nil)
      · refine List.nodup_append.mpr ⟨h.nd, List.pairwise_singleton _ _, fun x hx y hy e => ?_⟩
        rw [List.mem_singleton.mp hy] at e
        obtain ⟨i, hi⟩ := List.mem_iff_getElem?.mp hx
        obtain ⟨sc, _, hx2⟩ := pair_getL h1.ds hi
        exact fr _ _ hx2 e
      · exact k6 _ _ (s5 _ _ (k4 _ _ (s3 _ _ h2bl) scn.symm)) jb.symm
      · exact pair_app (Paired.mapP h.bs fun _ _ ⟨u, e, e2⟩ => ⟨u, e, lt e2 (fun _ z => nomatch z) (fun _ z => nomatch z)⟩) (.cons ⟨t, rfl, kk _ _ h1t (ne_of h1t h1bl (fun z => nomatch z)) (ne_of h1t h1sc (fun z => nomatch z)) (ne_of h1t h1j (fun z => nomatch z))⟩ .nil)
      · exact js_put (Paired.mapP h.js fun _ _ ⟨u, e, e2⟩ => ⟨u, e, lt e2 (fun _ z => nomatch z) (fun _ z => nomatch z)⟩) (k6 _ _ h5t (ne_of h5t h5j (fun z => nomatch z)))
      · intro x hx
        rcases List.mem_append.mp hx with hx | hx
        · exact h.dj x hx
        · rw [List.mem_singleton.mp hx]
          exact ⟨dj, dsz'⟩
      · intro x hx
        rcases List.mem_append.mp hx with hx | hx
        · exact h.d0 x hx
        · rw [List.mem_singleton.mp hx]
          exact s0.free (s1.free d1)
      · exact fun c o e => kk _ _ (s1 _ _ (s0 _ _ e)) (ne_of_none e h.b0) (ne_of_none e h.s0) (ne_of_none e h.j0)
end
end LW
end

section
local macro_rules | `(tactic| walk_at "tx") => `(tactic| first
  | ((with_reducible refine' Eg.c_sfld ?hs ?hc ?hn ?hl ?_); (case hs => walk_at "hp"); (case hc => assumption); (case hn => assumption); (case hl => exact Nat.le_of_ble_eq_true rfl)))
local macro_rules | `(tactic| walk_at "at") => `(tactic| first | exact atI_nat (j := 0) rfl | exact atI_nat (j := 1) rfl | exact atI_nat (j := 2) rfl | exact atI_nat (j := 3) rfl | exact atI_nat (j := 4) rfl | exact atI_nat (j := 5) rfl | exact atI_nat (j := 6) rfl | exact atI_nat (j := 7) rfl)
namespace LW
open PySem L2 SX Tx
/-! programs: loops, blocks -/
theorem openR_wt {rs rs' : RS} {a : Nat} {k : Str} (h : openR rs a k = some rs') : rs'.wt ≤ rs.wt + 3 ∧ rs'.scs ≠ [] ∧ rs'.scs.length = rs.scs.length + 1 ∧ rs'.loop = rs.loop := by
  unfold openR at h
  split at h
  · cases h
  · cases h
    have h1 := putA_len rs.jmps a ((-1 : Int), (-1 : Int))
    refine ⟨?_, ?_, ?_, rfl⟩
    · show rs.szs.length + (putA rs.jmps a (-1, -1)).length + (rs.scs ++ [[]]).length + (rs.blks ++ [(a, k)]).length + ((rs.scs ++ [[]]).map List.length).sum ≤ rs.wt + 3
      unfold RS.wt
      rw [List.length_append, List.length_append, List.map_append, List.sum_append]
      simp only [List.map_cons, List.map_nil, List.sum_cons, List.sum_nil, List.length_cons, List.length_nil]
      omega
    · show rs.scs ++ [[]] ≠ []
      exact fun z => by cases e : rs.scs <;> rw [e] at z <;> cases z
    · show (rs.scs ++ [[]]).length = _
      rw [List.length_append]
      rfl
def downB (ps : List Nm) : Bool := decide (ps.drop 4 = []) || decide ((ps.drop 4).map S = (["down"] : List Str))
def eachR (rs : RS) (a : Nat) (ps : List Nm) : Option RS :=
  if ((decide (ps.length = 4) || decide (ps.length = 5)) && decide (S (ps.getD 2 []) = "of") && downB ps && decide (rs.loop = 0) && decide (kindOf rs.scs (ps.getD 3 []) = "list")) = true then
    match openR rs a "each" with
    | some rs1 => declR { rs1 with loop := rs1.scs.length - 1 } (ps.getD 1 []) "item"
    | none => none
  else none
theorem dp_txts {K : PySem.W.Frag} {H : Hp} : ∀ rs : List Nm, DpAll K H (rs.map fun n => V.str (S n)) (rs.map fun n => PyData.str (S n))
  | [] => .nil
  | _ :: r => .cons (.str _) (dp_txts r)
theorem down_any (p0 p1 p2 p3 : Nm) : ∀ rest : List Nm, rest.length ≤ 1 → (!([PyData.list [], PyData.list [PyData.str "down"]].any fun z => PyData.eqv z (.list (rest.map fun n => PyData.str (S n))))) = !(downB (p0 :: p1 :: p2 :: p3 :: rest))
  | [], _ => rfl
  | [n], _ => by
    have e1 : ([PyData.list [], PyData.list [PyData.str "down"]].any fun z => PyData.eqv z (.list [PyData.str (S n)])) = ("down" == S n) := by
      simp only [List.any_cons, List.any_nil, Bool.or_false, PyData.eqv, PyData.eqvAll, Bool.false_or, Bool.and_true]
    have e2 : downB [p0, p1, p2, p3, n] = decide (S n = "down") := by
      show (decide (([n] : List Nm) = []) || decide ([S n] = (["down"] : List Str))) = _
      rw [decide_eq_false (fun z => nomatch z), Bool.false_or]
      exact decide_eq_decide.mpr ⟨fun z => (List.cons.inj z).1, fun z => by rw [z]⟩
    rw [show ([n].map fun n => PyData.str (S n)) = [PyData.str (S n)] from rfl, e1, e2]
    refine congrArg _ ?_
    by_cases z : S n = "down"
    · rw [z]; rfl
    · rw [decide_eq_false z]
      exact beq_false_of_ne fun y => z y.symm
  | _ :: _ :: _, h => absurd h (by simp)
theorem str_lay {n : Nm} (h : ∀ c ∈ n, c < 0x110000) : PySem.PyData.strOk (S n) = true := by
  refine Array.all_eq_true_iff_forall_mem.mpr fun c hc => ?_
  exact decide_eq_true (h c (Array.mem_toList_iff.mpr hc))
theorem down_shaped (rest : List Nm) (hc : ∀ n ∈ rest, ∀ c ∈ n, c < 0x110000) : rest.length ≤ 1 → SeqAt.shaped (.list (rest.map fun n => PyData.str (S n))) = true := by
  intro h
  match rest with
  | [] => simp [SeqAt.shaped, PyData.canLay0, PyData.canLayAll0, PyData.depth, PyData.depthAll]
  | [n] => simp [SeqAt.shaped, PyData.canLay0, PyData.canLayAll0, PyData.depth, PyData.depthAll, str_lay (hc n List.mem_cons_self)]
  | _ :: _ :: _ => exact absurd h (by simp)
theorem downs_shaped : SeqAt.shaped (.tuple [.list [], .list [.str "down"]]) = true := by
  have : PySem.PyData.strOk "down" = true := by decide +kernel
  simp [SeqAt.shaped, PyData.canLay0, PyData.canLayAll0, PyData.depth, PyData.depthAll, this]
theorem inV_45 (n : Nat) : inV (.int (n : Int)) [.int 4, .int 5] = (decide (n = 4) || decide (n = 5)) := by
  unfold inV
  simp only [List.any_cons, List.any_nil, Bool.or_false]
  have e : ∀ m : Nat, eqV (.int (m : Int)) (.int (n : Int)) = decide (n = m) := fun m => by
    show decide _ = _ 
    exact decide_eq_decide.mpr (by omega)
  exact congr (congrArg _ (e 4)) (e 5)
def sp_Reader_accept_each (C : Addr) : Sp := fun vs H Q _ => ∃ (H0 : Hp) (r a : Addr) (at_ : Nat) (rs : RS) (A : RA) (ps : List Nm), vs = [.ref r, .int (at_ : Int), .ref a] ∧ RAt C H0 H r rs A ∧ Same H0 H ∧ rs.wt < 30000 ∧ H0 a = some (.lst (ps.map fun n => V.str (S n))) ∧ (∀ n ∈ ps, n.length < 100000) ∧ (∀ n ∈ ps, ∀ c ∈ n, c < 0x110000) ∧ Out C H0 H r (eachR rs at_ ps) Q
section
variable {P : Program} {w : World} {K : PySem.W.Frag} {mg : Str → Option Value} {base : Heap} {Z : Ad}
theorem ok_Reader_accept_each (T : Txt K mg Z) : FnOk P w K mg base CX0 3 Z.a_Reader_accept_each Z.d_Reader_accept_each ["self", "at", "parts"] (sp_Reader_accept_each Z.c_Reader) := by
  refine T.F_Reader_accept_each.ok sc_Reader_accept_each (fun vs H Q E h => ?_) (fun cdv A outer s H vs Q E hr h => ?_)
  · obtain ⟨H0, r, a, at_, rs, B, ps, rfl, _⟩ := h
    rfl
  · obtain ⟨H0, r, a, at_, rs, B, ps, rfl, h, s0, wt, ha, pl, pc, q⟩ := h
    have nd := sc_Reader_accept_each.nd
    have hu := hu_of hr
    have cR := T.cl_Reader
    have n1 := T.n_Reader_loop
    have n2 := T.n_Reader_scopes
    have lk0 : (fldsR rs B).lookup ("kind_of" : Str) = none := rfl
    have lk1 : (fldsR rs B).lookup ("loop" : Str) = some (V.int (rs.loop : Int)) := rfl
    have lk2 : (fldsR rs B).lookup ("open_block" : Str) = none := rfl
    have ho := h.ob
    have h_a := s0 _ _ ha
    refine ⟨_, (pss_cons (ps_if (PW.pt (pw_or (pt_cmpR op_notIn_seq (pe_callB Eg.cr_len (by rfl) T.u_len (by decide +kernel) (pa_cons (pv 2) pa_nil)) (pe_tup (pa_cons pe_int (pa_cons pe_int pa_nil))) (by rfl)) (pw_or (pt_cmpR op_ne (pe_ix ix_list (pv 2) pe_int (fun _ _ => rfl)) pe_str (nomark _)) (pw_or1 (pt_cmpR (Pg.op_notInT (have z := Gd.u70 hr; Nat.lt_trans (Nat.add_lt_add_left (by decide) _) z)) (pe_slice sl_list (pv 2) (po_some pe_int) po_none) (pe_tup (pa_cons (pe_lst pa_nil) (pa_cons (pe_lst (pa_cons pe_str pa_nil)) pa_nil))) (by rfl))))))
  (pss_one (ps_ret pe_bl))
  pss_nil)
  (pss_cons (ps_if (PW.pt (pw_or (pt_cmpR op_ne (pe_fld (pv 0) rfl) pe_int (nomark _)) (pw_or1 (pt_cmpR op_ne (pe_meth (pv 0) T.cl_Reader T.m_Reader_kind_of (ok_Reader_kind_of T) (hr.mono (by decide)) T.b_Reader_kind_of .nil pass0 (pa_cons (pe_ix ix_list (pv 2) pe_int (fun _ _ => rfl)) pa_nil)) pe_str (nomark _)))))
  (pss_one (ps_ret pe_bl))
  pss_nil)
  (pss_cons (ps_if (pt_not (pt_val (pe_meth (pv 0) T.cl_Reader T.m_Reader_open_block (ok_Reader_open_block T) (hr.mono (by decide)) T.b_Reader_open_block .nil pass0 (pa_cons (pv 1) (pa_cons pe_str pa_nil)))))
  (pss_one (ps_ret pe_bl))
  pss_nil)
  (pss_cons (ps_fld (pv 0) (pe_op op_sub (pe_callB Eg.cr_len (by rfl) T.u_len (by decide +kernel) (pa_cons (pe_fld (pv 0) rfl) pa_nil)) pe_int) rfl)
  (pss_one (ps_ret (pe_meth (pv 0) T.cl_Reader T.m_Reader_declare (ok_Reader_declare T) (hr.mono (by decide)) T.b_Reader_declare .nil pass0 (pa_cons (pe_ix ix_list (pv 2) pe_int (fun _ _ => rfl)) (pa_cons pe_str pa_nil))))))))), ?_⟩
    refine Eg.w_sig (σ := [some (.ref r), some (.int (at_ : Int)), some (.ref a)]) rfl ?_
    walk_at "go"
    rw [List.length_map]
    intro t ht
    have h1t : upd H t (.tup [.int 4, .int 5]) t = some (.tup [.int 4, .int 5]) := upd_same
    have s1 : Same H (upd H t (.tup [.int 4, .int 5])) := fun c o e => Eg.upd_old e ht
    generalize upd H t (.tup [.int 4, .int 5]) = H1 at h1t s1 ⊢
    refine ⟨t, _, rfl, .inr (SqT.of h1t), rfl, rfl, ?_⟩
    rw [if_pos rfl, show inV (.int (ps.length : Int)) [.int 4, .int 5] = (decide (ps.length = 4) || decide (ps.length = 5)) from inV_45 _]
    have fail : ∀ H', Same H0 H' → eachR rs at_ ps = none → Q (.bl false) H' := fun H' s e => q.1 e H' s
    cases e1 : (decide (ps.length = 4) || decide (ps.length = 5)) with
    | false =>
      walk_at "go"
      exact fail H1 (s0.trans s1) (by unfold eachR; rw [e1]; rfl)
    | true =>
      have pl4 : 4 ≤ ps.length ∧ ps.length ≤ 5 := by
        rw [Bool.or_eq_true, decide_eq_true_eq, decide_eq_true_eq] at e1
        omega
      obtain ⟨p0, p1, p2, p3, rest, rfl⟩ : ∃ p0 p1 p2 p3 rest, ps = p0 :: p1 :: p2 :: p3 :: rest := by
        match ps, pl4.1 with
        | p0 :: p1 :: p2 :: p3 :: rest, _ => exact ⟨p0, p1, p2, p3, rest, rfl⟩
      have rl : rest.length ≤ 1 := by
        have := pl4.2
        simp only [List.length_cons] at this
        omega
      have h1a : H1 a = some (.lst (V.str (S p0) :: V.str (S p1) :: V.str (S p2) :: V.str (S p3) :: rest.map fun n => .str (S n))) := s1 _ _ h_a
      have h1 := h.keep s1
      have h1o := h1.ob
      walk_at "go"
      refine Eg.w_ixL (SqL.of h1a) (atI_nat (j := 2) rfl) ?_
      walk_at "go"
      by_cases e2 : S p2 = "of"
      · rw [decide_eq_true (show V.str (S p2) = V.str "of" by rw [e2])]
        walk_at "go"
        refine ⟨a, _, rfl, SqL.of h1a, fun t2 ht2 => ?_⟩
        rw [show cutV (V.str (S p0) :: V.str (S p1) :: V.str (S p2) :: V.str (S p3) :: rest.map fun n => V.str (S n)) (some 4) none = rest.map fun n => V.str (S n) from cut_drop _ 4]
        have h2t : upd H1 t2 (.lst (rest.map fun n => V.str (S n))) t2 = some (.lst (rest.map fun n => V.str (S n))) := upd_same
        have s2 : Same H1 (upd H1 t2 (.lst (rest.map fun n => V.str (S n)))) := fun c o e => Eg.upd_old e ht2
        generalize upd H1 t2 (.lst (rest.map fun n => V.str (S n))) = H2 at h2t s2 ⊢
        walk_at "go"
        intro t3 ht3
        have h3t : upd H2 t3 (.lst ([] : List V)) t3 = some (.lst []) := upd_same
        have s3 : Same H2 (upd H2 t3 (.lst ([] : List V))) := fun c o e => Eg.upd_old e ht3
        generalize upd H2 t3 (.lst ([] : List V)) = H3 at h3t s3 ⊢
        walk_at "go"
        intro t4 ht4
        have h4t : upd H3 t4 (.lst [V.str "down"]) t4 = some (.lst [V.str "down"]) := upd_same
        have s4 : Same H3 (upd H3 t4 (.lst [V.str "down"])) := fun c o e => Eg.upd_old e ht4
        generalize upd H3 t4 (.lst [V.str "down"]) = H4 at h4t s4 ⊢
        walk_at "go"
        intro t5 ht5
        have h5t : upd H4 t5 (.tup [V.ref t3, V.ref t4]) t5 = some (.tup [V.ref t3, V.ref t4]) := upd_same
        have s5 : Same H4 (upd H4 t5 (.tup [V.ref t3, V.ref t4])) := fun c o e => Eg.upd_old e ht5
        generalize upd H4 t5 (.tup [V.ref t3, V.ref t4]) = H5 at h5t s5 ⊢
        have s15 : Same H1 H5 := s2.trans (s3.trans (s4.trans s5))
        have edn := down_any p0 p1 p2 p3 rest rl
        have shr := down_shaped rest (fun n hn => pc n (by simp [hn])) rl
        refine ⟨.list (rest.map fun n => .str (S n)), [.list [], .list [.str "down"]], .lst (SqL.of (s5 _ _ (s4 _ _ (s3 _ _ h2t)))) (dp_txts _), .tup (SqT.of h5t) (.cons (.lst (SqL.of (s5 _ _ (s4 _ _ h3t))) .nil) (.cons (.lst (SqL.of (s5 _ _ h4t)) (.cons (.str _) .nil)) .nil)), shr, downs_shaped, ?_⟩
        rw [edn]
        refine ⟨_, rfl, ?_⟩
        have h5 := h1.keep s15
        cases e3 : downB (p0 :: p1 :: p2 :: p3 :: rest) with
        | false =>
          walk_at "go"
          exact fail H5 (s0.trans (s1.trans s15)) (by unfold eachR; rw [e3, Bool.and_false, Bool.false_and, Bool.false_and]; rfl)
        | true =>
          have h5a := s15 _ _ h1a
          have h5o := h5.ob
          have s05 : Same H0 H5 := s0.trans (s1.trans s15)
          walk_at "go"
          rw [show decide (V.int (rs.loop : Int) = V.int 0) = decide (rs.loop = 0) from decide_eq_decide.mpr ⟨fun z => by have := V.int.inj z; omega, fun z => by rw [z]; rfl⟩]
          cases e4 : decide (rs.loop = 0) with
          | false =>
            walk_at "go"
            exact fail H5 s05 (by unfold eachR; rw [e4, Bool.and_false, Bool.false_and]; rfl)
          | true =>
            walk_at "go"
            refine Eg.w_ixL (SqL.of h5a) (atI_nat (j := 3) rfl) ?_
            walk_at "go"
            refine ⟨H0, r, rs, B, p3, rfl, h5.base (fun _ _ e => e), ?_⟩
            walk_at "go"
            by_cases e5 : kindOf rs.scs p3 = "list"
            · rw [decide_eq_true (show V.str (kindOf rs.scs p3) = V.str "list" by rw [e5])]
              walk_at "go"
              have ee : eachR rs at_ (p0 :: p1 :: p2 :: p3 :: rest) = match openR rs at_ "each" with | some rs1 => declR { rs1 with loop := rs1.scs.length - 1 } p1 "item" | none => none := by
                unfold eachR
                rw [e1, e3, e4, show (p0 :: p1 :: p2 :: p3 :: rest).getD 2 [] = p2 from rfl, show (p0 :: p1 :: p2 :: p3 :: rest).getD 3 [] = p3 from rfl, decide_eq_true e2, decide_eq_true e5]
                rfl
              refine ⟨H0, r, at_, rs, B, "each", rfl, h5, s05, by omega, fun e H' s' => ?_, fun rs1 e H' A' h' s' => ?_⟩
              · walk_at "go"
                exact fail H' s' (by rw [ee, e])
              · obtain ⟨w1, w2, w3, w4⟩ := openR_wt e
                have h'o := h'.ob
                have h'sc := h'.sc
                have h'a := s' _ _ ha
                have lk1' : (fldsR rs1 A').lookup ("scopes" : Str) = some (V.ref A'.sc) := rfl
                have dl := Paired.length h'.ds
                walk_at "go"
                have ra : r ≠ a := fun z => by
                  have := s' _ _ ha
                  rw [← z, h'o] at this
                  cases this
                have hln : ((List.map V.ref A'.ds).length : Int) - 1 = ((rs1.scs.length - 1 : Nat) : Int) := by
                  rw [List.length_map, dl]
                  omega
                rw [hln]
                have h2 : RAt Z.c_Reader H0 (upd H' r (.ins Z.c_Reader A'.dx (putF ("loop" : Str) (.int ((rs1.scs.length - 1 : Nat) : Int)) (fldsR rs1 A')))) r { rs1 with loop := rs1.scs.length - 1 } A' := by
                  refine h'.chg rfl rfl rfl rfl rfl (fun c o e _ n => Eg.upd_mut n e) upd_same ?_
                  exact Eg.upd_mut (ne_of h'o h'.sz (fun z => nomatch z)).symm h'.sz
                have s2' : Same H0 (upd H' r (.ins Z.c_Reader A'.dx (putF ("loop" : Str) (.int ((rs1.scs.length - 1 : Nat) : Int)) (fldsR rs1 A')))) := fun c o e => Eg.upd_mut (ne_of_none e h.r0) (s' _ _ e)
                generalize upd H' r (.ins Z.c_Reader A'.dx (putF ("loop" : Str) (.int ((rs1.scs.length - 1 : Nat) : Int)) (fldsR rs1 A'))) = H6 at h2 s2' ⊢
                refine Eg.w_ixL (SqL.of (s2' _ _ ha)) (atI_nat (j := 1) rfl) ?_
                walk_at "go"
                refine ⟨H0, r, _, A', p1, "item", rfl, h2, s2', w2, ?_, pl p1 (by simp), ?_⟩
                · have : ({ rs1 with loop := rs1.scs.length - 1 } : RS).wt = rs1.wt := rfl
                  omega
                · rw [ee, e] at q
                  exact q
            · rw [decide_eq_false (show ¬ V.str (kindOf rs.scs p3) = V.str "list" from fun z => e5 (V.str.inj z))]
              walk_at "go"
              exact fail H5 s05 (by unfold eachR; rw [show (p0 :: p1 :: p2 :: p3 :: rest).getD 3 [] = p3 from rfl, decide_eq_false e5, Bool.and_false]; rfl)
      · rw [decide_eq_false (show ¬ V.str (S p2) = V.str "of" from fun z => e2 (V.str.inj z))]
        walk_at "go"
        exact fail H1 (s0.trans s1) (by unfold eachR; rw [show (p0 :: p1 :: p2 :: p3 :: rest).getD 2 [] = p2 from rfl, decide_eq_false e2, Bool.and_false]; rfl)
end
end LW
end

section
local macro_rules | `(tactic| walk_at "tx") => `(tactic| first
  | ((with_reducible refine' Eg.c_sfld ?hs ?hc ?hn ?hl ?_); (case hs => walk_at "hp"); (case hc => assumption); (case hn => assumption); (case hl => exact Nat.le_of_ble_eq_true rfl)))
local macro_rules | `(tactic| walk_at "at") => `(tactic| first | exact atI_nat (j := 0) rfl | exact atI_nat (j := 1) rfl | exact atI_nat (j := 2) rfl | exact atI_nat (j := 3) rfl | exact atI_nat (j := 4) rfl | exact atI_nat (j := 5) rfl | exact atI_nat (j := 6) rfl | exact atI_nat (j := 7) rfl)
namespace LW
open PySem L2 SX Tx
/-! programs: adds and binds -/
theorem ip_add1 {n : Nat} {H : Hp} {Q : VK} (q : Q (.int ((n + 1 : Nat) : Int)) H) : ipI (fun i j => i + j) (.int (n : Int)) (.int 1) H Q := ⟨_, _, rfl, rfl, by
  show Q (.int ((n : Int) + 1)) H
  rw [show ((n : Int) + 1) = ((n + 1 : Nat) : Int) by omega]
  exact q⟩
def RS.ok (rs : RS) : Prop := ∀ n, kindOf rs.scs n ≠ "" → ∃ z, getA rs.szs n = some z
def addR (rs : RS) (k : Str) (ps : List Nm) : Option RS :=
  if (decide (ps.length = 4) && decide (k ∈ (["text", "row"] : List Str)) && decide (kindOf rs.scs (ps.getD 3 []) = k) && localB rs (ps.getD 3 []) && decide (rs.adds < 4)) = true then
    some (growR { rs with adds := rs.adds + 1 } (ps.getD 1 []) ((getA rs.szs (ps.getD 3 [])).getD 0))
  else none
def sp_Reader_accept_add (C : Addr) : Sp := fun vs H Q _ => ∃ (H0 : Hp) (r a : Addr) (rs : RS) (A : RA) (k : Str) (ps : List Nm), vs = [.ref r, .str k, .ref a] ∧ RAt C H0 H r rs A ∧ Same H0 H ∧ rs.ok ∧ rs.wt < 30000 ∧ H0 a = some (.lst (ps.map fun n => V.str (S n))) ∧ k = kindOf rs.scs (ps.getD 1 []) ∧ Out C H0 H r (addR rs k ps) Q
section
variable {P : Program} {w : World} {K : PySem.W.Frag} {mg : Str → Option Value} {base : Heap} {Z : Ad}
theorem ok_Reader_accept_add (T : Txt K mg Z) : FnOk P w K mg base CX0 2 Z.a_Reader_accept_add Z.d_Reader_accept_add ["self", "kind", "parts"] (sp_Reader_accept_add Z.c_Reader) := by
  refine T.F_Reader_accept_add.ok sc_Reader_accept_add (fun vs H Q E h => ?_) (fun cdv A outer s H vs Q E hr h => ?_)
  · obtain ⟨H0, r, a, rs, B, k, ps, rfl, _⟩ := h
    rfl
  · obtain ⟨H0, r, a, rs, B, k, ps, rfl, h, s0, ok, wt, ha, hk, q⟩ := h
    have nd := sc_Reader_accept_add.nd
    have hu := hu_of hr
    have cR := T.cl_Reader
    have n1 := T.n_Reader_adds
    have n2 := T.n_Reader_sizes
    have lk0 : (fldsR rs B).lookup ("kind_of" : Str) = none := rfl
    have lk1 : (fldsR rs B).lookup ("adds" : Str) = some (V.int (rs.adds : Int)) := rfl
    have lk2 : (fldsR rs B).lookup ("is_local" : Str) = none := rfl
    have ho := h.ob
    have h_a := s0 _ _ ha
    refine ⟨_, (pss_cons (ps_if (PW.pt (pw_or (pt_cmpR op_ne (pe_callB Eg.cr_len (by rfl) T.u_len (by decide +kernel) (pa_cons (pv 2) pa_nil)) pe_int (nomark _)) (pw_or (pt_cmpR op_notIn_seq (pv 1) (pe_tup (pa_cons pe_str (pa_cons pe_str pa_nil))) (by rfl)) (pw_or1 (pt_cmpR op_ne (pe_meth (pv 0) T.cl_Reader T.m_Reader_kind_of (ok_Reader_kind_of T) (hr.mono (by decide)) T.b_Reader_kind_of .nil pass0 (pa_cons (pe_ix ix_list (pv 2) pe_int (fun _ _ => rfl)) pa_nil)) (pv 1) (nomark _))))))
  (pss_one (ps_ret pe_bl))
  pss_nil)
  (pss_cons (ps_if (PW.pt (pw_or (pt_not (pt_val (pe_meth (pv 0) T.cl_Reader T.m_Reader_is_local (ok_Reader_is_local T) (hr.mono (by decide)) T.b_Reader_is_local .nil pass0 (pa_cons (pe_ix ix_list (pv 2) pe_int (fun _ _ => rfl)) pa_nil)))) (pw_or1 (pt_cmpR op_ge (pe_fld (pv 0) rfl) (Tw.pe_globS (by rfl) T.g_MOST_ADDS) (nomark _)))))
  (pss_one (ps_ret pe_bl))
  pss_nil)
  (pss_cons (ps_fldaug (pv 0) pe_int ip_add)
  (pss_one (ps_ret (pe_meth (pv 0) T.cl_Reader T.m_Reader_grow (ok_Reader_grow T) (hr.mono (by decide)) T.bp_Reader_grow_2.choose_spec.2 T.bp_Reader_grow_2.choose_spec.1 pass0 (pa_cons (pe_ix ix_list (pv 2) pe_int (fun _ _ => rfl)) (pa_cons (pe_dget hu (pe_fld (pv 0) rfl) (pe_ix ix_list (pv 2) pe_int (fun _ _ => rfl)) (fun _ _ => rfl)) pa_nil)))))))), ?_⟩
    refine Eg.w_sig (σ := [some (.ref r), some (.str k), some (.ref a)]) rfl ?_
    walk_at "go"
    rw [List.length_map]
    have fail : ∀ H', Same H0 H' → addR rs k ps = none → Q (.bl false) H' := fun H' s e => q.1 e H' s
    rw [show decide (V.int (ps.length : Int) = V.int 4) = decide (ps.length = 4) from decide_eq_decide.mpr ⟨fun z => by have := V.int.inj z; omega, fun z => by rw [z]; rfl⟩]
    cases e1 : decide (ps.length = 4) with
    | false =>
      walk_at "go"
      exact fail H s0 (by unfold addR; rw [e1]; rfl)
    | true =>
      have pl4 := of_decide_eq_true e1
      obtain ⟨p0, p1, p2, p3, rfl⟩ : ∃ p0 p1 p2 p3, ps = [p0, p1, p2, p3] := by
        match ps, pl4 with
        | [p0, p1, p2, p3], _ => exact ⟨p0, p1, p2, p3, rfl⟩
      walk_at "go"
      intro t ht
      have h1t : upd H t (.tup [.str "text", .str "row"]) t = some (.tup [.str "text", .str "row"]) := upd_same
      have s1 : Same H (upd H t (.tup [.str "text", .str "row"])) := fun c o e => Eg.upd_old e ht
      generalize upd H t (.tup [.str "text", .str "row"]) = H1 at h1t s1 ⊢
      refine ⟨t, _, rfl, .inr (SqT.of h1t), rfl, rfl, ?_⟩
      have ein := inV_strs (k := k) ["text", "row"]
      rw [show ([("text" : Str), "row"].map V.str) = [V.str "text", V.str "row"] from rfl] at ein
      rw [if_pos rfl, ein]
      have h1 := h.keep s1
      have h1o := h1.ob
      have h1a : H1 a = some (.lst [V.str (S p0), V.str (S p1), V.str (S p2), V.str (S p3)]) := s1 _ _ h_a
      cases e2 : decide (k ∈ (["text", "row"] : List Str)) with
      | false =>
        walk_at "go"
        exact fail H1 (s0.trans s1) (by unfold addR; rw [e2, Bool.and_false]; rfl)
      | true =>
        walk_at "go"
        refine ⟨H0, r, rs, B, p3, rfl, h1, ?_⟩
        walk_at "go"
        by_cases e3 : kindOf rs.scs p3 = k
        · rw [decide_eq_true (show V.str (kindOf rs.scs p3) = V.str k by rw [e3])]
          walk_at "go"
          refine ⟨H0, r, rs, B, p3, rfl, h1, by omega, fun H2 s2 => ?_⟩
          have h2 := h1.keep s2
          have h2o := h2.ob
          have h2a := s2 _ _ h1a
          have s02 : Same H0 H2 := s0.trans (s1.trans s2)
          walk_at "go"
          cases e4 : localB rs p3 with
          | false =>
            walk_at "go"
            exact fail H2 s02 (by unfold addR; rw [show ([p0, p1, p2, p3] : List Nm).getD 3 [] = p3 from rfl, e4, Bool.and_false]; rfl)
          | true =>
            walk_at "go"
            by_cases e5 : rs.adds ≥ 4
            · rw [decide_eq_true (by omega : (rs.adds : Int) ≥ 4)]
              walk_at "go"
              exact fail H2 s02 (by unfold addR; rw [decide_eq_false (show ¬ rs.adds < 4 by omega), Bool.and_false]; rfl)
            · rw [decide_eq_false (by omega : ¬ (rs.adds : Int) ≥ 4)]
              walk_at "go"
              unfold sFldAug
              walk_at "go"
              refine ⟨r, _, _, _, _, rfl, h2o, cR, n1, lk1, ?_⟩
              walk_at "go"
              refine ip_add1 ?_
              refine ⟨_, _, h2o, Nat.le_of_ble_eq_true rfl, ?_⟩
              have h3 : RAt Z.c_Reader H0 (upd H2 r (.ins Z.c_Reader B.dx (putF ("adds" : Str) (.int ((rs.adds + 1 : Nat) : Int)) (fldsR rs B)))) r { rs with adds := rs.adds + 1 } B := by
                refine h2.chg rfl rfl rfl rfl rfl (fun c o e _ n => Eg.upd_mut n e) upd_same ?_
                exact Eg.upd_mut (ne_of h2o h2.sz (fun z => nomatch z)).symm h2.sz
              have s3 : Same H0 (upd H2 r (.ins Z.c_Reader B.dx (putF ("adds" : Str) (.int ((rs.adds + 1 : Nat) : Int)) (fldsR rs B)))) := fun c o e => Eg.upd_mut (ne_of_none e h.r0) (s02 _ _ e)
              generalize upd H2 r (.ins Z.c_Reader B.dx (putF ("adds" : Str) (.int ((rs.adds + 1 : Nat) : Int)) (fldsR rs B))) = H3 at h3 s3 ⊢
              have h3a := s3 _ _ ha
              have h3o := h3.ob
              have lk3 : (fldsR { rs with adds := rs.adds + 1 } B).lookup ("sizes" : Str) = some (V.ref B.sz) := rfl
              have lk4 : (fldsR { rs with adds := rs.adds + 1 } B).lookup ("grow" : Str) = none := rfl
              walk_at "go"
              have kne : k ≠ "" := fun z => by
                rw [z] at e2
                exact absurd (of_decide_eq_true e2) (by decide +kernel)
              obtain ⟨z3, hz3⟩ := ok p3 (by rw [e3]; exact kne)
              obtain ⟨z1, hz1⟩ := ok p1 (by rw [← show k = kindOf rs.scs p1 from hk]; exact kne)
              have dg := Tw.dgetK (k := .inr (S p3)) (.inl h3.sz)
              rw [val_Z, show ({ rs with adds := rs.adds + 1 } : RS).szs = rs.szs from rfl, hz3] at dg
              refine ⟨B.sz, .int z3, rfl, dg, ?_⟩
              walk_at "go"
              refine ⟨H0, r, _, B, p1, z3, z1, rfl, h3, s3, hz1, ?_, fun H' A' h' s' => ?_⟩
              · have : ({ rs with adds := rs.adds + 1 } : RS).wt = rs.wt := rfl
                omega
              · refine q.2 _ ?_ H' A' h' s'
                unfold addR
                rw [e1, e2, show ([p0, p1, p2, p3] : List Nm).getD 3 [] = p3 from rfl, show ([p0, p1, p2, p3] : List Nm).getD 1 [] = p1 from rfl, decide_eq_true e3, e4, decide_eq_true (show rs.adds < 4 by omega), hz3]
                rfl
        · rw [decide_eq_false (show ¬ V.str (kindOf rs.scs p3) = V.str k from fun z => e3 (V.str.inj z))]
          walk_at "go"
          exact fail H1 (s0.trans s1) (by unfold addR; rw [show ([p0, p1, p2, p3] : List Nm).getD 3 [] = p3 from rfl, decide_eq_false e3, Bool.and_false]; rfl)
end
end LW
end

section
local macro_rules | `(tactic| walk_at "tx") => `(tactic| first
  | ((with_reducible refine' Eg.c_sfld ?hs ?hc ?hn ?hl ?_); (case hs => walk_at "hp"); (case hc => assumption); (case hn => assumption); (case hl => exact Nat.le_of_ble_eq_true rfl)))
local macro_rules | `(tactic| walk_at "at") => `(tactic| first | exact atI_nat (j := 0) rfl | exact atI_nat (j := 1) rfl | exact atI_nat (j := 2) rfl | exact atI_nat (j := 3) rfl | exact atI_nat (j := 4) rfl | exact atI_nat (j := 5) rfl | exact atI_nat (j := 6) rfl | exact atI_nat (j := 7) rfl)
namespace LW
open PySem L2 SX Tx
/-! programs: binds -/
def bindR (rs : RS) (ps : List Nm) : Option RS :=
  if (decide (rs.man = "name") && (decide (ps.length = 7) || decide (ps.length = 8)) && decide (kindOf rs.scs (ps.getD 3 []) = "row") && decide (S (ps.getD 4 []) ∈ (["front", "back"] : List Str)) && valueB rs (ps.getD 5 []) && nameB (ps.getD 6 []) && (!decide (ps.length = 8) || decide (kindOf rs.scs (ps.getD 7 []) = "number"))) = true then
    some (growR (growR rs (ps.getD 1 []) 1) (ps.getD 3 []) 1)
  else none
theorem inV_78 (n : Nat) : inV (.int (n : Int)) [.int 7, .int 8] = (decide (n = 7) || decide (n = 8)) := by
  unfold inV
  simp only [List.any_cons, List.any_nil, Bool.or_false]
  have e : ∀ m : Nat, eqV (.int (m : Int)) (.int (n : Int)) = decide (n = m) := fun m => by
    show decide _ = _ 
    exact decide_eq_decide.mpr (by omega)
  exact congr (congrArg _ (e 7)) (e 8)
theorem get_some {α β : Type} [DecidableEq α] {n m : α} {v z : β} {xs : List (α × β)} (h : getA xs m = some z) : ∃ z', getA (putA xs n v) m = some z' := by
  have key : ∀ ys : List (α × β), (∃ y ∈ ys, y.1 = m) → ∃ z', getA ys m = some z' := fun ys ⟨y, hy, e⟩ => by
    unfold getA
    cases f : ys.find? fun p => decide (p.1 = m) with
    | none => exact absurd (decide_eq_true e) (List.find?_eq_none.mp f y hy)
    | some x => exact ⟨_, rfl⟩
  unfold getA at h
  obtain ⟨x, hx, _⟩ := Option.map_eq_some_iff.mp h
  have hm := List.mem_of_find?_eq_some hx
  have he : x.1 = m := of_decide_eq_true (List.find?_some (p := fun p : α × β => decide (p.1 = m)) hx)
  refine key _ ?_
  unfold putA
  split
  · refine ⟨_, List.mem_map.mpr ⟨x, hm, rfl⟩, ?_⟩
    split
    · exact he
    · exact he
  · exact ⟨x, List.mem_append_left _ hm, he⟩
theorem grow_wt (rs : RS) (n : Nm) (m : Int) : (growR rs n m).wt ≤ rs.wt + 1 := by
  have := putA_len rs.szs n ((getA rs.szs n).getD 0 + m)
  show (putA rs.szs n ((getA rs.szs n).getD 0 + m)).length + rs.jmps.length + rs.scs.length + rs.blks.length + (rs.scs.map List.length).sum ≤ rs.wt + 1
  unfold RS.wt
  omega
def sp_Reader_accept_bind (C : Addr) : Sp := fun vs H Q _ => ∃ (H0 : Hp) (r a : Addr) (rs : RS) (A : RA) (ps : List Nm), vs = [.ref r, .ref a] ∧ RAt C H0 H r rs A ∧ Same H0 H ∧ rs.ok ∧ rs.wt < 30000 ∧ H0 a = some (.lst (ps.map fun n => V.str (S n))) ∧ (∀ n ∈ ps, n.length < 100000) ∧ kindOf rs.scs (ps.getD 1 []) = "text" ∧ Out C H0 H r (bindR rs ps) Q
section
variable {P : Program} {w : World} {K : PySem.W.Frag} {mg : Str → Option Value} {base : Heap} {Z : Ad}
set_option maxHeartbeats 8000000 in
theorem ok_Reader_accept_bind (T : Txt K mg Z) : FnOk P w K mg base CX0 3 Z.a_Reader_accept_bind Z.d_Reader_accept_bind ["self", "parts"] (sp_Reader_accept_bind Z.c_Reader) := by
  refine T.F_Reader_accept_bind.ok sc_Reader_accept_bind (fun vs H Q E h => ?_) (fun cdv A outer s H vs Q E hr h => ?_)
  · obtain ⟨H0, r, a, rs, B, ps, rfl, _⟩ := h
    rfl
  · obtain ⟨H0, r, a, rs, B, ps, rfl, h, s0, ok, wt, ha, pl, hk, q⟩ := h
    have nd := sc_Reader_accept_bind.nd
    have hu := hu_of hr
    have cR := T.cl_Reader
    have n1 := T.n_Reader_manner
    have hSd := T.g_SIDES.choose_spec.2
    have lk0 : (fldsR rs B).lookup ("kind_of" : Str) = none := rfl
    have lk1 : (fldsR rs B).lookup ("manner" : Str) = some (V.str rs.man) := rfl
    have lk2 : (fldsR rs B).lookup ("is_value" : Str) = none := rfl
    have lk3 : (fldsR rs B).lookup ("grow" : Str) = none := rfl
    have ho := h.ob
    have h_a := s0 _ _ ha
    refine ⟨_, (pss_cons (ps_if (PW.pt (pw_or (pt_cmpR op_ne (pe_fld (pv 0) rfl) pe_str (nomark _)) (pw_or1 (pt_cmpR op_notIn_seq (pe_callB Eg.cr_len (by rfl) T.u_len (by decide +kernel) (pa_cons (pv 1) pa_nil)) (pe_tup (pa_cons pe_int (pa_cons pe_int pa_nil))) (by rfl)))))
  (pss_one (ps_ret pe_bl))
  pss_nil)
  (pss_cons (ps_if (PW.pt (pw_or (pt_cmpR op_ne (pe_meth (pv 0) T.cl_Reader T.m_Reader_kind_of (ok_Reader_kind_of T) (hr.mono (by decide)) T.b_Reader_kind_of .nil pass0 (pa_cons (pe_ix ix_list (pv 1) pe_int (fun _ _ => rfl)) pa_nil)) pe_str (nomark _)) (pw_or1 (pt_cmpR op_notIn_seq (pe_ix ix_list (pv 1) pe_int (fun _ _ => rfl)) (pe_glob (v := .ref T.g_SIDES.choose) (by rfl) T.g_SIDES.choose_spec.1 rfl) (by rfl)))))
  (pss_one (ps_ret pe_bl))
  pss_nil)
  (pss_cons (ps_if (PW.pt (pw_or (pt_not (pt_val (pe_meth (pv 0) T.cl_Reader T.m_Reader_is_value (ok_Reader_is_value T) (hr.mono (by decide)) T.b_Reader_is_value .nil pass0 (pa_cons (pe_ix ix_list (pv 1) pe_int (fun _ _ => rfl)) pa_nil)))) (pw_or1 (pt_not (pt_val (pe_call (ok_is_name T) (hr.mono (by decide)) (by rfl) T.g_is_name T.F_is_name.kp T.b_is_name .nil pass0 (pa_cons (pe_ix ix_list (pv 1) pe_int (fun _ _ => rfl)) pa_nil)))))))
  (pss_one (ps_ret pe_bl))
  pss_nil)
  (pss_cons (ps_if (PW.pt (pw_and (pt_cmpR op_eq (pe_callB Eg.cr_len (by rfl) T.u_len (by decide +kernel) (pa_cons (pv 1) pa_nil)) pe_int (nomark _)) (pw_and1 (pt_cmpR op_ne (pe_meth (pv 0) T.cl_Reader T.m_Reader_kind_of (ok_Reader_kind_of T) (hr.mono (by decide)) T.b_Reader_kind_of .nil pass0 (pa_cons (pe_ix ix_list (pv 1) pe_int (fun _ _ => rfl)) pa_nil)) pe_str (nomark _)))))
  (pss_one (ps_ret pe_bl))
  pss_nil)
  (pss_one (ps_ret (pe_and (pe_meth (pv 0) T.cl_Reader T.m_Reader_grow (ok_Reader_grow T) (hr.mono (by decide)) T.bp_Reader_grow_1.choose_spec.2 T.bp_Reader_grow_1.choose_spec.1 pass0 (pa_cons (pe_ix ix_list (pv 1) pe_int (fun _ _ => rfl)) pa_nil)) (pe_one (pe_meth (pv 0) T.cl_Reader T.m_Reader_grow (ok_Reader_grow T) (hr.mono (by decide)) T.bp_Reader_grow_1.choose_spec.2 T.bp_Reader_grow_1.choose_spec.1 pass0 (pa_cons (pe_ix ix_list (pv 1) pe_int (fun _ _ => rfl)) pa_nil)))))))))), ?_⟩
    generalize T.g_SIDES.choose = R at hSd ⊢
    refine Eg.w_sig (σ := [some (.ref r), some (.ref a)]) rfl ?_
    walk_at "go"
    have fail : ∀ H', Same H0 H' → bindR rs ps = none → Q (.bl false) H' := fun H' s e => q.1 e H' s
    by_cases e0 : rs.man = "name"
    · rw [decide_eq_true (show V.str rs.man = V.str "name" by rw [e0])]
      walk_at "go"
      rw [List.length_map]
      intro t ht
      have h1t : upd H t (.tup [.int 7, .int 8]) t = some (.tup [.int 7, .int 8]) := upd_same
      have s1 : Same H (upd H t (.tup [.int 7, .int 8])) := fun c o e => Eg.upd_old e ht
      generalize upd H t (.tup [.int 7, .int 8]) = H1 at h1t s1 ⊢
      refine ⟨t, _, rfl, .inr (SqT.of h1t), rfl, rfl, ?_⟩
      rw [if_pos rfl, inV_78]
      have s01 := s0.trans s1
      cases e1 : (decide (ps.length = 7) || decide (ps.length = 8)) with
      | false =>
        walk_at "go"
        exact fail H1 s01 (by unfold bindR; rw [e1, Bool.and_false]; rfl)
      | true =>
        have pl4 : 7 ≤ ps.length ∧ ps.length ≤ 8 := by
          rw [Bool.or_eq_true, decide_eq_true_eq, decide_eq_true_eq] at e1
          omega
        obtain ⟨p0, p1, p2, p3, p4, p5, p6, rest, rfl⟩ : ∃ p0 p1 p2 p3 p4 p5 p6 rest, ps = p0 :: p1 :: p2 :: p3 :: p4 :: p5 :: p6 :: rest := by
          match ps, pl4.1 with
          | p0 :: p1 :: p2 :: p3 :: p4 :: p5 :: p6 :: rest, _ => exact ⟨p0, p1, p2, p3, p4, p5, p6, rest, rfl⟩
        have h1a : H1 a = some (.lst (V.str (S p0) :: V.str (S p1) :: V.str (S p2) :: V.str (S p3) :: V.str (S p4) :: V.str (S p5) :: V.str (S p6) :: rest.map fun n => .str (S n))) := s1 _ _ h_a
        have h1 := h.keep s1
        have h1o := h1.ob
        walk_at "go"
        refine Eg.w_ixL (SqL.of h1a) (atI_nat (j := 3) rfl) ?_
        walk_at "go"
        refine ⟨H0, r, rs, B, p3, rfl, h1, ?_⟩
        walk_at "go"
        by_cases e2 : kindOf rs.scs p3 = "row"
        · rw [decide_eq_true (show V.str (kindOf rs.scs p3) = V.str "row" by rw [e2])]
          walk_at "go"
          refine Eg.w_ixL (SqL.of h1a) (atI_nat (j := 4) rfl) ?_
          walk_at "go"
          refine ⟨R, _, rfl, .inr (hSd _), rfl, rfl, ?_⟩
          have ein := inV_strs (k := S p4) ["front", "back"]
          rw [show ([("front" : Str), "back"].map V.str) = [V.str "front", V.str "back"] from rfl] at ein
          rw [if_pos rfl, ein]
          cases e3 : decide (S p4 ∈ (["front", "back"] : List Str)) with
          | false =>
            walk_at "go"
            exact fail H1 s01 (by unfold bindR; rw [show (p0 :: p1 :: p2 :: p3 :: p4 :: p5 :: p6 :: rest).getD 4 [] = p4 from rfl, e3, Bool.and_false]; rfl)
          | true =>
            walk_at "go"
            refine Eg.w_ixL (SqL.of h1a) (atI_nat (j := 5) rfl) ?_
            walk_at "go"
            refine ⟨H0, r, rs, B, p5, rfl, h1, fun H2 s2 => ?_⟩
            have h2 := h1.keep s2
            have h2o := h2.ob
            have h2a := s2 _ _ h1a
            have s02 := s01.trans s2
            walk_at "go"
            cases e4 : valueB rs p5 with
            | false =>
              walk_at "go"
              exact fail H2 s02 (by unfold bindR; rw [show (p0 :: p1 :: p2 :: p3 :: p4 :: p5 :: p6 :: rest).getD 5 [] = p5 from rfl, e4, Bool.and_false]; rfl)
            | true =>
              walk_at "go"
              refine Eg.w_ixL (SqL.of h2a) (atI_nat (j := 6) rfl) ?_
              walk_at "go"
              refine ⟨p6, rfl, pl p6 (by simp), fun H3 s3 => ?_⟩
              have h3 := h2.keep s3
              have h3o := h3.ob
              have h3a := s3 _ _ h2a
              have s03 := s02.trans s3
              walk_at "go"
              cases e5 : nameB p6 with
              | false =>
                walk_at "go"
                exact fail H3 s03 (by unfold bindR; rw [show (p0 :: p1 :: p2 :: p3 :: p4 :: p5 :: p6 :: rest).getD 6 [] = p6 from rfl, e5, Bool.and_false]; rfl)
              | true =>
                walk_at "go"
                obtain ⟨z1, hz1⟩ := ok p1 (by rw [show kindOf rs.scs p1 = "text" from hk]; decide +kernel)
                obtain ⟨z3, hz3⟩ := ok p3 (by rw [e2]; decide +kernel)
                obtain ⟨z4, hz4⟩ := get_some (n := p1) (v := (getA rs.szs p1).getD 0 + 1) hz3
                rcases rest with _ | ⟨p7, _ | ⟨p8, r8⟩⟩
                · rw [show ((V.str (S p0) :: V.str (S p1) :: V.str (S p2) :: V.str (S p3) :: V.str (S p4) :: V.str (S p5) :: V.str (S p6) :: List.map (fun n => V.str (S n)) ([] : List Nm)).length : Int) = 7 from rfl, decide_eq_false (show ¬ V.int 7 = V.int 8 from fun z => absurd (V.int.inj z) (by decide))]
                  have em : bindR rs [p0, p1, p2, p3, p4, p5, p6] = some (growR (growR rs p1 1) p3 1) := by
                    unfold bindR
                    rw [decide_eq_true e0, e1, show ([p0, p1, p2, p3, p4, p5, p6] : List Nm).getD 3 [] = p3 from rfl, show ([p0, p1, p2, p3, p4, p5, p6] : List Nm).getD 4 [] = p4 from rfl, show ([p0, p1, p2, p3, p4, p5, p6] : List Nm).getD 5 [] = p5 from rfl, show ([p0, p1, p2, p3, p4, p5, p6] : List Nm).getD 6 [] = p6 from rfl, decide_eq_true e2, e3, e4, e5]
                    rfl
                  walk_at "go"
                  refine ⟨H0, r, rs, B, p1, 1, z1, rfl, h3, s03, hz1, by omega, fun H4 A4 h4 s4 => ?_⟩
                  have h4o := h4.ob
                  have h4a := s4 _ _ ha
                  have lk4 : (fldsR (growR rs p1 1) A4).lookup ("grow" : Str) = none := rfl
                  walk_at "go"
                  exact ⟨H0, r, _, A4, p3, 1, z4, rfl, h4, s4, hz4, Nat.lt_of_le_of_lt (grow_wt rs p1 1) (by omega), fun H5 A5 h5 s5 => q.2 _ em H5 A5 h5 s5⟩
                · rw [show ((V.str (S p0) :: V.str (S p1) :: V.str (S p2) :: V.str (S p3) :: V.str (S p4) :: V.str (S p5) :: V.str (S p6) :: List.map (fun n => V.str (S n)) [p7]).length : Int) = 8 from rfl, decide_eq_true (show V.int 8 = V.int 8 from rfl)]
                  walk_at "go"
                  refine ⟨H0, r, rs, B, p7, rfl, h3, ?_⟩
                  walk_at "go"
                  by_cases e6 : kindOf rs.scs p7 = "number"
                  · rw [decide_eq_true (show V.str (kindOf rs.scs p7) = V.str "number" by rw [e6])]
                    have em : bindR rs [p0, p1, p2, p3, p4, p5, p6, p7] = some (growR (growR rs p1 1) p3 1) := by
                      unfold bindR
                      rw [decide_eq_true e0, e1, show ([p0, p1, p2, p3, p4, p5, p6, p7] : List Nm).getD 3 [] = p3 from rfl, show ([p0, p1, p2, p3, p4, p5, p6, p7] : List Nm).getD 4 [] = p4 from rfl, show ([p0, p1, p2, p3, p4, p5, p6, p7] : List Nm).getD 5 [] = p5 from rfl, show ([p0, p1, p2, p3, p4, p5, p6, p7] : List Nm).getD 6 [] = p6 from rfl, show ([p0, p1, p2, p3, p4, p5, p6, p7] : List Nm).getD 7 [] = p7 from rfl, decide_eq_true e2, e3, e4, e5, decide_eq_true e6, Bool.or_true]
                      rfl
                    walk_at "go"
                    refine ⟨H0, r, rs, B, p1, 1, z1, rfl, h3, s03, hz1, by omega, fun H4 A4 h4 s4 => ?_⟩
                    have h4o := h4.ob
                    have h4a := s4 _ _ ha
                    have lk4 : (fldsR (growR rs p1 1) A4).lookup ("grow" : Str) = none := rfl
                    walk_at "go"
                    exact ⟨H0, r, _, A4, p3, 1, z4, rfl, h4, s4, hz4, Nat.lt_of_le_of_lt (grow_wt rs p1 1) (by omega), fun H5 A5 h5 s5 => q.2 _ em H5 A5 h5 s5⟩
                  · rw [decide_eq_false (show ¬ V.str (kindOf rs.scs p7) = V.str "number" from fun z => e6 (V.str.inj z))]
                    walk_at "go"
                    exact fail H3 s03 (by unfold bindR; rw [show ([p0, p1, p2, p3, p4, p5, p6, p7] : List Nm).getD 7 [] = p7 from rfl, decide_eq_false e6, show decide (([p0, p1, p2, p3, p4, p5, p6, p7] : List Nm).length = 8) = true from rfl, show (!true || false) = false from rfl, Bool.and_false]; rfl)
                · exact absurd pl4.2 (by simp)
        · rw [decide_eq_false (show ¬ V.str (kindOf rs.scs p3) = V.str "row" from fun z => e2 (V.str.inj z))]
          walk_at "go"
          exact fail H1 s01 (by unfold bindR; rw [show (p0 :: p1 :: p2 :: p3 :: p4 :: p5 :: p6 :: rest).getD 3 [] = p3 from rfl, decide_eq_false e2, Bool.and_false]; rfl)
    · rw [decide_eq_false (show ¬ V.str rs.man = V.str "name" from fun z => e0 (V.str.inj z))]
      walk_at "go"
      exact fail H s0 (by unfold bindR; rw [decide_eq_false e0]; rfl)
end
end LW
end

section
local macro_rules | `(tactic| walk_at "tx") => `(tactic| first
  | ((with_reducible refine' Eg.c_sfld ?hs ?hc ?hn ?hl ?_); (case hs => walk_at "hp"); (case hc => assumption); (case hn => assumption); (case hl => exact Nat.le_of_ble_eq_true rfl)))
local macro_rules | `(tactic| walk_at "at") => `(tactic| first | exact atI_nat (j := 0) rfl | exact atI_nat (j := 1) rfl | exact atI_nat (j := 2) rfl | exact atI_nat (j := 3) rfl | exact atI_nat (j := 4) rfl | exact atI_nat (j := 5) rfl | exact atI_nat (j := 6) rfl | exact atI_nat (j := 7) rfl)
namespace LW
open PySem L2 SX Tx
/-! programs: every name of a kind keeps a size -/
theorem get_other {α β : Type} [DecidableEq α] {n m : α} (v : β) (h : n ≠ m) (xs : List (α × β)) : getA (putA xs n v) m = getA xs m := by
  unfold putA
  split
  · unfold getA
    induction xs with
    | nil => rfl
    | cons x r ih =>
      rename_i hh
      rw [List.map_cons, List.find?_cons, List.find?_cons]
      by_cases e : x.1 = n
      · have em : ¬ x.1 = m := fun z => h (e.symm.trans z)
        rw [if_pos e, decide_eq_false (show ¬ (x.1, v).1 = m from em)]
        dsimp only
        first | rw [decide_eq_false em] | skip
        by_cases g : (r.any fun p => decide (p.1 = n)) = true
        · exact ih g
        · have : (r.map fun p => if p.1 = n then (p.1, v) else p) = r := by
            refine (List.map_congr_left fun p hp => ?_).trans (List.map_id r)
            rw [if_neg fun z => g (List.any_eq_true.mpr ⟨p, hp, decide_eq_true z⟩)]
            rfl
          rw [this]
      · rw [if_neg e]
        by_cases e2 : x.1 = m
        · rw [decide_eq_true e2]
        · rw [decide_eq_false e2]
          rw [List.any_cons, decide_eq_false e, Bool.false_or] at hh
          exact ih hh
  · unfold getA
    rw [List.find?_append]
    cases e : xs.find? fun p => decide (p.1 = m) with
    | some x => rfl
    | none =>
      rw [List.find?_cons, decide_eq_false (show ¬ ((n, v) : α × β).1 = m from h)]
      rfl
theorem RS.ok_grow {rs : RS} (h : rs.ok) (n : Nm) (m : Int) : (growR rs n m).ok := fun x hx => by
  obtain ⟨z, hz⟩ := h x hx
  exact get_some (n := n) (v := (getA rs.szs n).getD 0 + m) hz
theorem RS.ok_open {rs rs' : RS} {a : Nat} {k : Str} (h : rs.ok) (e : openR rs a k = some rs') : rs'.ok := by
  unfold openR at e
  split at e
  · cases e
  · cases e
    intro x hx
    refine h x fun z => hx ?_
    unfold kindOf kindO at z ⊢
    show ((rs.scs ++ [[]]).findSome? fun sc => getA sc x).getD ("" : Str) = ("" : Str)
    rw [List.findSome?_append]
    cases f : rs.scs.findSome? fun sc => getA sc x with
    | some k => rw [f] at z; exact z
    | none => rfl
theorem RS.ok_decl {rs rs' : RS} {n : Nm} {k : Str} (h : rs.ok) (hs : rs.scs ≠ []) (e : declR rs n k = some rs') : rs'.ok := by
  unfold declR at e
  split at e
  · cases e
    intro x hx
    by_cases y : n = x
    · subst y
      exact ⟨0, get_put _ _ _⟩
    · refine get_some (h x fun z => hx ?_).choose_spec
      obtain ⟨i, l, el⟩ : ∃ i l, rs.scs = i ++ [l] := ⟨_, _, (List.dropLast_concat_getLast hs).symm⟩
      show (kindO (modL rs.scs n k) x).getD ("" : Str) = ("" : Str)
      rw [el, modL_app]
      unfold kindOf at z
      rw [el] at z
      unfold kindO at z ⊢
      rw [List.findSome?_append] at z ⊢
      cases f : i.findSome? fun sc => getA sc x with
      | some k => rw [f] at z; exact z
      | none =>
        rw [f] at z
        rw [List.findSome?_cons] at z ⊢
        rw [get_other k y]
        exact z
  · cases e
end LW
end

section
local macro_rules | `(tactic| walk_at "tx") => `(tactic| first
  | ((with_reducible refine' Eg.c_sfld ?hs ?hc ?hn ?hl ?_); (case hs => walk_at "hp"); (case hc => assumption); (case hn => assumption); (case hl => exact Nat.le_of_ble_eq_true rfl)))
local macro_rules | `(tactic| walk_at "at") => `(tactic| first | exact atI_nat (j := 0) rfl | exact atI_nat (j := 1) rfl | exact atI_nat (j := 2) rfl | exact atI_nat (j := 3) rfl | exact atI_nat (j := 4) rfl | exact atI_nat (j := 5) rfl | exact atI_nat (j := 6) rfl | exact atI_nat (j := 7) rfl)
namespace LW
open PySem L2 SX Tx
/-! programs: lines that write nothing -/
def otherR (rs : RS) (ps : List Nm) : Option RS :=
  if S (ps.getD 0 []) ∈ (["text", "row"] : List Str) then (if ps.length = 2 then declR rs (ps.getD 1 []) (S (ps.getD 0 [])) else none)
  else if S (ps.getD 0 []) = "count" then (if (decide (rs.man ≠ "order") && decide (ps.length = 4) && decide (kindOf rs.scs (ps.getD 2 []) = "row") && numB (ps.getD 3 [])) = true then declR rs (ps.getD 1 []) "number" else none)
  else if S (ps.getD 0 []) ∈ (["turn", "clear"] : List Str) then (if (decide (ps.length = 2) && decide (kindOf rs.scs (ps.getD 1 []) ∈ (["text", "row"] : List Str)) && localB rs (ps.getD 1 [])) = true then some rs else none)
  else if (decide (ps.length = 3) && decide (kindOf rs.scs (ps.getD 1 []) = "text") && decide (kindOf rs.scs (ps.getD 2 []) = "row")) = true then
    (if S (ps.getD 0 []) = "ask" then (if rs.loop = 0 then some rs else none)
     else if (decide (rs.man = "number") && localB rs (ps.getD 1 []) && decide (rs.shifts < 4)) = true then some { rs with shifts := rs.shifts + 1 } else none)
  else none
theorem len_dec (p0 : Nm) (rest : List Nm) (m : Nat) : decide (V.int ((V.str (S p0) :: rest.map fun n => V.str (S n)).length : Int) = V.int ((m + 1 : Nat) : Int)) = decide (rest.length = m) := decide_eq_decide.mpr ⟨fun z => by
  have := V.int.inj z
  rw [List.length_cons, List.length_map] at this
  omega, fun z => by rw [List.length_cons, List.length_map, z]⟩
def sp_Reader_accept_other (C : Addr) : Sp := fun vs H Q _ => ∃ (H0 : Hp) (r a : Addr) (rs : RS) (A : RA) (ps : List Nm), vs = [.ref r, .ref a] ∧ RAt C H0 H r rs A ∧ Same H0 H ∧ rs.scs ≠ [] ∧ rs.wt < 30000 ∧ ps ≠ [] ∧ H0 a = some (.lst (ps.map fun n => V.str (S n))) ∧ (∀ n ∈ ps, n.length < 100000) ∧ Out C H0 H r (otherR rs ps) Q
section
variable {P : Program} {w : World} {K : PySem.W.Frag} {mg : Str → Option Value} {base : Heap} {Z : Ad}
set_option maxHeartbeats 8000000 in
theorem ok_Reader_accept_other (T : Txt K mg Z) : FnOk P w K mg base CX0 3 Z.a_Reader_accept_other Z.d_Reader_accept_other ["self", "parts"] (sp_Reader_accept_other Z.c_Reader) := by
  refine T.F_Reader_accept_other.ok sc_Reader_accept_other (fun vs H Q E h => ?_) (fun cdv A outer s H vs Q E hr h => ?_)
  · obtain ⟨H0, r, a, rs, B, ps, rfl, _⟩ := h
    rfl
  · obtain ⟨H0, r, a, rs, B, ps, rfl, h, s0, hne, wt, pne, ha, pl, q⟩ := h
    have nd := sc_Reader_accept_other.nd
    have hu := hu_of hr
    have cR := T.cl_Reader
    have n1 := T.n_Reader_manner
    have n2 := T.n_Reader_shifts
    have n3 := T.n_Reader_loop
    have lk0 : (fldsR rs B).lookup ("kind_of" : Str) = none := rfl
    have lk1 : (fldsR rs B).lookup ("manner" : Str) = some (V.str rs.man) := rfl
    have lk2 : (fldsR rs B).lookup ("is_local" : Str) = none := rfl
    have lk3 : (fldsR rs B).lookup ("declare" : Str) = none := rfl
    have lk4 : (fldsR rs B).lookup ("loop" : Str) = some (V.int (rs.loop : Int)) := rfl
    have lk5 : (fldsR rs B).lookup ("shifts" : Str) = some (V.int (rs.shifts : Int)) := rfl
    obtain ⟨p0, rest, rfl⟩ : ∃ p0 rest, ps = p0 :: rest := by
      cases ps with
      | nil => exact absurd rfl pne
      | cons p0 rest => exact ⟨p0, rest, rfl⟩
    have ho := h.ob
    have h_a : H a = some (.lst (V.str (S p0) :: rest.map fun n => V.str (S n))) := s0 _ _ ha
    refine ⟨_, (pss_cons (ps_set (i := 2) nd rfl (Or.inl rfl) (pe_ix ix_list (pv 1) pe_int (fun _ _ => rfl)))
  (pss_cons (ps_if (pt_cmpR op_in_seq (pv 2) (pe_tup (pa_cons pe_str (pa_cons pe_str pa_nil))) (by rfl))
  (pss_one (ps_ret (pe_and (pe_cmpR op_eq (pe_callB Eg.cr_len (by rfl) T.u_len (by decide +kernel) (pa_cons (pv 1) pa_nil)) pe_int (nomark _)) (pe_one (pe_meth (pv 0) T.cl_Reader T.m_Reader_declare (ok_Reader_declare T) (hr.mono (by decide)) T.b_Reader_declare .nil pass0 (pa_cons (pe_ix ix_list (pv 1) pe_int (fun _ _ => rfl)) (pa_cons (pv 2) pa_nil)))))))
  pss_nil)
  (pss_cons (ps_if (pt_cmpR op_eq (pv 2) pe_str (nomark _))
  (pss_cons (ps_if (PW.pt (pw_or (pt_cmpR op_eq (pe_fld (pv 0) rfl) pe_str (nomark _)) (pw_or (pt_cmpR op_ne (pe_callB Eg.cr_len (by rfl) T.u_len (by decide +kernel) (pa_cons (pv 1) pa_nil)) pe_int (nomark _)) (pw_or1 (pt_cmpR op_ne (pe_meth (pv 0) T.cl_Reader T.m_Reader_kind_of (ok_Reader_kind_of T) (hr.mono (by decide)) T.b_Reader_kind_of .nil pass0 (pa_cons (pe_ix ix_list (pv 1) pe_int (fun _ _ => rfl)) pa_nil)) pe_str (nomark _))))))
  (pss_one (ps_ret pe_bl))
  pss_nil)
  (pss_one (ps_ret (pe_and (pe_call (ok_is_numeral T) (hr.mono (by decide)) (by rfl) T.g_is_numeral T.F_is_numeral.kp T.b_is_numeral .nil pass0 (pa_cons (pe_ix ix_list (pv 1) pe_int (fun _ _ => rfl)) pa_nil)) (pe_one (pe_meth (pv 0) T.cl_Reader T.m_Reader_declare (ok_Reader_declare T) (hr.mono (by decide)) T.b_Reader_declare .nil pass0 (pa_cons (pe_ix ix_list (pv 1) pe_int (fun _ _ => rfl)) (pa_cons pe_str pa_nil))))))))
  pss_nil)
  (pss_cons (ps_if (pt_cmpR op_in_seq (pv 2) (pe_tup (pa_cons pe_str (pa_cons pe_str pa_nil))) (by rfl))
  (pss_one (ps_ret (pe_and (pe_cmpR op_eq (pe_callB Eg.cr_len (by rfl) T.u_len (by decide +kernel) (pa_cons (pv 1) pa_nil)) pe_int (nomark _)) (pe_and (pe_cmpR op_in_seq (pe_meth (pv 0) T.cl_Reader T.m_Reader_kind_of (ok_Reader_kind_of T) (hr.mono (by decide)) T.b_Reader_kind_of .nil pass0 (pa_cons (pe_ix ix_list (pv 1) pe_int (fun _ _ => rfl)) pa_nil)) (pe_tup (pa_cons pe_str (pa_cons pe_str pa_nil))) (by rfl)) (pe_one (pe_meth (pv 0) T.cl_Reader T.m_Reader_is_local (ok_Reader_is_local T) (hr.mono (by decide)) T.b_Reader_is_local .nil pass0 (pa_cons (pe_ix ix_list (pv 1) pe_int (fun _ _ => rfl)) pa_nil)))))))
  pss_nil)
  (pss_cons (ps_if (PW.pt (pw_or (pt_cmpR op_ne (pe_callB Eg.cr_len (by rfl) T.u_len (by decide +kernel) (pa_cons (pv 1) pa_nil)) pe_int (nomark _)) (pw_or (pt_cmpR op_ne (pe_meth (pv 0) T.cl_Reader T.m_Reader_kind_of (ok_Reader_kind_of T) (hr.mono (by decide)) T.b_Reader_kind_of .nil pass0 (pa_cons (pe_ix ix_list (pv 1) pe_int (fun _ _ => rfl)) pa_nil)) pe_str (nomark _)) (pw_or1 (pt_cmpR op_ne (pe_meth (pv 0) T.cl_Reader T.m_Reader_kind_of (ok_Reader_kind_of T) (hr.mono (by decide)) T.b_Reader_kind_of .nil pass0 (pa_cons (pe_ix ix_list (pv 1) pe_int (fun _ _ => rfl)) pa_nil)) pe_str (nomark _))))))
  (pss_one (ps_ret pe_bl))
  pss_nil)
  (pss_cons (ps_if (pt_cmpR op_eq (pv 2) pe_str (nomark _))
  (pss_one (ps_ret (pe_cmpR op_eq (pe_fld (pv 0) rfl) pe_int (nomark _))))
  pss_nil)
  (pss_cons (ps_if (PW.pt (pw_or (pt_cmpR op_ne (pe_fld (pv 0) rfl) pe_str (nomark _)) (pw_or (pt_not (pt_val (pe_meth (pv 0) T.cl_Reader T.m_Reader_is_local (ok_Reader_is_local T) (hr.mono (by decide)) T.b_Reader_is_local .nil pass0 (pa_cons (pe_ix ix_list (pv 1) pe_int (fun _ _ => rfl)) pa_nil)))) (pw_or1 (pt_cmpR op_ge (pe_fld (pv 0) rfl) (Tw.pe_globS (by rfl) T.g_MOST_SHIFTS) (nomark _))))))
  (pss_one (ps_ret pe_bl))
  pss_nil)
  (pss_cons (ps_fldaug (pv 0) pe_int ip_add)
  (pss_one (ps_ret pe_bl)))))))))), ?_⟩
    refine Eg.w_sig (σ := [some (.ref r), some (.ref a), none]) rfl ?_
    walk_at "go"
    intro t ht
    have h1t : upd H t (.tup [.str "text", .str "row"]) t = some (.tup [.str "text", .str "row"]) := upd_same
    have s1 : Same H (upd H t (.tup [.str "text", .str "row"])) := fun c o e => Eg.upd_old e ht
    generalize upd H t (.tup [.str "text", .str "row"]) = H1 at h1t s1 ⊢
    refine ⟨t, _, rfl, .inr (SqT.of h1t), rfl, rfl, ?_⟩
    have ein := inV_strs (k := S p0) ["text", "row"]
    rw [show ([("text" : Str), "row"].map V.str) = [V.str "text", V.str "row"] from rfl] at ein
    rw [if_neg Bool.false_ne_true, ein]
    have h1 := h.keep s1
    have h1o := h1.ob
    have s01 := s0.trans s1
    have h1a := s1 _ _ h_a
    by_cases e1 : S p0 ∈ (["text", "row"] : List Str)
    · rw [decide_eq_true e1]
      have eo : otherR rs (p0 :: rest) = if (p0 :: rest).length = 2 then declR rs ((p0 :: rest).getD 1 []) (S p0) else none := by
        unfold otherR
        rw [if_pos (show S ((p0 :: rest).getD 0 []) ∈ (["text", "row"] : List Str) from e1)]
        rfl
      walk_at "go"
      rw [show decide (V.int ((V.str (S p0) :: rest.map fun n => V.str (S n)).length : Int) = V.int 2) = decide (rest.length = 1) from len_dec p0 rest 1]
      by_cases e2 : rest.length = 1
      · obtain ⟨p1, rfl⟩ : ∃ p1, rest = [p1] := by
          match rest, e2 with
          | [p1], _ => exact ⟨p1, rfl⟩
        have h1a' : H1 a = some (.lst [V.str (S p0), V.str (S p1)]) := h1a
        rw [decide_eq_true e2]
        walk_at "go"
        rw [eo, if_pos (show ([p0, p1] : List Nm).length = 2 from rfl)] at q
        exact ⟨H0, r, rs, B, p1, S p0, rfl, h1, s01, hne, by omega, pl p1 (by simp), q⟩
      · rw [decide_eq_false e2]
        walk_at "go"
        exact q.1 (by rw [eo, if_neg (show ¬ (p0 :: rest).length = 2 from fun z => e2 (by rw [List.length_cons] at z; omega))]) H1 s01
    · rw [decide_eq_false e1]
      walk_at "go"
      by_cases e3 : S p0 = "count"
      · rw [decide_eq_true (show V.str (S p0) = V.str "count" by rw [e3])]
        have eo : otherR rs (p0 :: rest) = if (decide (rs.man ≠ "order") && decide ((p0 :: rest).length = 4) && decide (kindOf rs.scs ((p0 :: rest).getD 2 []) = "row") && numB ((p0 :: rest).getD 3 [])) = true then declR rs ((p0 :: rest).getD 1 []) "number" else none := by
          unfold otherR
          rw [if_neg (show ¬ S ((p0 :: rest).getD 0 []) ∈ (["text", "row"] : List Str) from e1), if_pos (show S ((p0 :: rest).getD 0 []) = "count" from e3)]
        walk_at "go"
        by_cases e4 : rs.man = "order"
        · rw [decide_eq_true (show V.str rs.man = V.str "order" by rw [e4])]
          walk_at "go"
          exact q.1 (by rw [eo, decide_eq_false (show ¬ rs.man ≠ "order" from fun z => z e4)]; rfl) H1 s01
        · rw [decide_eq_false (show ¬ V.str rs.man = V.str "order" from fun z => e4 (V.str.inj z))]
          walk_at "go"
          rw [show decide (V.int ((V.str (S p0) :: rest.map fun n => V.str (S n)).length : Int) = V.int 4) = decide (rest.length = 3) from len_dec p0 rest 3]
          by_cases e2 : rest.length = 3
          · obtain ⟨p1, p2, p3, rfl⟩ : ∃ p1 p2 p3, rest = [p1, p2, p3] := by
              match rest, e2 with
              | [p1, p2, p3], _ => exact ⟨p1, p2, p3, rfl⟩
            have h1a' : H1 a = some (.lst [V.str (S p0), V.str (S p1), V.str (S p2), V.str (S p3)]) := h1a
            rw [decide_eq_true e2]
            walk_at "go"
            refine ⟨H0, r, rs, B, p2, rfl, h1, ?_⟩
            walk_at "go"
            by_cases e5 : kindOf rs.scs p2 = "row"
            · rw [decide_eq_true (show V.str (kindOf rs.scs p2) = V.str "row" by rw [e5])]
              walk_at "go"
              refine ⟨p3, rfl, pl p3 (by simp), fun H2 s2 => ?_⟩
              have h2 := h1.keep s2
              have h2o := h2.ob
              have h2a := s2 _ _ h1a'
              have s02 := s01.trans s2
              cases e6 : numB p3 with
              | false =>
                walk_at "go"
                exact q.1 (by rw [eo, show ([p0, p1, p2, p3] : List Nm).getD 3 [] = p3 from rfl, e6, Bool.and_false]; rfl) H2 s02
              | true =>
                walk_at "go"
                rw [eo, if_pos (by rw [show ([p0, p1, p2, p3] : List Nm).getD 2 [] = p2 from rfl, show ([p0, p1, p2, p3] : List Nm).getD 3 [] = p3 from rfl, decide_eq_true e4, decide_eq_true e5, e6]; rfl)] at q
                exact ⟨H0, r, rs, B, p1, "number", rfl, h2, s02, hne, by omega, pl p1 (by simp), q⟩
            · rw [decide_eq_false (show ¬ V.str (kindOf rs.scs p2) = V.str "row" from fun z => e5 (V.str.inj z))]
              walk_at "go"
              exact q.1 (by rw [eo, show ([p0, p1, p2, p3] : List Nm).getD 2 [] = p2 from rfl, decide_eq_false e5, Bool.and_false]; rfl) H1 s01
          · rw [decide_eq_false e2]
            walk_at "go"
            exact q.1 (by rw [eo, decide_eq_false (show ¬ (p0 :: rest).length = 4 from fun z => e2 (by rw [List.length_cons] at z; omega)), Bool.and_false]; rfl) H1 s01
      · rw [decide_eq_false (show ¬ V.str (S p0) = V.str "count" from fun z => e3 (V.str.inj z))]
        walk_at "go"
        intro t3 ht3
        have h3t : upd H1 t3 (.tup [.str "turn", .str "clear"]) t3 = some (.tup [.str "turn", .str "clear"]) := upd_same
        have s3 : Same H1 (upd H1 t3 (.tup [.str "turn", .str "clear"])) := fun c o e => Eg.upd_old e ht3
        generalize upd H1 t3 (.tup [.str "turn", .str "clear"]) = H3 at h3t s3 ⊢
        refine ⟨t3, _, rfl, .inr (SqT.of h3t), rfl, rfl, ?_⟩
        have ein3 := inV_strs (k := S p0) ["turn", "clear"]
        rw [show ([("turn" : Str), "clear"].map V.str) = [V.str "turn", V.str "clear"] from rfl] at ein3
        rw [if_neg Bool.false_ne_true, ein3]
        have h3 := h1.keep s3
        have h3o := h3.ob
        have s03 := s01.trans s3
        have h3a := s3 _ _ h1a
        by_cases e4 : S p0 ∈ (["turn", "clear"] : List Str)
        · rw [decide_eq_true e4]
          have eo : otherR rs (p0 :: rest) = if (decide ((p0 :: rest).length = 2) && decide (kindOf rs.scs ((p0 :: rest).getD 1 []) ∈ (["text", "row"] : List Str)) && localB rs ((p0 :: rest).getD 1 [])) = true then some rs else none := by
            unfold otherR
            rw [if_neg (show ¬ S ((p0 :: rest).getD 0 []) ∈ (["text", "row"] : List Str) from e1), if_neg (show ¬ S ((p0 :: rest).getD 0 []) = "count" from e3), if_pos (show S ((p0 :: rest).getD 0 []) ∈ (["turn", "clear"] : List Str) from e4)]
          walk_at "go"
          rw [show decide (V.int ((V.str (S p0) :: rest.map fun n => V.str (S n)).length : Int) = V.int 2) = decide (rest.length = 1) from len_dec p0 rest 1]
          by_cases e2 : rest.length = 1
          · obtain ⟨p1, rfl⟩ : ∃ p1, rest = [p1] := by
              match rest, e2 with
              | [p1], _ => exact ⟨p1, rfl⟩
            have h3a' : H3 a = some (.lst [V.str (S p0), V.str (S p1)]) := h3a
            rw [decide_eq_true e2]
            walk_at "go"
            refine ⟨H0, r, rs, B, p1, rfl, h3, ?_⟩
            walk_at "go"
            intro t4 ht4
            have h4t : upd H3 t4 (.tup [.str "text", .str "row"]) t4 = some (.tup [.str "text", .str "row"]) := upd_same
            have s4 : Same H3 (upd H3 t4 (.tup [.str "text", .str "row"])) := fun c o e => Eg.upd_old e ht4
            generalize upd H3 t4 (.tup [.str "text", .str "row"]) = H4 at h4t s4 ⊢
            refine ⟨t4, _, rfl, .inr (SqT.of h4t), rfl, rfl, ?_⟩
            have ein4 := inV_strs (k := kindOf rs.scs p1) ["text", "row"]
            rw [show ([("text" : Str), "row"].map V.str) = [V.str "text", V.str "row"] from rfl] at ein4
            rw [if_neg Bool.false_ne_true, ein4]
            have h4 := h3.keep s4
            have h4o := h4.ob
            have s04 := s03.trans s4
            have h4a := s4 _ _ h3a'
            cases e5 : decide (kindOf rs.scs p1 ∈ (["text", "row"] : List Str)) with
            | false =>
              walk_at "go"
              exact q.1 (by rw [eo, show ([p0, p1] : List Nm).getD 1 [] = p1 from rfl, e5, Bool.and_false]; rfl) H4 s04
            | true =>
              walk_at "go"
              refine ⟨H0, r, rs, B, p1, rfl, h4, by omega, fun H5 s5 => ?_⟩
              have h5 := h4.keep s5
              have s05 := s04.trans s5
              cases e6 : localB rs p1 with
              | false => exact q.1 (by rw [eo, show ([p0, p1] : List Nm).getD 1 [] = p1 from rfl, e6, Bool.and_false]; rfl) H5 s05
              | true => exact q.2 rs (by rw [eo, show ([p0, p1] : List Nm).getD 1 [] = p1 from rfl, e5, e6]; rfl) H5 B h5 s05
          · rw [decide_eq_false e2]
            walk_at "go"
            exact q.1 (by rw [eo, decide_eq_false (show ¬ (p0 :: rest).length = 2 from fun z => e2 (by rw [List.length_cons] at z; omega))]; rfl) H3 s03
        · rw [decide_eq_false e4]
          have eo : otherR rs (p0 :: rest) = if (decide ((p0 :: rest).length = 3) && decide (kindOf rs.scs ((p0 :: rest).getD 1 []) = "text") && decide (kindOf rs.scs ((p0 :: rest).getD 2 []) = "row")) = true then
              (if S p0 = "ask" then (if rs.loop = 0 then some rs else none)
               else if (decide (rs.man = "number") && localB rs ((p0 :: rest).getD 1 []) && decide (rs.shifts < 4)) = true then some { rs with shifts := rs.shifts + 1 } else none) else none := by
            unfold otherR
            rw [if_neg (show ¬ S ((p0 :: rest).getD 0 []) ∈ (["text", "row"] : List Str) from e1), if_neg (show ¬ S ((p0 :: rest).getD 0 []) = "count" from e3), if_neg (show ¬ S ((p0 :: rest).getD 0 []) ∈ (["turn", "clear"] : List Str) from e4)]
            rfl
          walk_at "go"
          rw [show decide (V.int ((V.str (S p0) :: rest.map fun n => V.str (S n)).length : Int) = V.int 3) = decide (rest.length = 2) from len_dec p0 rest 2]
          by_cases e2 : rest.length = 2
          · obtain ⟨p1, p2, rfl⟩ : ∃ p1 p2, rest = [p1, p2] := by
              match rest, e2 with
              | [p1, p2], _ => exact ⟨p1, p2, rfl⟩
            have h3a' : H3 a = some (.lst [V.str (S p0), V.str (S p1), V.str (S p2)]) := h3a
            rw [decide_eq_true e2]
            walk_at "go"
            refine ⟨H0, r, rs, B, p1, rfl, h3, ?_⟩
            walk_at "go"
            by_cases e5 : kindOf rs.scs p1 = "text"
            · rw [decide_eq_true (show V.str (kindOf rs.scs p1) = V.str "text" by rw [e5])]
              walk_at "go"
              refine ⟨H0, r, rs, B, p2, rfl, h3, ?_⟩
              walk_at "go"
              by_cases e6 : kindOf rs.scs p2 = "row"
              · rw [decide_eq_true (show V.str (kindOf rs.scs p2) = V.str "row" by rw [e6])]
                rw [if_pos (by rw [show ([p0, p1, p2] : List Nm).getD 1 [] = p1 from rfl, show ([p0, p1, p2] : List Nm).getD 2 [] = p2 from rfl, decide_eq_true e5, decide_eq_true e6]; rfl)] at eo
                walk_at "go"
                by_cases e7 : S p0 = "ask"
                · rw [decide_eq_true (show V.str (S p0) = V.str "ask" by rw [e7])]
                  rw [if_pos e7] at eo
                  walk_at "go"
                  rw [show decide (V.int (rs.loop : Int) = V.int 0) = decide (rs.loop = 0) from decide_eq_decide.mpr ⟨fun z => by have := V.int.inj z; omega, fun z => by rw [z]; rfl⟩]
                  by_cases e8 : rs.loop = 0
                  · rw [decide_eq_true e8]
                    exact q.2 rs (by rw [eo, if_pos e8]) H3 B h3 s03
                  · rw [decide_eq_false e8]
                    exact q.1 (by rw [eo, if_neg e8]) H3 s03
                · rw [decide_eq_false (show ¬ V.str (S p0) = V.str "ask" from fun z => e7 (V.str.inj z))]
                  rw [if_neg e7] at eo
                  walk_at "go"
                  by_cases e8 : rs.man = "number"
                  · rw [decide_eq_true (show V.str rs.man = V.str "number" by rw [e8])]
                    walk_at "go"
                    refine ⟨H0, r, rs, B, p1, rfl, h3, by omega, fun H4 s4 => ?_⟩
                    have h4 := h3.keep s4
                    have h4o := h4.ob
                    have s04 := s03.trans s4
                    have h4a := s4 _ _ h3a'
                    cases e9 : localB rs p1 with
                    | false =>
                      walk_at "go"
                      exact q.1 (by rw [eo, show ([p0, p1, p2] : List Nm).getD 1 [] = p1 from rfl, e9, Bool.and_false]; rfl) H4 s04
                    | true =>
                      walk_at "go"
                      by_cases f1 : rs.shifts ≥ 4
                      · rw [decide_eq_true (by omega : (rs.shifts : Int) ≥ 4)]
                        walk_at "go"
                        exact q.1 (by rw [eo, decide_eq_false (show ¬ rs.shifts < 4 by omega), Bool.and_false]; rfl) H4 s04
                      · rw [decide_eq_false (by omega : ¬ (rs.shifts : Int) ≥ 4)]
                        walk_at "go"
                        unfold sFldAug
                        walk_at "go"
                        refine ⟨r, _, _, _, _, rfl, h4o, cR, n2, lk5, ?_⟩
                        walk_at "go"
                        refine ip_add1 ?_
                        refine ⟨_, _, h4o, Nat.le_of_ble_eq_true rfl, ?_⟩
                        walk_at "go"
                        refine q.2 { rs with shifts := rs.shifts + 1 } (by rw [eo, show ([p0, p1, p2] : List Nm).getD 1 [] = p1 from rfl, decide_eq_true e8, e9, decide_eq_true (show rs.shifts < 4 by omega)]; rfl) _ B (h4.chg rfl rfl rfl rfl rfl (fun c o e _ n => Eg.upd_mut n e) upd_same ?_) fun c o e => ?_
                        · exact Eg.upd_mut (ne_of h4o h4.sz (fun z => nomatch z)).symm h4.sz
                        · exact Eg.upd_mut (ne_of_none e h4.r0) (s04 _ _ e)
                  · rw [decide_eq_false (show ¬ V.str rs.man = V.str "number" from fun z => e8 (V.str.inj z))]
                    walk_at "go"
                    exact q.1 (by rw [eo, decide_eq_false e8]; rfl) H3 s03
              · rw [decide_eq_false (show ¬ V.str (kindOf rs.scs p2) = V.str "row" from fun z => e6 (V.str.inj z))]
                walk_at "go"
                exact q.1 (by rw [eo, show ([p0, p1, p2] : List Nm).getD 2 [] = p2 from rfl, decide_eq_false e6, Bool.and_false]; rfl) H3 s03
            · rw [decide_eq_false (show ¬ V.str (kindOf rs.scs p1) = V.str "text" from fun z => e5 (V.str.inj z))]
              walk_at "go"
              exact q.1 (by rw [eo, show ([p0, p1, p2] : List Nm).getD 1 [] = p1 from rfl, decide_eq_false e5, Bool.and_false]; rfl) H3 s03
          · rw [decide_eq_false e2]
            walk_at "go"
            exact q.1 (by rw [eo, decide_eq_false (show ¬ (p0 :: rest).length = 3 from fun z => e2 (by rw [List.length_cons] at z; omega))]; rfl) H3 s03
end
end LW
end

section
local macro_rules | `(tactic| walk_at "tx") => `(tactic| first
  | ((with_reducible refine' Eg.c_sfld ?hs ?hc ?hn ?hl ?_); (case hs => walk_at "hp"); (case hc => assumption); (case hn => assumption); (case hl => exact Nat.le_of_ble_eq_true rfl)))
local macro_rules | `(tactic| walk_at "at") => `(tactic| first | exact atI_nat (j := 0) rfl | exact atI_nat (j := 1) rfl | exact atI_nat (j := 2) rfl | exact atI_nat (j := 3) rfl | exact atI_nat (j := 4) rfl | exact atI_nat (j := 5) rfl | exact atI_nat (j := 6) rfl | exact atI_nat (j := 7) rfl)
namespace LW
open PySem L2 SX Tx
/-! programs: lines that write; blocks; a line -/
def writeR (rs : RS) (ps : List Nm) : Option RS :=
  if (decide (S (ps.getD 0 []) ∈ (["say", "hole", "put", "bind", "add"] : List Str)) && decide (4 ≤ ps.length) && decide (S (ps.getD 2 []) ∈ (["front", "back"] : List Str))) = true then
    (if S (ps.getD 0 []) = "bind" then (if kindOf rs.scs (ps.getD 1 []) = "text" then bindR rs ps else none)
     else if S (ps.getD 0 []) = "add" then addR rs (kindOf rs.scs (ps.getD 1 [])) ps
     else if (if S (ps.getD 0 []) = "put" then decide (kindOf rs.scs (ps.getD 1 []) = "row") && decide (rs.man ≠ "name") && valueB rs (ps.getD 3 []) && decide (ps.length = 4)
       else if S (ps.getD 0 []) = "say" then decide (kindOf rs.scs (ps.getD 1 []) = "text") && litL (ps.getD 3 []) && decide (ps.length = 4)
       else if rs.man = "number" then decide (kindOf rs.scs (ps.getD 1 []) = "text") && valueB rs (ps.getD 3 []) && decide (ps.length = 5) && decide (kindOf rs.scs (ps.getD 4 []) = "number")
       else decide (kindOf rs.scs (ps.getD 1 []) = "text") && valueB rs (ps.getD 3 []) && decide (ps.length = 4) && decide (rs.man = "order")) = true then some (growR rs (ps.getD 1 []) 1) else none)
  else none
def blockR (rs : RS) (a : Nat) (ps : List Nm) : Option RS :=
  if S (ps.getD 0 []) = "each" then eachR rs a ps
  else if S (ps.getD 0 []) = "when" then (if (decide (ps.length = 2) && valueB rs (ps.getD 1 [])) = true then openR rs a "when" else none)
  else match decide (ps.length = 1), rs.blks.getLast? with
    | true, some (at_, k) =>
      if S (ps.getD 0 []) = "else" then
        (if (decide (k = "when") && decide (((getA rs.jmps at_).getD (0, 0)).1 = -1)) = true then some { rs with jmps := putA rs.jmps at_ ((a : Int), -1), scs := rs.scs.dropLast ++ [[]] } else none)
      else some { rs with jmps := putA rs.jmps at_ (((getA rs.jmps at_).getD (0, 0)).1, (a : Int)), blks := rs.blks.dropLast, scs := rs.scs.dropLast, loop := if k = "each" then 0 else rs.loop }
    | _, _ => none
def sp_Reader_accept_writing (C : Addr) : Sp := fun vs H Q _ => ∃ (H0 : Hp) (r a : Addr) (rs : RS) (A : RA) (ps : List Nm), vs = [.ref r, .ref a] ∧ RAt C H0 H r rs A ∧ Same H0 H ∧ rs.ok ∧ rs.wt < 30000 ∧ ps ≠ [] ∧ H0 a = some (.lst (ps.map fun n => V.str (S n))) ∧ (∀ n ∈ ps, n.length < 100000) ∧ Out C H0 H r (writeR rs ps) Q
section
variable {P : Program} {w : World} {K : PySem.W.Frag} {mg : Str → Option Value} {base : Heap} {Z : Ad}
set_option maxHeartbeats 8000000 in
theorem ok_Reader_accept_writing (T : Txt K mg Z) : FnOk P w K mg base CX0 4 Z.a_Reader_accept_writing Z.d_Reader_accept_writing ["self", "parts"] (sp_Reader_accept_writing Z.c_Reader) := by
  refine T.F_Reader_accept_writing.ok sc_Reader_accept_writing (fun vs H Q E h => ?_) (fun cdv A outer s H vs Q E hr h => ?_)
  · obtain ⟨H0, r, a, rs, B, ps, rfl, _⟩ := h
    rfl
  · obtain ⟨H0, r, a, rs, B, ps, rfl, h, s0, ok, wt, pne, ha, pl, q⟩ := h
    have nd := sc_Reader_accept_writing.nd
    have hu := hu_of hr
    have cR := T.cl_Reader
    have n1 := T.n_Reader_manner
    have hSd := T.g_SIDES.choose_spec.2
    have lk0 : (fldsR rs B).lookup ("kind_of" : Str) = none := rfl
    have lk1 : (fldsR rs B).lookup ("manner" : Str) = some (V.str rs.man) := rfl
    have lk2 : (fldsR rs B).lookup ("is_value" : Str) = none := rfl
    have lk3 : (fldsR rs B).lookup ("grow" : Str) = none := rfl
    have lk4 : (fldsR rs B).lookup ("accept_bind" : Str) = none := rfl
    have lk5 : (fldsR rs B).lookup ("accept_add" : Str) = none := rfl
    obtain ⟨p0, rest, rfl⟩ : ∃ p0 rest, ps = p0 :: rest := by
      cases ps with
      | nil => exact absurd rfl pne
      | cons p0 rest => exact ⟨p0, rest, rfl⟩
    have ho := h.ob
    have h_a : H a = some (.lst (V.str (S p0) :: rest.map fun n => V.str (S n))) := s0 _ _ ha
    refine ⟨_, (pss_cons (ps_set (i := 2) nd rfl (Or.inl rfl) (pe_ix ix_list (pv 1) pe_int (fun _ _ => rfl)))
  (pss_cons (ps_if (PW.pt (pw_or (pt_cmpR op_notIn_seq (pv 2) (pe_tup (pa_cons pe_str (pa_cons pe_str (pa_cons pe_str (pa_cons pe_str (pa_cons pe_str pa_nil)))))) (by rfl)) (pw_or (pt_cmpR op_lt (pe_callB Eg.cr_len (by rfl) T.u_len (by decide +kernel) (pa_cons (pv 1) pa_nil)) pe_int (nomark _)) (pw_or1 (pt_cmpR op_notIn_seq (pe_ix ix_list (pv 1) pe_int (fun _ _ => rfl)) (pe_glob (v := .ref T.g_SIDES.choose) (by rfl) T.g_SIDES.choose_spec.1 rfl) (by rfl))))))
  (pss_one (ps_ret pe_bl))
  pss_nil)
  (pss_cons (ps_set (i := 3) nd rfl (Or.inl rfl) (pe_meth (pv 0) T.cl_Reader T.m_Reader_kind_of (ok_Reader_kind_of T) (hr.mono (by decide)) T.b_Reader_kind_of .nil pass0 (pa_cons (pe_ix ix_list (pv 1) pe_int (fun _ _ => rfl)) pa_nil)))
  (pss_cons (ps_if (pt_cmpR op_eq (pv 2) pe_str (nomark _))
  (pss_one (ps_ret (pe_and (pe_cmpR op_eq (pv 3) pe_str (nomark _)) (pe_one (pe_meth (pv 0) T.cl_Reader T.m_Reader_accept_bind (ok_Reader_accept_bind T) (hr.mono (by decide)) T.b_Reader_accept_bind .nil pass0 (pa_cons (pv 1) pa_nil))))))
  pss_nil)
  (pss_cons (ps_if (pt_cmpR op_eq (pv 2) pe_str (nomark _))
  (pss_one (ps_ret (pe_meth (pv 0) T.cl_Reader T.m_Reader_accept_add (ok_Reader_accept_add T) (hr.mono (by decide)) T.b_Reader_accept_add .nil pass0 (pa_cons (pv 3) (pa_cons (pv 1) pa_nil)))))
  pss_nil)
  (C8.pss_cut (ps_if (pt_cmpR op_eq (pv 2) pe_str (nomark _))
  (pss_one (ps_set (i := 4) nd rfl (Or.inl rfl) (pe_and (pe_cmpR op_eq (pv 3) pe_str (nomark _)) (pe_and (pe_cmpR op_ne (pe_fld (pv 0) rfl) pe_str (nomark _)) (pe_and (pe_meth (pv 0) T.cl_Reader T.m_Reader_is_value (ok_Reader_is_value T) (hr.mono (by decide)) T.b_Reader_is_value .nil pass0 (pa_cons (pe_ix ix_list (pv 1) pe_int (fun _ _ => rfl)) pa_nil)) (pe_one (pe_cmpR op_eq (pe_callB Eg.cr_len (by rfl) T.u_len (by decide +kernel) (pa_cons (pv 1) pa_nil)) pe_int (nomark _))))))))
  (pss_one (ps_if (pt_cmpR op_eq (pv 2) pe_str (nomark _))
  (pss_one (ps_set (i := 4) nd rfl (Or.inl rfl) (pe_and (pe_cmpR op_eq (pv 3) pe_str (nomark _)) (pe_and (pe_call (ok_is_literal T) (hr.mono (by decide)) (by rfl) T.g_is_literal T.F_is_literal.kp T.b_is_literal .nil pass0 (pa_cons (pe_ix ix_list (pv 1) pe_int (fun _ _ => rfl)) pa_nil)) (pe_one (pe_cmpR op_eq (pe_callB Eg.cr_len (by rfl) T.u_len (by decide +kernel) (pa_cons (pv 1) pa_nil)) pe_int (nomark _)))))))
  (pss_one (ps_if (pt_cmpR op_eq (pe_fld (pv 0) rfl) pe_str (nomark _))
  (pss_cons (ps_set (i := 4) nd rfl (Or.inl rfl) (pe_and (pe_cmpR op_eq (pv 3) pe_str (nomark _)) (pe_and (pe_meth (pv 0) T.cl_Reader T.m_Reader_is_value (ok_Reader_is_value T) (hr.mono (by decide)) T.b_Reader_is_value .nil pass0 (pa_cons (pe_ix ix_list (pv 1) pe_int (fun _ _ => rfl)) pa_nil)) (pe_one (pe_cmpR op_eq (pe_callB Eg.cr_len (by rfl) T.u_len (by decide +kernel) (pa_cons (pv 1) pa_nil)) pe_int (nomark _))))))
  (pss_one (ps_set (i := 4) nd rfl (Or.inl rfl) (pe_and (pv 4) (pe_one (pe_cmpR op_eq (pe_meth (pv 0) T.cl_Reader T.m_Reader_kind_of (ok_Reader_kind_of T) (hr.mono (by decide)) T.b_Reader_kind_of .nil pass0 (pa_cons (pe_ix ix_list (pv 1) pe_int (fun _ _ => rfl)) pa_nil)) pe_str (nomark _)))))))
  (pss_one (ps_set (i := 4) nd rfl (Or.inl rfl) (pe_and (pe_cmpR op_eq (pv 3) pe_str (nomark _)) (pe_and (pe_meth (pv 0) T.cl_Reader T.m_Reader_is_value (ok_Reader_is_value T) (hr.mono (by decide)) T.b_Reader_is_value .nil pass0 (pa_cons (pe_ix ix_list (pv 1) pe_int (fun _ _ => rfl)) pa_nil)) (pe_and (pe_cmpR op_eq (pe_callB Eg.cr_len (by rfl) T.u_len (by decide +kernel) (pa_cons (pv 1) pa_nil)) pe_int (nomark _)) (pe_one (pe_cmpR op_eq (pe_fld (pv 0) rfl) pe_str (nomark _)))))))))))))
  (pss_one (ps_ret (pe_and (pv 4) (pe_one (pe_meth (pv 0) T.cl_Reader T.m_Reader_grow (ok_Reader_grow T) (hr.mono (by decide)) T.bp_Reader_grow_1.choose_spec.2 T.bp_Reader_grow_1.choose_spec.1 pass0 (pa_cons (pe_ix ix_list (pv 1) pe_int (fun _ _ => rfl)) pa_nil)))))))))))), ?_⟩
    generalize T.g_SIDES.choose = R at hSd ⊢
    refine Eg.w_sig (σ := [some (.ref r), some (.ref a), none, none, none]) rfl ?_
    walk_at "go"
    intro t ht
    have h1t : upd H t (.tup [.str "say", .str "hole", .str "put", .str "bind", .str "add"]) t = some (.tup [.str "say", .str "hole", .str "put", .str "bind", .str "add"]) := upd_same
    have s1 : Same H (upd H t (.tup [.str "say", .str "hole", .str "put", .str "bind", .str "add"])) := fun c o e => Eg.upd_old e ht
    generalize upd H t (.tup [.str "say", .str "hole", .str "put", .str "bind", .str "add"]) = H1 at h1t s1 ⊢
    refine ⟨t, _, rfl, .inr (SqT.of h1t), rfl, rfl, ?_⟩
    have ein := inV_strs (k := S p0) ["say", "hole", "put", "bind", "add"]
    rw [show ([("say" : Str), "hole", "put", "bind", "add"].map V.str) = [V.str "say", V.str "hole", V.str "put", V.str "bind", V.str "add"] from rfl] at ein
    rw [if_pos rfl, ein]
    have h1 := h.keep s1
    have h1o := h1.ob
    have s01 := s0.trans s1
    have h1a := s1 _ _ h_a
    have fail : ∀ H', Same H0 H' → writeR rs (p0 :: rest) = none → Q (.bl false) H' := fun H' s e => q.1 e H' s
    cases e1 : decide (S p0 ∈ (["say", "hole", "put", "bind", "add"] : List Str)) with
    | false =>
      walk_at "go"
      exact fail H1 s01 (by unfold writeR; rw [show (p0 :: rest).getD 0 [] = p0 from rfl, e1]; rfl)
    | true =>
      walk_at "go"
      by_cases e2 : rest.length < 3
      · rw [decide_eq_true (show ((V.str (S p0) :: rest.map fun n => V.str (S n)).length : Int) < 4 by rw [List.length_cons, List.length_map]; omega)]
        walk_at "go"
        exact fail H1 s01 (by unfold writeR; rw [decide_eq_false (show ¬ 4 ≤ (p0 :: rest).length by rw [List.length_cons]; omega), Bool.and_false]; rfl)
      · rw [decide_eq_false (show ¬ ((V.str (S p0) :: rest.map fun n => V.str (S n)).length : Int) < 4 by rw [List.length_cons, List.length_map]; omega)]
        obtain ⟨p1, p2, p3, re, rfl⟩ : ∃ p1 p2 p3 re, rest = p1 :: p2 :: p3 :: re := by
          match rest, e2 with
          | p1 :: p2 :: p3 :: re, _ => exact ⟨p1, p2, p3, re, rfl⟩
          | [], h => exact absurd (by decide) h
          | [_], h => exact absurd (by show 1 < 3; decide) h
          | [_, _], h => exact absurd (by show 2 < 3; decide) h
        have h1a' : H1 a = some (.lst (V.str (S p0) :: V.str (S p1) :: V.str (S p2) :: V.str (S p3) :: re.map fun n => V.str (S n))) := h1a
        walk_at "go"
        refine Eg.w_ixL (SqL.of h1a') (atI_nat (j := 2) rfl) ?_
        walk_at "go"
        refine ⟨R, _, rfl, .inr (hSd _), rfl, rfl, ?_⟩
        have ein2 := inV_strs (k := S p2) ["front", "back"]
        rw [show ([("front" : Str), "back"].map V.str) = [V.str "front", V.str "back"] from rfl] at ein2
        rw [if_pos rfl, ein2]
        have hl4 : decide (4 ≤ (p0 :: p1 :: p2 :: p3 :: re).length) = true := decide_eq_true (by simp only [List.length_cons]; omega)
        cases e3 : decide (S p2 ∈ (["front", "back"] : List Str)) with
        | false =>
          walk_at "go"
          exact fail H1 s01 (by unfold writeR; rw [show (p0 :: p1 :: p2 :: p3 :: re).getD 2 [] = p2 from rfl, e3, Bool.and_false]; rfl)
        | true =>
          have eo : writeR rs (p0 :: p1 :: p2 :: p3 :: re) = (if S p0 = "bind" then (if kindOf rs.scs p1 = "text" then bindR rs (p0 :: p1 :: p2 :: p3 :: re) else none)
     else if S p0 = "add" then addR rs (kindOf rs.scs p1) (p0 :: p1 :: p2 :: p3 :: re)
     else if (if S p0 = "put" then decide (kindOf rs.scs p1 = "row") && decide (rs.man ≠ "name") && valueB rs p3 && decide (re.length = 0)
       else if S p0 = "say" then decide (kindOf rs.scs p1 = "text") && litL p3 && decide (re.length = 0)
       else if rs.man = "number" then decide (kindOf rs.scs p1 = "text") && valueB rs p3 && decide (re.length = 1) && decide (kindOf rs.scs ((p0 :: p1 :: p2 :: p3 :: re).getD 4 []) = "number")
       else decide (kindOf rs.scs p1 = "text") && valueB rs p3 && decide (re.length = 0) && decide (rs.man = "order")) = true then some (growR rs p1 1) else none) := by
            have l4 : ∀ m : Nat, decide ((p0 :: p1 :: p2 :: p3 :: re).length = m + 4) = decide (re.length = m) := fun m => decide_eq_decide.mpr (by simp only [List.length_cons]; omega)
            unfold writeR
            rw [show (p0 :: p1 :: p2 :: p3 :: re).getD 2 [] = p2 from rfl, show (p0 :: p1 :: p2 :: p3 :: re).getD 0 [] = p0 from rfl, show (p0 :: p1 :: p2 :: p3 :: re).getD 1 [] = p1 from rfl, show (p0 :: p1 :: p2 :: p3 :: re).getD 3 [] = p3 from rfl, e1, e3, hl4, show decide ((p0 :: p1 :: p2 :: p3 :: re).length = 4) = decide (re.length = 0) from l4 0, show decide ((p0 :: p1 :: p2 :: p3 :: re).length = 5) = decide (re.length = 1) from l4 1]
            rfl
          walk_at "go"
          refine ⟨H0, r, rs, B, p1, rfl, h1, ?_⟩
          walk_at "go"
          by_cases e4 : S p0 = "bind"
          · rw [decide_eq_true (show V.str (S p0) = V.str "bind" by rw [e4])]
            rw [if_pos e4] at eo
            walk_at "go"
            by_cases e5 : kindOf rs.scs p1 = "text"
            · rw [decide_eq_true (show V.str (kindOf rs.scs p1) = V.str "text" by rw [e5])]
              rw [if_pos e5] at eo
              walk_at "go"
              rw [eo] at q
              exact ⟨H0, r, a, rs, B, p0 :: p1 :: p2 :: p3 :: re, rfl, h1, s01, ok, wt, ha, pl, e5, q⟩
            · rw [decide_eq_false (show ¬ V.str (kindOf rs.scs p1) = V.str "text" from fun z => e5 (V.str.inj z))]
              rw [if_neg e5] at eo
              walk_at "go"
              exact fail H1 s01 eo
          · rw [decide_eq_false (show ¬ V.str (S p0) = V.str "bind" from fun z => e4 (V.str.inj z))]
            rw [if_neg e4] at eo
            walk_at "go"
            by_cases e6 : S p0 = "add"
            · rw [decide_eq_true (show V.str (S p0) = V.str "add" by rw [e6])]
              rw [if_pos e6] at eo
              walk_at "go"
              rw [eo] at q
              exact ⟨H0, r, a, rs, B, _, p0 :: p1 :: p2 :: p3 :: re, rfl, h1, s01, ok, wt, ha, rfl, q⟩
            · rw [decide_eq_false (show ¬ V.str (S p0) = V.str "add" from fun z => e6 (V.str.inj z))]
              rw [if_neg e6] at eo
              generalize hb : (if S p0 = "put" then decide (kindOf rs.scs p1 = "row") && decide (rs.man ≠ "name") && valueB rs p3 && decide (re.length = 0)
       else if S p0 = "say" then decide (kindOf rs.scs p1 = "text") && litL p3 && decide (re.length = 0)
       else if rs.man = "number" then decide (kindOf rs.scs p1 = "text") && valueB rs p3 && decide (re.length = 1) && decide (kindOf rs.scs ((p0 :: p1 :: p2 :: p3 :: re).getD 4 []) = "number")
       else decide (kindOf rs.scs p1 = "text") && valueB rs p3 && decide (re.length = 0) && decide (rs.man = "order")) = bb at eo
              walk_at "go"
              refine ⟨fun σ' H' => σ' = [some (.ref r), some (.ref a), some (.str (S p0)), some (.str (kindOf rs.scs p1)), some (.bl bb)] ∧ Same H1 H', ?_, ?_⟩
              · have h3 : ∀ {H'' : Hp}, Same H1 H'' → SqL K H'' a (V.str (S p0) :: V.str (S p1) :: V.str (S p2) :: V.str (S p3) :: re.map fun n => V.str (S n)) := fun s => SqL.of (s _ _ h1a')
                have lre : ∀ m : Nat, decide (V.int ((V.str (S p0) :: V.str (S p1) :: V.str (S p2) :: V.str (S p3) :: re.map fun n => V.str (S n)).length : Int) = V.int ((m + 4 : Nat) : Int)) = decide (re.length = m) := fun m => decide_eq_decide.mpr ⟨fun z => by
                  have := V.int.inj z
                  simp only [List.length_cons, List.length_map] at this
                  omega, fun z => by simp only [List.length_cons, List.length_map, z]⟩
                walk_at "go"
                by_cases e7 : S p0 = "put"
                · rw [decide_eq_true (show V.str (S p0) = V.str "put" by rw [e7])]
                  rw [if_pos e7] at hb
                  walk_at "go"
                  by_cases f1 : kindOf rs.scs p1 = "row"
                  · rw [decide_eq_true (show V.str (kindOf rs.scs p1) = V.str "row" by rw [f1])]
                    walk_at "go"
                    by_cases f2 : rs.man = "name"
                    · rw [decide_eq_true (show V.str rs.man = V.str "name" by rw [f2])]
                      walk_at "go"
                      exact ⟨by rw [← hb, decide_eq_false (show ¬ rs.man ≠ "name" from fun z => z f2), Bool.and_false]; rfl, Same.refl _⟩
                    · rw [decide_eq_false (show ¬ V.str rs.man = V.str "name" from fun z => f2 (V.str.inj z))]
                      walk_at "go"
                      refine Eg.w_ixL (h3 (Same.refl _)) (atI_nat (j := 3) rfl) ?_
                      walk_at "go"
                      refine ⟨H0, r, rs, B, p3, rfl, h1, fun H2 s2 => ?_⟩
                      have h2a := s2 _ _ h1a'
                      cases f3 : valueB rs p3 with
                      | false =>
                        walk_at "go"
                        exact ⟨by rw [← hb, f3, Bool.and_false]; rfl, s2⟩
                      | true =>
                        walk_at "go"
                        exact ⟨by rw [← hb, f3, decide_eq_true f1, decide_eq_true (show rs.man ≠ "name" from f2), show (4 : Int) = ((0 + 4 : Nat) : Int) from rfl, lre 0]; rfl, s2⟩
                  · rw [decide_eq_false (show ¬ V.str (kindOf rs.scs p1) = V.str "row" from fun z => f1 (V.str.inj z))]
                    walk_at "go"
                    exact ⟨by rw [← hb, decide_eq_false f1]; rfl, Same.refl _⟩
                · rw [decide_eq_false (show ¬ V.str (S p0) = V.str "put" from fun z => e7 (V.str.inj z))]
                  rw [if_neg e7] at hb
                  walk_at "go"
                  by_cases e8 : S p0 = "say"
                  · rw [decide_eq_true (show V.str (S p0) = V.str "say" by rw [e8])]
                    rw [if_pos e8] at hb
                    walk_at "go"
                    by_cases f1 : kindOf rs.scs p1 = "text"
                    · rw [decide_eq_true (show V.str (kindOf rs.scs p1) = V.str "text" by rw [f1])]
                      walk_at "go"
                      refine Eg.w_ixL (h3 (Same.refl _)) (atI_nat (j := 3) rfl) ?_
                      walk_at "go"
                      refine ⟨p3, rfl, pl p3 (by simp), fun H2 s2 => ?_⟩
                      have h2a := s2 _ _ h1a'
                      cases f3 : litL p3 with
                      | false =>
                        walk_at "go"
                        exact ⟨by rw [← hb, f3, Bool.and_false]; rfl, s2⟩
                      | true =>
                        walk_at "go"
                        exact ⟨by rw [← hb, f3, decide_eq_true f1, show (4 : Int) = ((0 + 4 : Nat) : Int) from rfl, lre 0]; rfl, s2⟩
                    · rw [decide_eq_false (show ¬ V.str (kindOf rs.scs p1) = V.str "text" from fun z => f1 (V.str.inj z))]
                      walk_at "go"
                      exact ⟨by rw [← hb, decide_eq_false f1]; rfl, Same.refl _⟩
                  · rw [decide_eq_false (show ¬ V.str (S p0) = V.str "say" from fun z => e8 (V.str.inj z))]
                    rw [if_neg e8] at hb
                    walk_at "go"
                    by_cases f2 : rs.man = "number"
                    · rw [decide_eq_true (show V.str rs.man = V.str "number" by rw [f2])]
                      rw [if_pos f2] at hb
                      walk_at "go"
                      by_cases f1 : kindOf rs.scs p1 = "text"
                      · rw [decide_eq_true (show V.str (kindOf rs.scs p1) = V.str "text" by rw [f1])]
                        walk_at "go"
                        refine Eg.w_ixL (h3 (Same.refl _)) (atI_nat (j := 3) rfl) ?_
                        walk_at "go"
                        refine ⟨H0, r, rs, B, p3, rfl, h1, fun H2 s2 => ?_⟩
                        have h2 := h1.keep s2
                        have h2a := s2 _ _ h1a'
                        have h2o := h2.ob
                        cases f3 : valueB rs p3 with
                        | false =>
                          walk_at "go"
                          exact ⟨by rw [← hb, f3, Bool.and_false]; rfl, s2⟩
                        | true =>
                          walk_at "go"
                          rw [show (5 : Int) = ((1 + 4 : Nat) : Int) from rfl, lre 1]
                          by_cases f4 : re.length = 1
                          · obtain ⟨p4, rfl⟩ : ∃ p4, re = [p4] := by
                              match re, f4 with
                              | [p4], _ => exact ⟨p4, rfl⟩
                            have h2a' : H2 a = some (.lst [V.str (S p0), V.str (S p1), V.str (S p2), V.str (S p3), V.str (S p4)]) := h2a
                            rw [decide_eq_true f4]
                            walk_at "go"
                            refine ⟨H0, r, rs, B, p4, rfl, h2, ?_⟩
                            walk_at "go"
                            exact ⟨by rw [← hb, f3, decide_eq_true f1, show ([p0, p1, p2, p3, p4] : List Nm).getD 4 [] = p4 from rfl, show decide (V.str (kindOf rs.scs p4) = V.str "number") = decide (kindOf rs.scs p4 = "number") from decide_eq_decide.mpr ⟨V.str.inj, fun z => by rw [z]⟩]; rfl, s2⟩
                          · rw [decide_eq_false f4]
                            walk_at "go"
                            exact ⟨by rw [← hb, decide_eq_false f4, Bool.and_false]; rfl, s2⟩
                      · rw [decide_eq_false (show ¬ V.str (kindOf rs.scs p1) = V.str "text" from fun z => f1 (V.str.inj z))]
                        walk_at "go"
                        exact ⟨by rw [← hb, decide_eq_false f1]; rfl, Same.refl _⟩
                    · rw [decide_eq_false (show ¬ V.str rs.man = V.str "number" from fun z => f2 (V.str.inj z))]
                      rw [if_neg f2] at hb
                      walk_at "go"
                      by_cases f1 : kindOf rs.scs p1 = "text"
                      · rw [decide_eq_true (show V.str (kindOf rs.scs p1) = V.str "text" by rw [f1])]
                        walk_at "go"
                        refine Eg.w_ixL (h3 (Same.refl _)) (atI_nat (j := 3) rfl) ?_
                        walk_at "go"
                        refine ⟨H0, r, rs, B, p3, rfl, h1, fun H2 s2 => ?_⟩
                        have h2a := s2 _ _ h1a'
                        have h2o := (h1.keep s2).ob
                        cases f3 : valueB rs p3 with
                        | false =>
                          walk_at "go"
                          exact ⟨by rw [← hb, f3, Bool.and_false]; rfl, s2⟩
                        | true =>
                          walk_at "go"
                          rw [show (4 : Int) = ((0 + 4 : Nat) : Int) from rfl, lre 0]
                          cases f4 : decide (re.length = 0) with
                          | false =>
                            walk_at "go"
                            exact ⟨by rw [← hb, f4, Bool.and_false]; rfl, s2⟩
                          | true =>
                            walk_at "go"
                            exact ⟨by rw [← hb, f3, f4, decide_eq_true f1, show decide (V.str rs.man = V.str "order") = decide (rs.man = "order") from decide_eq_decide.mpr ⟨V.str.inj, fun z => by rw [z]⟩]; rfl, s2⟩
                      · rw [decide_eq_false (show ¬ V.str (kindOf rs.scs p1) = V.str "text" from fun z => f1 (V.str.inj z))]
                        walk_at "go"
                        exact ⟨by rw [← hb, decide_eq_false f1]; rfl, Same.refl _⟩
              · rintro _ H2 ⟨rfl, s2⟩
                have h2 := h1.keep s2
                have h2o := h2.ob
                have h2a := s2 _ _ h1a'
                cases bb with
                | false =>
                  walk_at "go"
                  exact fail H2 (s01.trans s2) eo
                | true =>
                  walk_at "go"
                  have kne : kindOf rs.scs p1 ≠ "" := fun z => by
                    have g1 : decide (("" : Str) = "row") = false := by decide +kernel
                    have g2 : decide (("" : Str) = "text") = false := by decide +kernel
                    rw [z] at hb
                    simp only [g1, g2, Bool.false_and, ite_self] at hb
                    cases hb
                  obtain ⟨z1, hz1⟩ := ok p1 kne
                  exact ⟨H0, r, rs, B, p1, 1, z1, rfl, h2, s01.trans s2, hz1, by omega, fun H' A' h' s' => q.2 _ eo H' A' h' s'⟩
end
end LW
end

section
local macro_rules | `(tactic| walk_at "tx") => `(tactic| first
  | ((with_reducible refine' Eg.c_sfld ?hs ?hc ?hn ?hl ?_); (case hs => walk_at "hp"); (case hc => assumption); (case hn => assumption); (case hl => exact Nat.le_of_ble_eq_true rfl))
  | with_reducible refine Po.w_tru ?_
  | ((with_reducible refine' Po.c_truL ?hs ?_); (case hs => walk_at "hp")))
local macro_rules | `(tactic| walk_at "at") => `(tactic| first | exact atI_nat (j := 0) rfl | exact atI_nat (j := 1) rfl | exact atI_nat (j := 2) rfl | exact atI_nat (j := 3) rfl | exact atI_nat (j := 4) rfl | exact atI_nat (j := 5) rfl | exact atI_nat (j := 6) rfl | exact atI_nat (j := 7) rfl)
namespace LW
open PySem L2 SX Tx
/-! programs: whens, elses, ends -/
def RS.okB (rs : RS) : Prop := (∀ b ∈ rs.blks, ∃ z, getA rs.jmps b.1 = some z) ∧ rs.scs.length = rs.blks.length + 1
theorem js_get {H : Hp} {at_ : Nat} {z : Int × Int} : ∀ {jk : List (Key × V)} {js : List (Nat × (Int × Int))}, Paired (fun (p : Key × V) (q : Nat × (Int × Int)) => ∃ t, p = (.inl (q.1 : Int), V.ref t) ∧ H t = some (.tup [.int q.2.1, .int q.2.2])) jk js → getA js at_ = some z →
    ∃ t, valV jk (.inl (at_ : Int)) = some (.ref t) ∧ H t = some (.tup [.int z.1, .int z.2])
  | _, _, .nil, h => by cases h
  | _, _, @Paired.cons _ _ _ p y r q a t, h => by
    obtain ⟨u, rfl, hu⟩ := a
    unfold valV
    unfold getA at h
    rw [List.find?_cons] at h ⊢
    by_cases e : y.1 = at_
    · rw [decide_eq_true e] at h
      rw [decide_eq_true (int_eq.mpr e)]
      cases h
      exact ⟨u, rfl, hu⟩
    · rw [decide_eq_false e] at h
      rw [decide_eq_false (fun z => e (int_eq.mp z))]
      exact js_get t h
theorem drop_pair {α β : Type} {F : α → β → Prop} : ∀ {xs : List α} {ys : List β}, Paired F xs ys → Paired F xs.dropLast ys.dropLast
  | _, _, .nil => .nil
  | _, _, .cons _ .nil => .nil
  | _, _, .cons h (.cons h' p) => .cons h (drop_pair (.cons h' p))
theorem RAt.blk {C : Addr} {H0 H H' : Hp} {r : Addr} {rs rs' : RS} {A : RA} {dsN : List Addr} {blsN : List V} {jkN : List (Key × V)} (h : RAt C H0 H r rs A) (e1 : rs'.opts = rs.opts) (e2 : rs'.lsts = rs.lsts) (e6 : rs'.szs = rs.szs)
    (kk : ∀ c ob, H c = some ob → c ≠ A.sc → c ≠ A.bl → c ≠ A.j → c ≠ r → H' c = some ob) (ho : H' r = some (.ins C A.dx (fldsR rs' { A with ds := dsN, bls := blsN, jk := jkN }))) (hsc : H' A.sc = some (.lst (dsN.map V.ref))) (hds : Paired (fun d s => H' d = some (.dK (encS s))) dsN rs'.scs)
    (nd : dsN.Nodup) (hbl : H' A.bl = some (.lst blsN)) (hbs : Paired (fun v (b : Nat × Str) => ∃ t, v = V.ref t ∧ H' t = some (.tup [.int (b.1 : Int), .str b.2])) blsN rs'.blks) (hj : H' A.j = some (.dK jkN))
    (hjs : Paired (fun (p : Key × V) (q : Nat × (Int × Int)) => ∃ t, p = (.inl (q.1 : Int), V.ref t) ∧ H' t = some (.tup [.int q.2.1, .int q.2.2])) jkN rs'.jmps) (dj : ∀ d ∈ dsN, d ≠ A.j ∧ d ≠ A.sz) (d0 : ∀ d ∈ dsN, H0 d = none) : RAt C H0 H' r rs' { A with ds := dsN, bls := blsN, jk := jkN } := by
  have lt : ∀ {c : Addr} {xs : List V}, H c = some (.tup xs) → H' c = some (.tup xs) := fun e => kk _ _ e (ne_of e h.sc (fun z => nomatch z)) (ne_of e h.bl (fun z => nomatch z)) (ne_of e h.ju (fun z => nomatch z)) (ne_of e h.ob (fun z => nomatch z))
  exact ⟨ho, by rw [e1]; exact lt h.op, by rw [e2]; exact lt h.li, hsc, hds, nd, hbl, hbs, hj, hjs, by rw [e6]; exact kk _ _ h.sz (ne_of h.sz h.sc (fun z => nomatch z)) (ne_of h.sz h.bl (fun z => nomatch z)) h.nj.symm (ne_of h.sz h.ob (fun z => nomatch z)), h.nj, dj, h.nb, h.r0, h.s0, h.b0, h.j0, h.z0, d0⟩
def sp_Reader_accept_block (C : Addr) : Sp := fun vs H Q _ => ∃ (H0 : Hp) (r a : Addr) (at_ : Nat) (rs : RS) (A : RA) (ps : List Nm), vs = [.ref r, .int (at_ : Int), .ref a] ∧ RAt C H0 H r rs A ∧ Same H0 H ∧ rs.okB ∧ rs.wt < 30000 ∧ ps ≠ [] ∧ H0 a = some (.lst (ps.map fun n => V.str (S n))) ∧ (∀ n ∈ ps, n.length < 100000) ∧ (∀ n ∈ ps, ∀ c ∈ n, c < 0x110000) ∧ Out C H0 H r (blockR rs at_ ps) Q
section
variable {P : Program} {w : World} {K : PySem.W.Frag} {mg : Str → Option Value} {base : Heap} {Z : Ad}
set_option maxHeartbeats 8000000 in
theorem ok_Reader_accept_block (T : Txt K mg Z) : FnOk P w K mg base CX0 4 Z.a_Reader_accept_block Z.d_Reader_accept_block ["self", "at", "parts"] (sp_Reader_accept_block Z.c_Reader) := by
  refine T.F_Reader_accept_block.ok sc_Reader_accept_block (fun vs H Q E h => ?_) (fun cdv A outer s H vs Q E hr h => ?_)
  · obtain ⟨H0, r, a, at_, rs, B, ps, rfl, _⟩ := h
    rfl
  · obtain ⟨H0, r, a, at_, rs, B, ps, rfl, h, s0, okb, wt, pne, ha, pl, pc, q⟩ := h
    have nd := sc_Reader_accept_block.nd
    have hu := hu_of hr
    have cR := T.cl_Reader
    have n1 := T.n_Reader_blocks
    have n2 := T.n_Reader_scopes
    have n3 := T.n_Reader_jumps
    have n4 := T.n_Reader_loop
    have lk0 : (fldsR rs B).lookup ("kind_of" : Str) = none := rfl
    have lk1 : (fldsR rs B).lookup ("accept_each" : Str) = none := rfl
    have lk2 : (fldsR rs B).lookup ("open_block" : Str) = none := rfl
    have lk3 : (fldsR rs B).lookup ("blocks" : Str) = some (V.ref B.bl) := rfl
    have lk4 : (fldsR rs B).lookup ("scopes" : Str) = some (V.ref B.sc) := rfl
    have lk5 : (fldsR rs B).lookup ("jumps" : Str) = some (V.ref B.j) := rfl
    have hne : rs.scs ≠ [] := fun z => by
      have := okb.2
      rw [z] at this
      cases this
    obtain ⟨p0, rest, rfl⟩ : ∃ p0 rest, ps = p0 :: rest := by
      cases ps with
      | nil => exact absurd rfl pne
      | cons p0 rest => exact ⟨p0, rest, rfl⟩
    have ho := h.ob
    have h_a : H a = some (.lst (V.str (S p0) :: rest.map fun n => V.str (S n))) := s0 _ _ ha
    refine ⟨_, (pss_cons (ps_if (pt_cmpR op_eq (pe_ix ix_list (pv 2) pe_int (fun _ _ => rfl)) pe_str (nomark _))
  (pss_one (ps_ret (pe_meth (pv 0) T.cl_Reader T.m_Reader_accept_each (ok_Reader_accept_each T) (hr.mono (by decide)) T.b_Reader_accept_each .nil pass0 (pa_cons (pv 1) (pa_cons (pv 2) pa_nil)))))
  pss_nil)
  (pss_cons (ps_if (pt_cmpR op_eq (pe_ix ix_list (pv 2) pe_int (fun _ _ => rfl)) pe_str (nomark _))
  (pss_cons (ps_if (PW.pt (pw_or (pt_cmpR op_ne (pe_callB Eg.cr_len (by rfl) T.u_len (by decide +kernel) (pa_cons (pv 2) pa_nil)) pe_int (nomark _)) (pw_or1 (pt_cmpR op_notIn_seq (pe_meth (pv 0) T.cl_Reader T.m_Reader_kind_of (ok_Reader_kind_of T) (hr.mono (by decide)) T.b_Reader_kind_of .nil pass0 (pa_cons (pe_ix ix_list (pv 2) pe_int (fun _ _ => rfl)) pa_nil)) (pe_tup (pa_cons pe_str (pa_cons pe_str pa_nil))) (by rfl)))))
  (pss_one (ps_ret pe_bl))
  pss_nil)
  (pss_one (ps_ret (pe_meth (pv 0) T.cl_Reader T.m_Reader_open_block (ok_Reader_open_block T) (hr.mono (by decide)) T.b_Reader_open_block .nil pass0 (pa_cons (pv 1) (pa_cons pe_str pa_nil))))))
  pss_nil)
  (pss_cons (ps_if (PW.pt (pw_or (pt_cmpR op_ne (pe_callB Eg.cr_len (by rfl) T.u_len (by decide +kernel) (pa_cons (pv 2) pa_nil)) pe_int (nomark _)) (pw_or1 (pt_not (Po.pt_tru (pe_fld (pv 0) rfl) (by intro _; rfl))))))
  (pss_one (ps_ret pe_bl))
  pss_nil)
  (pss_cons (ps_set (i := 3) nd rfl (Or.inl rfl) (pe_ix ix_list (pe_fld (pv 0) rfl) (pe_un un_neg pe_int) (fun _ _ => rfl)))
  (pss_cons (ps_if (pt_cmpR op_eq (pe_ix ix_list (pv 2) pe_int (fun _ _ => rfl)) pe_str (nomark _))
  (pss_cons (ps_if (PW.pt (pw_or (pt_cmpR op_ne (pe_ix ix_tup (pv 3) pe_int (fun _ _ => rfl)) pe_str (nomark _)) (pw_or1 (pt_cmpR op_ne (pe_ix ix_tup (pe_dget hu (pe_fld (pv 0) rfl) (pe_ix ix_tup (pv 3) pe_int (fun _ _ => rfl)) (fun _ _ => rfl)) pe_int (fun _ _ => rfl)) (pe_un un_neg pe_int) (nomark _)))))
  (pss_one (ps_ret pe_bl))
  pss_nil)
  (pss_cons (ps_dput hu (pe_fld (pv 0) rfl) (pe_ix ix_tup (pv 3) pe_int (fun _ _ => rfl)) (pe_tup (pa_cons (pv 1) (pa_cons (pe_un un_neg pe_int) pa_nil))) rfl)
  (pss_cons (ps_asg pe_dnewK (pg_sub (pe_fld (pv 0) rfl) (pe_un un_neg pe_int) set_list))
  (pss_one (ps_ret pe_bl)))))
  pss_nil)
  (pss_cons (ps_dput hu (pe_fld (pv 0) rfl) (pe_ix ix_tup (pv 3) pe_int (fun _ _ => rfl)) (pe_tup (pa_cons (pe_ix ix_tup (pe_dget hu (pe_fld (pv 0) rfl) (pe_ix ix_tup (pv 3) pe_int (fun _ _ => rfl)) (fun _ _ => rfl)) pe_int (fun _ _ => rfl)) (pa_cons (pv 1) pa_nil))) rfl)
  (pss_cons (ps_expr (pe_bm0 PySem.F.plainAttrs_list PySem.F.slot_list_pop PySem.F.type_list_pop mt_pop (pe_fld (pv 0) rfl)))
  (pss_cons (ps_expr (pe_bm0 PySem.F.plainAttrs_list PySem.F.slot_list_pop PySem.F.type_list_pop mt_pop (pe_fld (pv 0) rfl)))
  (C8.pss_cut (ps_if (pt_cmpR op_eq (pe_ix ix_tup (pv 3) pe_int (fun _ _ => rfl)) pe_str (nomark _))
  (pss_one (ps_fld (pv 0) pe_int rfl))
  pss_nil)
  (pss_one (ps_ret pe_bl))))))))))), ?_⟩
    refine Eg.w_sig (σ := [some (.ref r), some (.int (at_ : Int)), some (.ref a), none]) rfl ?_
    walk_at "go"
    by_cases e1 : S p0 = "each"
    · rw [decide_eq_true (show V.str (S p0) = V.str "each" by rw [e1])]
      walk_at "go"
      refine ⟨H0, r, a, at_, rs, B, p0 :: rest, rfl, h, s0, wt, ha, pl, pc, ?_⟩
      unfold blockR at q
      rw [if_pos (show S ((p0 :: rest).getD 0 []) = "each" from e1)] at q
      exact q
    · rw [decide_eq_false (show ¬ V.str (S p0) = V.str "each" from fun z => e1 (V.str.inj z))]
      walk_at "go"
      by_cases e2 : S p0 = "when"
      · rw [decide_eq_true (show V.str (S p0) = V.str "when" by rw [e2])]
        have eo : blockR rs at_ (p0 :: rest) = if (decide ((p0 :: rest).length = 2) && valueB rs ((p0 :: rest).getD 1 [])) = true then openR rs at_ "when" else none := by
          unfold blockR
          rw [if_neg (show ¬ S ((p0 :: rest).getD 0 []) = "each" from e1), if_pos (show S ((p0 :: rest).getD 0 []) = "when" from e2)]
        walk_at "go"
        rw [show decide (V.int ((V.str (S p0) :: rest.map fun n => V.str (S n)).length : Int) = V.int 2) = decide (rest.length = 1) from len_dec p0 rest 1]
        by_cases e3 : rest.length = 1
        · obtain ⟨p1, rfl⟩ : ∃ p1, rest = [p1] := by
            match rest, e3 with
            | [p1], _ => exact ⟨p1, rfl⟩
          have h_a' : H a = some (.lst [V.str (S p0), V.str (S p1)]) := h_a
          rw [decide_eq_true e3]
          walk_at "go"
          refine ⟨H0, r, rs, B, p1, rfl, h, ?_⟩
          walk_at "go"
          intro t ht
          have h1t : upd H t (.tup [.str "option", .str "item"]) t = some (.tup [.str "option", .str "item"]) := upd_same
          have s1 : Same H (upd H t (.tup [.str "option", .str "item"])) := fun c o e => Eg.upd_old e ht
          generalize upd H t (.tup [.str "option", .str "item"]) = H1 at h1t s1 ⊢
          refine ⟨t, _, rfl, .inr (SqT.of h1t), rfl, rfl, ?_⟩
          have ein := inV_strs (k := kindOf rs.scs p1) ["option", "item"]
          rw [show ([("option" : Str), "item"].map V.str) = [V.str "option", V.str "item"] from rfl] at ein
          rw [if_pos rfl, ein]
          have h1 := h.keep s1
          have h1o := h1.ob
          have s01 := s0.trans s1
          cases e4 : decide (kindOf rs.scs p1 ∈ (["option", "item"] : List Str)) with
          | false =>
            walk_at "go"
            exact q.1 (by rw [eo, show valueB rs (([p0, p1] : List Nm).getD 1 []) = false from e4, Bool.and_false]; rfl) H1 s01
          | true =>
            walk_at "go"
            rw [eo, show valueB rs (([p0, p1] : List Nm).getD 1 []) = true from e4, if_pos (show (decide (([p0, p1] : List Nm).length = 2) && true) = true from rfl)] at q
            exact ⟨H0, r, at_, rs, B, "when", rfl, h1, s01, by omega, q⟩
        · rw [decide_eq_false e3]
          walk_at "go"
          exact q.1 (by rw [eo, decide_eq_false (show ¬ (p0 :: rest).length = 2 from fun z => e3 (by rw [List.length_cons] at z; omega))]; rfl) H s0
      · rw [decide_eq_false (show ¬ V.str (S p0) = V.str "when" from fun z => e2 (V.str.inj z))]
        walk_at "go"
        rw [show decide (V.int ((V.str (S p0) :: rest.map fun n => V.str (S n)).length : Int) = V.int 1) = decide (rest.length = 0) from len_dec p0 rest 0]
        have fail : ∀ H', Same H0 H' → blockR rs at_ (p0 :: rest) = none → Q (.bl false) H' := fun H' s e => q.1 e H' s
        have eo : blockR rs at_ (p0 :: rest) = match decide (rest.length = 0), rs.blks.getLast? with
    | true, some (b, k) =>
      if S p0 = "else" then
        (if (decide (k = "when") && decide (((getA rs.jmps b).getD (0, 0)).1 = -1)) = true then some { rs with jmps := putA rs.jmps b ((at_ : Int), -1), scs := rs.scs.dropLast ++ [[]] } else none)
      else some { rs with jmps := putA rs.jmps b (((getA rs.jmps b).getD (0, 0)).1, (at_ : Int)), blks := rs.blks.dropLast, scs := rs.scs.dropLast, loop := if k = "each" then 0 else rs.loop }
    | _, _ => none := by
          unfold blockR
          rw [if_neg (show ¬ S ((p0 :: rest).getD 0 []) = "each" from e1), if_neg (show ¬ S ((p0 :: rest).getD 0 []) = "when" from e2), show decide ((p0 :: rest).length = 1) = decide (rest.length = 0) from decide_eq_decide.mpr (by rw [List.length_cons]; omega)]
          rfl
        cases e3 : decide (rest.length = 0) with
        | false =>
          walk_at "go"
          exact fail H s0 (by rw [eo, e3])
        | true =>
          rw [e3] at eo
          have hbl := h.bl
          have rest0 : rest = [] := List.length_eq_zero_iff.mp (of_decide_eq_true e3)
          subst rest0
          have h_a' : H a = some (.lst [V.str (S p0)]) := h_a
          walk_at "go"
          by_cases e4 : rs.blks = []
          · have bl0 : B.bls = [] := List.length_eq_zero_iff.mp (by rw [Paired.length h.bs, e4]; rfl)
            rw [bl0]
            walk_at "go"
            exact fail H s0 (by rw [eo, e4]; rfl)
          · obtain ⟨xi, x, yi, ⟨b, k⟩, eX, eY, pX, t, rfl, ht⟩ := pair_last h.bs e4
            have lb : rs.blks.getLast? = some (b, k) := by rw [eY, List.getLast?_concat]
            rw [lb] at eo
            have ht : H t = some (.tup [.int (b : Int), .str k]) := ht
            obtain ⟨⟨jx, jy⟩, hj⟩ := okb.1 (b, k) (by rw [eY]; simp)
            obtain ⟨u, hu1, hu2⟩ := js_get h.js hj
            have dg := Tw.dgetK (k := .inl (b : Int)) (.inl h.ju)
            rw [hu1] at dg
            have ne : B.bls.isEmpty = false := by rw [eX]; cases xi <;> rfl
            rw [ne]
            have iL : atI B.bls (-1) = some (V.ref t) := Tx.atI_last (by rw [eX, List.getLast?_concat])
            have hju := h.ju
            have hsc := h.sc
            walk_at "go"
            rw [if_neg (show ¬ (!!false) = true by decide)]
            walk_at "go"
            by_cases e5 : S p0 = "else"
            · rw [decide_eq_true (show V.str (S p0) = V.str "else" by rw [e5])]
              have eo : blockR rs at_ [p0] = (if (decide (k = "when") && decide (jx = -1)) = true then some { rs with jmps := putA rs.jmps b ((at_ : Int), -1), scs := rs.scs.dropLast ++ [[]] } else none) := by
                rw [eo]
                dsimp only
                rw [if_pos e5, hj]
                rfl
              walk_at "go"
              by_cases e6 : k = "when"
              · rw [decide_eq_true (show V.str k = V.str "when" by rw [e6])]
                walk_at "go"
                refine ⟨B.j, .ref u, rfl, dg, ?_⟩
                walk_at "go"
                by_cases e7 : jx = -1
                · rw [decide_eq_true (show V.int jx = V.int (-1) by rw [e7])]
                  have eo : blockR rs at_ [p0] = some { rs with jmps := putA rs.jmps b ((at_ : Int), -1), scs := rs.scs.dropLast ++ [[]] } := by
                    rw [eo, decide_eq_true e6, decide_eq_true e7]
                    rfl
                  walk_at "go"
                  intro t2 ht2
                  have s1 : Same H (upd H t2 (.tup [.int (at_ : Int), .int (-1)])) := fun c o e => Eg.upd_old e ht2
                  have h1t : upd H t2 (.tup [.int (at_ : Int), .int (-1)]) t2 = some (.tup [.int (at_ : Int), .int (-1)]) := upd_same
                  generalize upd H t2 (.tup [.int (at_ : Int), .int (-1)]) = H1 at s1 h1t ⊢
                  have h1 := h.keep s1
                  have h1o := h1.ob
                  have h1j := h1.ju
                  have h1sc := h1.sc
                  have jw : rs.jmps.length ≤ rs.wt := by unfold RS.wt; omega
                  have jsl := Paired.length h.js
                  have ht1 := s1 _ _ ht
                  walk_at "go"
                  refine ⟨B.j, _, rfl, DPut.k (k := .inl (b : Int)) h1j (by rw [sizeLine_eq]; omega), ?_⟩
                  have k2 : ∀ c o, H1 c = some o → c ≠ B.j → upd H1 B.j (.dK (putK B.jk (.inl (b : Int)) (.ref t2))) c = some o := fun c o e n => Eg.upd_mut n e
                  have h2j : upd H1 B.j (.dK (putK B.jk (.inl (b : Int)) (.ref t2))) B.j = some (.dK (putK B.jk (.inl (b : Int)) (.ref t2))) := upd_same
                  generalize upd H1 B.j (.dK (putK B.jk (.inl (b : Int)) (.ref t2))) = H2 at k2 h2j ⊢
                  have h2o := k2 _ _ h1o (ne_of h1o h1j (fun z => nomatch z))
                  have h2sc := k2 _ _ h1sc (ne_of h1sc h1j (fun z => nomatch z))
                  walk_at "go"
                  intro d hd
                  have s3 : Same H2 (upd H2 d (.dK [])) := fun c o e => Eg.upd_old e hd
                  have h3d : upd H2 d (.dK []) d = some (.dK []) := upd_same
                  generalize upd H2 d (.dK []) = H3 at s3 h3d ⊢
                  have h3o := s3 _ _ h2o
                  have h3sc := s3 _ _ h2sc
                  walk_at "go"
                  obtain ⟨dI, dl, sI, sl, eD, eS, pD, hdl⟩ := pair_last h.ds hne
                  have ej : ixN (B.ds.map V.ref).length (-1) = some dI.length := by
                    rw [List.length_map, eD, List.length_append]
                    unfold ixN
                    rw [if_neg (by decide), if_pos (by simp; omega)]
                    exact congrArg some (by simp; omega)
                  refine Eg.w_setL h3sc ej ?_
                  have es : (B.ds.map V.ref).set dI.length (.ref d) = (dI ++ [d]).map V.ref := by
                    rw [eD, List.map_append, List.map_append, List.set_append_right _ _ (by rw [List.length_map]; exact Nat.le_refl _), List.length_map, Nat.sub_self]
                    rfl
                  rw [es]
                  have k4 : ∀ c o, H3 c = some o → c ≠ B.sc → upd H3 B.sc (.lst ((dI ++ [d]).map V.ref)) c = some o := fun c o e n => Eg.upd_mut n e
                  have h4sc : upd H3 B.sc (.lst ((dI ++ [d]).map V.ref)) B.sc = some (.lst ((dI ++ [d]).map V.ref)) := upd_same
                  generalize upd H3 B.sc (.lst ((dI ++ [d]).map V.ref)) = H4 at k4 h4sc ⊢
                  have kk : ∀ c o, H1 c = some o → c ≠ B.sc → c ≠ B.j → H4 c = some o := fun c o e n1 n2 => k4 _ _ (s3 _ _ (k2 _ _ e n2)) n1
                  have dfr : ∀ c o, H1 c = some o → c ≠ d := fun c o e => by
                    by_cases z : c = B.j
                    · rw [z]
                      exact ne_of_none h2j hd
                    · exact ne_of_none (k2 _ _ e z) hd
                  have d1 : H1 d = none := by
                    cases e : H1 d with
                    | none => rfl
                    | some o => exact absurd rfl (dfr _ _ e)
                  have dsc : d ≠ B.sc := (dfr _ _ h1sc).symm
                  have jsc : B.j ≠ B.sc := ne_of h1j h1sc (fun z => nomatch z)
                  have ndd := h.nd
                  rw [eD] at ndd
                  have mem : ∀ x ∈ dI, x ∈ B.ds := fun x hx => by rw [eD]; exact List.mem_append_left _ hx
                  have goD : ∀ {xs : List Addr} {ys : List (List (Nm × Str))}, Paired (fun d s => H d = some (.dK (encS s))) xs ys → (∀ x ∈ xs, x ≠ B.j) → Paired (fun d s => H4 d = some (.dK (encS s))) xs ys := by
                    intro xs ys p
                    induction p with
                    | nil => exact fun _ => .nil
                    | cons a _ ih => exact fun m => .cons (kk _ _ (s1 _ _ a) (ne_of a h.sc (fun z => nomatch z)) (m _ List.mem_cons_self)) (ih fun x hx => m x (List.mem_cons_of_mem _ hx))
                  walk_at "go"
                  refine q.2 _ eo H4 { B with ds := dI ++ [d], bls := B.bls, jk := putK B.jk (.inl (b : Int)) (.ref t2) } (h.blk (rs' := { rs with jmps := putA rs.jmps b ((at_ : Int), -1), scs := rs.scs.dropLast ++ [[]] }) rfl rfl rfl (fun c ob e n1 n2 n3 n4 => kk _ _ (s1 _ _ e) n1 n3) (kk _ _ h1o (ne_of h1o h1sc (fun z => nomatch z)) (ne_of h1o h1j (fun z => nomatch z))) h4sc ?_ ?_ (kk _ _ h1.bl h.nb.symm (ne_of h1.bl h1j (fun z => nomatch z))) ?_ (k4 _ _ (s3 _ _ h2j) jsc) ?_ ?_ ?_) fun c o e => kk _ _ (s1 _ _ (s0 _ _ e)) (ne_of_none e h.s0) (ne_of_none e h.j0)
                  · show Paired _ (dI ++ [d]) (rs.scs.dropLast ++ [[]])
                    rw [eS, List.dropLast_concat]
                    exact pair_app (goD pD fun x hx => (h.dj x (mem x hx)).1) (.cons (show H4 d = some (.dK []) from k4 _ _ h3d dsc) .nil)
                  · refine List.nodup_append.mpr ⟨(List.nodup_append.mp ndd).1, List.pairwise_singleton _ _, fun x hx y hy e => ?_⟩
                    rw [List.mem_singleton.mp hy] at e
                    obtain ⟨i, hi⟩ := List.mem_iff_getElem?.mp (mem x hx)
                    obtain ⟨sc, _, hx2⟩ := pair_getL h1.ds hi
                    exact dfr _ _ hx2 e
                  · exact Paired.mapP h.bs fun _ _ ⟨u, e, e2⟩ => ⟨u, e, kk _ _ (s1 _ _ e2) (ne_of e2 h.sc (fun z => nomatch z)) (ne_of e2 h.ju (fun z => nomatch z))⟩
                  · exact js_put (Paired.mapP h.js fun _ _ ⟨u, e, e2⟩ => ⟨u, e, kk _ _ (s1 _ _ e2) (ne_of e2 h.sc (fun z => nomatch z)) (ne_of e2 h.ju (fun z => nomatch z))⟩) (kk _ _ h1t (ne_of h1t h1sc (fun z => nomatch z)) (ne_of h1t h1j (fun z => nomatch z)))
                  · intro x hx
                    rcases List.mem_append.mp hx with hx | hx
                    · exact h.dj x (mem x hx)
                    · rw [List.mem_singleton.mp hx]
                      exact ⟨(dfr _ _ h1j).symm, (dfr _ _ h1.sz).symm⟩
                  · intro x hx
                    rcases List.mem_append.mp hx with hx | hx
                    · exact h.d0 x (mem x hx)
                    · rw [List.mem_singleton.mp hx]
                      exact s0.free (s1.free d1)
                · rw [decide_eq_false (show ¬ V.int jx = V.int (-1) from fun z => e7 (V.int.inj z))]
                  walk_at "go"
                  exact fail H s0 (by rw [eo, decide_eq_false e7, Bool.and_false]; rfl)
              · rw [decide_eq_false (show ¬ V.str k = V.str "when" from fun z => e6 (V.str.inj z))]
                walk_at "go"
                exact fail H s0 (by rw [eo, decide_eq_false e6]; rfl)
            · rw [decide_eq_false (show ¬ V.str (S p0) = V.str "else" from fun z => e5 (V.str.inj z))]
              have eo : blockR rs at_ [p0] = some { rs with jmps := putA rs.jmps b (jx, (at_ : Int)), blks := rs.blks.dropLast, scs := rs.scs.dropLast, loop := if k = "each" then 0 else rs.loop } := by
                rw [eo]
                dsimp only
                rw [if_neg e5, hj]
                rfl
              walk_at "go"
              refine ⟨B.j, .ref u, rfl, dg, ?_⟩
              walk_at "go"
              intro t2 ht2
              have s1 : Same H (upd H t2 (.tup [.int jx, .int (at_ : Int)])) := fun c o e => Eg.upd_old e ht2
              have h1t : upd H t2 (.tup [.int jx, .int (at_ : Int)]) t2 = some (.tup [.int jx, .int (at_ : Int)]) := upd_same
              generalize upd H t2 (.tup [.int jx, .int (at_ : Int)]) = H1 at s1 h1t ⊢
              have h1 := h.keep s1
              have h1o := h1.ob
              have h1j := h1.ju
              have h1sc := h1.sc
              have h1bl := h1.bl
              have jw : rs.jmps.length ≤ rs.wt := by unfold RS.wt; omega
              have jsl := Paired.length h.js
              have ht1 := s1 _ _ ht
              walk_at "go"
              refine ⟨B.j, _, rfl, DPut.k (k := .inl (b : Int)) h1j (by rw [sizeLine_eq]; omega), ?_⟩
              have k2 : ∀ c o, H1 c = some o → c ≠ B.j → upd H1 B.j (.dK (putK B.jk (.inl (b : Int)) (.ref t2))) c = some o := fun c o e n => Eg.upd_mut n e
              have h2j : upd H1 B.j (.dK (putK B.jk (.inl (b : Int)) (.ref t2))) B.j = some (.dK (putK B.jk (.inl (b : Int)) (.ref t2))) := upd_same
              generalize upd H1 B.j (.dK (putK B.jk (.inl (b : Int)) (.ref t2))) = H2 at k2 h2j ⊢
              have h2o := k2 _ _ h1o (ne_of h1o h1j (fun z => nomatch z))
              have h2sc := k2 _ _ h1sc (ne_of h1sc h1j (fun z => nomatch z))
              have h2bl := k2 _ _ h1bl (ne_of h1bl h1j (fun z => nomatch z))
              have h2t := k2 _ _ ht1 (ne_of ht1 h1j (fun z => nomatch z))
              walk_at "go"
              refine ⟨B.bl, B.bls, .ref t, rfl, rfl, h2bl, by rw [eX]; simp, ?_⟩
              have ex : B.bls.dropLast = xi := by rw [eX, List.dropLast_concat]
              rw [ex]
              have k3 : ∀ c o, H2 c = some o → c ≠ B.bl → upd H2 B.bl (.lst xi) c = some o := fun c o e n => Eg.upd_mut n e
              have h3bl : upd H2 B.bl (.lst xi) B.bl = some (.lst xi) := upd_same
              generalize upd H2 B.bl (.lst xi) = H3 at k3 h3bl ⊢
              have h3o := k3 _ _ h2o (ne_of h2o h2bl (fun z => nomatch z))
              have h3sc := k3 _ _ h2sc h.nb
              have h3t := k3 _ _ h2t (ne_of h2t h2bl (fun z => nomatch z))
              obtain ⟨dI, dl, sI, sl, eD, eS, pD, hdl⟩ := pair_last h.ds hne
              walk_at "go"
              refine ⟨B.sc, _, .ref dl, rfl, rfl, h3sc, by rw [eD, List.map_append]; simp, ?_⟩
              have ed : (B.ds.map V.ref).dropLast = dI.map V.ref := by rw [eD, List.map_append, List.map_cons, List.map_nil, List.dropLast_concat]
              rw [ed]
              have k4 : ∀ c o, H3 c = some o → c ≠ B.sc → upd H3 B.sc (.lst (dI.map V.ref)) c = some o := fun c o e n => Eg.upd_mut n e
              have h4sc : upd H3 B.sc (.lst (dI.map V.ref)) B.sc = some (.lst (dI.map V.ref)) := upd_same
              generalize upd H3 B.sc (.lst (dI.map V.ref)) = H4 at k4 h4sc ⊢
              have h4o := k4 _ _ h3o (ne_of h1o h1sc (fun z => nomatch z))
              have h4t := k4 _ _ h3t (ne_of h3t h3sc (fun z => nomatch z))
              walk_at "go"
              refine ⟨fun σ' H' => σ' = [some (.ref r), some (.int (at_ : Int)), some (.ref a), some (.ref t)] ∧ (∀ c o, H4 c = some o → c ≠ r → H' c = some o) ∧ H' r = some (.ins Z.c_Reader B.dx (fldsR { rs with loop := if k = "each" then 0 else rs.loop } B)), ?_, ?_⟩
              · walk_at "go"
                by_cases e6 : k = "each"
                · rw [decide_eq_true (show V.str k = V.str "each" by rw [e6])]
                  walk_at "go"
                  refine ⟨rfl, fun c o e n => Eg.upd_mut n e, ?_⟩
                  rw [if_pos e6]
                  exact upd_same
                · rw [decide_eq_false (show ¬ V.str k = V.str "each" from fun z => e6 (V.str.inj z))]
                  walk_at "go"
                  refine ⟨rfl, fun c o e _ => e, ?_⟩
                  rw [if_neg e6]
                  exact h4o
              · rintro _ H5 ⟨rfl, k5, h5o⟩
                walk_at "go"
                have jsc : B.j ≠ B.sc := ne_of h1j h1sc (fun z => nomatch z)
                have jbl : B.j ≠ B.bl := ne_of h1j h1bl (fun z => nomatch z)
                have kk : ∀ c o, H1 c = some o → c ≠ B.sc → c ≠ B.bl → c ≠ B.j → c ≠ r → H5 c = some o := fun c o e n1 n2 n3 n4 => k5 _ _ (k4 _ _ (k3 _ _ (k2 _ _ e n3) n2) n1) n4
                have rsc : r ≠ B.sc := ne_of h1o h1sc (fun z => nomatch z)
                have rbl : r ≠ B.bl := ne_of h1o h1bl (fun z => nomatch z)
                have rj : r ≠ B.j := ne_of h1o h1j (fun z => nomatch z)
                have ndd := h.nd
                rw [eD] at ndd
                have mem : ∀ x ∈ dI, x ∈ B.ds := fun x hx => by rw [eD]; exact List.mem_append_left _ hx
                have goD : ∀ {xs : List Addr} {ys : List (List (Nm × Str))}, Paired (fun d s => H d = some (.dK (encS s))) xs ys → (∀ x ∈ xs, x ≠ B.j) → Paired (fun d s => H5 d = some (.dK (encS s))) xs ys := by
                  intro xs ys p
                  induction p with
                  | nil => exact fun _ => .nil
                  | cons a _ ih => exact fun m => .cons (kk _ _ (s1 _ _ a) (ne_of a h.sc (fun z => nomatch z)) (ne_of a h.bl (fun z => nomatch z)) (m _ List.mem_cons_self) (ne_of a h.ob (fun z => nomatch z))) (ih fun x hx => m x (List.mem_cons_of_mem _ hx))
                have ltt : ∀ {c : Addr} {xs : List V}, H1 c = some (.tup xs) → H5 c = some (.tup xs) := fun e => kk _ _ e (ne_of e h1sc (fun z => nomatch z)) (ne_of e h1bl (fun z => nomatch z)) (ne_of e h1j (fun z => nomatch z)) (ne_of e h1o (fun z => nomatch z))
                refine q.2 _ eo H5 { B with ds := dI, bls := xi, jk := putK B.jk (.inl (b : Int)) (.ref t2) } (h.blk (rs' := { rs with jmps := putA rs.jmps b (jx, (at_ : Int)), blks := rs.blks.dropLast, scs := rs.scs.dropLast, loop := if k = "each" then 0 else rs.loop }) rfl rfl rfl (fun c ob e n1 n2 n3 n4 => kk _ _ (s1 _ _ e) n1 n2 n3 n4) h5o (k5 _ _ h4sc rsc.symm) ?_ (List.nodup_append.mp ndd).1 (k5 _ _ (k4 _ _ h3bl h.nb.symm) rbl.symm) ?_ (k5 _ _ (k4 _ _ (k3 _ _ h2j jbl) jsc) rj.symm) ?_ (fun x hx => h.dj x (mem x hx)) (fun x hx => h.d0 x (mem x hx))) fun c o e => kk _ _ (s1 _ _ (s0 _ _ e)) (ne_of_none e h.s0) (ne_of_none e h.b0) (ne_of_none e h.j0) (ne_of_none e h.r0)
                · show Paired _ dI rs.scs.dropLast
                  rw [eS, List.dropLast_concat]
                  exact goD pD fun x hx => (h.dj x (mem x hx)).1
                · show Paired _ xi rs.blks.dropLast
                  rw [eY, List.dropLast_concat]
                  exact Paired.mapP pX fun _ _ ⟨u, e, e2⟩ => ⟨u, e, ltt (s1 _ _ e2)⟩
                · exact js_put (Paired.mapP h.js fun _ _ ⟨u, e, e2⟩ => ⟨u, e, ltt (s1 _ _ e2)⟩) (ltt h1t)
end
end LW
end

section
local macro_rules | `(tactic| walk_at "tx") => `(tactic| first
  | ((with_reducible refine' Eg.c_sfld ?hs ?hc ?hn ?hl ?_); (case hs => walk_at "hp"); (case hc => assumption); (case hn => assumption); (case hl => exact Nat.le_of_ble_eq_true rfl))
  | with_reducible refine Po.w_tru ?_
  | ((with_reducible refine' Po.c_truL ?hs ?_); (case hs => walk_at "hp")))
local macro_rules | `(tactic| walk_at "at") => `(tactic| first | exact atI_nat (j := 0) rfl | exact atI_nat (j := 1) rfl | exact atI_nat (j := 2) rfl | exact atI_nat (j := 3) rfl | exact atI_nat (j := 4) rfl | exact atI_nat (j := 5) rfl | exact atI_nat (j := 6) rfl | exact atI_nat (j := 7) rfl)
namespace LW
open PySem L2 SX Tx
/-! programs: a line -/
def acceptR (rs : RS) (a : Nat) : List Nm → Option RS
  | [] => none
  | p0 :: rest =>
    if a = 0 then manR rs (p0 :: rest)
    else if S p0 = "options" then (if rs.stage = 1 then (declsR rs rest "option").map fun r => { r with opts := rest, stage := 2 } else none)
    else if S p0 = "lists" then (if rs.stage ≤ 2 then (declsR rs rest "list").map fun r => { r with lsts := rest, stage := 3 } else none)
    else if S p0 ∈ (["each", "when", "else", "end"] : List Str) then blockR { rs with stage := 4 } a (p0 :: rest)
    else if S p0 ∈ (["text", "row", "count", "ask", "turn", "clear", "shift"] : List Str) then otherR { rs with stage := 4 } (p0 :: rest)
    else writeR { rs with stage := 4 } (p0 :: rest)
/-- fields of the reader alone, and new things -/
theorem RAt.fld {C : Addr} {H0 H H' : Hp} {r : Addr} {rs rs' : RS} {A : RA} {o l : Addr} (h : RAt C H0 H r rs A) (e3 : rs'.scs = rs.scs) (e4 : rs'.blks = rs.blks) (e5 : rs'.jmps = rs.jmps) (e6 : rs'.szs = rs.szs)
    (k : ∀ c ob, H c = some ob → c ≠ r → H' c = some ob) (ho : H' r = some (.ins C A.dx (fldsR rs' { A with o := o, l := l }))) (h1 : H' o = some (.tup (rs'.opts.map fun n => V.str (S n)))) (h2 : H' l = some (.tup (rs'.lsts.map fun n => V.str (S n)))) : RAt C H0 H' r rs' { A with o := o, l := l } := by
  have go : ∀ {c : Addr} {ob : HO}, H c = some ob → (∀ c d f, ob ≠ .ins c d f) → H' c = some ob := fun e n2 => k _ _ e (fun z => n2 _ _ _ (by rw [z, h.ob] at e; exact (Option.some.inj e).symm))
  refine ⟨ho, h1, h2, go h.sc (fun _ _ _ z => nomatch z), by rw [e3]; exact Paired.mapP h.ds fun _ _ e => go e (fun _ _ _ z => nomatch z), h.nd, go h.bl (fun _ _ _ z => nomatch z),
    by rw [e4]; exact Paired.mapP h.bs fun _ _ ⟨t, e, e2⟩ => ⟨t, e, go e2 (fun _ _ _ z => nomatch z)⟩, go h.ju (fun _ _ _ z => nomatch z), by rw [e5]; exact Paired.mapP h.js fun _ _ ⟨t, e, e2⟩ => ⟨t, e, go e2 (fun _ _ _ z => nomatch z)⟩, by rw [e6]; exact go h.sz (fun _ _ _ z => nomatch z), h.nj, h.dj, h.nb, h.r0, h.s0, h.b0, h.j0, h.z0, h.d0⟩
def sp_Reader_accept (C : Addr) : Sp := fun vs H Q _ => ∃ (H0 : Hp) (r a : Addr) (at_ : Nat) (rs : RS) (A : RA) (ps : List Nm), vs = [.ref r, .int (at_ : Int), .ref a] ∧ RAt C H0 H r rs A ∧ Same H0 H ∧ rs.ok ∧ rs.okB ∧ rs.wt < 30000 ∧ H0 a = some (.lst (ps.map fun n => V.str (S n))) ∧ ps.length < 1000 ∧ (∀ n ∈ ps, n.length < 100000) ∧ (∀ n ∈ ps, ∀ c ∈ n, c < 0x110000) ∧ Out C H0 H r (acceptR rs at_ ps) Q
section
variable {P : Program} {w : World} {K : PySem.W.Frag} {mg : Str → Option Value} {base : Heap} {Z : Ad}
set_option maxHeartbeats 8000000 in
theorem ok_Reader_accept (T : Txt K mg Z) : FnOk P w K mg base CX0 5 Z.a_Reader_accept Z.d_Reader_accept ["self", "at", "parts"] (sp_Reader_accept Z.c_Reader) := by
  refine T.F_Reader_accept.ok sc_Reader_accept (fun vs H Q E h => ?_) (fun cdv A outer s H vs Q E hr h => ?_)
  · obtain ⟨H0, r, a, at_, rs, B, ps, rfl, _⟩ := h
    rfl
  · obtain ⟨H0, r, a, at_, rs, B, ps, rfl, h, s0, ok, okb, wt, ha, pll, pl, pc, q⟩ := h
    have nd := sc_Reader_accept.nd
    have hu := hu_of hr
    have cR := T.cl_Reader
    have n1 := T.n_Reader_stage
    have n2 := T.n_Reader_options
    have n3 := T.n_Reader_lists
    have lk0 : (fldsR rs B).lookup ("accept_manner" : Str) = none := rfl
    have lk1 : (fldsR rs B).lookup ("stage" : Str) = some (V.int (rs.stage : Int)) := rfl
    have lk2 : (fldsR rs B).lookup ("declare_all" : Str) = none := rfl
    have ho := h.ob
    have hne : rs.scs ≠ [] := fun z => by
      have := okb.2
      rw [z] at this
      cases this
    refine ⟨_, (pss_cons (ps_if (pt_not (Po.pt_tru (pv 2) (by intro _; rfl)))
  (pss_one (ps_ret pe_bl))
  pss_nil)
  (pss_cons (ps_if (pt_cmpR op_eq (pv 1) pe_int (nomark _))
  (pss_one (ps_ret (pe_meth (pv 0) T.cl_Reader T.m_Reader_accept_manner (ok_Reader_accept_manner T) (hr.mono (by decide)) T.b_Reader_accept_manner .nil pass0 (pa_cons (pv 2) pa_nil))))
  pss_nil)
  (pss_cons (ps_if (pt_cmpR op_eq (pe_ix ix_list (pv 2) pe_int (fun _ _ => rfl)) pe_str (nomark _))
  (pss_cons (ps_if (PW.pt (pw_or (pt_cmpR op_ne (pe_fld (pv 0) rfl) pe_int (nomark _)) (pw_or1 (pt_not (pt_val (pe_meth (pv 0) T.cl_Reader T.m_Reader_declare_all (ok_Reader_declare_all T) (hr.mono (by decide)) T.b_Reader_declare_all .nil pass0 (pa_cons (pe_slice sl_list (pv 2) (po_some pe_int) po_none) (pa_cons pe_str pa_nil))))))))
  (pss_one (ps_ret pe_bl))
  pss_nil)
  (pss_cons (ps_fld (pv 0) (pe_callTy Eg.cr_tup (by rfl) T.u_tuple (by decide +kernel) (pa_cons (pe_slice sl_list (pv 2) (po_some pe_int) po_none) pa_nil)) rfl)
  (pss_cons (ps_fld (pv 0) pe_int rfl)
  (pss_one (ps_ret pe_bl)))))
  pss_nil)
  (pss_cons (ps_if (pt_cmpR op_eq (pe_ix ix_list (pv 2) pe_int (fun _ _ => rfl)) pe_str (nomark _))
  (pss_cons (ps_if (PW.pt (pw_or (pt_cmpR op_gt (pe_fld (pv 0) rfl) pe_int (nomark _)) (pw_or1 (pt_not (pt_val (pe_meth (pv 0) T.cl_Reader T.m_Reader_declare_all (ok_Reader_declare_all T) (hr.mono (by decide)) T.b_Reader_declare_all .nil pass0 (pa_cons (pe_slice sl_list (pv 2) (po_some pe_int) po_none) (pa_cons pe_str pa_nil))))))))
  (pss_one (ps_ret pe_bl))
  pss_nil)
  (pss_cons (ps_fld (pv 0) (pe_callTy Eg.cr_tup (by rfl) T.u_tuple (by decide +kernel) (pa_cons (pe_slice sl_list (pv 2) (po_some pe_int) po_none) pa_nil)) rfl)
  (pss_cons (ps_fld (pv 0) pe_int rfl)
  (pss_one (ps_ret pe_bl)))))
  pss_nil)
  (pss_cons (ps_fld (pv 0) pe_int rfl)
  (pss_cons (ps_if (pt_cmpR op_in_seq (pe_ix ix_list (pv 2) pe_int (fun _ _ => rfl)) (pe_tup (pa_cons pe_str (pa_cons pe_str (pa_cons pe_str (pa_cons pe_str pa_nil))))) (by rfl))
  (pss_one (ps_ret (pe_meth (pv 0) T.cl_Reader T.m_Reader_accept_block (ok_Reader_accept_block T) (hr.mono (by decide)) T.b_Reader_accept_block .nil pass0 (pa_cons (pv 1) (pa_cons (pv 2) pa_nil)))))
  pss_nil)
  (pss_cons (ps_if (pt_cmpR op_in_seq (pe_ix ix_list (pv 2) pe_int (fun _ _ => rfl)) (pe_tup (pa_cons pe_str (pa_cons pe_str (pa_cons pe_str (pa_cons pe_str (pa_cons pe_str (pa_cons pe_str (pa_cons pe_str pa_nil)))))))) (by rfl))
  (pss_one (ps_ret (pe_meth (pv 0) T.cl_Reader T.m_Reader_accept_other (ok_Reader_accept_other T) (hr.mono (by decide)) T.b_Reader_accept_other .nil pass0 (pa_cons (pv 2) pa_nil))))
  pss_nil)
  (pss_one (ps_ret (pe_meth (pv 0) T.cl_Reader T.m_Reader_accept_writing (ok_Reader_accept_writing T) (hr.mono (by decide)) T.b_Reader_accept_writing .nil pass0 (pa_cons (pv 2) pa_nil))))))))))), ?_⟩
    refine Eg.w_sig (σ := [some (.ref r), some (.int (at_ : Int)), some (.ref a)]) rfl ?_
    have h_a := s0 _ _ ha
    cases ps with
    | nil =>
      have h_a' : H a = some (.lst []) := h_a
      walk_at "go"
      exact q.1 rfl H s0
    | cons p0 rest =>
      have h_a' : H a = some (.lst (V.str (S p0) :: rest.map fun n => V.str (S n))) := h_a
      walk_at "go"
      rw [if_neg (show ¬ (!!(V.str (S p0) :: rest.map fun n => V.str (S n)).isEmpty) = true from Bool.false_ne_true)]
      have fail : ∀ H', Same H0 H' → acceptR rs at_ (p0 :: rest) = none → Q (.bl false) H' := fun H' s e => q.1 e H' s
      have z0 : decide (V.int (at_ : Int) = V.int 0) = decide (at_ = 0) := decide_eq_decide.mpr ⟨fun z => by have := V.int.inj z; omega, fun z => by rw [z]; rfl⟩
      walk_at "go"
      rw [z0]
      by_cases e0 : at_ = 0
      · rw [decide_eq_true e0]
        have eo : acceptR rs at_ (p0 :: rest) = manR rs (p0 :: rest) := by
          show (if at_ = 0 then _ else _) = _
          rw [if_pos e0]
        walk_at "go"
        rw [eo] at q
        exact ⟨H0, r, a, rs, B, p0 :: rest, rfl, h, s0, ha, q⟩
      · rw [decide_eq_false e0]
        have lr : rest.length < 1000 := by
          rw [List.length_cons] at pll
          omega
        have plr : ∀ n ∈ rest, n.length < 100000 := fun n hn => pl n (List.mem_cons_of_mem _ hn)
        walk_at "go"
        by_cases e1 : S p0 = "options"
        · rw [decide_eq_true (show V.str (S p0) = V.str "options" by rw [e1])]
          have eo : acceptR rs at_ (p0 :: rest) = (if rs.stage = 1 then (declsR rs rest "option").map fun r => { r with opts := rest, stage := 2 } else none) := by
            show (if at_ = 0 then _ else _) = _
            rw [if_neg e0, if_pos e1]
          walk_at "go"
          by_cases e2 : rs.stage = 1
          · rw [decide_eq_true (show V.int (rs.stage : Int) = V.int 1 by rw [e2]; rfl)]
            rw [if_pos e2] at eo
            walk_at "go"
            refine ⟨a, _, rfl, SqL.of h_a', fun t2 ht2 => ?_⟩
            rw [show cutV (V.str (S p0) :: rest.map fun n => V.str (S n)) (some 1) none = rest.map fun n => V.str (S n) from cut_drop _ 1]
            have h1t : upd H t2 (.lst (rest.map fun n => V.str (S n))) t2 = some (.lst (rest.map fun n => V.str (S n))) := upd_same
            have s1 : Same H (upd H t2 (.lst (rest.map fun n => V.str (S n)))) := fun c o e => Eg.upd_old e ht2
            generalize upd H t2 (.lst (rest.map fun n => V.str (S n))) = H1 at h1t s1 ⊢
            have h1 := h.keep s1
            have h1o := h1.ob
            obtain ⟨Hb, hb, sb, s0b, kb⟩ := h1.rebase (s0.trans s1)
            walk_at "go"
            refine ⟨Hb, r, t2, rs, B, rest, "option", rfl, hb, sb, hne, by omega, kb _ _ h1t (h1.lst h1t (ne_of_none h.sc ht2).symm (ne_of_none h.bl ht2).symm), lr, plr, fun e H' s' => ?_, fun rs' e H' A' h' s' => ?_⟩
            · walk_at "go"
              exact fail H' (s0b.trans s') (by rw [eo, e]; rfl)
            · have s0' := s0b.trans s'
              have h'a : H' a = some (.lst (V.str (S p0) :: rest.map fun n => V.str (S n))) := s0' _ _ ha
              have h'0 := h'.base s0b
              walk_at "go"
              refine ⟨a, _, rfl, SqL.of h'a, fun t3 ht3 => ?_⟩
              rw [show cutV (V.str (S p0) :: rest.map fun n => V.str (S n)) (some 1) none = rest.map fun n => V.str (S n) from cut_drop _ 1]
              have h2t : upd H' t3 (.lst (rest.map fun n => V.str (S n))) t3 = some (.lst (rest.map fun n => V.str (S n))) := upd_same
              have s2 : Same H' (upd H' t3 (.lst (rest.map fun n => V.str (S n)))) := fun c o e => Eg.upd_old e ht3
              generalize upd H' t3 (.lst (rest.map fun n => V.str (S n))) = H2 at h2t s2 ⊢
              walk_at "go"
              refine Eg.c_tupL (SqL.of h2t) fun t4 ht4 => ?_
              have h3t : upd H2 t4 (.tup (rest.map fun n => V.str (S n))) t4 = some (.tup (rest.map fun n => V.str (S n))) := upd_same
              have s3 : Same H2 (upd H2 t4 (.tup (rest.map fun n => V.str (S n)))) := fun c o e => Eg.upd_old e ht4
              generalize upd H2 t4 (.tup (rest.map fun n => V.str (S n))) = H3 at h3t s3 ⊢
              have h3 := h'0.keep (s2.trans s3)
              have h3o := h3.ob
              walk_at "go"
              refine q.2 { rs' with opts := rest, stage := 2 } (by rw [eo, e]; rfl) _ { A' with o := t4, l := A'.l } (h3.fld rfl rfl rfl rfl (fun c ob e n => Eg.upd_mut n (Eg.upd_mut n e)) upd_same (Eg.upd_mut (ne_of h3t h3o (fun z => nomatch z)) (Eg.upd_mut (ne_of h3t h3o (fun z => nomatch z)) h3t)) (Eg.upd_mut (ne_of h3.li h3o (fun z => nomatch z)) (Eg.upd_mut (ne_of h3.li h3o (fun z => nomatch z)) h3.li))) fun c o e => ?_
              have n := ne_of_none e h.r0
              exact Eg.upd_mut n (Eg.upd_mut n ((s0'.trans (s2.trans s3)) _ _ e))
          · rw [decide_eq_false (show ¬ V.int (rs.stage : Int) = V.int 1 from fun z => e2 (by have := V.int.inj z; omega))]
            rw [if_neg e2] at eo
            walk_at "go"
            exact fail H s0 eo
        · rw [decide_eq_false (show ¬ V.str (S p0) = V.str "options" from fun z => e1 (V.str.inj z))]
          walk_at "go"
          by_cases e3 : S p0 = "lists"
          · rw [decide_eq_true (show V.str (S p0) = V.str "lists" by rw [e3])]
            have eo : acceptR rs at_ (p0 :: rest) = (if rs.stage ≤ 2 then (declsR rs rest "list").map fun r => { r with lsts := rest, stage := 3 } else none) := by
              show (if at_ = 0 then _ else _) = _
              rw [if_neg e0, if_neg e1, if_pos e3]
            walk_at "go"
            by_cases e2 : rs.stage > 2
            · rw [decide_eq_true (show (rs.stage : Int) > 2 by omega)]
              rw [if_neg (show ¬ rs.stage ≤ 2 by omega)] at eo
              walk_at "go"
              exact fail H s0 eo
            · rw [decide_eq_false (show ¬ (rs.stage : Int) > 2 by omega)]
              rw [if_pos (show rs.stage ≤ 2 by omega)] at eo
              walk_at "go"
              refine ⟨a, _, rfl, SqL.of h_a', fun t2 ht2 => ?_⟩
              rw [show cutV (V.str (S p0) :: rest.map fun n => V.str (S n)) (some 1) none = rest.map fun n => V.str (S n) from cut_drop _ 1]
              have h1t : upd H t2 (.lst (rest.map fun n => V.str (S n))) t2 = some (.lst (rest.map fun n => V.str (S n))) := upd_same
              have s1 : Same H (upd H t2 (.lst (rest.map fun n => V.str (S n)))) := fun c o e => Eg.upd_old e ht2
              generalize upd H t2 (.lst (rest.map fun n => V.str (S n))) = H1 at h1t s1 ⊢
              have h1 := h.keep s1
              have h1o := h1.ob
              obtain ⟨Hb, hb, sb, s0b, kb⟩ := h1.rebase (s0.trans s1)
              walk_at "go"
              refine ⟨Hb, r, t2, rs, B, rest, "list", rfl, hb, sb, hne, by omega, kb _ _ h1t (h1.lst h1t (ne_of_none h.sc ht2).symm (ne_of_none h.bl ht2).symm), lr, plr, fun e H' s' => ?_, fun rs' e H' A' h' s' => ?_⟩
              · walk_at "go"
                exact fail H' (s0b.trans s') (by rw [eo, e]; rfl)
              · have s0' := s0b.trans s'
                have h'a : H' a = some (.lst (V.str (S p0) :: rest.map fun n => V.str (S n))) := s0' _ _ ha
                have h'0 := h'.base s0b
                walk_at "go"
                refine ⟨a, _, rfl, SqL.of h'a, fun t3 ht3 => ?_⟩
                rw [show cutV (V.str (S p0) :: rest.map fun n => V.str (S n)) (some 1) none = rest.map fun n => V.str (S n) from cut_drop _ 1]
                have h2t : upd H' t3 (.lst (rest.map fun n => V.str (S n))) t3 = some (.lst (rest.map fun n => V.str (S n))) := upd_same
                have s2 : Same H' (upd H' t3 (.lst (rest.map fun n => V.str (S n)))) := fun c o e => Eg.upd_old e ht3
                generalize upd H' t3 (.lst (rest.map fun n => V.str (S n))) = H2 at h2t s2 ⊢
                walk_at "go"
                refine Eg.c_tupL (SqL.of h2t) fun t4 ht4 => ?_
                have h3t : upd H2 t4 (.tup (rest.map fun n => V.str (S n))) t4 = some (.tup (rest.map fun n => V.str (S n))) := upd_same
                have s3 : Same H2 (upd H2 t4 (.tup (rest.map fun n => V.str (S n)))) := fun c o e => Eg.upd_old e ht4
                generalize upd H2 t4 (.tup (rest.map fun n => V.str (S n))) = H3 at h3t s3 ⊢
                have h3 := h'0.keep (s2.trans s3)
                have h3o := h3.ob
                walk_at "go"
                refine q.2 { rs' with lsts := rest, stage := 3 } (by rw [eo, e]; rfl) _ { A' with o := A'.o, l := t4 } (h3.fld rfl rfl rfl rfl (fun c ob e n => Eg.upd_mut n (Eg.upd_mut n e)) upd_same (Eg.upd_mut (ne_of h3.op h3o (fun z => nomatch z)) (Eg.upd_mut (ne_of h3.op h3o (fun z => nomatch z)) h3.op)) (Eg.upd_mut (ne_of h3t h3o (fun z => nomatch z)) (Eg.upd_mut (ne_of h3t h3o (fun z => nomatch z)) h3t))) fun c o e => ?_
                have n := ne_of_none e h.r0
                exact Eg.upd_mut n (Eg.upd_mut n ((s0'.trans (s2.trans s3)) _ _ e))

          · rw [decide_eq_false (show ¬ V.str (S p0) = V.str "lists" from fun z => e3 (V.str.inj z))]
            walk_at "go"
            have eo : acceptR rs at_ (p0 :: rest) = if S p0 ∈ (["each", "when", "else", "end"] : List Str) then blockR { rs with stage := 4 } at_ (p0 :: rest)
    else if S p0 ∈ (["text", "row", "count", "ask", "turn", "clear", "shift"] : List Str) then otherR { rs with stage := 4 } (p0 :: rest)
    else writeR { rs with stage := 4 } (p0 :: rest) := by
              show (if at_ = 0 then _ else _) = _
              rw [if_neg e0, if_neg e1, if_neg e3]
            have h2 : RAt Z.c_Reader H0 (upd H r (.ins Z.c_Reader B.dx (putF ("stage" : Str) (.int 4) (fldsR rs B)))) r { rs with stage := 4 } B := h.fld (rs' := { rs with stage := 4 }) rfl rfl rfl rfl (fun c ob e n => Eg.upd_mut n e) upd_same (Eg.upd_mut (ne_of h.op ho (fun z => nomatch z)) h.op) (Eg.upd_mut (ne_of h.li ho (fun z => nomatch z)) h.li)
            have s2 : Same H0 (upd H r (.ins Z.c_Reader B.dx (putF ("stage" : Str) (.int 4) (fldsR rs B)))) := fun c o e => Eg.upd_mut (ne_of_none e h.r0) (s0 _ _ e)
            generalize upd H r (.ins Z.c_Reader B.dx (putF ("stage" : Str) (.int 4) (fldsR rs B))) = H2 at h2 s2 ⊢
            have wt2 : ({ rs with stage := 4 } : RS).wt < 30000 := wt
            have h2o := h2.ob
            have h2a : H2 a = some (.lst (V.str (S p0) :: rest.map fun n => V.str (S n))) := s2 _ _ ha
            have lk3 : (fldsR { rs with stage := 4 } B).lookup ("accept_block" : Str) = none := rfl
            have lk4 : (fldsR { rs with stage := 4 } B).lookup ("accept_other" : Str) = none := rfl
            have lk5 : (fldsR { rs with stage := 4 } B).lookup ("accept_writing" : Str) = none := rfl
            walk_at "go"
            intro t3 ht3
            have hh3 : upd H2 t3 (.tup [.str "each", .str "when", .str "else", .str "end"]) t3 = some (.tup [.str "each", .str "when", .str "else", .str "end"]) := upd_same
            have s3 : Same H2 (upd H2 t3 (.tup [.str "each", .str "when", .str "else", .str "end"])) := fun c o e => Eg.upd_old e ht3
            generalize upd H2 t3 (.tup [.str "each", .str "when", .str "else", .str "end"]) = H3 at hh3 s3 ⊢
            refine ⟨t3, _, rfl, .inr (SqT.of hh3), rfl, rfl, ?_⟩
            have ein3 := inV_strs (k := S p0) ["each", "when", "else", "end"]
            rw [show ([("each" : Str), "when", "else", "end"].map V.str) = [V.str "each", V.str "when", V.str "else", V.str "end"] from rfl] at ein3
            rw [if_neg Bool.false_ne_true, ein3]
            have h3 := h2.keep s3
            have h3o := h3.ob
            have s03 := s2.trans s3
            by_cases e5 : S p0 ∈ (["each", "when", "else", "end"] : List Str)
            · rw [decide_eq_true e5]
              rw [if_pos e5] at eo
              walk_at "go"
              rw [eo] at q
              exact ⟨H0, r, a, at_, _, B, p0 :: rest, rfl, h3, s03, okb, wt2, (fun z => nomatch z), ha, pl, pc, q⟩
            · rw [decide_eq_false e5]
              rw [if_neg e5] at eo
              have h3a := s3 _ _ h2a
              walk_at "go"
              intro t4 ht4
              have hh4 : upd H3 t4 (.tup [.str "text", .str "row", .str "count", .str "ask", .str "turn", .str "clear", .str "shift"]) t4 = some (.tup [.str "text", .str "row", .str "count", .str "ask", .str "turn", .str "clear", .str "shift"]) := upd_same
              have s4 : Same H3 (upd H3 t4 (.tup [.str "text", .str "row", .str "count", .str "ask", .str "turn", .str "clear", .str "shift"])) := fun c o e => Eg.upd_old e ht4
              generalize upd H3 t4 (.tup [.str "text", .str "row", .str "count", .str "ask", .str "turn", .str "clear", .str "shift"]) = H4 at hh4 s4 ⊢
              refine ⟨t4, _, rfl, .inr (SqT.of hh4), rfl, rfl, ?_⟩
              have ein4 := inV_strs (k := S p0) ["text", "row", "count", "ask", "turn", "clear", "shift"]
              rw [show ([("text" : Str), "row", "count", "ask", "turn", "clear", "shift"].map V.str) = [V.str "text", V.str "row", V.str "count", V.str "ask", V.str "turn", V.str "clear", V.str "shift"] from rfl] at ein4
              rw [if_neg Bool.false_ne_true, ein4]
              have h4 := h3.keep s4
              have h4o := h4.ob
              have s04 := s03.trans s4
              by_cases e6 : S p0 ∈ (["text", "row", "count", "ask", "turn", "clear", "shift"] : List Str)
              · rw [decide_eq_true e6]
                rw [if_pos e6] at eo
                walk_at "go"
                rw [eo] at q
                exact ⟨H0, r, a, _, B, p0 :: rest, rfl, h4, s04, hne, wt2, (fun z => nomatch z), ha, pl, q⟩
              · rw [decide_eq_false e6]
                rw [if_neg e6] at eo
                walk_at "go"
                rw [eo] at q
                exact ⟨H0, r, a, _, B, p0 :: rest, rfl, h4, s04, ok, wt2, (fun z => nomatch z), ha, pl, q⟩
end
end LW
end

section
local macro_rules | `(tactic| walk_at "tx") => `(tactic| first
  | ((with_reducible refine' Eg.c_sfld ?hs ?hc ?hn ?hl ?_); (case hs => walk_at "hp"); (case hc => assumption); (case hn => assumption); (case hl => exact Nat.le_of_ble_eq_true rfl))
  | with_reducible refine Po.w_tru ?_
  | ((with_reducible refine' Po.c_truL ?hs ?_); (case hs => walk_at "hp")))
local macro_rules | `(tactic| walk_at "at") => `(tactic| first | exact atI_nat (j := 0) rfl | exact atI_nat (j := 1) rfl | exact atI_nat (j := 2) rfl | exact atI_nat (j := 3) rfl | exact atI_nat (j := 4) rfl | exact atI_nat (j := 5) rfl | exact atI_nat (j := 6) rfl | exact atI_nat (j := 7) rfl)
namespace LW
open PySem L2 SX Tx
/-! programs: what holds of the reader behind each line -/
def RS.fit (rs : RS) : Prop := rs.ok ∧ rs.okB
theorem RS.okB.ne {rs : RS} (h : rs.okB) : rs.scs ≠ [] := fun z => by
  have := h.2
  rw [z] at this
  cases this
theorem ok_scs {rs rs' : RS} (h : rs.ok) (e1 : ∀ n, kindOf rs'.scs n ≠ "" → kindOf rs.scs n ≠ "") (e2 : rs'.szs = rs.szs) : rs'.ok := fun n hn => by
  rw [e2]
  exact h n (e1 n hn)
theorem kind_pre {a b : List (List (Nm × Str))} {n : Nm} (h : kindOf a n ≠ "") : kindOf (a ++ b) n ≠ "" := by
  unfold kindOf kindO at h ⊢
  rw [List.findSome?_append]
  cases e : a.findSome? fun sc => getA sc n with
  | some k =>
    rw [e] at h
    exact h
  | none =>
    rw [e] at h
    exact absurd rfl h
theorem kind_end {a : List (List (Nm × Str))} {n : Nm} (h : kindOf (a ++ [[]]) n ≠ "") : kindOf a n ≠ "" := by
  unfold kindOf kindO at h ⊢
  rw [List.findSome?_append] at h
  cases e : a.findSome? fun sc => getA sc n with
  | some k =>
    rw [e] at h
    exact h
  | none =>
    rw [e] at h
    exact absurd rfl h
theorem sum_drop {α : Type} (l : List (List α)) : (l.dropLast.map List.length).sum ≤ (l.map List.length).sum := by
  cases e : l.getLast? with
  | none =>
    rw [List.getLast?_eq_none_iff] at e
    rw [e]
    exact Nat.le_refl _
  | some x =>
    obtain ⟨i, rfl⟩ := List.getLast?_eq_some_iff.mp e
    rw [List.dropLast_concat, List.map_append, List.sum_append]
    omega
theorem fit_decl {rs rs' : RS} {n : Nm} {k : Str} (h : rs.fit) (e : declR rs n k = some rs') : rs'.fit ∧ rs'.wt ≤ rs.wt + 2 := by
  have hs := h.2.ne
  obtain ⟨w1, w2, w3, w4⟩ := declR_wt e hs
  refine ⟨⟨RS.ok_decl h.1 hs e, ?_⟩, w1⟩
  have ⟨b1, b2⟩ := h.2
  refine ⟨?_, ?_⟩
  · unfold declR at e
    split at e
    · cases e
      exact b1
    · cases e
  · rw [w4, b2]
    unfold declR at e
    split at e
    · cases e
      rfl
    · cases e
theorem fit_open {rs rs' : RS} {a : Nat} {k : Str} (h : rs.fit) (e : openR rs a k = some rs') : rs'.fit ∧ rs'.wt ≤ rs.wt + 3 := by
  obtain ⟨w1, w2, w3, w4⟩ := openR_wt e
  refine ⟨⟨RS.ok_open h.1 e, ?_⟩, w1⟩
  have ⟨b1, b2⟩ := h.2
  unfold openR at e
  split at e
  · cases e
  · cases e
    refine ⟨fun b hb => ?_, ?_⟩
    · rcases List.mem_append.mp hb with hb | hb
      · obtain ⟨z, hz⟩ := b1 b hb
        exact get_some hz
      · rw [List.mem_singleton.mp hb]
        exact ⟨_, get_put _ _ _⟩
    · show (rs.scs ++ [[]]).length = (rs.blks ++ [(a, k)]).length + 1
      rw [List.length_append, List.length_append, b2]
      rfl
theorem fit_grow {rs : RS} (h : rs.fit) (n : Nm) (m : Int) : (growR rs n m).fit ∧ (growR rs n m).wt ≤ rs.wt + 1 := ⟨⟨RS.ok_grow h.1 n m, h.2⟩, grow_wt rs n m⟩
theorem fit_decls {k : Str} : ∀ {ns : List Nm} {rs rs' : RS}, rs.fit → decAll rs k ns = some rs' → rs'.fit ∧ rs'.wt ≤ rs.wt + 2 * ns.length
  | [], rs, rs', h, e => by
    unfold decAll at e
    cases e
    exact ⟨h, Nat.le_refl _⟩
  | n :: r, rs, rs', h, e => by
    unfold decAll at e
    cases e1 : declR rs n k with
    | none =>
      rw [e1] at e
      cases e
    | some rs1 =>
      rw [e1] at e
      obtain ⟨h1, w1⟩ := fit_decl h e1
      obtain ⟨h2, w2⟩ := fit_decls h1 e
      refine ⟨h2, ?_⟩
      rw [List.length_cons]
      omega
theorem fit_declsR {k : Str} {ns : List Nm} {rs rs' : RS} (h : rs.fit) (e : declsR rs ns k = some rs') : rs'.fit ∧ rs'.wt ≤ rs.wt + 6 := by
  unfold declsR at e
  split at e
  · rename_i hh
    obtain ⟨h1, w1⟩ := fit_decls h e
    rw [Bool.and_eq_true, decide_eq_true_eq, decide_eq_true_eq] at hh
    exact ⟨h1, by omega⟩
  · cases e
theorem fit_each {rs rs' : RS} {a : Nat} {ps : List Nm} (h : rs.fit) (e : eachR rs a ps = some rs') : rs'.fit ∧ rs'.wt ≤ rs.wt + 10 := by
  unfold eachR at e
  split at e
  · cases e1 : openR rs a "each" with
    | none =>
      rw [e1] at e
      cases e
    | some rs1 =>
      rw [e1] at e
      obtain ⟨h1, w1⟩ := fit_open h e1
      obtain ⟨h2, w2⟩ := fit_decl (rs := { rs1 with loop := rs1.scs.length - 1 }) h1 e
      exact ⟨h2, Nat.le_trans w2 (by have : ({ rs1 with loop := rs1.scs.length - 1 } : RS).wt = rs1.wt := rfl; omega)⟩
  · cases e
theorem fit_block {rs rs' : RS} {a : Nat} {ps : List Nm} (h : rs.fit) (e : blockR rs a ps = some rs') : rs'.fit ∧ rs'.wt ≤ rs.wt + 10 := by
  unfold blockR at e
  split at e
  · exact fit_each h e
  · split at e
    · split at e
      · obtain ⟨h1, w1⟩ := fit_open h e
        exact ⟨h1, by omega⟩
      · cases e
    · have ⟨b1, b2⟩ := h.2
      split at e
      · rename_i at_ k eb eg
        obtain ⟨bi, ebl⟩ := List.getLast?_eq_some_iff.mp eg
        have pj := putA_len rs.jmps at_ ((a : Int), (-1 : Int))
        have pj2 := putA_len rs.jmps at_ (((getA rs.jmps at_).getD (0, 0)).1, (a : Int))
        have sd := sum_drop rs.scs
        split at e
        · split at e
          · cases e
            refine ⟨⟨ok_scs h.1 (fun n hn => ?_) rfl, fun b hb => ?_, ?_⟩, ?_⟩
            · have hn := kind_end hn
              have e2 := (List.dropLast_concat_getLast h.2.ne)
              rw [← e2]
              exact kind_pre hn
            · obtain ⟨z, hz⟩ := b1 b hb
              exact get_some hz
            · show (rs.scs.dropLast ++ [[]]).length = rs.blks.length + 1
              rw [List.length_append, List.length_dropLast, b2]
              rfl
            · show rs.szs.length + (putA rs.jmps at_ ((a : Int), -1)).length + (rs.scs.dropLast ++ [[]]).length + rs.blks.length + ((rs.scs.dropLast ++ [[]]).map List.length).sum ≤ rs.wt + 10
              unfold RS.wt
              rw [List.map_append, List.sum_append, List.length_append, List.length_dropLast]
              simp only [List.map_cons, List.map_nil, List.sum_cons, List.sum_nil, List.length_cons, List.length_nil]
              omega
          · cases e
        · cases e
          refine ⟨⟨ok_scs h.1 (fun n hn => ?_) rfl, fun b hb => ?_, ?_⟩, ?_⟩
          · have e2 := (List.dropLast_concat_getLast h.2.ne)
            rw [← e2]
            exact kind_pre hn
          · obtain ⟨z, hz⟩ := b1 b (List.dropLast_subset _ hb)
            exact get_some hz
          · show rs.scs.dropLast.length = rs.blks.dropLast.length + 1
            rw [List.length_dropLast, List.length_dropLast, b2, ebl, List.length_append]
            simp
          · show rs.szs.length + (putA rs.jmps at_ (((getA rs.jmps at_).getD (0, 0)).1, (a : Int))).length + rs.scs.dropLast.length + rs.blks.dropLast.length + (rs.scs.dropLast.map List.length).sum ≤ rs.wt + 10
            unfold RS.wt
            rw [List.length_dropLast, List.length_dropLast]
            omega
      · cases e
theorem fit_other {rs rs' : RS} {ps : List Nm} (h : rs.fit) (e : otherR rs ps = some rs') : rs'.fit ∧ rs'.wt ≤ rs.wt + 10 := by
  have d : ∀ {n : Nm} {k : Str}, declR rs n k = some rs' → rs'.fit ∧ rs'.wt ≤ rs.wt + 10 := fun e => by
    obtain ⟨h1, w1⟩ := fit_decl h e
    exact ⟨h1, by omega⟩
  unfold otherR at e
  split at e
  · split at e
    · exact d e
    · cases e
  · split at e
    · split at e
      · exact d e
      · cases e
    · split at e
      · split at e
        · cases e
          exact ⟨h, by omega⟩
        · cases e
      · split at e
        · split at e
          · split at e
            · cases e
              exact ⟨h, by omega⟩
            · cases e
          · split at e
            · cases e
              exact ⟨h, by show rs.wt ≤ rs.wt + 10; omega⟩
            · cases e
        · cases e
theorem fit_write {rs rs' : RS} {ps : List Nm} (h : rs.fit) (e : writeR rs ps = some rs') : rs'.fit ∧ rs'.wt ≤ rs.wt + 10 := by
  unfold writeR at e
  split at e
  · split at e
    · split at e
      · unfold bindR at e
        split at e
        · cases e
          obtain ⟨h1, w1⟩ := fit_grow h (ps.getD 1 []) 1
          obtain ⟨h2, w2⟩ := fit_grow h1 (ps.getD 3 []) 1
          exact ⟨h2, by omega⟩
        · cases e
      · cases e
    · split at e
      · unfold addR at e
        split at e
        · cases e
          obtain ⟨h1, w1⟩ := fit_grow (rs := { rs with adds := rs.adds + 1 }) h (ps.getD 1 []) ((getA rs.szs (ps.getD 3 [])).getD 0)
          exact ⟨h1, Nat.le_trans w1 (by have : ({ rs with adds := rs.adds + 1 } : RS).wt = rs.wt := rfl; omega)⟩
        · cases e
      · generalize (if S (ps.getD 0 []) = "put" then _ else _ : Bool) = bb at e
        split at e
        · cases e
          obtain ⟨h1, w1⟩ := fit_grow h (ps.getD 1 []) 1
          exact ⟨h1, by omega⟩
        · cases e
  · cases e
theorem fit_accept {rs rs' : RS} {a : Nat} {ps : List Nm} (h : rs.fit) (e : acceptR rs a ps = some rs') : rs'.fit ∧ rs'.wt ≤ rs.wt + 10 := by
  cases ps with
  | nil => cases e
  | cons p0 rest =>
    have e : (if a = 0 then manR rs (p0 :: rest)
    else if S p0 = "options" then (if rs.stage = 1 then (declsR rs rest "option").map fun r => { r with opts := rest, stage := 2 } else none)
    else if S p0 = "lists" then (if rs.stage ≤ 2 then (declsR rs rest "list").map fun r => { r with lsts := rest, stage := 3 } else none)
    else if S p0 ∈ (["each", "when", "else", "end"] : List Str) then blockR { rs with stage := 4 } a (p0 :: rest)
    else if S p0 ∈ (["text", "row", "count", "ask", "turn", "clear", "shift"] : List Str) then otherR { rs with stage := 4 } (p0 :: rest)
    else writeR { rs with stage := 4 } (p0 :: rest)) = some rs' := e
    have h4 : ({ rs with stage := 4 } : RS).fit := h
    have w4 : ({ rs with stage := 4 } : RS).wt = rs.wt := rfl
    split at e
    · unfold manR at e
      split at e
      · split at e
        · cases e
          exact ⟨h, by show rs.wt ≤ rs.wt + 10; omega⟩
        · cases e
      · cases e
    · split at e
      · split at e
        · cases e1 : declsR rs rest "option" with
          | none =>
            rw [e1] at e
            cases e
          | some rs1 =>
            rw [e1] at e
            cases e
            obtain ⟨h1, w1⟩ := fit_declsR h e1
            exact ⟨h1, by show rs1.wt ≤ _; omega⟩
        · cases e
      · split at e
        · split at e
          · cases e1 : declsR rs rest "list" with
            | none =>
              rw [e1] at e
              cases e
            | some rs1 =>
              rw [e1] at e
              cases e
              obtain ⟨h1, w1⟩ := fit_declsR h e1
              exact ⟨h1, by show rs1.wt ≤ _; omega⟩
          · cases e
        · split at e
          · rw [← w4]
            exact fit_block h4 e
          · split at e
            · rw [← w4]
              exact fit_other h4 e
            · rw [← w4]
              exact fit_write h4 e
theorem fit_new : RS.new.fit := ⟨fun n hn => absurd rfl hn, ⟨fun b hb => (List.not_mem_nil (show b ∈ ([] : List (Nat × Str)) from hb)).elim, rfl⟩⟩
/-! a whole text -/
def wordsOf (l : List Nat) : List Nm := (TL.spl [32] 0 [] l).filter fun x => !x.isEmpty
def rowsOf (t : List Nat) : List (List Nm) := (TL.spl [10] 0 [] t).map wordsOf
/-- the lines from line a on: the reader behind them, or the first that cannot stand -/
def readR (rs : RS) (a : Nat) : List (List Nm) → RS ⊕ Nat
  | [] => .inl rs
  | r :: rest => if 60 ≤ a then .inr a else match acceptR rs a r with
    | none => .inr a
    | some rs' => readR rs' (a + 1) rest
/-- a program's text: the reader, or the index told by BadProgram -/
def progR (rows : List (List Nm)) : RS ⊕ Nat := match readR RS.new 0 rows with
  | .inl rs => if rs.blks = [] then .inl rs else .inr rows.length
  | .inr a => .inr a
end LW
end

section
local macro_rules | `(tactic| walk_at "tx") => `(tactic| first
  | ((with_reducible refine' Eg.c_sfld ?hs ?hc ?hn ?hl ?_); (case hs => walk_at "hp"); (case hc => assumption); (case hn => assumption); (case hl => exact Nat.le_of_ble_eq_true rfl))
  | with_reducible refine Ex.w_rs ?_
  | with_reducible refine Po.w_tru ?_
  | ((with_reducible refine' Po.c_truL ?hs ?_); (case hs => walk_at "hp")))
local macro_rules | `(tactic| walk_at "at") => `(tactic| first | exact atI_nat (j := 0) rfl | exact atI_nat (j := 1) rfl | exact atI_nat (j := 2) rfl | exact atI_nat (j := 3) rfl | exact atI_nat (j := 4) rfl | exact atI_nat (j := 5) rfl | exact atI_nat (j := 6) rfl | exact atI_nat (j := 7) rfl)
namespace LW
open PySem L2 SX Tx
/-! programs: Program.__init__ -/
def fldsP (rs : RS) (o l ln rw j : Addr) : List (Str × V) := [("manner", .str rs.man), ("options", .ref o), ("lists", .ref l), ("lines", .ref ln), ("size", .int rs.size), ("rows", .ref rw), ("jumps", .ref j)]
/-- a program at p -/
def ProgAt (C : Addr) (H : Hp) (p : Addr) (rs : RS) (rows : List (List Nm)) : Prop := ∃ (dx o l ln rw j : Addr) (rv : List V) (jk : List (Key × V)), H p = some (.ins C dx (fldsP rs o l ln rw j)) ∧ H o = some (.tup (rs.opts.map fun n => V.str (S n))) ∧ H l = some (.tup (rs.lsts.map fun n => V.str (S n))) ∧
  H ln = some (.tup (rows.map fun r => V.str (Txt.join " " (r.map S)))) ∧ H rw = some (.tup rv) ∧ Paired (fun v (r : List Nm) => ∃ t, v = V.ref t ∧ H t = some (.tup (r.map fun n => V.str (S n)))) rv rows ∧ H j = some (.dK jk) ∧
  Paired (fun (p : Key × V) (q : Nat × (Int × Int)) => ∃ t, p = (.inl (q.1 : Int), V.ref t) ∧ H t = some (.tup [.int q.2.1, .int q.2.2])) jk rs.jmps
/-- BadProgram(i) is raised -/
def BP (CB : Addr) (i : Int) (H : Hp) (E : XK) : Prop := ∀ (d : Addr) (H' : Hp), H d = none → H' d = some (.xd [("at", .int i)]) → Same H H' → E (.ref CB) (some d) H'
/-- what is no text -/
inductive NoS (H : Hp) : V → Prop
  | non : NoS H .non
  | int (i : Int) : NoS H (.int i)
  | bl (b : Bool) : NoS H (.bl b)
  | lst {a : Addr} {xs : List V} : H a = some (.lst xs) → NoS H (.ref a)
  | tup {a : Addr} {xs : List V} : H a = some (.tup xs) → NoS H (.ref a)
  | dK {a : Addr} {ks : List (Key × V)} : H a = some (.dK ks) → NoS H (.ref a)
theorem NoS.keep {H H' : Hp} {x : V} (h : NoS H x) (s : Same H H') : NoS H' x := by
  cases h with
  | non => exact .non
  | int i => exact .int i
  | bl b => exact .bl b
  | lst e => exact .lst (s _ _ e)
  | tup e => exact .tup (s _ _ e)
  | dK e => exact .dK (s _ _ e)
theorem isi_noS {K : PySem.W.Frag} {H : Hp} {x : V} {Q : VK} (h : NoS H x) (q : Q (.bl false) H) : rIsi K [x, .ty "str"] H Q := by
  cases h with
  | non => exact Eg.c_isi (.ty _) (.base .non) (kit_ty (b := "str") (r := false) (by decide +kernel)) q
  | int i => exact Eg.c_isi (.ty _) (.base (.int i)) (kit_ty (b := "str") (r := false) (by decide +kernel)) q
  | bl b => exact Eg.c_isi (.ty _) (.base (.bl b)) (kit_ty (b := "str") (r := false) (by decide +kernel)) q
  | lst e => exact Eg.c_isi (.ty _) (.base (.lst e)) (kit_ty (b := "str") (r := false) (by decide +kernel)) q
  | tup e => exact Eg.c_isi (.ty _) (.base (.tup e)) (kit_ty (b := "str") (r := false) (by decide +kernel)) q
  | dK e => exact Eg.c_isi (.ty _) (.base (.dK e)) (kit_ty (b := "str") (r := false) (by decide +kernel)) q
theorem nl_S : ("\n" : Str) = S [10] := by decide +kernel
theorem sp_S : (" " : Str) = S [32] := by decide +kernel
theorem w_tM1 {r : V → List V → Hp → VK → Prop} {to te : TE} {σ : L2.St} {H : Hp} {Q : VK} (h : to σ H fun x H1 => (∃ a, x = .str a) ∧ te σ H1 fun y H2 => r x [y] H2 Q) : tM1 r to te σ H Q := h
theorem c_split {H : Hp} {Q : VK} {l : List Nat} {c : Nat} {sep : Str} (hs : sep = S [c]) (hc : c < 256) (hl : l.length < 100000) (q : ∀ p, H p = none → Q (.ref p) (upd H p (.lst ((TL.spl [c] 0 [] l).map fun x => .str (S x))))) :
    ∃ a b, V.str (S l) = .str a ∧ [V.str sep] = [.str b] ∧ (b.length == 0) = false ∧ a.length + 2 ≤ sizeLine ∧ rNewStrs (Txt.split a b) H Q := by
  subst hs
  refine ⟨_, _, rfl, rfl, rfl, by rw [S_len, sizeLine_eq]; omega, fun p hp => ?_⟩
  rw [SX.split_S (a := l) (b := [c]) (fun z => nomatch z) (by simp [hc]), List.map_map]
  exact q p hp
structure Fits (t : List Nat) : Prop where
  len : t.length < 40000
  rows : ∀ r ∈ rowsOf t, r.length < 1000 ∧ (∀ n ∈ r, n.length < 100000) ∧ ∀ n ∈ r, ∀ c ∈ n, c < 0x110000
def sp_Program_initX (CP CB : Addr) : Sp := fun vs H Q E => ∃ (p dx : Addr) (x : V), vs = [.ref p, x] ∧ H p = some (.ins CP dx []) ∧ ((NoS H x ∧ BP CB (-1) H E) ∨ ∃ t : List Nat, x = .str (S t) ∧ Fits t ∧
  (∀ a, progR (rowsOf t) = .inr a → BP CB (a : Int) H E) ∧ ∀ rs, progR (rowsOf t) = .inl rs → ∀ H', ProgAt CP H' p rs (rowsOf t) → (∀ c o, H c = some o → c ≠ p → H' c = some o) → Q .non H')
theorem pair_mapR {α β γ : Type} {F : α → γ → Prop} {f : β → γ} : ∀ {xs : List α} {ys : List β}, Paired (fun x y => F x (f y)) xs ys → Paired F xs (ys.map f)
  | _, _, .nil => .nil
  | _, _, .cons h t => .cons h (pair_mapR t)
theorem words_sum (l : List Nat) : ((wordsOf l).map List.length).sum + (wordsOf l).length ≤ l.length + 1 := by
  have e := PyProof.Rows.split_weight (S l) (S [32]) (by decide)
  rw [SX.split_S (a := l) (b := [32]) (fun z => nomatch z) (by decide), List.map_map, List.length_map, S_len] at e
  have e2 : ((TL.spl [32] 0 [] l).map ((fun x : Str => x.length) ∘ S)).sum = ((TL.spl [32] 0 [] l).map List.length).sum := by
    congr 1
  rw [e2] at e
  unfold wordsOf
  refine Nat.le_trans ?_ e
  generalize TL.spl [32] 0 [] l = ws
  induction ws with
  | nil => exact Nat.le_refl _
  | cons x r ih =>
    rw [List.filter_cons]
    split
    · simp only [List.map_cons, List.sum_cons, List.length_cons]
      omega
    · simp only [List.map_cons, List.sum_cons, List.length_cons]
      omega
theorem mk_reader {C : Addr} {H : Hp} {Q : VK} (q : ∀ (r : Addr) (A : RA) (H' : Hp), RAt C H H' r RS.new A → Same H H' → Q (.ref r) H') : Eg.makeLeaf C (sp_Reader_init C) [] E0 Q [] H := by
  intro x dx hx hdx hne
  have s1 : Same H (upd (upd H dx (.own x)) x (.ins C dx [])) := fun c o e => by
    rw [upd_ne (ne_of_none e hx), upd_ne (ne_of_none e hdx)]
    exact e
  exact ⟨x, dx, rfl, upd_same, fun H' A ra kk => ⟨rfl, q x A H' (ra H s1 hx) fun c o e => kk c o (s1 _ _ e) (ne_of_none e hx)⟩⟩
section
variable {P : Program} {w : World} {K : PySem.W.Frag} {mg : Str → Option Value} {base : Heap} {Z : Ad}
theorem ok_BadProgram_init (T : Txt K mg Z) : FnOk P w K mg base CX0 1 Z.a_BadProgram_init Z.d_BadProgram_init ["self", "at"] (Ex.spX1 Z.c_BadProgram "at") := by
  refine T.F_BadProgram_init.ok sc_BadProgram_init (fun vs H Q E h => ?_) (fun cdv A outer s H vs Q E hr h => ?_)
  · obtain ⟨a, y, rfl, _⟩ := h
    rfl
  · obtain ⟨a, y, rfl, ha, q⟩ := h
    refine ⟨_, pss_one (ps_ost (pv 0) (pv 1) rfl), ?_⟩
    refine Eg.w_sig (σ := [some (.ref a), some y]) rfl ?_
    exact ⟨_, rfl, _, rfl, a, _, rfl, T.x_BadProgram.oex, T.no_BadProgram_at, .inl ⟨ha, fun dx h1 h2 => q dx h1 h2⟩⟩
set_option maxHeartbeats 8000000 in
theorem ok_Program_initX (T : Txt K mg Z) : FnOk P w K mg base (L2.CX P w) 6 Z.a_Program_init Z.d_Program_init ["self", "text"] (sp_Program_initX Z.c_Program Z.c_BadProgram) := by
  refine T.F_Program_init.okX sc_Program_init (fun vs H Q E h => ?_) (fun cdv A outer s H vs Q E hr h => ?_)
  · obtain ⟨p, dx, x, rfl, _⟩ := h
    rfl
  · obtain ⟨p, dx, x, rfl, hp, h⟩ := h
    have nd := sc_Program_init.nd
    have hu := hu_of hr
    refine ⟨_, (pss_cons (ps_if (pt_not (pt_val (pe_callB call_isi (by rfl) T.u_isinstance (by decide +kernel) (pa_cons (pv 1) (pa_cons (pe_bltn (v := .ty "str") (u := .type "str") (by rfl) T.u_str (by decide +kernel) rfl) pa_nil)))))
  (pss_one (Ex.ps_rs rfl (takes_of rfl rfl rfl rfl) T.x_BadProgram.oex T.x_BadProgram.ini T.x_BadProgram.fn (ok_BadProgram_init T) (hr.mono (by decide)) T.b_BadProgram_init pass0 (by rfl) T.g_BadProgram (pa_cons (pe_un un_neg pe_int) pa_nil)))
  pss_nil)
  (pss_cons (ps_setLc (i := 2) (own := [("line", 6)]) rfl nd rfl rfl (sw_true rfl rfl rfl (by decide +kernel)) (pi_list (pe_split (pv 1) pe_str)) (blkOk_by (N := N_Program_init) (sc := defScope s_Program_init) (by decide +kernel)) (fun _ _ _ _ _ => (pg_name (i := 6) nd rfl (Or.inl rfl))) (fun _ _ _ _ _ => pts_nil) (fun _ _ _ _ _ => (Eg.peE (pe_lc (own := [("part", 7)]) rfl nd (pi_list (pe_split (pv 6) pe_str)) (by refine blkOk_by (N := N_Program_init) ?_; kernel_rfl) (fun _ _ _ _ _ => (pg_name (i := 7) nd rfl (Or.inl rfl))) (fun _ _ _ _ _ => (Eg.ptsE (pts_one (pt_cmpR op_ne (pv 7) pe_str (nomark _))) (by walk_at "blk"))) (fun _ _ _ _ _ => (Eg.peE (pv 7) (by walk_at "blk")))) (by walk_at "blk"))))
  (pss_cons (ps_set (i := 3) nd rfl (Or.inl rfl) (pe_make0 T.mk_Reader (ok_Reader_init T) (hr.mono (by decide)) (by rfl) T.g_Reader T.b_Reader_init .nil pass0))
  (pss_cons (ps_for (passes_of rfl) rfl (pi_enum (by rfl) T.u_enumerate (pa_cons (pv 2) pa_nil)) (pg_tup (by rfl) (pgs_cons (pg_name (i := 4) nd rfl (Or.inl rfl)) (pgs_cons (pg_name (i := 5) nd rfl (Or.inl rfl)) pgs_nil)))
  (pss_one (ps_if (PW.pt (pw_or (pt_cmpR op_ge (pv 4) (ClX.pe_cval (pe_glob (v := .ref Z.c_Program) (by rfl) T.g_Program rfl)) (nomark _)) (pw_or1 (pt_not (pt_val (pe_meth (pv 3) T.cl_Reader T.m_Reader_accept (ok_Reader_accept T) (hr.mono (by decide)) T.b_Reader_accept .nil pass0 (pa_cons (pv 4) (pa_cons (pv 5) pa_nil))))))))
  (pss_one (Ex.ps_rs rfl (takes_of rfl rfl rfl rfl) T.x_BadProgram.oex T.x_BadProgram.ini T.x_BadProgram.fn (ok_BadProgram_init T) (hr.mono (by decide)) T.b_BadProgram_init pass0 (by rfl) T.g_BadProgram (pa_cons (pv 4) pa_nil)))
  pss_nil)))
  (pss_cons (ps_if (Po.pt_tru (pe_fld (pv 3) rfl) (by intro _; rfl))
  (pss_one (Ex.ps_rs rfl (takes_of rfl rfl rfl rfl) T.x_BadProgram.oex T.x_BadProgram.ini T.x_BadProgram.fn (ok_BadProgram_init T) (hr.mono (by decide)) T.b_BadProgram_init pass0 (by rfl) T.g_BadProgram (pa_cons (pe_callB Eg.cr_len (by rfl) T.u_len (by decide +kernel) (pa_cons (pv 2) pa_nil)) pa_nil)))
  pss_nil)
  (pss_cons (ps_fld (pv 0) (pe_fld (pv 3) rfl) rfl)
  (pss_cons (ps_fld (pv 0) (pe_fld (pv 3) rfl) rfl)
  (pss_cons (ps_fld (pv 0) (pe_fld (pv 3) rfl) rfl)
  (pss_cons (ps_fld (pv 0) (pe_callTy Eg.cr_tup (by rfl) T.u_tuple (by decide +kernel) (pa_cons (pe_lc (own := [("parts", 5)]) rfl nd (pi_list (pv 2)) (blkOk_by (N := N_Program_init) (sc := defScope s_Program_init) (by decide +kernel)) (fun _ _ _ _ _ => (pg_name (i := 5) nd rfl (Or.inl rfl))) (fun _ _ _ _ _ => pts_nil) (fun _ _ _ _ _ => (Eg.peE (pe_join pe_str (pv 5)) (by walk_at "blk")))) pa_nil)) rfl)
  (pss_cons (ps_fld (pv 0) (pe_fld (pv 3) rfl) rfl)
  (pss_cons (ps_fld (pv 0) (pe_callTy Eg.cr_tup (by rfl) T.u_tuple (by decide +kernel) (pa_cons (pe_lc (own := [("parts", 5)]) rfl nd (pi_list (pv 2)) (blkOk_by (N := N_Program_init) (sc := defScope s_Program_init) (by decide +kernel)) (fun _ _ _ _ _ => (pg_name (i := 5) nd rfl (Or.inl rfl))) (fun _ _ _ _ _ => pts_nil) (fun _ _ _ _ _ => (Eg.peE (pe_callTy Eg.cr_tup (by rfl) T.u_tuple (by decide +kernel) (pa_cons (pv 5) pa_nil)) (by walk_at "blk")))) pa_nil)) rfl)
  (pss_one (ps_fld (pv 0) (pe_fld (pv 3) rfl) rfl))))))))))))), ?_⟩
    refine Eg.w_sig (σ := [some (.ref p), some x, none, none, none, none, none, none]) rfl ?_
    rcases h with ⟨no, q⟩ | ⟨t, rfl, fit, qe, q⟩
    · walk_at "go"
      refine isi_noS no ?_
      walk_at "go"
      exact Ex.c_mk1 fun d hd => q d _ hd upd_same fun c o e => Eg.upd_old e hd
    · have hl := fit.len
      obtain ⟨uL, cvL⟩ := T.v_Program_LINES
      walk_at "gw"
      refine Eg.w_lc (Eg.w_iL ?_)
      walk_at "go"
      refine w_tM1 ?_
      walk_at "go"
      refine ⟨⟨_, rfl⟩, ?_⟩
      walk_at "go"
      refine c_split nl_S (by decide) (by omega) fun g hg => ?_
      have h1g : upd H g (.lst ((TL.spl [10] 0 [] t).map fun x => V.str (S x))) g = some (.lst ((TL.spl [10] 0 [] t).map fun x => V.str (S x))) := upd_same
      have s1 : Same H (upd H g (.lst ((TL.spl [10] 0 [] t).map fun x => V.str (S x)))) := fun c o e => Eg.upd_old e hg
      generalize upd H g (.lst ((TL.spl [10] 0 [] t).map fun x => V.str (S x))) = H1 at h1g s1 ⊢
      have hLn : (TL.spl [10] 0 [] t).length ≤ t.length + 2 := by
        have := PyProof.Rows.split_le (S t) (S [10])
        rw [SX.split_S (a := t) (b := [10]) (fun z => nomatch z) (by decide), List.length_map, S_len] at this
        exact this
      have hpl : ∀ l ∈ TL.spl [10] 0 [] t, l.length < 50000 := fun l hl2 => by
        have : S l ∈ Txt.split (S t) (S [10]) := by
          rw [SX.split_S (a := t) (b := [10]) (fun z => nomatch z) (by decide)]
          exact List.mem_map.mpr ⟨l, hl2, rfl⟩
        have := PyProof.Rows.part_short this
        rw [S_len, S_len] at this
        omega
      generalize hLs : TL.spl [10] 0 [] t = ls at h1g hLn hpl ⊢
      refine Eg.c_iL (SqL.of h1g) ?_
      intro D hD
      refine lc_list (xs := ls.map fun x => V.str (S x)) (fun i H' => ∃ as : List Addr, Same H1 H' ∧ H' D = some (.lst (as.map V.ref)) ∧ Paired (fun a l => H' a = some (.lst ((wordsOf l).map fun n => V.str (S n))) ∧ H1 a = none ∧ a ≠ D) as (ls.take i)) ⟨[], Eg.same_new (Same.refl _) hD, upd_same, .nil⟩ (fun i H' _ h => SqL.of (h.choose_spec.1 _ _ h1g)) ?_ ?_
      · rintro i x H2 hx ⟨as, s2, h2D, pas⟩
        rw [List.getElem?_map] at hx
        obtain ⟨l, hl2, rfl⟩ := Option.map_eq_some_iff.mp hx
        refine Eg.w_gN (Eg.w_wipe rfl (Eg.w_yes (iteT ?_)))
        have lpl := hpl l (List.mem_of_getElem? hl2)
        refine Eg.w_lc (Eg.w_iL (w_tM1 ?_))
        walk_at "go"
        refine ⟨⟨_, rfl⟩, ?_⟩
        walk_at "go"
        refine c_split sp_S (by decide) (by omega) fun g2 hg2 => ?_
        have h3g : upd H2 g2 (.lst ((TL.spl [32] 0 [] l).map fun x => V.str (S x))) g2 = some (.lst ((TL.spl [32] 0 [] l).map fun x => V.str (S x))) := upd_same
        have s3 : Same H2 (upd H2 g2 (.lst ((TL.spl [32] 0 [] l).map fun x => V.str (S x)))) := fun c o e => Eg.upd_old e hg2
        generalize upd H2 g2 (.lst ((TL.spl [32] 0 [] l).map fun x => V.str (S x))) = H3 at h3g s3 ⊢
        have hWn : (TL.spl [32] 0 [] l).length ≤ l.length + 2 := by
          have := PyProof.Rows.split_le (S l) (S [32])
          rw [SX.split_S (a := l) (b := [32]) (fun z => nomatch z) (by decide), List.length_map, S_len] at this
          exact this
        have ewl : wordsOf l = (TL.spl [32] 0 [] l).filter fun x => !x.isEmpty := rfl
        generalize TL.spl [32] 0 [] l = ws at h3g hWn ewl ⊢
        refine Eg.c_iL (SqL.of h3g) ?_
        intro D2 hD2
        refine lc_list (xs := ws.map fun x => V.str (S x)) (fun j H' => Same H3 H' ∧ H' D2 = some (.lst (((ws.take j).filter fun x => !x.isEmpty).map fun n => V.str (S n)))) ⟨Eg.same_new (Same.refl _) hD2, upd_same⟩ (fun i H' _ h => SqL.of (h.1 _ _ h3g)) ?_ ?_
        · rintro j y H4 hy ⟨s4, h4D⟩
          rw [List.getElem?_map] at hy
          obtain ⟨n, hn, rfl⟩ := Option.map_eq_some_iff.mp hy
          obtain ⟨hlt, he⟩ := List.getElem?_eq_some_iff.mp hn
          refine Eg.w_gN (Eg.w_wipe rfl ?_)
          have fl : ((ws.take j).filter fun x => !x.isEmpty).length ≤ ws.length := Nat.le_trans (List.length_filter_le _ _) (List.length_take_le' _ _)
          walk_at "go"
          have et : ws.take (j + 1) = ws.take j ++ [n] := by rw [List.take_succ_eq_append_getElem hlt, he]
          by_cases en : n = []
          · rw [decide_eq_true (show V.str (S n) = V.str "" by rw [en]; rfl), if_neg (show ¬ (!true) = true from Bool.false_ne_true)]
            refine ⟨s4, ?_⟩
            rw [et, List.filter_append, List.filter_cons, if_neg (by rw [en]; exact Bool.false_ne_true), List.filter_nil, List.append_nil]
            exact h4D
          · rw [decide_eq_false (show ¬ V.str (S n) = V.str "" from fun z => en (S_inj (b := []) (V.str.inj z))), if_pos (show (!false) = true from rfl)]
            refine Eg.w_var rfl ?_
            refine ⟨_, h4D, by rw [List.length_map, sizeLine_eq]; omega, Eg.same_mut s4 hD2, ?_⟩
            rw [upd_same, et, List.filter_append, List.filter_cons, if_pos (by cases n with | nil => exact absurd rfl en | cons => rfl), List.filter_nil, List.map_append]
            rfl
        · rintro H4 ⟨s4, h4D⟩
          have h4D : H4 D2 = some (.lst ((wordsOf l).map fun n => V.str (S n))) := by
            rw [List.length_map, List.take_length] at h4D
            rw [ewl]
            exact h4D
          have s24 : Same H2 H4 := s3.trans s4
          have asl := Paired.length pas
          have at1 : (ls.take i).length ≤ ls.length := List.length_take_le' _ _
          obtain ⟨hlt, he⟩ := List.getElem?_eq_some_iff.mp hl2
          have nD2 : H2 D2 = none := s3.free hD2
          have dD : D2 ≠ D := fun z => by
            rw [z, h2D] at nD2
            cases nD2
          refine ⟨as.map V.ref, s24 _ _ h2D, by rw [List.length_map, sizeLine_eq]; omega, as ++ [D2], Eg.same_mut (s2.trans s24) hD, by rw [upd_same, List.map_append]; rfl, ?_⟩
          rw [List.take_succ_eq_append_getElem hlt, he]
          exact pair_app (Paired.mapP pas fun a l' ⟨e1, e2, e3⟩ => ⟨by rw [upd_ne e3]; exact s24 _ _ e1, e2, e3⟩) (.cons ⟨by rw [upd_ne dD]; exact h4D, s2.free nD2, dD⟩ .nil)
      · rintro H2 ⟨as, s2, h2D, pas⟩
        rw [List.length_map, List.take_length] at pas
        have s02 : Same H H2 := s1.trans s2
        have erows : rowsOf t = ls.map wordsOf := by unfold rowsOf; rw [hLs]
        walk_at "go"
        refine mk_reader fun r B H3 h3 s3 => ?_
        have h3D := s3 _ _ h2D
        have cR := T.cl_Reader
        have lna := Paired.length pas
        walk_at "go"
        refine Tl.w_iE ?_
        walk_at "go"
        refine Tl.c_iE (SqL.of h3D) ?_
        have raise : ∀ {i : Nat} {H' : Hp}, Same H2 H' → progR (rowsOf t) = .inr i → Ex.mkLeaf Z.c_BadProgram (Ex.spX1 Z.c_BadProgram "at") [] (fun cls d H' => E cls d H') [.int (i : Int)] H' := fun {i H'} s e => Ex.c_mk1 fun d hd => qe i e d _ ((s02.trans s).free hd) upd_same fun c o e => Eg.upd_old ((s02.trans s) _ _ e) hd
        refine for_it (walk_enum (xs := as.map V.ref)) (fun i σ' H' => ∃ (v4 v5 v6 v7 : Option V) (rs : RS) (A : RA), σ' = [some (.ref p), some (.str (S t)), some (.ref D), some (.ref r), v4, v5, v6, v7] ∧ RAt Z.c_Reader H2 H' r rs A ∧ Same H2 H' ∧ rs.fit ∧ rs.wt ≤ 1 + 10 * i ∧ i ≤ 60 ∧ readR RS.new 0 (rowsOf t) = readR rs i ((rowsOf t).drop i))
          ⟨none, none, none, none, RS.new, B, rfl, h3, s3, fit_new, by decide, by decide, rfl⟩ ?_ ?_ ?_
        · rintro i _ H4 _ ⟨v4, v5, v6, v7, rs, A, rfl, h4, s4, _⟩
          exact SqL.of (s4 _ _ h2D)
        · rintro i x _ H4 _ _ ⟨v4, v5, v6, v7, rs, A, rfl, h4, s4, hfit, hwt, hi, er⟩ ⟨tt, y, z, rfl, htt, rfl, hy, hz⟩
          have hy : some (V.int (i : Nat)) = some y := hy
          cases hy
          have hz : (as.map V.ref)[i]? = some z := hz
          rw [List.getElem?_map] at hz
          obtain ⟨ra, hra, rfl⟩ := Option.map_eq_some_iff.mp hz
          obtain ⟨l, hl2, hl3, _⟩ := pair_getL pas hra
          obtain ⟨hlt, he⟩ := List.getElem?_eq_some_iff.mp hl2
          have h9t : upd H4 tt (.tup [.int (i : Nat), .ref ra]) tt = some (.tup [.int (i : Nat), .ref ra]) := upd_same
          have s9 : Same H4 (upd H4 tt (.tup [.int (i : Nat), .ref ra])) := fun c o e => Eg.upd_old e htt
          generalize upd H4 tt (.tup [.int (i : Nat), .ref ra]) = H5 at h9t s9 ⊢
          have h5 := h4.keep s9
          have h5o := h5.ob
          have s05 := s4.trans s9
          have ed : (rowsOf t).drop i = wordsOf l :: (rowsOf t).drop (i + 1) := by
            rw [erows, List.drop_eq_getElem_cons (by rw [List.length_map]; exact hlt), List.getElem_map, he]
          rw [ed, readR] at er
          have eN : progR (rowsOf t) = match readR RS.new 0 (rowsOf t) with
            | .inl rs => if rs.blks = [] then .inl rs else .inr (rowsOf t).length
            | .inr a => .inr a := rfl
          rw [er] at eN
          walk_at "go"
          refine ⟨_, _, _, _, rfl, T.cr_Program, cvL, ?_⟩
          walk_at "go"
          by_cases e1 : 60 ≤ i
          · rw [decide_eq_true (show (60 : Int) ≤ (i : Nat) by omega)]
            rw [if_pos e1] at eN
            walk_at "go"
            exact raise s05 eN
          · rw [decide_eq_false (show ¬ (60 : Int) ≤ (i : Nat) by omega)]
            rw [if_neg e1] at eN er
            walk_at "go"
            have hm : wordsOf l ∈ rowsOf t := by
              rw [erows]
              exact List.mem_map.mpr ⟨l, List.mem_of_getElem? hl2, rfl⟩
            obtain ⟨f1, f2, f3⟩ := fit.rows _ hm
            refine ⟨H2, r, ra, i, rs, A, wordsOf l, rfl, h5, s05, hfit.1, hfit.2, by omega, hl3, f1, f2, f3, fun e H6 s6 => ?_, fun rs' e H6 A6 h6 s6 => ?_⟩
            · rw [e] at eN
              walk_at "go"
              exact raise s6 eN
            · rw [e] at er
              obtain ⟨g1, g2⟩ := fit_accept hfit e
              walk_at "go"
              exact ⟨_, _, _, _, rs', A6, rfl, h6, s6, g1, by omega, by omega, er⟩
        · rintro _ H4 ⟨v4, v5, v6, v7, rs, A, rfl, h4, s4, hfit, hwt, hi, er⟩
          have lrw : (as.map V.ref).length = (rowsOf t).length := by rw [List.length_map, lna, erows, List.length_map]
          rw [lrw, List.drop_length, readR] at er
          have eN : progR (rowsOf t) = match readR RS.new 0 (rowsOf t) with
            | .inl rs => if rs.blks = [] then .inl rs else .inr (rowsOf t).length
            | .inr a => .inr a := rfl
          rw [er] at eN
          have eN : progR (rowsOf t) = if rs.blks = [] then .inl rs else .inr (rowsOf t).length := eN
          have h4o := h4.ob
          have h4bl := h4.bl
          have lbl := Paired.length h4.bs
          have lk1 : (fldsR rs A).lookup ("blocks" : Str) = some (V.ref A.bl) := rfl
          have n1 := T.n_Reader_blocks
          walk_at "go"
          by_cases eb : rs.blks = []
          · rw [if_pos eb] at eN
            have bl0 : A.bls = [] := List.length_eq_zero_iff.mp (by rw [lbl, eb]; rfl)
            rw [bl0, if_neg (show ¬ (!([] : List V).isEmpty) = true from Bool.false_ne_true)]
            have h4p := (s02.trans s4) _ _ hp
            have m0 := T.n_Reader_manner
            have m1 := T.n_Reader_options
            have m2 := T.n_Reader_lists
            have m3 := T.n_Reader_size
            have m4 := T.n_Reader_jumps
            have rlk0 : (fldsR rs A).lookup ("manner" : Str) = some (V.str rs.man) := rfl
            have rlk1 : (fldsR rs A).lookup ("options" : Str) = some (V.ref A.o) := rfl
            have rlk2 : (fldsR rs A).lookup ("lists" : Str) = some (V.ref A.l) := rfl
            have rlk3 : (fldsR rs A).lookup ("size" : Str) = some (V.int rs.size) := rfl
            have rlk4 : (fldsR rs A).lookup ("jumps" : Str) = some (V.ref A.j) := rfl
            have cP := T.cl_Program
            have p0 := T.n_Program_manner
            have p1 := T.n_Program_options
            have p2 := T.n_Program_lists
            have p3 := T.n_Program_lines
            have p4 := T.n_Program_size
            have p5 := T.n_Program_rows
            have p6 := T.n_Program_jumps
            have rp : r ≠ p := (ne_of_none ((s02 _ _ hp)) h4.r0).symm
            walk_at "gw"
            have k5 : ∀ c o, H4 c = some o → c ≠ p → upd (upd (upd H4 p (.ins Z.c_Program dx (putF "manner" (.str rs.man) []))) p (.ins Z.c_Program dx (putF "options" (.ref A.o) (putF "manner" (.str rs.man) [])))) p (.ins Z.c_Program dx (putF "lists" (.ref A.l) (putF "options" (.ref A.o) (putF "manner" (.str rs.man) [])))) c = some o := fun c o e n => Eg.upd_mut n (Eg.upd_mut n (Eg.upd_mut n e))
            have h5p : upd (upd (upd H4 p (.ins Z.c_Program dx (putF "manner" (.str rs.man) []))) p (.ins Z.c_Program dx (putF "options" (.ref A.o) (putF "manner" (.str rs.man) [])))) p (.ins Z.c_Program dx (putF "lists" (.ref A.l) (putF "options" (.ref A.o) (putF "manner" (.str rs.man) [])))) p = some (.ins Z.c_Program dx (putF "lists" (.ref A.l) (putF "options" (.ref A.o) (putF "manner" (.str rs.man) [])))) := upd_same
            generalize upd (upd (upd H4 p (.ins Z.c_Program dx (putF "manner" (.str rs.man) []))) p (.ins Z.c_Program dx (putF "options" (.ref A.o) (putF "manner" (.str rs.man) [])))) p (.ins Z.c_Program dx (putF "lists" (.ref A.l) (putF "options" (.ref A.o) (putF "manner" (.str rs.man) [])))) = H5 at k5 h5p ⊢
            have Dp : D ≠ p := ne_of (s4 _ _ h2D) h4p (fun z => nomatch z)
            have h5D := k5 _ _ (s4 _ _ h2D) Dp
            have rows5 : Paired (fun a r => H5 a = some (.lst (r.map fun n => V.str (S n)))) as (rowsOf t) := by
              rw [erows]
              exact pair_mapR (Paired.mapP pas fun _ _ a => k5 _ _ (s4 _ _ a.1) (ne_of (s4 _ _ a.1) h4p (fun z => nomatch z)))
            have lrows : (rowsOf t).length ≤ 50000 := by
              rw [erows, List.length_map]
              omega
            refine Eg.w_lc (Eg.w_iL ?_)
            walk_at "go"
            intro D3 hD3
            refine lc_list (xs := as.map V.ref) (fun i H' => Same H5 H' ∧ H' D3 = some (.lst (((rowsOf t).take i).map fun r => V.str (Txt.join " " (r.map S))))) ⟨Eg.same_new (Same.refl _) hD3, upd_same⟩ (fun i H' _ h => SqL.of (h.1 _ _ h5D)) ?_ ?_
            · rintro i x H6 hx ⟨s6, h6D⟩
              rw [List.getElem?_map] at hx
              obtain ⟨ra, hra, rfl⟩ := Option.map_eq_some_iff.mp hx
              obtain ⟨ro, hro, hra2⟩ := pair_getL rows5 hra
              obtain ⟨hlt, he⟩ := List.getElem?_eq_some_iff.mp hro
              refine Eg.w_gN (Eg.w_wipe rfl (Eg.w_yes (iteT ?_)))
              refine w_tM1 ?_
              walk_at "go"
              refine ⟨⟨_, rfl⟩, Eg.w_var rfl ?_⟩
              refine ⟨_, ra, ro.map S, rfl, rfl, .inl (SqL.of (by rw [List.map_map]; exact s6 _ _ hra2)), ?_, ?_⟩
              · rw [List.map_map, List.length_map]
                have e2 : (ro.map ((fun x : Str => x.length) ∘ S)).sum = (ro.map List.length).sum := by
                  congr 1
                rw [e2]
                have hro2 : (ls.map wordsOf)[i]? = some ro := by rw [← erows]; exact hro
                rw [List.getElem?_map] at hro2
                obtain ⟨l, hl2, rfl⟩ := Option.map_eq_some_iff.mp hro2
                have := words_sum l
                have := hpl l (List.mem_of_getElem? hl2)
                show _ + (wordsOf l).length * 1 ≤ _
                omega
              · refine ⟨_, h6D, by rw [List.length_map, List.length_take, sizeLine_eq]; omega, Eg.same_mut s6 hD3, ?_⟩
                rw [upd_same, List.take_succ_eq_append_getElem hlt, he, List.map_append]
                rfl
            · rintro H6 ⟨s6, h6D⟩
              rw [List.length_map, Paired.length rows5, List.take_length] at h6D
              have h6p := s6 _ _ h5p
              have h6DD := s6 _ _ h5D
              have rows6 := Paired.mapP rows5 fun _ _ e => s6 _ _ e
              walk_at "go"
              refine Eg.c_tupL (SqL.of h6D) fun tl htl => ?_
              have h7t : upd H6 tl (.tup ((rowsOf t).map fun r => V.str (Txt.join " " (r.map S)))) tl = some (.tup ((rowsOf t).map fun r => V.str (Txt.join " " (r.map S)))) := upd_same
              have s7 : Same H6 (upd H6 tl (.tup ((rowsOf t).map fun r => V.str (Txt.join " " (r.map S))))) := fun c o e => Eg.upd_old e htl
              generalize upd H6 tl (.tup ((rowsOf t).map fun r => V.str (Txt.join " " (r.map S)))) = H7 at s7 h7t ⊢
              have h7p := s7 _ _ h6p
              have h7o := (s6.trans s7) _ _ (k5 _ _ h4o rp)
              walk_at "gw"
              have k8 : ∀ c o, H7 c = some o → c ≠ p → upd (upd H7 p (.ins Z.c_Program dx (putF "lines" (.ref tl) (putF "lists" (.ref A.l) (putF "options" (.ref A.o) (putF "manner" (.str rs.man) [])))))) p (.ins Z.c_Program dx (putF "size" (.int rs.size) (putF "lines" (.ref tl) (putF "lists" (.ref A.l) (putF "options" (.ref A.o) (putF "manner" (.str rs.man) [])))))) c = some o := fun c o e n => Eg.upd_mut n (Eg.upd_mut n e)
              have h8p : upd (upd H7 p (.ins Z.c_Program dx (putF "lines" (.ref tl) (putF "lists" (.ref A.l) (putF "options" (.ref A.o) (putF "manner" (.str rs.man) [])))))) p (.ins Z.c_Program dx (putF "size" (.int rs.size) (putF "lines" (.ref tl) (putF "lists" (.ref A.l) (putF "options" (.ref A.o) (putF "manner" (.str rs.man) [])))))) p = some (.ins Z.c_Program dx (putF "size" (.int rs.size) (putF "lines" (.ref tl) (putF "lists" (.ref A.l) (putF "options" (.ref A.o) (putF "manner" (.str rs.man) [])))))) := upd_same
              generalize upd (upd H7 p (.ins Z.c_Program dx (putF "lines" (.ref tl) (putF "lists" (.ref A.l) (putF "options" (.ref A.o) (putF "manner" (.str rs.man) [])))))) p (.ins Z.c_Program dx (putF "size" (.int rs.size) (putF "lines" (.ref tl) (putF "lists" (.ref A.l) (putF "options" (.ref A.o) (putF "manner" (.str rs.man) [])))))) = H8 at k8 h8p ⊢
              have h8D := k8 _ _ (s7 _ _ h6DD) Dp
              have rows8 : Paired (fun a r => H8 a = some (.lst (r.map fun n => V.str (S n)))) as (rowsOf t) := Paired.mapP rows6 fun _ _ e => k8 _ _ (s7 _ _ e) (ne_of (s7 _ _ e) h7p (fun z => nomatch z))
              refine Eg.w_lc (Eg.w_iL ?_)
              walk_at "go"
              intro D4 hD4
              refine lc_list (xs := as.map V.ref) (fun i H' => ∃ us : List Addr, Same H8 H' ∧ H' D4 = some (.lst (us.map V.ref)) ∧ Paired (fun u (r : List Nm) => H' u = some (.tup (r.map fun n => V.str (S n))) ∧ u ≠ D4) us ((rowsOf t).take i)) ⟨[], Eg.same_new (Same.refl _) hD4, upd_same, .nil⟩ (fun i H' _ h => SqL.of (h.choose_spec.1 _ _ h8D)) ?_ ?_
              · rintro i x H9 hx ⟨us, s9, h9D, pus⟩
                rw [List.getElem?_map] at hx
                obtain ⟨ra, hra, rfl⟩ := Option.map_eq_some_iff.mp hx
                obtain ⟨ro, hro, hra2⟩ := pair_getL rows8 hra
                obtain ⟨hlt, he⟩ := List.getElem?_eq_some_iff.mp hro
                refine Eg.w_gN (Eg.w_wipe rfl (Eg.w_yes (iteT ?_)))
                walk_at "go"
                refine Eg.c_tupL (SqL.of (s9 _ _ hra2)) fun u hu => ?_
                have uD : u ≠ D4 := (ne_of_none h9D hu).symm
                have usl := Paired.length pus
                refine ⟨us.map V.ref, Eg.upd_old h9D hu, by rw [List.length_map, usl, List.length_take, sizeLine_eq]; omega, us ++ [u], Eg.same_mut (Eg.same_new s9 hu) hD4, by rw [upd_same, List.map_append]; rfl, ?_⟩
                rw [List.take_succ_eq_append_getElem hlt, he]
                exact pair_app (Paired.mapP pus fun _ _ ⟨e1, e2⟩ => ⟨by rw [upd_ne e2]; exact Eg.upd_old e1 hu, e2⟩) (.cons ⟨by rw [upd_ne uD]; exact upd_same, uD⟩ .nil)
              · rintro H9 ⟨us, s9, h9D, pus⟩
                rw [List.length_map, Paired.length rows8, List.take_length] at pus
                have h9p := s9 _ _ h8p
                walk_at "go"
                refine Eg.c_tupL (SqL.of h9D) fun tr htr => ?_
                have h10t : upd H9 tr (.tup (us.map V.ref)) tr = some (.tup (us.map V.ref)) := upd_same
                have s10 : Same H9 (upd H9 tr (.tup (us.map V.ref))) := fun c o e => Eg.upd_old e htr
                generalize upd H9 tr (.tup (us.map V.ref)) = H10 at s10 h10t ⊢
                have h10p := s10 _ _ h9p
                have h10o := s10 _ _ (s9 _ _ (k8 _ _ h7o rp))
                walk_at "go"
                have kB : ∀ {F1 F2 : HO} {c : Addr} {o : HO}, H10 c = some o → c ≠ p → upd (upd H10 p F1) p F2 c = some o := fun e n => Eg.upd_mut n (Eg.upd_mut n e)
                have kA : ∀ c o, H4 c = some o → c ≠ p → H10 c = some o := fun c o e n => s10 _ _ (s9 _ _ (k8 _ _ (s7 _ _ (s6 _ _ (k5 _ _ e n))) n))
                have np : ∀ {c : Addr} {xs : List V}, H4 c = some (.tup xs) → c ≠ p := fun e => ne_of e h4p (fun z => nomatch z)
                have np10 : ∀ {c : Addr} {xs : List V}, H10 c = some (.tup xs) → c ≠ p := fun e => ne_of e h10p (fun z => nomatch z)
                have jp : A.j ≠ p := ne_of h4.ju h4p (fun z => nomatch z)
                have tl10 := s10 _ _ (s9 _ _ (k8 _ _ h7t (ne_of h7t h7p (fun z => nomatch z))))
                refine q rs eN _ ⟨dx, A.o, A.l, tl, tr, A.j, us.map V.ref, A.jk, upd_same, kB (kA _ _ h4.op (np h4.op)) (np h4.op), kB (kA _ _ h4.li (np h4.li)) (np h4.li), kB tl10 (np10 tl10), kB h10t (np10 h10t), ?_, kB (kA _ _ h4.ju jp) jp, ?_⟩ fun c o e n => kB (kA _ _ ((s02.trans s4) _ _ e) n) n
                · have : ∀ {us : List Addr} {rr : List (List Nm)}, Paired (fun u (r : List Nm) => H9 u = some (.tup (r.map fun n => V.str (S n))) ∧ u ≠ D4) us rr → Paired (fun v (r : List Nm) => ∃ t, v = V.ref t ∧ upd (upd H10 p (.ins Z.c_Program dx (putF "rows" (.ref tr) (putF "size" (.int rs.size) (putF "lines" (.ref tl) (putF "lists" (.ref A.l) (putF "options" (.ref A.o) (putF "manner" (.str rs.man) [])))))))) p (.ins Z.c_Program dx (putF "jumps" (.ref A.j) (putF "rows" (.ref tr) (putF "size" (.int rs.size) (putF "lines" (.ref tl) (putF "lists" (.ref A.l) (putF "options" (.ref A.o) (putF "manner" (.str rs.man) [])))))))) t = some (.tup (r.map fun n => V.str (S n)))) (us.map V.ref) rr := by
                    intro us rr p
                    induction p with
                    | nil => exact .nil
                    | cons a _ ih => exact .cons ⟨_, rfl, kB (s10 _ _ a.1) (np10 (s10 _ _ a.1))⟩ ih
                  exact this pus
                · exact Paired.mapP h4.js fun _ _ ⟨t, e, e2⟩ => ⟨t, e, kB (kA _ _ e2 (np e2)) (np e2)⟩
          · rw [if_neg eb] at eN
            have bl1 : A.bls.isEmpty = false := by
              cases e : A.bls with
              | nil =>
                rw [e] at lbl
                exact absurd (List.length_eq_zero_iff.mp lbl.symm) eb
              | cons _ _ => rfl
            rw [bl1, if_pos (show (!false) = true from rfl)]
            have h4D := s4 _ _ h2D
            walk_at "go"
            rw [lrw]
            exact raise s4 eN
end
end LW
end

section
local macro_rules | `(tactic| walk_at "tx") => `(tactic| first
  | ((with_reducible refine' Eg.c_sfld ?hs ?hc ?hn ?hl ?_); (case hs => walk_at "hp"); (case hc => assumption); (case hn => assumption); (case hl => exact Nat.le_of_ble_eq_true rfl))
  | with_reducible refine Ex.w_rs ?_
  | with_reducible refine Po.w_tru ?_
  | ((with_reducible refine' Po.c_truL ?hs ?_); (case hs => walk_at "hp")))
local macro_rules | `(tactic| walk_at "at") => `(tactic| first | exact atI_nat (j := 0) rfl | exact atI_nat (j := 1) rfl | exact atI_nat (j := 2) rfl | exact atI_nat (j := 3) rfl | exact atI_nat (j := 4) rfl | exact atI_nat (j := 5) rfl | exact atI_nat (j := 6) rfl | exact atI_nat (j := 7) rfl)
namespace LW
open PySem L2 SX Tx
/-! laws of programs: what is drawn from the script -/
def BagR (H : Hp) (a : Addr) : Prop := ∃ x y z : Int, H a = some (.lst [.int x, .int y, .int z])
theorem BagR.ob {H : Hp} {a : Addr} (h : BagR H a) : ∃ xs, H a = some (.lst xs) := let ⟨_, _, _, e⟩ := h; ⟨_, e⟩
theorem BagR.to {H H' : Hp} {a : Addr} (h : BagR H a) (e : H' a = H a) : BagR H' a := let ⟨x, y, z, h1⟩ := h; ⟨x, y, z, e.trans h1⟩
theorem BagR.keep {H H' : Hp} {a : Addr} (h : BagR H a) (s : Same H H') : BagR H' a := let ⟨x, y, z, h1⟩ := h; ⟨x, y, z, s _ _ h1⟩
/-- all but the bag stands -/
def KeptB (b : Addr) (H H' : Hp) : Prop := ∀ c o, H c = some o → c ≠ b → H' c = some o
theorem KeptB.trans {b : Addr} {H H' H'' : Hp} (h : KeptB b H H') (h' : KeptB b H' H'') : KeptB b H H'' := fun c o e n => h' c o (h c o e n) n
theorem KeptB.of {b : Addr} {H H' : Hp} (h : Same H H') : KeptB b H H' := fun c o e _ => h c o e
theorem KeptB.fr {b : Addr} {H H' : Hp} (h : ∀ c, c ≠ b → H' c = H c) : KeptB b H H' := fun c o e n => (h c n).trans e
theorem atI_lt {ns : List Int} {i : Int} (h0 : 0 ≤ i) (h : i < ns.length) : ∃ z : Int, atI (ns.map V.int) i = some (.int z) := by
  obtain ⟨k, rfl⟩ := Int.eq_ofNat_of_zero_le h0
  have hk : k < ns.length := by omega
  exact ⟨ns[k], atI_nat (by rw [List.getElem?_map, List.getElem?_eq_getElem hk]; rfl)⟩
def sp_l_bag (K : PySem.W.Frag) : Sp := fun vs H Q _ => ∃ (a : Addr) (ns : List Int) (i : Nat), vs = [.ref a, .int (i : Int)] ∧ SqL K H a (ns.map V.int) ∧ ns.length ≤ 63 ∧ i < 100 ∧
  ∀ (b : Addr) (H' : Hp), H b = none → BagR H' b → Same H H' → Q (.ref b) H'
def sp_l_take : Sp := fun vs H Q _ => ∃ (a : Addr) (n : Int), vs = [.ref a, .int n] ∧ BagR H a ∧ 0 < n ∧ n < 1073741824 ∧
  ∀ (r : Int) (H' : Hp), 0 ≤ r → r < n → BagR H' a → (∀ b, b ≠ a → H' b = H b) → Q (.int r) H'
/-- a drawn name -/
def NameZ (n : Nm) : Prop := 2 ≤ n.length ∧ n.length ≤ 7 ∧ n.all low = true ∧ n.getLast? = some 122
def nameOf (sh : Bool) (d : List Nat) (k : Nat) : Nm := if sh then d ++ [97 + k, 122] else (97 + k) :: (d ++ [122])
theorem nameOf_z {sh : Bool} {d : List Nat} {k : Nat} (hd : d.all low = true) (hl : d.length ≤ 5) (hk : k < 26) : NameZ (nameOf sh d k) := by
  have lk : low (97 + k) = true := by
    unfold low
    rw [Bool.and_eq_true, decide_eq_true_eq, decide_eq_true_eq]
    omega
  cases sh with
  | true =>
    refine ⟨?_, ?_, ?_, ?_⟩
    · show 2 ≤ (d ++ [97 + k, 122]).length
      rw [List.length_append]
      simp
    · show (d ++ [97 + k, 122]).length ≤ 7
      rw [List.length_append]
      simp only [List.length_cons, List.length_nil]
      omega
    · show (d ++ [97 + k, 122]).all low = true
      rw [List.all_append, hd, List.all_cons, lk]
      rfl
    · show (d ++ [97 + k, 122]).getLast? = some 122
      rw [List.getLast?_append]
      rfl
  | false =>
    refine ⟨?_, ?_, ?_, ?_⟩
    · show 2 ≤ ((97 + k) :: (d ++ [122])).length
      rw [List.length_cons, List.length_append]
      simp
    · show ((97 + k) :: (d ++ [122])).length ≤ 7
      rw [List.length_cons, List.length_append]
      simp only [List.length_cons, List.length_nil]
      omega
    · show ((97 + k) :: (d ++ [122])).all low = true
      rw [List.all_cons, lk, List.all_append, hd]
      rfl
    · show ((97 + k) :: (d ++ [122])).getLast? = some 122
      rw [← List.cons_append, List.getLast?_concat]
theorem nameOf_ne {sh : Bool} {d e : List Nat} {k j : Nat} (h : k ≠ j) : nameOf sh d k ≠ nameOf sh e j := by
  cases sh with
  | true =>
    intro z
    have z : d ++ [97 + k, 122] = e ++ [97 + j, 122] := z
    have := congrArg List.reverse z
    rw [List.reverse_append, List.reverse_append] at this
    have := (List.cons.inj (List.cons.inj this).2).1
    omega
  | false =>
    intro z
    have := (List.cons.inj (show (97 + k) :: (d ++ [122]) = (97 + j) :: (e ++ [122]) from z)).1
    omega
def sp_l_names : Sp := fun vs H Q _ => ∃ (a : Addr) (n : Nat), vs = [.ref a, .int (n : Int)] ∧ BagR H a ∧ n ≤ 26 ∧
  ∀ (x : Addr) (ns : List Nm) (H' : Hp), H x = none → H' x = some (.lst (ns.map fun n => V.str (S n))) → ns.length = n → ns.Nodup → (∀ m ∈ ns, NameZ m) → BagR H' a → KeptB a H H' → Q (.ref x) H'
theorem low_at {r : Nat} (h : r < 26) : ((List.range 26).map (97 + ·))[r]? = some (97 + r) := by
  rw [List.getElem?_map, List.getElem?_range h]
  rfl
section
variable {P : Program} {w : World} {K : PySem.W.Frag} {mg : Str → Option Value} {base : Heap} {Z : Ad}
theorem ok_l_bag (T : Txt K mg Z) : FnOk P w K mg base CX0 1 Z.a_l_bag Z.d_l_bag ["_law_script", "_law_k"] (sp_l_bag K) := by
  refine T.F_l_bag.ok sc_l_bag (fun vs H Q E h => ?_) (fun cdv A outer s H vs Q E hr h => ?_)
  · obtain ⟨a, ns, i, rfl, _⟩ := h
    rfl
  · obtain ⟨a, ns, i, rfl, hS, hnl, hi, q⟩ := h
    have nd := sc_l_bag.nd
    refine ⟨_, (pss_cons (ps_set (i := 2) nd rfl (Or.inl rfl) pe_int)
  (C8.pss_cut (ps_if (pt_cmpR op_lt (pv 1) (pe_callB Eg.cr_len (by rfl) T.u_len (by decide +kernel) (pa_cons (pv 0) pa_nil)) (nomark _))
  (pss_one (ps_set (i := 2) nd rfl (Or.inl rfl) (pe_callTy Eg.cr_int (by rfl) T.u_int (by decide +kernel) (pa_cons (pe_ix ix_list (pv 0) (pv 1) (fun _ _ => rfl)) pa_nil))))
  pss_nil)
  (C8.pss_cut (ps_if (pt_cmpR op_lt (pv 2) pe_int (nomark _))
  (pss_one (ps_set (i := 2) nd rfl (Or.inl rfl) (pe_op op_sub pe_int (pe_op op_mul pe_int (pv 2)))))
  pss_nil)
  (pss_cons (ps_set (i := 3) nd rfl (Or.inl rfl) (pe_lst (pa_cons pe_int (pa_cons (pe_op op_mod (pe_op op_add (pe_op op_add (pe_op op_mul (pv 2) pe_int) (pe_op op_mul (pv 1) pe_int)) pe_int) pe_int) (pa_cons (pv 1) pa_nil)))))
  (C8.pss_cut (ps_if (pt_cmpR op_ge (pv 2) (pe_op op_pow pe_int pe_int) (nomark _))
  (pss_one (ps_asg (pv 2) (pg_sub (pv 3) pe_int set_list)))
  pss_nil)
  (pss_one (ps_ret (pv 3)))))))), ?_⟩
    refine Eg.w_sig (σ := [some (.ref a), some (.int (i : Int)), none, none]) rfl ?_
    walk_at "go"
    refine ⟨fun σ' H' => ∃ z : Int, σ' = [some (.ref a), some (.int (i : Int)), some (.int z), none] ∧ H = H', ?_, ?_⟩
    · walk_at "go"
      refine Eg.brD (fun h => ?_) (fun h => ?_)
      · obtain ⟨z, hz⟩ := atI_lt (i := (i : Int)) (by omega) (by simpa using h)
        walk_at "go"
        exact ⟨z, rfl, rfl⟩
      · walk_at "go"
        exact ⟨0, rfl, rfl⟩
    rintro _ _ ⟨z, rfl, rfl⟩
    refine ⟨fun σ' H' => ∃ z : Int, σ' = [some (.ref a), some (.int (i : Int)), some (.int z), none] ∧ H = H', ?_, ?_⟩
    · walk_at "go"
      refine Eg.brD (fun h => ?_) (fun h => ?_)
      · walk_at "go"
        exact ⟨_, rfl, rfl⟩
      · walk_at "go"
        exact ⟨_, rfl, rfl⟩
    rintro _ _ ⟨z', rfl, rfl⟩
    walk_at "go"
    intro b hb
    generalize hL : [V.int 0, V.int ((z' * 69621 + (i : Int) * 40692 + 11) % 2147483647), V.int (i : Int)] = L
    have h1b : upd H b (.lst L) b = some (.lst L) := upd_same
    have s1 : Same H (upd H b (.lst L)) := fun c o e => Eg.upd_old e hb
    generalize upd H b (.lst L) = H1 at h1b s1 ⊢
    rw [← hL] at h1b
    walk_at "go"
    refine ⟨fun σ' H' => σ' = [some (.ref a), some (.int (i : Int)), some (.int z'), some (.ref b)] ∧ BagR H' b ∧ ∀ c, c ≠ b → H' c = H1 c, ?_, ?_⟩
    · walk_at "go"
      refine Eg.brD (fun h => ?_) (fun h => ?_)
      · walk_at "go"
        exact ⟨rfl, ⟨_, _, _, upd_same⟩, fun c n => upd_ne n⟩
      · walk_at "go"
        exact ⟨rfl, ⟨_, _, _, h1b⟩, fun c n => rfl⟩
    rintro _ H2 ⟨rfl, hb2, k2⟩
    walk_at "go"
    exact q b H2 hb hb2 fun c o e => (k2 c (ne_of_none e hb)).trans (s1 _ _ e)
theorem ok_l_take (T : Txt K mg Z) : FnOk P w K mg base CX0 1 Z.a_l_take Z.d_l_take ["_law_bag_here", "_law_many"] sp_l_take := by
  refine T.F_l_take.ok sc_l_take (fun vs H Q E h => ?_) (fun cdv A outer s H vs Q E hr h => ?_)
  · obtain ⟨a, n, rfl, _⟩ := h
    rfl
  · obtain ⟨a, n, rfl, ⟨x, y, z, ha⟩, hn, hn2, q⟩ := h
    have nd := sc_l_take.nd
    refine ⟨_, (pss_cons (ps_if (pt_cmpR op_gt (pe_ix ix_list (pv 0) pe_int (fun _ _ => rfl)) pe_int (nomark _))
  (pss_cons (ps_set (i := 2) nd rfl (Or.inl rfl) (pe_op op_mod (pe_callTy Eg.cr_int (by rfl) T.u_int (by decide +kernel) (pa_cons (pe_ix ix_list (pv 0) pe_int (fun _ _ => rfl)) pa_nil)) (pv 1)))
  (pss_cons (ps_asg (pe_op op_fdiv (pe_ix ix_list (pv 0) pe_int (fun _ _ => rfl)) (pv 1)) (pg_sub (pv 0) pe_int set_list))
  (pss_one (ps_ret (pv 2)))))
  pss_nil)
  (pss_cons (ps_asg (pe_op op_add (pe_ix ix_list (pv 0) pe_int (fun _ _ => rfl)) pe_int) (pg_sub (pv 0) pe_int set_list))
  (pss_cons (ps_asg (pe_op op_mod (pe_op op_add (pe_op op_add (pe_op op_mul (pe_ix ix_list (pv 0) pe_int (fun _ _ => rfl)) pe_int) (pe_op op_mul (pe_ix ix_list (pv 0) pe_int (fun _ _ => rfl)) pe_int)) pe_int) pe_int) (pg_sub (pv 0) pe_int set_list))
  (pss_one (ps_ret (pe_op op_mod (pe_op op_mod (pe_callTy Eg.cr_int (by rfl) T.u_int (by decide +kernel) (pa_cons (pe_op op_add (pe_op op_mul (pe_ix ix_list (pv 0) pe_int (fun _ _ => rfl)) pe_int) (pe_op op_mul (pe_ix ix_list (pv 0) pe_int (fun _ _ => rfl)) pe_int)) pa_nil)) pe_int) (pv 1))))))), ?_⟩
    refine Eg.w_sig (σ := [some (.ref a), some (.int n), none]) rfl ?_
    walk_at "go"
    refine Eg.brD (fun h => ?_) (fun h => ?_)
    · walk_at "go"
      refine q _ _ (Int.emod_nonneg _ (by omega)) (Int.emod_lt_of_pos _ hn) ⟨_, _, _, upd_same⟩ fun b hb => ?_
      rw [upd_ne hb]
    · walk_at "go"
      refine q _ _ (Int.emod_nonneg _ (by omega)) (Int.emod_lt_of_pos _ hn) ⟨_, _, _, upd_same⟩ fun b hb => ?_
      rw [upd_ne hb, upd_ne hb]
theorem ok_l_names (T : Txt K mg Z) : FnOk P w K mg base CX0 2 Z.a_l_names Z.d_l_names ["_law_bag_here", "_law_many"] sp_l_names := by
  refine T.F_l_names.ok sc_l_names (fun vs H Q E h => ?_) (fun cdv A outer s H vs Q E hr h => ?_)
  · obtain ⟨a, n, rfl, _⟩ := h
    rfl
  · obtain ⟨a, n, rfl, hb, hn, q⟩ := h
    have nd := sc_l_names.nd
    refine ⟨_, (pss_cons (ps_set (i := 2) nd rfl (Or.inl rfl) pe_str)
  (pss_cons (ps_set (i := 3) nd rfl (Or.inl rfl) (pe_call (ok_l_take T) (hr.mono (by decide)) (by rfl) T.g_l_take T.F_l_take.kp T.b_l_take .nil pass0 (pa_cons (pv 0) (pa_cons pe_int pa_nil))))
  (pss_cons (ps_set (i := 4) nd rfl (Or.inl rfl) (pe_lst pa_nil))
  (pss_cons (ps_for PassesOwn.never rfl (pi_range1 (by rfl) T.u_range (pa_cons (pv 1) pa_nil)) (pg_name (i := 5) nd rfl (Or.inl rfl))
  (pss_cons (ps_set (i := 6) nd rfl (Or.inl rfl) pe_str)
  (pss_cons (ps_for PassesOwn.never rfl (pi_range1 (by rfl) T.u_range (pa_cons (pe_call (ok_l_take T) (hr.mono (by decide)) (by rfl) T.g_l_take T.F_l_take.kp T.b_l_take .nil pass0 (pa_cons (pv 0) (pa_cons pe_int pa_nil))) pa_nil)) (pg_name (i := 7) nd rfl (Or.inl rfl))
  (pss_one (ps_set (i := 6) nd rfl (Or.inl rfl) (pe_op Es.op_addS (pv 6) (pe_ix ix_str (pv 2) (pe_call (ok_l_take T) (hr.mono (by decide)) (by rfl) T.g_l_take T.F_l_take.kp T.b_l_take .nil pass0 (pa_cons (pv 0) (pa_cons pe_int pa_nil))) (fun _ _ => rfl))))))
  (pss_one (ps_if (pt_cmpR op_eq (pv 3) pe_int (nomark _))
  (pss_one (ps_expr (pe_bm PySem.F.plainAttrs_list PySem.F.slot_list_append PySem.F.type_list_append mt_append (pv 4) (pa_cons (pe_op Es.op_addS (pe_op Es.op_addS (pv 6) (pe_ix ix_str (pv 2) (pe_op op_mod (pv 5) pe_int) (fun _ _ => rfl))) pe_str) pa_nil))))
  (pss_one (ps_expr (pe_bm PySem.F.plainAttrs_list PySem.F.slot_list_append PySem.F.type_list_append mt_append (pv 4) (pa_cons (pe_op Es.op_addS (pe_op Es.op_addS (pe_ix ix_str (pv 2) (pe_op op_mod (pv 5) pe_int) (fun _ _ => rfl)) (pv 6)) pe_str) pa_nil)))))))))
  (pss_one (ps_ret (pv 4))))))), ?_⟩
    refine Eg.w_sig (σ := [some (.ref a), some (.int (n : Int)), none, none, none, none, none, none]) rfl ?_
    obtain ⟨bs, eb⟩ := hb.ob
    walk_at "go"
    refine ⟨a, _, rfl, hb, by decide, by decide, fun r H1 r0 r1 hb1 f1 => ?_⟩
    obtain ⟨bs1, eb1⟩ := hb1.ob
    walk_at "go"
    intro F hF
    have hFa : F ≠ a := (ne_of_none eb1 hF).symm
    have h0F : H F = none := by rw [← f1 F hFa]; exact hF
    have k2 : KeptB a H (upd H1 F (.lst [])) := (KeptB.fr f1).trans (.of fun c o e => Eg.upd_old e hF)
    have h2F : upd H1 F (.lst []) F = some (.lst []) := upd_same
    have hb2 : BagR (upd H1 F (.lst [])) a := hb1.keep fun c o e => Eg.upd_old e hF
    generalize upd H1 F (.lst []) = H2 at k2 h2F hb2 ⊢
    rw [low_S]
    walk_at "go"
    refine for_range (lo := 0) (fun i σ' H' => ∃ (ds : List (List Nat)) (v5 v6 v7 : Option V), σ' = [some (.ref a), some (.int (n : Int)), some (.str (S ((List.range 26).map (97 + ·)))), some (.int r), some (.ref F), v5, v6, v7] ∧ H' F = some (.lst ((List.range i).map fun k => V.str (S (nameOf (decide (r = 0)) (ds.getD k []) k)))) ∧ ds.length = i ∧ (∀ d ∈ ds, d.all low = true ∧ d.length ≤ 5) ∧ BagR H' a ∧ KeptB a H H') ⟨[], none, none, none, rfl, h2F, rfl, (fun _ z => nomatch z), hb2, k2⟩ ?_ ?_
    · rintro i _ H3 hi ⟨ds, v5, v6, v7, rfl, h3F, dl, dok, hb3, k3⟩
      walk_at "go"
      refine ⟨a, _, rfl, hb3, by decide, by decide, fun r2 H4 r20 r21 hb4 f4 => ?_⟩
      have h4F := (f4 F hFa).trans h3F
      have k4 := k3.trans (.fr f4)
      have i26 : i < 26 := by omega
      obtain ⟨m2, rfl⟩ := Int.eq_ofNat_of_zero_le r20
      walk_at "go"
      refine for_range (lo := 0) (fun j σ' H' => ∃ (d : List Nat) (v7 : Option V), σ' = [some (.ref a), some (.int (n : Int)), some (.str (S ((List.range 26).map (97 + ·)))), some (.int r), some (.ref F), some (.int (0 + (i : Int))), some (.str (S d)), v7] ∧ d.length = j ∧ d.all low = true ∧ H' F = some (.lst ((List.range i).map fun k => V.str (S (nameOf (decide (r = 0)) (ds.getD k []) k)))) ∧ BagR H' a ∧ KeptB a H H') ⟨[], v7, rfl, rfl, rfl, h4F, hb4, k4⟩ ?_ ?_
      · rintro j _ H5 hj ⟨d, v7, rfl, dlen, dlow, h5F, hb5, k5⟩
        have d5 : d.length < 6 := by omega
        walk_at "go"
        refine ⟨a, _, rfl, hb5, by decide, by decide, fun r3 H6 r30 r31 hb6 f6 => ?_⟩
        obtain ⟨m3, rfl⟩ := Int.eq_ofNat_of_zero_le r30
        have m26 : m3 < 26 := by omega
        have h6F := (f6 F hFa).trans h5F
        refine Tw.c_ixS (by decide) rfl (low_at m26) ?_
        walk_at "go"
        refine ⟨_, _, rfl, by rw [List.length_append, dlen]; rfl, ?_, h6F, hb6, k5.trans (.fr f6)⟩
        rw [List.all_append, dlow, List.all_cons]
        have : low (97 + m3) = true := by
          unfold low
          rw [Bool.and_eq_true, decide_eq_true_eq, decide_eq_true_eq]
          omega
        rw [this]
        rfl
      · rintro _ H5 ⟨d, v7, rfl, dlen, dlow, h5F, hb5, k5⟩
        have d5 : d.length < 6 := by omega
        have dap : ∀ k ∈ List.range i, V.str (S (nameOf (decide (r = 0)) ((ds ++ [d]).getD k []) k)) = V.str (S (nameOf (decide (r = 0)) (ds.getD k []) k)) := fun k hk => by
          have := List.mem_range.mp hk
          rw [List.getD_eq_getElem?_getD, List.getD_eq_getElem?_getD, List.getElem?_append_left (by omega)]
        have dat : (ds ++ [d]).getD i [] = d := by
          rw [List.getD_eq_getElem?_getD, ← dl, List.getElem?_append_right (Nat.le_refl _), Nat.sub_self]
          rfl
        have fin : (List.range (i + 1)).map (fun k => V.str (S (nameOf (decide (r = 0)) ((ds ++ [d]).getD k []) k))) = ((List.range i).map fun k => V.str (S (nameOf (decide (r = 0)) (ds.getD k []) k))) ++ [V.str (S (nameOf (decide (r = 0)) d i))] := by
          rw [List.range_succ, List.map_append, List.map_congr_left dap, List.map_cons, List.map_nil, dat]
        have dok2 : ∀ e ∈ ds ++ [d], e.all low = true ∧ e.length ≤ 5 := fun e he => by
          rcases List.mem_append.mp he with he | he
          · exact dok e he
          · rw [List.mem_singleton.mp he]
            exact ⟨dlow, by omega⟩
        have im : ((0 + (i : Int)) % 26) = ((i : Nat) : Int) := by omega
        have rdec : decide (V.int r = V.int 0) = decide (r = 0) := decide_eq_decide.mpr ⟨fun z => V.int.inj z, fun z => by rw [z]⟩
        have zS : ("z" : Str) = S [122] := by decide +kernel
        have dsl : ((List.range i).map fun k => V.str (S (nameOf (decide (r = 0)) (ds.getD k []) k))).length < 100000 := by rw [List.length_map, List.length_range]; omega
        walk_at "go"
        rw [rdec]
        rw [zS]
        cases hsh : decide (r = 0) with
        | true =>
          rw [hsh] at fin h5F dsl
          walk_at "go"
          refine Tw.c_ixS (by decide) im (low_at i26) ?_
          walk_at "go"
          refine ⟨ds ++ [d], _, _, _, rfl, ?_, by rw [List.length_append, dl]; rfl, dok2, hb5.to (upd_ne hFa.symm), fun c o e n => (upd_ne (ne_of_none e h0F)).trans (k5 c o e n)⟩
          rw [upd_same, fin]
          congr 3
          show [V.str (S (d ++ [97 + i] ++ [122]))] = [V.str (S (d ++ [97 + i, 122]))]
          rw [List.append_assoc]
          rfl
        | false =>
          rw [hsh] at fin h5F dsl
          walk_at "go"
          refine Tw.c_ixS (by decide) im (low_at i26) ?_
          walk_at "go"
          refine ⟨ds ++ [d], _, _, _, rfl, ?_, by rw [List.length_append, dl]; rfl, dok2, hb5.to (upd_ne hFa.symm), fun c o e n => (upd_ne (ne_of_none e h0F)).trans (k5 c o e n)⟩
          rw [upd_same, fin]
          rfl
    rintro _ H3 ⟨ds, v5, v6, v7, rfl, h3F, dl, dok, hb3, k3⟩
    walk_at "go"
    refine q F ((List.range n).map fun k => nameOf (decide (r = 0)) (ds.getD k []) k) H3 h0F (by rw [h3F, List.map_map, Int.toNat_natCast]; rfl) (by rw [List.length_map, List.length_range]) ?_ ?_ hb3 k3
    · rw [Int.toNat_natCast] at dl
      refine List.pairwise_iff_getElem.mpr fun i j hi hj hij => ?_
      rw [List.getElem_map, List.getElem_map, List.getElem_range, List.getElem_range]
      exact nameOf_ne (Nat.ne_of_lt hij)
    · intro m hm
      rw [Int.toNat_natCast] at dl
      obtain ⟨k, hk, rfl⟩ := List.mem_map.mp hm
      have hk := List.mem_range.mp hk
      have hg : ds.getD k [] ∈ ds := by
        rw [List.getD_eq_getElem?_getD, List.getElem?_eq_getElem (by omega)]
        exact List.getElem_mem _
      exact nameOf_z (dok _ hg).1 (dok _ hg).2 (by omega)
end
end LW
end

section
local macro_rules | `(tactic| walk_at "tx") => `(tactic| first
  | ((with_reducible refine' Eg.c_sfld ?hs ?hc ?hn ?hl ?_); (case hs => walk_at "hp"); (case hc => assumption); (case hn => assumption); (case hl => exact Nat.le_of_ble_eq_true rfl))
  | with_reducible refine Ex.w_rs ?_
  | with_reducible refine Ex.w_xg ?_
  | with_reducible refine Co.w_makeS ?_
  | with_reducible refine Po.w_tru ?_
  | ((with_reducible refine' Po.c_truL ?hs ?_); (case hs => walk_at "hp")))
local macro_rules | `(tactic| walk_at "at") => `(tactic| first | exact atI_nat (j := 0) rfl | exact atI_nat (j := 1) rfl | exact atI_nat (j := 2) rfl | exact atI_nat (j := 3) rfl | exact atI_nat (j := 4) rfl | exact atI_nat (j := 5) rfl | exact atI_nat (j := 6) rfl | exact atI_nat (j := 7) rfl)
namespace LW
open PySem L2 SX Tx
/-! laws of programs: at which line a text is refused -/
def atOf : RS ⊕ Nat → Int
  | .inl _ => -2
  | .inr a => (a : Int)
def sp_l_at : Sp := fun vs H Q _ => ∃ x : V, vs = [x] ∧ ((NoS H x ∧ ∀ H', Same H H' → Q (.int (-1)) H') ∨ ∃ t : List Nat, x = .str (S t) ∧ Fits t ∧ ∀ H', Same H H' → Q (.int (atOf (progR (rowsOf t)))) H')
/-- isinstance of a plain value while an exception is handled -/
theorem cr_isiS {X : Cx} {a : Addr} {oe : Obj} {pn : List (Addr × Obj)} : CallR (X.suite a ((a, oe) :: pn)) (.builtin "isinstance") (rIsi X.K) := call_isi
section
variable {P : Program} {w : World} {K : PySem.W.Frag} {mg : Str → Option Value} {base : Heap} {Z : Ad}
set_option maxHeartbeats 8000000 in
theorem ok_l_at (T : Txt K mg Z) : FnOk P w K mg base CX0 8 Z.a_l_at Z.d_l_at ["_law_text"] sp_l_at := by
  refine T.F_l_at.ok sc_l_at (fun vs H Q E h => ?_) (fun cdv A outer s H vs Q E hr h => ?_)
  · obtain ⟨x, rfl, _⟩ := h
    rfl
  · obtain ⟨x, rfl, h⟩ := h
    have nd := sc_l_at.nd
    refine ⟨_, (pss_cons (Ex.ps_try_hds (Wout := fun _ _ _ _ => False) rfl rfl takes0 (fun W pn xe tk po => (pss_one (ps_expr (Co.pe_makeS T.mk_Program ((ok_Program_initX T).raw T.b_Program_init .nil) (hr.mono (by decide)) (by rfl) T.g_Program (fun σ => passAt tk σ) (pa_cons (pv 0) pa_nil)))))
  (.as (i := 1) nd rfl rfl (Ex.test_one ⟨by rfl, by decide, .inl T.g_BadProgram⟩) (fun a oe cls d pn hz hf hb => (pss_cons (ps_if (PW.pt (pw_or (pt_not (pt_val (pe_callB (Ex.cr_isX hz hf) (by rfl) T.u_isinstance (by decide +kernel) (pa_cons (pv 1) (pa_cons (pe_glob (v := .ref Z.c_OwnholesError) (by rfl) T.g_OwnholesError rfl) pa_nil))))) (pw_or (pt_not (pt_val (pe_callB cr_isiS (by rfl) T.u_isinstance (by decide +kernel) (pa_cons (Ex.pe_xg hz hf (pv 1)) (pa_cons (pe_bltn (v := .ty "int") (u := .type "int") (by rfl) T.u_int (by decide +kernel) rfl) pa_nil))))) (pw_or1 (pt_val (pe_callB cr_isiS (by rfl) T.u_isinstance (by decide +kernel) (pa_cons (Ex.pe_xg hz hf (pv 1)) (pa_cons (pe_bltn (v := .ty "bool") (u := .type "bool") (by rfl) T.u_bool (by decide +kernel) rfl) pa_nil))))))))
  (pss_one (ps_ret (pe_un un_neg pe_int)))
  pss_nil)
  (pss_one (ps_ret (Ex.pe_xg hz hf (pv 1))))))
  .nil))
  (pss_one (ps_ret (pe_un un_neg pe_int)))), ?_⟩
    refine Eg.w_sig (σ := [some x, none]) rfl ?_
    walk_at "go"
    have cB : RelV (V.ref Z.c_OwnholesError) (.ref Z.c_OwnholesError) := rfl
    intro p dx hp hdx hne
    have s1 : Same H (upd (upd H dx (.own p)) p (.ins Z.c_Program dx [])) := fun c o e => by
      rw [upd_ne (ne_of_none e hp), upd_ne (ne_of_none e hdx)]
      exact e
    have h1p : upd (upd H dx (.own p)) p (.ins Z.c_Program dx []) p = some (.ins Z.c_Program dx []) := upd_same
    generalize upd (upd H dx (.own p)) p (.ins Z.c_Program dx []) = H1 at s1 h1p ⊢
    rcases h with ⟨no, q⟩ | ⟨t, rfl, fit, q⟩
    · refine ⟨p, dx, x, rfl, h1p, .inl ⟨no.keep s1, fun d H2 hd h2d s2 => ?_⟩⟩
      have h2d : H2 d = some (.xd [("at", V.int (-1))]) := h2d
      refine Ex.hd_yes (T.xn_BadProgram.exm T.s_BadProgram_BadProgram) fun e he => ?_
      walk_at "go"
      refine Ex.c_isX h2d T.x_BadProgram.xc (fun u r => r) (T.xn_OwnholesError.kit T.s_BadProgram_OwnholesError T.s_OwnholesError_OwnholesError) ?_
      walk_at "go"
      refine Ex.c_xg T.x_BadProgram.xc T.no_BadProgram_at h2d rfl ?_
      walk_at "go"
      refine Eg.c_isi (.ty _) (.base (.int (-1))) (kit_ty (b := "int") (r := true) (by decide +kernel)) ?_
      walk_at "go"
      refine Ex.c_xg T.x_BadProgram.xc T.no_BadProgram_at h2d rfl ?_
      walk_at "go"
      refine Eg.c_isi (.ty _) (.base (.int (-1))) (kit_ty (b := "bool") (r := false) (by decide +kernel)) ?_
      walk_at "go"
      refine Ex.c_xg T.x_BadProgram.xc T.no_BadProgram_at h2d rfl ?_
      walk_at "go"
      exact q H2 (s1.trans s2)
    · refine ⟨p, dx, _, rfl, h1p, .inr ⟨t, rfl, fit, fun a ea d H2 hd h2d s2 => ?_, fun rs er H2 hP kk => ?_⟩⟩
      · rw [ea] at q
        have h2d : H2 d = some (.xd [("at", V.int (a : Int))]) := h2d
        refine Ex.hd_yes (T.xn_BadProgram.exm T.s_BadProgram_BadProgram) fun e he => ?_
        walk_at "go"
        refine Ex.c_isX h2d T.x_BadProgram.xc (fun u r => r) (T.xn_OwnholesError.kit T.s_BadProgram_OwnholesError T.s_OwnholesError_OwnholesError) ?_
        walk_at "go"
        refine Ex.c_xg T.x_BadProgram.xc T.no_BadProgram_at h2d rfl ?_
        walk_at "go"
        refine Eg.c_isi (.ty _) (.base (.int (a : Int))) (kit_ty (b := "int") (r := true) (by decide +kernel)) ?_
        walk_at "go"
        refine Ex.c_xg T.x_BadProgram.xc T.no_BadProgram_at h2d rfl ?_
        walk_at "go"
        refine Eg.c_isi (.ty _) (.base (.int (a : Int))) (kit_ty (b := "bool") (r := false) (by decide +kernel)) ?_
        walk_at "go"
        refine Ex.c_xg T.x_BadProgram.xc T.no_BadProgram_at h2d rfl ?_
        walk_at "go"
        exact q H2 (s1.trans s2)
      · rw [er] at q
        refine ⟨rfl, ?_⟩
        walk_at "go"
        exact (q H2 fun c o e => kk _ _ (s1 _ _ e) (ne_of_none e hp))
end
end LW
end

section
local macro_rules | `(tactic| walk_at "tx") => `(tactic| first
  | ((with_reducible refine' Eg.c_sfld ?hs ?hc ?hn ?hl ?_); (case hs => walk_at "hp"); (case hc => assumption); (case hn => assumption); (case hl => exact Nat.le_of_ble_eq_true rfl))
  | with_reducible refine Po.w_tru ?_
  | ((with_reducible refine' Po.c_truL ?hs ?_); (case hs => walk_at "hp")))
local macro_rules | `(tactic| walk_at "at") => `(tactic| first | exact atI_nat (j := 0) rfl | exact atI_nat (j := 1) rfl | exact atI_nat (j := 2) rfl | exact atI_nat (j := 3) rfl | exact atI_nat (j := 4) rfl | exact atI_nat (j := 5) rfl | exact atI_nat (j := 6) rfl | exact atI_nat (j := 7) rfl)
namespace LW
open PySem L2 SX Tx
/-! plain: a program keeps its lines' fate under other names -/
theorem S_of (w : Str) : S w.cps.toList = w := by
  obtain ⟨a⟩ := w
  rfl
/-- a renaming: one to one, only names move, and they stay names -/
structure Ren (ρ : Nm → Nm) : Prop where
  inj : ∀ x y, ρ x = ρ y → x = y
  nm : ∀ x, nameB (ρ x) = nameB x
  lt : ∀ x, litL (ρ x) = litL x
  nu : ∀ x, numB (ρ x) = numB x
  fx : ∀ x, nameB x = false → ρ x = x
section
variable {ρ : Nm → Nm}
theorem Ren.eqN (R : Ren ρ) (x y : Nm) : ρ x = ρ y ↔ x = y := ⟨R.inj x y, fun e => by rw [e]⟩
theorem Ren.eqW (R : Ren ρ) (w : Str) (hw : nameB w.cps.toList = false) (x : Nm) : S (ρ x) = w ↔ S x = w := by
  constructor
  · intro e
    have e1 : ρ x = w.cps.toList := S_inj (e.trans (S_of w).symm)
    have n : nameB x = false := by rw [← R.nm, e1]; exact hw
    rw [R.fx x n] at e
    exact e
  · intro e
    have e1 : x = w.cps.toList := S_inj (e.trans (S_of w).symm)
    rw [R.fx x (by rw [e1]; exact hw)]
    exact e
theorem Ren.memW (R : Ren ρ) (x : Nm) : ∀ ws : List Str, (ws.all fun w => !nameB w.cps.toList) = true → (S (ρ x) ∈ ws ↔ S x ∈ ws)
  | [], _ => by simp
  | w :: r, h => by
    rw [List.all_cons, Bool.and_eq_true] at h
    rw [List.mem_cons, List.mem_cons, R.memW x r h.2, R.eqW w (by simpa using h.1) x]
theorem Ren.nil (R : Ren ρ) : ρ [] = [] := R.fx [] rfl
theorem Ren.getD (R : Ren ρ) : ∀ (ps : List Nm) (i : Nat), (ps.map ρ).getD i [] = ρ (ps.getD i [])
  | [], i => by rw [List.map_nil]; simp [R.nil]
  | p :: r, 0 => rfl
  | p :: r, i + 1 => R.getD r i
/-- keys renamed -/
def rnK {β : Type} (ρ : Nm → Nm) (xs : List (Nm × β)) : List (Nm × β) := xs.map fun p => (ρ p.1, p.2)
theorem getA_ren {β : Type} (R : Ren ρ) (n : Nm) : ∀ xs : List (Nm × β), getA (rnK ρ xs) (ρ n) = getA xs n
  | [] => rfl
  | x :: r => by
    have ih := getA_ren R n r
    unfold getA rnK at ih ⊢
    rw [List.map_cons, List.find?_cons, List.find?_cons]
    by_cases e : x.1 = n
    · rw [decide_eq_true e, decide_eq_true (show (ρ x.1, x.2).1 = ρ n from (R.eqN _ _).mpr e)]
      rfl
    · rw [decide_eq_false e, decide_eq_false (show ¬ (ρ x.1, x.2).1 = ρ n from fun z => e ((R.eqN _ _).mp z))]
      exact ih
theorem any_ren {β : Type} (R : Ren ρ) (n : Nm) (xs : List (Nm × β)) : ((rnK ρ xs).any fun p => decide (p.1 = ρ n)) = xs.any fun p => decide (p.1 = n) := by
  unfold rnK
  rw [List.any_map]
  congr 1
  funext p
  exact decide_eq_decide.mpr (R.eqN _ _)
theorem putA_ren {β : Type} (R : Ren ρ) (n : Nm) (v : β) (xs : List (Nm × β)) : putA (rnK ρ xs) (ρ n) v = rnK ρ (putA xs n v) := by
  unfold putA
  rw [any_ren R]
  split
  · unfold rnK
    rw [List.map_map, List.map_map]
    refine List.map_congr_left fun p _ => ?_
    show (if ρ p.1 = ρ n then (ρ p.1, v) else (ρ p.1, p.2)) = (ρ (if p.1 = n then (p.1, v) else p).1, (if p.1 = n then (p.1, v) else p).2)
    by_cases e : p.1 = n
    · rw [if_pos e, if_pos ((R.eqN _ _).mpr e)]
    · rw [if_neg e, if_neg (fun z => e ((R.eqN _ _).mp z))]
  · unfold rnK
    rw [List.map_append]
    rfl
def rnR (ρ : Nm → Nm) (rs : RS) : RS := { rs with opts := rs.opts.map ρ, lsts := rs.lsts.map ρ, scs := rs.scs.map (rnK ρ), szs := rnK ρ rs.szs }
theorem kindO_ren (R : Ren ρ) (n : Nm) : ∀ scs : List (List (Nm × Str)), kindO (scs.map (rnK ρ)) (ρ n) = kindO scs n
  | [] => rfl
  | s :: r => by
    have ih := kindO_ren R n r
    unfold kindO at ih ⊢
    rw [List.map_cons, List.findSome?_cons, List.findSome?_cons, getA_ren R, ih]
theorem kind_ren (R : Ren ρ) (rs : RS) (n : Nm) : kindOf (rnR ρ rs).scs (ρ n) = kindOf rs.scs n := by
  show (kindO (rs.scs.map (rnK ρ)) (ρ n)).getD "" = (kindO rs.scs n).getD ""
  rw [kindO_ren R]
theorem modL_ren (R : Ren ρ) (n : Nm) (k : Str) (scs : List (List (Nm × Str))) : modL (scs.map (rnK ρ)) (ρ n) k = (modL scs n k).map (rnK ρ) := by
  cases e : scs.getLast? with
  | none =>
    rw [List.getLast?_eq_none_iff] at e
    rw [e]
    rfl
  | some l =>
    obtain ⟨i, rfl⟩ := List.getLast?_eq_some_iff.mp e
    rw [modL_app, List.map_append, List.map_cons, List.map_nil, modL_app, putA_ren R, List.map_append]
    rfl
theorem value_ren (R : Ren ρ) (rs : RS) (n : Nm) : valueB (rnR ρ rs) (ρ n) = valueB rs n := by
  unfold valueB
  rw [kind_ren R]
theorem local_ren (R : Ren ρ) (rs : RS) (n : Nm) : localB (rnR ρ rs) (ρ n) = localB rs n := by
  unfold localB
  show (decide (rs.loop = 0) || ((rs.scs.map (rnK ρ)).drop rs.loop).any fun sc => (getA sc (ρ n)).isSome) = _
  rw [← List.map_drop, List.any_map]
  congr 2
  funext sc
  show (getA (rnK ρ sc) (ρ n)).isSome = _
  rw [getA_ren R]
theorem grow_ren (R : Ren ρ) (rs : RS) (n : Nm) (m : Int) : growR (rnR ρ rs) (ρ n) m = rnR ρ (growR rs n m) := by
  unfold growR
  have e : getA (rnR ρ rs).szs (ρ n) = getA rs.szs n := getA_ren R n rs.szs
  rw [e]
  show ({ rnR ρ rs with szs := putA (rnK ρ rs.szs) (ρ n) _, size := _ } : RS) = _
  rw [putA_ren R]
  rfl
theorem decl_ren (R : Ren ρ) (rs : RS) (n : Nm) (k : Str) : declR (rnR ρ rs) (ρ n) k = (declR rs n k).map (rnR ρ) := by
  unfold declR
  rw [R.nm, kind_ren R]
  split
  · show some ({ rnR ρ rs with scs := modL (rs.scs.map (rnK ρ)) (ρ n) k, szs := putA (rnK ρ rs.szs) (ρ n) 0 } : RS) = _
    rw [modL_ren R, putA_ren R]
    rfl
  · rfl
theorem open_ren (rs : RS) (a : Nat) (k : Str) : openR (rnR ρ rs) a k = (openR rs a k).map (rnR ρ) := by
  unfold openR
  show (if rs.blks.length ≥ 4 then none else some _) = _
  split
  · rfl
  · show some _ = some _
    refine congrArg some ?_
    show ({ rnR ρ rs with blks := rs.blks ++ [(a, k)], scs := rs.scs.map (rnK ρ) ++ [[]], jmps := putA rs.jmps a (-1, -1) } : RS) = { rnR ρ { rs with blks := rs.blks ++ [(a, k)], scs := rs.scs ++ [[]], jmps := putA rs.jmps a (-1, -1) } with scs := (rs.scs ++ [[]]).map (rnK ρ) }
    rw [List.map_append]
    rfl
theorem decAll_ren (R : Ren ρ) (k : Str) : ∀ (ns : List Nm) (rs : RS), decAll (rnR ρ rs) k (ns.map ρ) = (decAll rs k ns).map (rnR ρ)
  | [], rs => rfl
  | n :: r, rs => by
    rw [List.map_cons, decAll, decAll, decl_ren R]
    cases declR rs n k with
    | none => rfl
    | some rs1 => exact decAll_ren R k r rs1
theorem decls_ren (R : Ren ρ) (k : Str) (ns : List Nm) (rs : RS) : declsR (rnR ρ rs) (ns.map ρ) k = (declsR rs ns k).map (rnR ρ) := by
  unfold declsR
  rw [List.length_map]
  split
  · exact decAll_ren R k ns rs
  · rfl
theorem Ren.dW (R : Ren ρ) (w : Str) (hw : nameB w.cps.toList = false) (x : Nm) : decide (S (ρ x) = w) = decide (S x = w) := decide_eq_decide.mpr (R.eqW w hw x)
theorem Ren.dM (R : Ren ρ) (ws : List Str) (hw : (ws.all fun w => !nameB w.cps.toList) = true) (x : Nm) : decide (S (ρ x) ∈ ws) = decide (S x ∈ ws) := decide_eq_decide.mpr (R.memW x ws hw)
theorem down_ren (R : Ren ρ) (ps : List Nm) : downB (ps.map ρ) = downB ps := by
  unfold downB
  rw [← List.map_drop]
  generalize ps.drop 4 = l
  match l with
  | [] => rfl
  | [x] =>
    refine congr (congrArg _ (decide_eq_decide.mpr ⟨(fun z => nomatch z), (fun z => nomatch z)⟩)) (decide_eq_decide.mpr ?_)
    show [S (ρ x)] = (["down"] : List Str) ↔ [S x] = (["down"] : List Str)
    rw [List.cons_eq_cons, List.cons_eq_cons, R.eqW "down" (by decide +kernel)]
  | x :: y :: r =>
    refine congr (congrArg _ (decide_eq_decide.mpr ⟨(fun z => nomatch z), (fun z => nomatch z)⟩)) (decide_eq_decide.mpr ⟨fun z => ?_, fun z => ?_⟩)
    · have := congrArg List.length z
      simp at this
    · have := congrArg List.length z
      simp at this
theorem each_ren (R : Ren ρ) (rs : RS) (a : Nat) (ps : List Nm) : eachR (rnR ρ rs) a (ps.map ρ) = (eachR rs a ps).map (rnR ρ) := by
  unfold eachR
  rw [List.length_map, R.getD, R.getD, R.getD, R.dW "of" (by decide +kernel), down_ren R, kind_ren R, show (rnR ρ rs).loop = rs.loop from rfl]
  split
  · rw [open_ren]
    cases openR rs a "each" with
    | none => rfl
    | some rs1 =>
      show declR ({ rnR ρ rs1 with loop := (rs1.scs.map (rnK ρ)).length - 1 } : RS) (ρ (ps.getD 1 [])) "item" = _
      rw [List.length_map]
      exact decl_ren R { rs1 with loop := rs1.scs.length - 1 } _ _
  · rfl
theorem block_ren (R : Ren ρ) (rs : RS) (a : Nat) (ps : List Nm) : blockR (rnR ρ rs) a (ps.map ρ) = (blockR rs a ps).map (rnR ρ) := by
  unfold blockR
  rw [R.getD, R.getD, List.length_map, value_ren R]
  by_cases e1 : S (ps.getD 0 []) = "each"
  · rw [if_pos e1, if_pos ((R.eqW "each" (by decide +kernel) _).mpr e1)]
    exact each_ren R rs a ps
  · rw [if_neg e1, if_neg (fun z => e1 ((R.eqW "each" (by decide +kernel) _).mp z))]
    by_cases e2 : S (ps.getD 0 []) = "when"
    · rw [if_pos e2, if_pos ((R.eqW "when" (by decide +kernel) _).mpr e2)]
      split
      · exact open_ren rs a "when"
      · rfl
    · rw [if_neg e2, if_neg (fun z => e2 ((R.eqW "when" (by decide +kernel) _).mp z))]
      show (match decide (ps.length = 1), rs.blks.getLast? with | true, some (at_, k) => _ | _, _ => none) = _
      cases decide (ps.length = 1) with
      | false => rfl
      | true =>
        cases rs.blks.getLast? with
        | none => rfl
        | some bk =>
          obtain ⟨at_, k⟩ := bk
          dsimp only
          by_cases e3 : S (ps.getD 0 []) = "else"
          · rw [if_pos e3, if_pos ((R.eqW "else" (by decide +kernel) _).mpr e3), show (rnR ρ rs).jmps = rs.jmps from rfl]
            split
            · show some _ = some _
              refine congrArg some ?_
              show ({ rnR ρ rs with jmps := putA rs.jmps at_ ((a : Int), -1), scs := (rs.scs.map (rnK ρ)).dropLast ++ [[]] } : RS) = { rnR ρ { rs with jmps := putA rs.jmps at_ ((a : Int), -1), scs := rs.scs.dropLast ++ [[]] } with scs := (rs.scs.dropLast ++ [[]]).map (rnK ρ) }
              rw [List.map_append, List.map_dropLast]
              rfl
            · rfl
          · rw [if_neg e3, if_neg (fun z => e3 ((R.eqW "else" (by decide +kernel) _).mp z))]
            show some _ = some _
            refine congrArg some ?_
            show ({ rnR ρ rs with jmps := putA rs.jmps at_ (((getA rs.jmps at_).getD (0, 0)).1, (a : Int)), blks := rs.blks.dropLast, scs := (rs.scs.map (rnK ρ)).dropLast, loop := if k = "each" then 0 else rs.loop } : RS) = { rnR ρ rs with jmps := putA rs.jmps at_ (((getA rs.jmps at_).getD (0, 0)).1, (a : Int)), blks := rs.blks.dropLast, scs := rs.scs.dropLast.map (rnK ρ), loop := if k = "each" then 0 else rs.loop }
            rw [List.map_dropLast]
theorem other_ren (R : Ren ρ) (rs : RS) (ps : List Nm) : otherR (rnR ρ rs) (ps.map ρ) = (otherR rs ps).map (rnR ρ) := by
  unfold otherR
  rw [R.getD, R.getD, R.getD, R.getD, List.length_map, kind_ren R, kind_ren R, local_ren R, R.nu, show (rnR ρ rs).man = rs.man from rfl, show (rnR ρ rs).loop = rs.loop from rfl, show (rnR ρ rs).shifts = rs.shifts from rfl]
  by_cases e1 : S (ps.getD 0 []) ∈ (["text", "row"] : List Str)
  · rw [if_pos e1, if_pos ((R.memW _ ["text", "row"] (by decide +kernel)).mpr e1)]
    split
    · have e3 : S (ρ (ps.getD 0 [])) = S (ps.getD 0 []) := by
        rcases List.mem_cons.mp e1 with e | e
        · rw [e]
          exact (R.eqW "text" (by decide +kernel) _).mpr e
        · have e := List.mem_singleton.mp e
          rw [e]
          exact (R.eqW "row" (by decide +kernel) _).mpr e
      rw [e3]
      exact decl_ren R rs _ _
    · rfl
  · rw [if_neg e1, if_neg (fun z => e1 ((R.memW _ ["text", "row"] (by decide +kernel)).mp z))]
    by_cases e2 : S (ps.getD 0 []) = "count"
    · rw [if_pos e2, if_pos ((R.eqW "count" (by decide +kernel) _).mpr e2)]
      split
      · exact decl_ren R rs _ _
      · rfl
    · rw [if_neg e2, if_neg (fun z => e2 ((R.eqW "count" (by decide +kernel) _).mp z))]
      by_cases e3 : S (ps.getD 0 []) ∈ (["turn", "clear"] : List Str)
      · rw [if_pos e3, if_pos ((R.memW _ ["turn", "clear"] (by decide +kernel)).mpr e3)]
        split <;> rfl
      · rw [if_neg e3, if_neg (fun z => e3 ((R.memW _ ["turn", "clear"] (by decide +kernel)).mp z))]
        split
        · by_cases e4 : S (ps.getD 0 []) = "ask"
          · rw [if_pos e4, if_pos ((R.eqW "ask" (by decide +kernel) _).mpr e4)]
            split <;> rfl
          · rw [if_neg e4, if_neg (fun z => e4 ((R.eqW "ask" (by decide +kernel) _).mp z))]
            split <;> rfl
        · rfl
theorem bind_ren (R : Ren ρ) (rs : RS) (ps : List Nm) : bindR (rnR ρ rs) (ps.map ρ) = (bindR rs ps).map (rnR ρ) := by
  unfold bindR
  rw [R.getD, R.getD, R.getD, R.getD, R.getD, R.getD, List.length_map, kind_ren R, kind_ren R, value_ren R, R.nm, R.dM ["front", "back"] (by decide +kernel), show (rnR ρ rs).man = rs.man from rfl]
  split
  · rw [grow_ren R, grow_ren R]
    rfl
  · rfl
theorem add_ren (R : Ren ρ) (rs : RS) (k : Str) (ps : List Nm) : addR (rnR ρ rs) k (ps.map ρ) = (addR rs k ps).map (rnR ρ) := by
  unfold addR
  rw [R.getD, R.getD, List.length_map, kind_ren R, local_ren R, show (rnR ρ rs).adds = rs.adds from rfl, show getA (rnR ρ rs).szs (ρ (ps.getD 3 [])) = getA rs.szs (ps.getD 3 []) from getA_ren R _ _]
  split
  · exact congrArg some (grow_ren R { rs with adds := rs.adds + 1 } _ _)
  · rfl
theorem write_ren (R : Ren ρ) (rs : RS) (ps : List Nm) : writeR (rnR ρ rs) (ps.map ρ) = (writeR rs ps).map (rnR ρ) := by
  unfold writeR
  rw [R.getD, R.getD, R.getD, R.getD, R.getD, List.length_map, kind_ren R, kind_ren R, value_ren R, R.lt, R.dM ["say", "hole", "put", "bind", "add"] (by decide +kernel), R.dM ["front", "back"] (by decide +kernel), show (rnR ρ rs).man = rs.man from rfl]
  split
  · by_cases e1 : S (ps.getD 0 []) = "bind"
    · rw [if_pos e1, if_pos ((R.eqW "bind" (by decide +kernel) _).mpr e1)]
      split
      · exact bind_ren R rs ps
      · rfl
    · rw [if_neg e1, if_neg (fun z => e1 ((R.eqW "bind" (by decide +kernel) _).mp z))]
      by_cases e2 : S (ps.getD 0 []) = "add"
      · rw [if_pos e2, if_pos ((R.eqW "add" (by decide +kernel) _).mpr e2)]
        exact add_ren R rs _ ps
      · rw [if_neg e2, if_neg (fun z => e2 ((R.eqW "add" (by decide +kernel) _).mp z))]
        by_cases e3 : S (ps.getD 0 []) = "put"
        · rw [if_pos e3, if_pos ((R.eqW "put" (by decide +kernel) _).mpr e3)]
          split
          · exact congrArg some (grow_ren R rs _ _)
          · rfl
        · rw [if_neg e3, if_neg (fun z => e3 ((R.eqW "put" (by decide +kernel) _).mp z))]
          by_cases e4 : S (ps.getD 0 []) = "say"
          · rw [if_pos e4, if_pos ((R.eqW "say" (by decide +kernel) _).mpr e4)]
            split
            · exact congrArg some (grow_ren R rs _ _)
            · rfl
          · rw [if_neg e4, if_neg (fun z => e4 ((R.eqW "say" (by decide +kernel) _).mp z))]
            split
            · split
              · exact congrArg some (grow_ren R rs _ _)
              · rfl
            · split
              · exact congrArg some (grow_ren R rs _ _)
              · rfl
  · rfl
theorem man_ren (R : Ren ρ) (rs : RS) (ps : List Nm) : manR (rnR ρ rs) (ps.map ρ) = (manR rs ps).map (rnR ρ) := by
  match ps with
  | [] => rfl
  | [_] => rfl
  | [x, y] =>
    show (if (decide (S (ρ x) = "by") && decide (S (ρ y) ∈ (["order", "number", "name"] : List Str))) = true then some ({ rnR ρ rs with man := S (ρ y), stage := 1 } : RS) else none) = Option.map (rnR ρ) (if (decide (S x = "by") && decide (S y ∈ (["order", "number", "name"] : List Str))) = true then some { rs with man := S y, stage := 1 } else none)
    rw [R.dW "by" (by decide +kernel), R.dM ["order", "number", "name"] (by decide +kernel)]
    split
    · rename_i hh
      rw [Bool.and_eq_true, decide_eq_true_eq, decide_eq_true_eq] at hh
      have ey : S (ρ y) = S y := by
        rcases List.mem_cons.mp hh.2 with e | e
        · rw [e]
          exact (R.eqW "order" (by decide +kernel) _).mpr e
        · rcases List.mem_cons.mp e with e | e
          · rw [e]
            exact (R.eqW "number" (by decide +kernel) _).mpr e
          · have e := List.mem_singleton.mp e
            rw [e]
            exact (R.eqW "name" (by decide +kernel) _).mpr e
      rw [ey]
      rfl
    · rfl
  | _ :: _ :: _ :: _ => rfl
theorem accept_ren (R : Ren ρ) (rs : RS) (a : Nat) (ps : List Nm) : acceptR (rnR ρ rs) a (ps.map ρ) = (acceptR rs a ps).map (rnR ρ) := by
  cases ps with
  | nil => rfl
  | cons p0 rest =>
    rw [List.map_cons]
    show (if a = 0 then manR (rnR ρ rs) ((p0 :: rest).map ρ)
    else if S (ρ p0) = "options" then (if rs.stage = 1 then (declsR (rnR ρ rs) (rest.map ρ) "option").map fun r => { r with opts := rest.map ρ, stage := 2 } else none)
    else if S (ρ p0) = "lists" then (if rs.stage ≤ 2 then (declsR (rnR ρ rs) (rest.map ρ) "list").map fun r => { r with lsts := rest.map ρ, stage := 3 } else none)
    else if S (ρ p0) ∈ (["each", "when", "else", "end"] : List Str) then blockR (rnR ρ { rs with stage := 4 }) a ((p0 :: rest).map ρ)
    else if S (ρ p0) ∈ (["text", "row", "count", "ask", "turn", "clear", "shift"] : List Str) then otherR (rnR ρ { rs with stage := 4 }) ((p0 :: rest).map ρ)
    else writeR (rnR ρ { rs with stage := 4 }) ((p0 :: rest).map ρ)) = Option.map (rnR ρ) (if a = 0 then manR rs (p0 :: rest)
    else if S p0 = "options" then (if rs.stage = 1 then (declsR rs rest "option").map fun r => { r with opts := rest, stage := 2 } else none)
    else if S p0 = "lists" then (if rs.stage ≤ 2 then (declsR rs rest "list").map fun r => { r with lsts := rest, stage := 3 } else none)
    else if S p0 ∈ (["each", "when", "else", "end"] : List Str) then blockR { rs with stage := 4 } a (p0 :: rest)
    else if S p0 ∈ (["text", "row", "count", "ask", "turn", "clear", "shift"] : List Str) then otherR { rs with stage := 4 } (p0 :: rest)
    else writeR { rs with stage := 4 } (p0 :: rest))
    split
    · exact man_ren R rs _
    · by_cases e1 : S p0 = "options"
      · rw [if_pos e1, if_pos ((R.eqW "options" (by decide +kernel) _).mpr e1), decls_ren R]
        split
        · cases declsR rs rest "option" <;> rfl
        · rfl
      · rw [if_neg e1, if_neg (fun z => e1 ((R.eqW "options" (by decide +kernel) _).mp z))]
        by_cases e2 : S p0 = "lists"
        · rw [if_pos e2, if_pos ((R.eqW "lists" (by decide +kernel) _).mpr e2), decls_ren R]
          split
          · cases declsR rs rest "list" <;> rfl
          · rfl
        · rw [if_neg e2, if_neg (fun z => e2 ((R.eqW "lists" (by decide +kernel) _).mp z))]
          by_cases e3 : S p0 ∈ (["each", "when", "else", "end"] : List Str)
          · rw [if_pos e3, if_pos ((R.memW _ ["each", "when", "else", "end"] (by decide +kernel)).mpr e3)]
            exact block_ren R _ a _
          · rw [if_neg e3, if_neg (fun z => e3 ((R.memW _ ["each", "when", "else", "end"] (by decide +kernel)).mp z))]
            by_cases e4 : S p0 ∈ (["text", "row", "count", "ask", "turn", "clear", "shift"] : List Str)
            · rw [if_pos e4, if_pos ((R.memW _ ["text", "row", "count", "ask", "turn", "clear", "shift"] (by decide +kernel)).mpr e4)]
              exact other_ren R _ _
            · rw [if_neg e4, if_neg (fun z => e4 ((R.memW _ ["text", "row", "count", "ask", "turn", "clear", "shift"] (by decide +kernel)).mp z))]
              exact write_ren R _ _
theorem read_ren (R : Ren ρ) : ∀ (rows : List (List Nm)) (rs : RS) (a : Nat), readR (rnR ρ rs) a (rows.map (List.map ρ)) = match readR rs a rows with | .inl r => .inl (rnR ρ r) | .inr b => .inr b
  | [], rs, a => rfl
  | r :: rest, rs, a => by
    rw [List.map_cons, readR, readR]
    split
    · rfl
    · rw [accept_ren R]
      cases acceptR rs a r with
      | none => rfl
      | some rs' => exact read_ren R rest rs' (a + 1)
theorem prog_ren (R : Ren ρ) (rows : List (List Nm)) : progR (rows.map (List.map ρ)) = match progR rows with | .inl r => .inl (rnR ρ r) | .inr b => .inr b := by
  unfold progR
  rw [show RS.new = rnR ρ RS.new from rfl, read_ren R, List.length_map]
  rw [show rnR ρ RS.new = RS.new from rfl]
  cases readR RS.new 0 rows with
  | inr b => rfl
  | inl r =>
    dsimp only
    rw [show (rnR ρ r).blks = r.blks from rfl]
    split <;> rfl
end
/-! renamings there are -/
theorem name_lit {x : Nm} (h : nameB x = true) : litL x = true ∧ numB x = false := by
  unfold nameB at h
  simp only [Bool.and_eq_true, decide_eq_true_eq] at h
  obtain ⟨⟨⟨h1, h2⟩, h3⟩, h4⟩ := h
  refine ⟨?_, ?_⟩
  · unfold litL
    rw [decide_eq_true h1, decide_eq_true h2, List.all_eq_true.mpr (fun c hc => ?_)]
    · rfl
    · unfold lsB
      rw [List.all_eq_true.mp h4 c hc]
      rfl
  · unfold numB
    have : x.all dig = false := by
      cases x with
      | nil => cases h1
      | cons c r =>
        have := List.all_eq_true.mp h4 c List.mem_cons_self
        unfold low at this
        rw [Bool.and_eq_true, decide_eq_true_eq, decide_eq_true_eq] at this
        rw [List.all_cons]
        have d : dig c = false := by
          unfold dig
          rw [Bool.and_eq_false_iff]
          exact .inr (decide_eq_false (by omega))
        rw [d]
        rfl
    rw [this, Bool.and_false]
    rfl
def swp (a b x : Nm) : Nm := if x = a then b else if x = b then a else x
theorem swp_ren {a b : Nm} (ha : nameB a = true) (hb : nameB b = true) : Ren (swp a b) := by
  have cs : ∀ x, (x = a ∧ swp a b x = b) ∨ (x = b ∧ swp a b x = a) ∨ (x ≠ a ∧ x ≠ b ∧ swp a b x = x) := fun x => by
    unfold swp
    by_cases h1 : x = a
    · exact .inl ⟨h1, if_pos h1⟩
    · by_cases h2 : x = b
      · exact .inr (.inl ⟨h2, by rw [if_neg h1, if_pos h2]⟩)
      · exact .inr (.inr ⟨h1, h2, by rw [if_neg h1, if_neg h2]⟩)
  have la := name_lit ha
  have lb := name_lit hb
  refine ⟨fun x y e => ?_, fun x => ?_, fun x => ?_, fun x => ?_, fun x h => ?_⟩
  · rcases cs x with ⟨h1, h2⟩ | ⟨h1, h2⟩ | ⟨h1, h1', h2⟩ <;> rcases cs y with ⟨g1, g2⟩ | ⟨g1, g2⟩ | ⟨g1, g1', g2⟩ <;> rw [h2, g2] at e
    · rw [h1, g1]
    · rw [h1, g1, e]
    · exact absurd e.symm g1'
    · rw [h1, g1, e]
    · rw [h1, g1]
    · exact absurd e.symm g1
    · exact absurd e h1'
    · exact absurd e h1
    · exact e
  · rcases cs x with ⟨h1, h2⟩ | ⟨h1, h2⟩ | ⟨_, _, h2⟩ <;> rw [h2]
    · rw [h1, ha, hb]
    · rw [h1, ha, hb]
  · rcases cs x with ⟨h1, h2⟩ | ⟨h1, h2⟩ | ⟨_, _, h2⟩ <;> rw [h2]
    · rw [h1, la.1, lb.1]
    · rw [h1, la.1, lb.1]
  · rcases cs x with ⟨h1, h2⟩ | ⟨h1, h2⟩ | ⟨_, _, h2⟩ <;> rw [h2]
    · rw [h1, la.2, lb.2]
    · rw [h1, la.2, lb.2]
  · rcases cs x with ⟨h1, h2⟩ | ⟨h1, h2⟩ | ⟨_, _, h2⟩
    · rw [h1, ha] at h
      cases h
    · rw [h1, hb] at h
      cases h
    · exact h2
theorem ren_comp {ρ τ : Nm → Nm} (R : Ren ρ) (T : Ren τ) : Ren (fun x => τ (ρ x)) :=
  ⟨fun x y e => R.inj _ _ (T.inj _ _ e), fun x => (T.nm _).trans (R.nm x), fun x => (T.lt _).trans (R.lt x), fun x => (T.nu _).trans (R.nu x), fun x h => by rw [R.fx x h, T.fx x h]⟩
theorem ren_id : Ren (fun x => x) := ⟨fun _ _ e => e, fun _ => rfl, fun _ => rfl, fun _ => rfl, fun _ _ => rfl⟩
/-- some names go to others -/
theorem ren_list : ∀ (cs ns : List Nm), cs.length = ns.length → cs.Nodup → ns.Nodup → (∀ c ∈ cs, nameB c = true) → (∀ n ∈ ns, nameB n = true) → ∃ ρ, Ren ρ ∧ cs.map ρ = ns ∧ ∀ x, x ∉ cs → x ∉ ns → ρ x = x
  | [], [], _, _, _, _, _ => ⟨fun x => x, ren_id, rfl, fun _ _ _ => rfl⟩
  | [], _ :: _, h, _, _, _, _ => by cases h
  | _ :: _, [], h, _, _, _, _ => by cases h
  | c :: cs, n :: ns, h, h1, h2, h3, h4 => by
    rw [List.nodup_cons] at h1 h2
    obtain ⟨ρ, R, e, fx⟩ := ren_list cs ns (Nat.succ.inj h) h1.2 h2.2 (fun c hc => h3 c (List.mem_cons_of_mem _ hc)) (fun n hn => h4 n (List.mem_cons_of_mem _ hn))
    have hρc : nameB (ρ c) = true := by rw [R.nm]; exact h3 c List.mem_cons_self
    refine ⟨fun x => swp (ρ c) n (ρ x), ren_comp R (swp_ren hρc (h4 n List.mem_cons_self)), ?_, fun x hx hy => ?_⟩
    · rw [List.map_cons]
      have e1 : swp (ρ c) n (ρ c) = n := by unfold swp; rw [if_pos rfl]
      rw [e1]
      refine congrArg _ ?_
      rw [← e]
      refine List.map_congr_left fun d hd => ?_
      have n1 : ρ d ≠ ρ c := fun z => h1.1 (R.inj _ _ z ▸ hd)
      have n2 : ρ d ≠ n := fun z => h2.1 (by rw [← z, ← e]; exact List.mem_map.mpr ⟨d, hd, rfl⟩)
      unfold swp
      rw [if_neg n1, if_neg n2]
    · rw [List.mem_cons, not_or] at hx hy
      have f := fx x hx.2 hy.2
      have n1 : x ≠ ρ c := fun z => hx.1 (R.inj _ _ (f.trans z))
      show swp (ρ c) n (ρ x) = x
      rw [f]
      unfold swp
      rw [if_neg n1, if_neg hy.1]
end LW
end

section
local macro_rules | `(tactic| walk_at "tx") => `(tactic| first
  | ((with_reducible refine' Eg.c_sfld ?hs ?hc ?hn ?hl ?_); (case hs => walk_at "hp"); (case hc => assumption); (case hn => assumption); (case hl => exact Nat.le_of_ble_eq_true rfl))
  | with_reducible refine Ex.w_rs ?_
  | with_reducible refine Ex.w_xg ?_
  | with_reducible refine Co.w_makeS ?_
  | with_reducible refine Po.w_tru ?_
  | ((with_reducible refine' Po.c_truL ?hs ?_); (case hs => walk_at "hp")))
local macro_rules | `(tactic| walk_at "at") => `(tactic| first | exact atI_nat (j := 0) rfl | exact atI_nat (j := 1) rfl | exact atI_nat (j := 2) rfl | exact atI_nat (j := 3) rfl | exact atI_nat (j := 4) rfl | exact atI_nat (j := 5) rfl | exact atI_nat (j := 6) rfl | exact atI_nat (j := 7) rfl)
namespace LW
open PySem L2 SX Tx
/-! a text of lines and its rows -/
theorem words_join {ws : List Nm} (hne : ws ≠ []) (h : ∀ x ∈ ws, x ≠ [] ∧ 32 ∉ x) : wordsOf (TL.joinL [32] ws) = ws := by
  unfold wordsOf
  rw [SX.spl_join hne fun p hp => (h p hp).2]
  exact List.filter_eq_self.mpr fun x hx => by
    cases x with
    | nil => exact absurd rfl (h [] hx).1
    | cons _ _ => rfl
theorem rows_join {rows : List (List Nm)} (hne : rows ≠ []) (h : ∀ r ∈ rows, r ≠ [] ∧ ∀ x ∈ r, x ≠ [] ∧ 32 ∉ x ∧ 10 ∉ x) (hl : ∀ r ∈ rows, 10 ∉ TL.joinL [32] r) : rowsOf (TL.joinL [10] (rows.map (TL.joinL [32]))) = rows := by
  unfold rowsOf
  rw [SX.spl_join (by cases rows with | nil => exact absurd rfl hne | cons _ _ => exact fun z => nomatch z) fun p hp => by obtain ⟨r, hr, rfl⟩ := List.mem_map.mp hp; exact hl r hr, List.map_map]
  exact (List.map_congr_left fun r hr => words_join (h r hr).1 fun x hx => ⟨((h r hr).2 x hx).1, ((h r hr).2 x hx).2.1⟩).trans (List.map_id _)
/-! plain: texts of lines of words -/
/-- a word that a line may hold -/
def Wd (x : Nm) : Prop := x ≠ [] ∧ x.length ≤ 20 ∧ ∀ c ∈ x, 33 ≤ c ∧ c < 127
instance (x : Nm) : Decidable (Wd x) := by unfold Wd; infer_instance
def okRows (rows : List (List Nm)) : Prop := rows ≠ [] ∧ rows.length ≤ 80 ∧ ∀ r ∈ rows, r ≠ [] ∧ r.length ≤ 10 ∧ ∀ x ∈ r, Wd x
/-- the text of a line, of lines -/
def lineT (r : List Nm) : List Nat := TL.joinL [32] r
def strL (rows : List (List Nm)) : List V := rows.map fun r => V.str (S (lineT r))
def textT (rows : List (List Nm)) : List Nat := TL.joinL [10] (rows.map lineT)
theorem strL_app (a b : List (List Nm)) : strL a ++ strL b = strL (a ++ b) := (List.map_append ..).symm
theorem joinL_len (s : List Nat) : ∀ ps : List (List Nat), (TL.joinL s ps).length ≤ (ps.map List.length).sum + ps.length * s.length
  | [] => Nat.zero_le _
  | [p] => by
    show p.length ≤ (p.length + 0) + 1 * s.length
    omega
  | p :: q :: r => by
    have ih := joinL_len s (q :: r)
    show (p ++ (s ++ TL.joinL s (q :: r))).length ≤ _
    rw [List.length_append, List.length_append, List.map_cons, List.sum_cons, List.length_cons, Nat.succ_mul]
    omega
theorem joinL_mem {s : List Nat} {c : Nat} : ∀ {ps : List (List Nat)}, c ∈ TL.joinL s ps → c ∈ s ∨ ∃ p ∈ ps, c ∈ p
  | [], h => by cases h
  | [p], h => .inr ⟨p, List.mem_cons_self, h⟩
  | p :: q :: r, h => by
    have h : c ∈ p ++ (s ++ TL.joinL s (q :: r)) := h
    rcases List.mem_append.mp h with h | h
    · exact .inr ⟨p, List.mem_cons_self, h⟩
    · rcases List.mem_append.mp h with h | h
      · exact .inl h
      · rcases joinL_mem h with h | ⟨x, hx, h⟩
        · exact .inl h
        · exact .inr ⟨x, List.mem_cons_of_mem _ hx, h⟩
theorem sum_le {α : Type} (f : α → Nat) (m : Nat) : ∀ l : List α, (∀ x ∈ l, f x ≤ m) → (l.map f).sum ≤ l.length * m
  | [], _ => Nat.zero_le _
  | x :: r, h => by
    have := sum_le f m r fun y hy => h y (List.mem_cons_of_mem _ hy)
    have := h x List.mem_cons_self
    rw [List.map_cons, List.sum_cons, List.length_cons, Nat.succ_mul]
    omega
theorem line_len {r : List Nm} (h1 : r.length ≤ 10) (h2 : ∀ x ∈ r, Wd x) : (lineT r).length ≤ 210 := by
  have a := joinL_len [32] r
  have b := sum_le List.length 20 r fun x hx => (h2 x hx).2.1
  have : ([32] : List Nat).length = 1 := rfl
  rw [this] at a
  show (TL.joinL [32] r).length ≤ 210
  omega
theorem line_no {r : List Nm} (h2 : ∀ x ∈ r, Wd x) : 10 ∉ lineT r := fun z => by
  rcases joinL_mem z with z | ⟨x, hx, z⟩
  · revert z
    decide
  · have := ((h2 x hx).2.2 10 z).1
    omega
theorem text_rows {rows : List (List Nm)} (h : okRows rows) : rowsOf (textT rows) = rows := by
  obtain ⟨h1, h2, h3⟩ := h
  refine rows_join h1 (fun r hr => ⟨(h3 r hr).1, fun x hx => ?_⟩) fun r hr => line_no (h3 r hr).2.2
  obtain ⟨g1, g2, g3⟩ := (h3 r hr).2.2 x hx
  refine ⟨g1, fun z => ?_, fun z => ?_⟩
  · have := (g3 32 z).1
    omega
  · have := (g3 10 z).1
    omega
theorem text_fits {rows : List (List Nm)} (h : okRows rows) : Fits (textT rows) := by
  have hr := text_rows h
  obtain ⟨h1, h2, h3⟩ := h
  refine ⟨?_, fun r hr' => ?_⟩
  · have a := joinL_len [10] (rows.map lineT)
    have b := sum_le List.length 210 (rows.map lineT) fun x hx => by
      obtain ⟨r, hr, rfl⟩ := List.mem_map.mp hx
      exact line_len (h3 r hr).2.1 (h3 r hr).2.2
    rw [List.length_map] at a b
    have : ([10] : List Nat).length = 1 := rfl
    rw [this] at a
    show (TL.joinL [10] (rows.map lineT)).length < 40000
    omega
  · rw [hr] at hr'
    obtain ⟨g1, g2, g3⟩ := h3 r hr'
    refine ⟨by omega, fun n hn => by have := (g3 n hn).2.1; omega, fun n hn c hc => ?_⟩
    have := ((g3 n hn).2.2 c hc).2
    omega
theorem text_join (rows : List (List Nm)) : Txt.join "\n" (rows.map fun r => S (lineT r)) = S (textT rows) := by
  rw [nl_S, show (rows.map fun r => S (lineT r)) = (rows.map lineT).map S by rw [List.map_map]; rfl, SX.join_S]
  rfl
theorem text_sum {rows : List (List Nm)} (h : okRows rows) : ((rows.map fun r => S (lineT r)).map fun x => x.length).sum + (rows.map fun r => S (lineT r)).length * ("\n" : Str).length ≤ 16777216 := by
  obtain ⟨h1, h2, h3⟩ := h
  have b := sum_le (fun x : Str => x.length) 210 (rows.map fun r => S (lineT r)) fun x hx => by
    obtain ⟨r, hr, rfl⟩ := List.mem_map.mp hx
    exact (S_len _).symm ▸ line_len (h3 r hr).2.1 (h3 r hr).2.2
  rw [List.length_map] at b ⊢
  have : ("\n" : Str).length = 1 := by decide +kernel
  rw [this]
  omega
/-- a word that a line may hold, or none -/
def Wd0 (x : Nm) : Prop := x.length ≤ 20 ∧ ∀ c ∈ x, 33 ≤ c ∧ c < 127
instance (x : Nm) : Decidable (Wd0 x) := by unfold Wd0; infer_instance
def okRows0 (rows : List (List Nm)) : Prop := rows ≠ [] ∧ rows.length ≤ 80 ∧ ∀ r ∈ rows, r ≠ [] ∧ r.length ≤ 10 ∧ ∀ x ∈ r, Wd0 x
/-- words without signs are no words -/
def full (r : List Nm) : List Nm := r.filter fun x => !x.isEmpty
theorem nameZ_wd {n : Nm} (h : NameZ n) : Wd n := by
  obtain ⟨h1, h2, h3, _⟩ := h
  refine ⟨fun z => ?_, by omega, fun c hc => ?_⟩
  · rw [z] at h1
    exact absurd h1 (by decide)
  · have := List.all_eq_true.mp h3 c hc
    unfold low at this
    rw [Bool.and_eq_true, decide_eq_true_eq, decide_eq_true_eq] at this
    omega
end LW
end

section
local macro_rules | `(tactic| walk_at "tx") => `(tactic| first
  | ((with_reducible refine' Eg.c_sfld ?hs ?hc ?hn ?hl ?_); (case hs => walk_at "hp"); (case hc => assumption); (case hn => assumption); (case hl => exact Nat.le_of_ble_eq_true rfl))
  | with_reducible refine Ex.w_rs ?_
  | with_reducible refine Ex.w_xg ?_
  | with_reducible refine Co.w_makeS ?_
  | with_reducible refine Po.w_tru ?_
  | ((with_reducible refine' Po.c_truL ?hs ?_); (case hs => walk_at "hp")))
local macro_rules | `(tactic| walk_at "at") => `(tactic| first | exact atI_nat (j := 0) rfl | exact atI_nat (j := 1) rfl | exact atI_nat (j := 2) rfl | exact atI_nat (j := 3) rfl | exact atI_nat (j := 4) rfl | exact atI_nat (j := 5) rfl | exact atI_nat (j := 6) rfl | exact atI_nat (j := 7) rfl)
namespace LW
open PySem L2 SX Tx
/-! programs over drawn names: templates, renaming (k23 k24 k26) -/
def w_by : Nm := [98, 121]
def w_order : Nm := [111, 114, 100, 101, 114]
def w_number : Nm := [110, 117, 109, 98, 101, 114]
def w_name : Nm := [110, 97, 109, 101]
def w_options : Nm := [111, 112, 116, 105, 111, 110, 115]
def w_lists : Nm := [108, 105, 115, 116, 115]
def w_text : Nm := [116, 101, 120, 116]
def w_row : Nm := [114, 111, 119]
def w_count : Nm := [99, 111, 117, 110, 116]
def w_each : Nm := [101, 97, 99, 104]
def w_of : Nm := [111, 102]
def w_end : Nm := [101, 110, 100]
def w_add : Nm := [97, 100, 100]
def w_turn : Nm := [116, 117, 114, 110]
def w_clear : Nm := [99, 108, 101, 97, 114]
def w_shift : Nm := [115, 104, 105, 102, 116]
def w_ask : Nm := [97, 115, 107]
def w_say : Nm := [115, 97, 121]
def w_and : Nm := [97, 110, 100]
def w_hole : Nm := [104, 111, 108, 101]
def w_put : Nm := [112, 117, 116]
def w_bind : Nm := [98, 105, 110, 100]
def w_front : Nm := [102, 114, 111, 110, 116]
def w_back : Nm := [98, 97, 99, 107]
def w_names : Nm := [110, 97, 109, 101, 115]
def w_side : Nm := [115, 105, 100, 101]
def w_frontback : Nm := [102, 114, 111, 110, 116, 98, 97, 99, 107]
def w_in : Nm := [105, 110]
def w_down : Nm := [100, 111, 119, 110]
def w_twelve : Nm := [116, 119, 101, 108, 118, 101]
def w_when : Nm := [119, 104, 101, 110]
def w_else : Nm := [101, 108, 115, 101]
def w_0 : Nm := [48]
def w_12 : Nm := [49, 50]
def w_21 : Nm := [50, 49]
def w_012 : Nm := [48, 49, 50]
/-- the names of the test -/
def cN (i : Nat) : Nm := if i < 8 then [97 + i, 122] else []
theorem nameZ_b {n : Nm} (h : NameZ n) : nameB n = true := by
  obtain ⟨h1, h2, h3, h4⟩ := h
  have r : n ∉ resL := fun z => by
    have : ∀ w ∈ resL, w.getLast? ≠ some 122 := by decide +kernel
    exact this n z h4
  unfold nameB
  rw [decide_eq_true (show 1 ≤ n.length by omega), decide_eq_true (show n.length ≤ 8 by omega), decide_eq_false r, h3]
  rfl
/-- drawn names are those of the test, renamed; words that do not end in z stand -/
theorem names_ren {ns : List Nm} (hl : ns.length = 8) (hd : ns.Nodup) (hz : ∀ m ∈ ns, NameZ m) : ∃ ρ, Ren ρ ∧ ns = (List.range 8).map (fun i => ρ (cN i)) ∧ ∀ w : Nm, w.getLast? ≠ some 122 → ρ w = w := by
  obtain ⟨ρ, R, e, fx⟩ := ren_list ((List.range 8).map cN) ns (by rw [hl]; rfl) (by decide +kernel) hd (by decide +kernel) fun n hn => nameZ_b (hz n hn)
  rw [List.map_map] at e
  refine ⟨ρ, R, e.symm, fun w hw => fx _ (fun z => ?_) fun z => hw (hz _ z).2.2.2⟩
  have : ∀ w ∈ (List.range 8).map cN, w.getLast? = some 122 := by decide +kernel
  exact hw (this w z)
/-- a part of a line: a name by its number, or a word -/
abbrev Pt := Sum Nat Nm
abbrev N (i : Nat) : Pt := .inl i
abbrev W (w : Nm) : Pt := .inr w
def inst (n : Nat → Nm) : Pt → Nm
  | .inl i => n i
  | .inr w => w
def okPt : Pt → Bool
  | .inl i => decide (i < 8)
  | .inr w => decide (w.getLast? ≠ some 122)
abbrev insR (n : Nat → Nm) (r : List Pt) : List Nm := r.map (inst n)
abbrev insP (n : Nat → Nm) (rows : List (List Pt)) : List (List Nm) := rows.map (insR n)
/-- what names are like -/
structure Nam (n : Nat → Nm) : Prop where
  inj : ∀ i j, i < 8 → j < 8 → n i = n j → i = j
  last : ∀ i, i < 8 → (n i).getLast? = some 122
  len : ∀ i, (n i).length ≤ 7
  wd : ∀ i, i < 8 → Wd (n i)
section
variable {ρ : Nm → Nm}
theorem atOf_ren (R : Ren ρ) (rows : List (List Nm)) : atOf (progR (rows.map (List.map ρ))) = atOf (progR rows) := by
  rw [prog_ren R]
  cases progR rows <;> rfl
theorem inst_ren (fx : ∀ w : Nm, w.getLast? ≠ some 122 → ρ w = w) (n : Nat → Nm) {t : Pt} (h : okPt t = true) : inst (fun i => ρ (n i)) t = ρ (inst n t) := by
  cases t with
  | inl i => rfl
  | inr w => exact (fx w (of_decide_eq_true h)).symm
/-- a program's fate under the drawn names is that under the names of the test -/
theorem at_ren (R : Ren ρ) (fx : ∀ w : Nm, w.getLast? ≠ some 122 → ρ w = w) (n : Nat → Nm) {rows : List (List Pt)} (h : rows.all (fun r => r.all okPt) = true) : atOf (progR (insP (fun i => ρ (n i)) rows)) = atOf (progR (insP n rows)) := by
  have e : insP (fun i => ρ (n i)) rows = (insP n rows).map (List.map ρ) := by
    unfold insP
    rw [List.map_map]
    refine List.map_congr_left fun r hr => ?_
    show r.map _ = (r.map _).map ρ
    rw [List.map_map]
    exact List.map_congr_left fun t ht => inst_ren fx n (List.all_eq_true.mp (List.all_eq_true.mp h r hr) t ht)
  rw [e, atOf_ren R]
/-- the drawn names: what is known of them -/
theorem names_nam {ns : List Nm} (hl : ns.length = 8) (hd : ns.Nodup) (hz : ∀ m ∈ ns, NameZ m) : ∃ n : Nat → Nm, ns = (List.range 8).map n ∧ Nam n ∧ ∀ rows : List (List Pt), rows.all (fun r => r.all okPt) = true → atOf (progR (insP n rows)) = atOf (progR (insP cN rows)) := by
  obtain ⟨ρ, R, en, fx⟩ := names_ren hl hd hz
  have hmem : ∀ i, i < 8 → ρ (cN i) ∈ ns := fun i h => by rw [en]; exact List.mem_map.mpr ⟨i, List.mem_range.mpr h, rfl⟩
  refine ⟨fun i => ρ (cN i), en, ⟨fun i j hi hj e => ?_, fun i h => (hz _ (hmem i h)).2.2.2, fun i => ?_, fun i h => nameZ_wd (hz _ (hmem i h))⟩, fun rows h => at_ren R fx cN h⟩
  · have e := R.inj _ _ e
    unfold cN at e
    rw [if_pos hi, if_pos hj] at e
    have := (List.cons.inj e).1
    omega
  · by_cases h : i < 8
    · exact (hz _ (hmem i h)).2.1
    · show (ρ (cN i)).length ≤ 7
      rw [show cN i = [] from if_neg h, R.nil]
      exact Nat.zero_le _
end
end LW
end

section
local macro_rules | `(tactic| walk_at "tx") => `(tactic| first
  | ((with_reducible refine' Eg.c_sfld ?hs ?hc ?hn ?hl ?_); (case hs => walk_at "hp"); (case hc => assumption); (case hn => assumption); (case hl => exact Nat.le_of_ble_eq_true rfl))
  | with_reducible refine Ex.w_rs ?_
  | with_reducible refine Ex.w_xg ?_
  | with_reducible refine Co.w_makeS ?_
  | with_reducible refine Po.w_tru ?_
  | ((with_reducible refine' Po.c_truL ?hs ?_); (case hs => walk_at "hp")))
local macro_rules | `(tactic| walk_at "at") => `(tactic| first | exact atI_nat (j := 0) rfl | exact atI_nat (j := 1) rfl | exact atI_nat (j := 2) rfl | exact atI_nat (j := 3) rfl | exact atI_nat (j := 4) rfl | exact atI_nat (j := 5) rfl | exact atI_nat (j := 6) rfl | exact atI_nat (j := 7) rfl)
namespace LW
open PySem L2 SX Tx
/-! k23: the lines, what is right, what a line does; the reader goes with it -/
abbrev sE : Str := "each"
abbrev sW : Str := "when"
abbrev sL : Str := "else"
abbrev sI : Str := "item"
abbrev sN : Str := "number"
abbrev sT : Str := "list"
abbrev sO : Str := "option"
inductive Ln where
  | decl (k : Bool) (i : Nat)
  | count (i j : Nat)
  | each (i : Nat)
  | when (i : Nat)
  | els
  | fin
  | say (i : Nat)
  | bind (i j k : Nat)
  | ask (i j : Nat)
def kdW (k : Bool) : Nm := if k then w_row else w_text
def w_4 : Nm := [52]
def w_q : Nm := [113]
def Ln.ps (n : Nat → Nm) : Ln → List Nm
  | .decl k i => [kdW k, n i]
  | .count i j => [w_count, n i, n j, w_4]
  | .each i => [w_each, n i, w_of, n 7]
  | .when i => [w_when, n i]
  | .els => [w_else]
  | .fin => [w_end]
  | .say i => [w_say, n i, w_back, w_and]
  | .bind i j k => [w_bind, n i, w_back, n j, w_back, n k, w_q]
  | .ask i j => [w_ask, n i, n j]
/-- which names a line may hold, and where it is drawn -/
def Ln.gen (lb : List Str) : Ln → Prop
  | .decl _ i => i < 6
  | .count i j => i < 6 ∧ j < 6
  | .each i => i < 6 ∧ lb.length < 4 ∧ sE ∉ lb
  | .when i => i < 7 ∧ lb.length < 4
  | .els => lb.getLast? = some sW
  | .fin => lb ≠ []
  | .say i => i < 6
  | .bind i j k => i < 6 ∧ j < 6 ∧ k < 7
  | .ask i j => i < 6 ∧ j < 6 ∧ sE ∉ lb
abbrev Scs := List (List (Nm × Str))
def valOf (scs : Scs) (x : Nm) : Bool := decide (kindOf scs x ∈ (["option", "item"] : List Str))
def rightB (n : Nat → Nm) (scs : Scs) : Ln → Bool
  | .decl _ i => decide (kindOf scs (n i) = "")
  | .count i j => decide (kindOf scs (n i) = "") && decide (kindOf scs (n j) = "row")
  | .each i => decide (kindOf scs (n i) = "")
  | .when i => valOf scs (n i)
  | .els => true
  | .fin => true
  | .say i => decide (kindOf scs (n i) = "text")
  | .bind i j k => decide (kindOf scs (n i) = "text") && (decide (kindOf scs (n j) = "row") && valOf scs (n k))
  | .ask i j => decide (kindOf scs (n i) = "text") && decide (kindOf scs (n j) = "row")
def stepS (n : Nat → Nm) (scs : Scs) : Ln → Scs
  | .decl k i => modL scs (n i) (S (kdW k))
  | .count i _ => modL scs (n i) sN
  | .each i => scs ++ [[(n i, sI)]]
  | .when _ => scs ++ [[]]
  | .els => scs.dropLast ++ [[]]
  | .fin => scs.dropLast
  | _ => scs
def stepB (lb : List Str) : Ln → List Str
  | .each _ => lb ++ [sE]
  | .when _ => lb ++ [sW]
  | .els => lb.dropLast ++ [sL]
  | .fin => lb.dropLast
  | _ => lb
/-- the names -/
structure G8 (n : Nat → Nm) : Prop where
  z : ∀ i, i < 8 → NameZ (n i)
  ne : ∀ i j, i < 8 → j < 8 → n i = n j → i = j
theorem G8.b {n : Nat → Nm} (h : G8 n) {i : Nat} (hi : i < 8) : nameB (n i) = true := nameZ_b (h.z i hi)
def eachs (lb : List Str) : Nat := (lb.filter fun k => decide (k = sE)).length
theorem eachs_app (a b : List Str) : eachs (a ++ b) = eachs a + eachs b := by
  unfold eachs
  rw [List.filter_append, List.length_append]
theorem eachs_0 {lb : List Str} : eachs lb = 0 ↔ sE ∉ lb := by
  unfold eachs
  rw [List.length_eq_zero_iff, List.filter_eq_nil_iff]
  exact ⟨fun h z => h _ z (decide_eq_true rfl), fun h x hx e => h (of_decide_eq_true e ▸ hx)⟩
/-- the block of the reader for that of the law -/
def BR (js : List (Nat × (Int × Int))) (a : Nat) (b : Nat × Str) (k : Str) : Prop := b.1 < a ∧ b.2 = (if k = sE then sE else sW) ∧ (k = sW → ((getA js b.1).getD (0, 0)).1 = -1)
/-- the reader stands with the law's scopes and blocks -/
structure Rl (n : Nat → Nm) (rs : RS) (scs : Scs) (lb : List Str) (a : Nat) : Prop where
  man : rs.man = "name"
  sc : rs.scs = scs
  loop : rs.loop = 0 ↔ sE ∉ lb
  one : eachs lb ≤ 1
  bl : Paired (BR rs.jmps a) rs.blks lb
  nd : (rs.blks.map Prod.fst).Nodup
  len : scs.length = lb.length + 1
  l7 : ∃ s0 t, scs = s0 :: t ∧ getA s0 (n 7) = some sT
theorem Rl.k7 {n : Nat → Nm} {rs : RS} {scs : Scs} {lb : List Str} {a : Nat} (h : Rl n rs scs lb a) : kindOf scs (n 7) = sT := by
  obtain ⟨s0, t, rfl, e⟩ := h.l7
  unfold kindOf kindO
  rw [List.findSome?_cons, e]
  rfl
theorem BR.up {js : List (Nat × (Int × Int))} {a a' : Nat} (h : a ≤ a') {b : Nat × Str} {k : Str} (q : BR js a b k) : BR js a' b k := ⟨Nat.lt_of_lt_of_le q.1 h, q.2⟩
theorem Rl.up {n : Nat → Nm} {rs rs' : RS} {scs : Scs} {lb : List Str} {a : Nat} (h : Rl n rs scs lb a) (e1 : rs'.man = rs.man) (e2 : rs'.scs = rs.scs) (e3 : rs'.loop = rs.loop) (e4 : rs'.jmps = rs.jmps) (e5 : rs'.blks = rs.blks) : Rl n rs' scs lb (a + 1) :=
  ⟨e1.trans h.man, e2.trans h.sc, by rw [e3]; exact h.loop, h.one, by rw [e4, e5]; exact Paired.mapP h.bl fun _ _ q => q.up (Nat.le_succ a), by rw [e5]; exact h.nd, h.len, h.l7⟩
theorem Rl.decl {n : Nat → Nm} {rs rs' : RS} {scs : Scs} {lb : List Str} {a : Nat} (h : Rl n rs scs lb a) {x : Nm} (hx : x ≠ n 7) (k : Str) (e1 : rs'.man = rs.man) (e2 : rs'.scs = modL rs.scs x k) (e3 : rs'.loop = rs.loop) (e4 : rs'.jmps = rs.jmps) (e5 : rs'.blks = rs.blks) : Rl n rs' (modL scs x k) lb (a + 1) := by
  obtain ⟨s0, t, es, e7⟩ := h.l7
  refine ⟨e1.trans h.man, by rw [e2, h.sc], by rw [e3]; exact h.loop, h.one, by rw [e4, e5]; exact Paired.mapP h.bl fun _ _ q => q.up (Nat.le_succ a), by rw [e5]; exact h.nd, ?_, ?_⟩
  · rw [← h.len, es]
    rcases List.eq_nil_or_concat t with rfl | ⟨i, l, rfl⟩
    · rw [show s0 :: [] = [] ++ [s0] from rfl, modL_app]
      rfl
    · rw [List.concat_eq_append, show s0 :: (i ++ [l]) = (s0 :: i) ++ [l] from rfl, modL_app, List.length_append, List.length_append]
      rfl
  · rw [es]
    rcases List.eq_nil_or_concat t with rfl | ⟨i, l, rfl⟩
    · rw [show s0 :: [] = [] ++ [s0] from rfl, modL_app]
      exact ⟨_, _, rfl, by rw [get_other k hx]; exact e7⟩
    · rw [List.concat_eq_append, show s0 :: (i ++ [l]) = (s0 :: i) ++ [l] from rfl, modL_app]
      exact ⟨_, _, rfl, e7⟩
theorem declR_eq {rs : RS} {x : Nm} {k : Str} (hb : nameB x = true) : declR rs x k = if decide (kindOf rs.scs x = "") = true then some { rs with scs := modL rs.scs x k, szs := putA rs.szs x 0 } else none := by
  unfold declR
  rw [hb, Bool.true_and]
theorem acc_other {rs : RS} {a : Nat} {p0 : Nm} {rest : List Nm} (ha : a ≠ 0) (h : S p0 ∈ (["text", "row", "count", "ask", "turn", "clear", "shift"] : List Str)) : acceptR rs a (p0 :: rest) = otherR { rs with stage := 4 } (p0 :: rest) := by
  have no : ∀ x ∈ (["text", "row", "count", "ask", "turn", "clear", "shift"] : List Str), x ≠ "options" ∧ x ≠ "lists" ∧ x ∉ (["each", "when", "else", "end"] : List Str) := by decide +kernel
  obtain ⟨h1, h2, h3⟩ := no _ h
  simp only [acceptR, if_neg ha, if_neg h1, if_neg h2, if_neg h3, if_pos h]
theorem acc_block {rs : RS} {a : Nat} {p0 : Nm} {rest : List Nm} (ha : a ≠ 0) (h : S p0 ∈ (["each", "when", "else", "end"] : List Str)) : acceptR rs a (p0 :: rest) = blockR { rs with stage := 4 } a (p0 :: rest) := by
  have no : ∀ x ∈ (["each", "when", "else", "end"] : List Str), x ≠ "options" ∧ x ≠ "lists" := by decide +kernel
  obtain ⟨h1, h2⟩ := no _ h
  simp only [acceptR, if_neg ha, if_neg h1, if_neg h2, if_pos h]
theorem acc_write {rs : RS} {a : Nat} {p0 : Nm} {rest : List Nm} (ha : a ≠ 0) (h : S p0 ∈ (["say", "bind"] : List Str)) : acceptR rs a (p0 :: rest) = writeR { rs with stage := 4 } (p0 :: rest) := by
  have no : ∀ x ∈ (["say", "bind"] : List Str), x ≠ "options" ∧ x ≠ "lists" ∧ x ∉ (["each", "when", "else", "end"] : List Str) ∧ x ∉ (["text", "row", "count", "ask", "turn", "clear", "shift"] : List Str) := by decide +kernel
  obtain ⟨h1, h2, h3, h4⟩ := no _ h
  simp only [acceptR, if_neg ha, if_neg h1, if_neg h2, if_neg h3, if_neg h4]
/-- what comes of a line -/
def Goes (n : Nat → Nm) (rs : RS) (scs : Scs) (lb : List Str) (a : Nat) (l : Ln) : Prop :=
  (rightB n scs l = false → acceptR rs a (l.ps n) = none) ∧ (rightB n scs l = true → ∃ rs', acceptR rs a (l.ps n) = some rs' ∧ Rl n rs' (stepS n scs l) (stepB lb l) (a + 1))
section
variable {n : Nat → Nm} {rs : RS} {scs : Scs} {lb : List Str} {a : Nat}
theorem goes_decl (G : G8 n) (h : Rl n rs scs lb a) (ha : a ≠ 0) (k : Bool) {i : Nat} (hi : i < 6) : Goes n rs scs lb a (.decl k i) := by
  have e : acceptR rs a [kdW k, n i] = if decide (kindOf scs (n i) = "") = true then some { rs with stage := 4, scs := modL rs.scs (n i) (S (kdW k)), szs := putA rs.szs (n i) 0 } else none := by
    rw [acc_other ha (by cases k <;> decide +kernel)]
    unfold otherR
    rw [if_pos (show S (List.getD [kdW k, n i] 0 []) ∈ (["text", "row"] : List Str) by show S (kdW k) ∈ _; cases k <;> decide +kernel), if_pos (show List.length [kdW k, n i] = 2 from rfl)]
    show declR _ (n i) (S (kdW k)) = _
    rw [declR_eq (G.b (by omega)), ← h.sc]
  have x7 : n i ≠ n 7 := fun z => by have := G.ne i 7 (by omega) (by decide) z; omega
  constructor
  · intro r
    show acceptR rs a [kdW k, n i] = none
    rw [e, show decide (kindOf scs (n i) = "") = false from r]
    rfl
  · intro r
    refine ⟨_, by show acceptR rs a [kdW k, n i] = _; rw [e, show decide (kindOf scs (n i) = "") = true from r]; exact if_pos rfl, ?_⟩
    exact h.decl x7 (S (kdW k)) rfl rfl rfl rfl rfl
theorem goes_count (G : G8 n) (h : Rl n rs scs lb a) (ha : a ≠ 0) {i j : Nat} (hi : i < 6) (hj : j < 6) : Goes n rs scs lb a (.count i j) := by
  have e : acceptR rs a [w_count, n i, n j, w_4] = if (decide (kindOf scs (n i) = "") && decide (kindOf scs (n j) = "row")) = true then some { rs with stage := 4, scs := modL rs.scs (n i) sN, szs := putA rs.szs (n i) 0 } else none := by
    rw [acc_other ha (by decide +kernel)]
    unfold otherR
    rw [if_neg (show ¬ S (List.getD [w_count, n i, n j, w_4] 0 []) ∈ (["text", "row"] : List Str) by show S w_count ∉ _; decide +kernel), if_pos (show S (List.getD [w_count, n i, n j, w_4] 0 []) = "count" by show S w_count = _; decide +kernel)]
    show (if (decide (rs.man ≠ "order") && decide (4 = 4) && decide (kindOf rs.scs (n j) = "row") && numB w_4) = true then declR { rs with stage := 4 } (n i) sN else none) = _
    rw [declR_eq (G.b (by omega)), h.man, h.sc, show numB w_4 = true by decide +kernel, show decide ((4 : Nat) = 4) = true from rfl, show decide (("name" : Str) ≠ "order") = true by decide +kernel]
    cases decide (kindOf scs (n j) = "row") <;> cases decide (kindOf scs (n i) = "") <;> simp [h.sc]
  have x7 : n i ≠ n 7 := fun z => by have := G.ne i 7 (by omega) (by decide) z; omega
  constructor
  · intro r
    show acceptR rs a [w_count, n i, n j, w_4] = none
    rw [e, show (decide (kindOf scs (n i) = "") && decide (kindOf scs (n j) = "row")) = false from r]
    rfl
  · intro r
    refine ⟨_, by show acceptR rs a [w_count, n i, n j, w_4] = _; rw [e, show (decide (kindOf scs (n i) = "") && decide (kindOf scs (n j) = "row")) = true from r]; exact if_pos rfl, ?_⟩
    exact h.decl x7 sN rfl rfl rfl rfl rfl
theorem goes_say (h : Rl n rs scs lb a) (ha : a ≠ 0) {i : Nat} : Goes n rs scs lb a (.say i) := by
  have e : acceptR rs a [w_say, n i, w_back, w_and] = if decide (kindOf scs (n i) = "text") = true then some (growR { rs with stage := 4 } (n i) 1) else none := by
    rw [acc_write ha (by decide +kernel)]
    show (if (decide (S w_say ∈ (["say", "hole", "put", "bind", "add"] : List Str)) && decide (4 ≤ 4) && decide (S w_back ∈ (["front", "back"] : List Str))) = true then
      (if S w_say = "bind" then (if kindOf rs.scs (n i) = "text" then bindR _ [w_say, n i, w_back, w_and] else none)
       else if S w_say = "add" then addR _ (kindOf rs.scs (n i)) [w_say, n i, w_back, w_and]
       else if (if S w_say = "put" then decide (kindOf rs.scs (n i) = "row") && decide (rs.man ≠ "name") && valueB _ w_and && decide (4 = 4)
         else if S w_say = "say" then decide (kindOf rs.scs (n i) = "text") && litL w_and && decide (4 = 4)
         else _) = true then some (growR _ (n i) 1) else none) else none) = _
    have c1 : decide (S w_say ∈ (["say", "hole", "put", "bind", "add"] : List Str)) = true := by decide +kernel
    have c2 : decide (S w_back ∈ (["front", "back"] : List Str)) = true := by decide +kernel
    rw [if_pos (by rw [c1, c2]; rfl), if_neg (by decide +kernel), if_neg (by decide +kernel), if_neg (show ¬ S w_say = "put" by decide +kernel), if_pos (show S w_say = "say" by decide +kernel), h.sc, show litL w_and = true by decide +kernel]
    simp
  constructor
  · intro r
    show acceptR rs a [w_say, n i, w_back, w_and] = none
    rw [e, show decide (kindOf scs (n i) = "text") = false from r]
    rfl
  · intro r
    refine ⟨_, by show acceptR rs a [w_say, n i, w_back, w_and] = _; rw [e, show decide (kindOf scs (n i) = "text") = true from r]; exact if_pos rfl, ?_⟩
    exact h.up rfl rfl rfl rfl rfl
theorem goes_bind (h : Rl n rs scs lb a) (ha : a ≠ 0) {i j k : Nat} : Goes n rs scs lb a (.bind i j k) := by
  have hs := h.sc
  subst hs
  have c1 : S w_bind ∈ (["say", "hole", "put", "bind", "add"] : List Str) := by decide +kernel
  have c2 : S w_back ∈ (["front", "back"] : List Str) := by decide +kernel
  have c3 : nameB w_q = true := by decide +kernel
  have e : acceptR rs a [w_bind, n i, w_back, n j, w_back, n k, w_q] = if (decide (kindOf rs.scs (n i) = "text") && (decide (kindOf rs.scs (n j) = "row") && valOf rs.scs (n k))) = true then some (growR (growR { rs with stage := 4 } (n i) 1) (n j) 1) else none := by
    rw [acc_write ha (by decide +kernel)]
    unfold writeR
    refine (if_pos ?h1).trans ?_
    case h1 => exact Bool.and_eq_true_iff.mpr ⟨Bool.and_eq_true_iff.mpr ⟨decide_eq_true c1, decide_eq_true (show 4 ≤ 7 by decide)⟩, decide_eq_true c2⟩
    refine (if_pos ?h2).trans ?_
    case h2 =>
      show S w_bind = "bind"
      decide +kernel
    show (if kindOf rs.scs (n i) = "text" then bindR { rs with stage := 4 } [w_bind, n i, w_back, n j, w_back, n k, w_q] else none) = _
    by_cases c : kindOf rs.scs (n i) = "text"
    · rw [if_pos c, decide_eq_true c, Bool.true_and]
      unfold bindR
      rw [decide_eq_true (show ({ rs with stage := 4 } : RS).man = "name" from h.man), decide_eq_true (show S ([w_bind, n i, w_back, n j, w_back, n k, w_q].getD 4 []) ∈ (["front", "back"] : List Str) from c2), show nameB ([w_bind, n i, w_back, n j, w_back, n k, w_q].getD 6 []) = true from c3]
      have cond : (true && true && decide (kindOf rs.scs (n j) = "row") && true && valOf rs.scs (n k) && true && true) = (decide (kindOf rs.scs (n j) = "row") && valOf rs.scs (n k)) := by
        cases decide (kindOf rs.scs (n j) = "row") <;> cases valOf rs.scs (n k) <;> rfl
      rw [← cond]
      rfl
    · rw [if_neg c, decide_eq_false c]
      rfl
  constructor
  · intro r
    show acceptR rs a [w_bind, n i, w_back, n j, w_back, n k, w_q] = none
    rw [e, show (decide (kindOf rs.scs (n i) = "text") && (decide (kindOf rs.scs (n j) = "row") && valOf rs.scs (n k))) = false from r]
    rfl
  · intro r
    refine ⟨_, by show acceptR rs a [w_bind, n i, w_back, n j, w_back, n k, w_q] = _; rw [e, show (decide (kindOf rs.scs (n i) = "text") && (decide (kindOf rs.scs (n j) = "row") && valOf rs.scs (n k))) = true from r]; exact if_pos rfl, ?_⟩
    exact h.up rfl rfl rfl rfl rfl
theorem goes_ask (h : Rl n rs scs lb a) (ha : a ≠ 0) {i j : Nat} (he : sE ∉ lb) : Goes n rs scs lb a (.ask i j) := by
  have e : acceptR rs a [w_ask, n i, n j] = if (decide (kindOf scs (n i) = "text") && decide (kindOf scs (n j) = "row")) = true then some { rs with stage := 4 } else none := by
    rw [acc_other ha (by decide +kernel)]
    show (if S w_ask ∈ (["text", "row"] : List Str) then _ else if S w_ask = "count" then _ else if S w_ask ∈ (["turn", "clear"] : List Str) then _ else if (decide (3 = 3) && decide (kindOf rs.scs (n i) = "text") && decide (kindOf rs.scs (n j) = "row")) = true then (if S w_ask = "ask" then (if rs.loop = 0 then some { rs with stage := 4 } else none) else _) else none) = _
    rw [if_neg (by decide +kernel), if_neg (by decide +kernel), if_neg (by decide +kernel), if_pos (show S w_ask = "ask" by decide +kernel), if_pos (h.loop.mpr he), h.sc]
    simp
  constructor
  · intro r
    show acceptR rs a [w_ask, n i, n j] = none
    rw [e, show (decide (kindOf scs (n i) = "text") && decide (kindOf scs (n j) = "row")) = false from r]
    rfl
  · intro r
    refine ⟨_, by show acceptR rs a [w_ask, n i, n j] = _; rw [e, show (decide (kindOf scs (n i) = "text") && decide (kindOf scs (n j) = "row")) = true from r]; exact if_pos rfl, ?_⟩
    exact h.up rfl rfl rfl rfl rfl
theorem kind_nil (scs : Scs) (x : Nm) : kindOf (scs ++ [[]]) x = kindOf scs x := by
  unfold kindOf kindO
  rw [List.findSome?_append]
  cases scs.findSome? fun sc => getA sc x <;> rfl
theorem pair_lastB {α β : Type} {F : α → β → Prop} {k : β} : ∀ {xs : List α} {l : List β}, Paired F xs (l ++ [k]) → ∃ bs b, xs = bs ++ [b] ∧ Paired F bs l ∧ F b k
  | _, [], .cons (l₁ := r) h t => by
    cases t
    exact ⟨[], _, rfl, .nil, h⟩
  | _, y :: l, .cons h t => by
    obtain ⟨bs, b, rfl, p, q⟩ := pair_lastB (l := l) t
    exact ⟨_ :: bs, b, rfl, .cons h p, q⟩
/-- a block line's opening -/
theorem open_blocks {rs' : RS} {k : Str} (h : Rl n rs scs lb a) (e4 : rs'.jmps = putA rs.jmps a (-1, -1)) (hk : k = sE ∨ k = sW) : Paired (BR (putA rs.jmps a (-1, -1)) (a + 1)) (rs.blks ++ [(a, k)]) (lb ++ [k]) ∧ ((rs.blks ++ [(a, k)]).map Prod.fst).Nodup := by
  have lt : ∀ b ∈ rs.blks, b.1 < a := by
    have : ∀ {xs : List (Nat × Str)} {ys : List Str}, Paired (BR rs.jmps a) xs ys → ∀ b ∈ xs, b.1 < a := by
      intro xs ys p
      induction p with
      | nil => exact fun _ z => nomatch z
      | cons q _ ih => exact fun b hb => (List.mem_cons.mp hb).elim (fun e => e ▸ q.1) (ih b)
    exact this h.bl
  constructor
  · refine pair_app ?_ (.cons ⟨Nat.lt_succ_self a, ?_, fun _ => by rw [get_put]; rfl⟩ .nil)
    · exact Paired.mapP h.bl fun b y q => ⟨Nat.lt_succ_of_lt q.1, q.2.1, fun e => by rw [get_other _ (Nat.ne_of_gt q.1)]; exact q.2.2 e⟩
    · rcases hk with rfl | rfl
      · rfl
      · rw [if_neg (by decide +kernel)]
  · rw [List.map_append]
    refine List.nodup_append.mpr ⟨h.nd, List.pairwise_singleton _ _, fun x hx y hy e => ?_⟩
    obtain ⟨b, hb, rfl⟩ := List.mem_map.mp hx
    have := lt b hb
    rw [e, List.mem_singleton.mp hy] at this
    exact Nat.lt_irrefl _ this
theorem l7_app {x : List (Nm × Str)} (h : ∃ s0 t, scs = s0 :: t ∧ getA s0 (n 7) = some sT) : ∃ s0 t, scs ++ [x] = s0 :: t ∧ getA s0 (n 7) = some sT := by
  obtain ⟨s0, t, rfl, e⟩ := h
  exact ⟨s0, t ++ [x], rfl, e⟩
theorem goes_when (h : Rl n rs scs lb a) (ha : a ≠ 0) {i : Nat} (hl : lb.length < 4) : Goes n rs scs lb a (.when i) := by
  have e : acceptR rs a [w_when, n i] = if valOf scs (n i) = true then some { rs with stage := 4, blks := rs.blks ++ [(a, sW)], scs := rs.scs ++ [[]], jmps := putA rs.jmps a (-1, -1) } else none := by
    rw [acc_block ha (by decide +kernel)]
    show (if S w_when = "each" then _ else if S w_when = "when" then (if (decide (2 = 2) && valueB { rs with stage := 4 } (n i)) = true then openR { rs with stage := 4 } a sW else none) else _) = _
    rw [if_neg (by decide +kernel), if_pos (by decide +kernel), show valueB { rs with stage := 4 } (n i) = valOf scs (n i) by unfold valueB valOf; rw [← h.sc]]
    unfold openR
    rw [if_neg (show ¬ rs.blks.length ≥ 4 by rw [Paired.length h.bl]; omega)]
    cases valOf scs (n i) <;> rfl
  constructor
  · intro r
    show acceptR rs a [w_when, n i] = none
    rw [e, show valOf scs (n i) = false from r]
    rfl
  · intro r
    refine ⟨_, by show acceptR rs a [w_when, n i] = _; rw [e, show valOf scs (n i) = true from r]; exact if_pos rfl, ?_⟩
    obtain ⟨p1, p2⟩ := open_blocks (rs' := { rs with jmps := putA rs.jmps a (-1, -1) }) (k := sW) h rfl (.inr rfl)
    refine ⟨h.man, by show rs.scs ++ [[]] = _; rw [h.sc]; rfl, ?_, ?_, p1, p2, ?_, l7_app h.l7⟩
    · show rs.loop = 0 ↔ _
      rw [h.loop]
      show _ ↔ sE ∉ lb ++ [sW]
      rw [List.mem_append, List.mem_singleton]
      exact ⟨fun z y => y.elim z (by decide +kernel), fun z y => z (.inl y)⟩
    · show eachs (lb ++ [sW]) ≤ 1
      rw [eachs_app]
      exact h.one
    · show (scs ++ [[]]).length = (lb ++ [sW]).length + 1
      rw [List.length_append, List.length_append, h.len]
      rfl
theorem goes_each (G : G8 n) (h : Rl n rs scs lb a) (ha : a ≠ 0) {i : Nat} (hi : i < 6) (hl : lb.length < 4) (he : sE ∉ lb) : Goes n rs scs lb a (.each i) := by
  have e : acceptR rs a [w_each, n i, w_of, n 7] = if decide (kindOf scs (n i) = "") = true then some { rs with stage := 4, blks := rs.blks ++ [(a, sE)], scs := scs ++ [[(n i, sI)]], jmps := putA rs.jmps a (-1, -1), loop := scs.length, szs := putA rs.szs (n i) 0 } else none := by
    rw [acc_block ha (by decide +kernel)]
    show (if S w_each = "each" then eachR { rs with stage := 4 } a [w_each, n i, w_of, n 7] else _) = _
    rw [if_pos (by decide +kernel)]
    unfold eachR
    have c1 : S w_of = "of" := by decide +kernel
    refine (if_pos ?h1).trans ?_
    case h1 => exact (Bool.and_eq_true_iff.mpr ⟨Bool.and_eq_true_iff.mpr ⟨Bool.and_eq_true_iff.mpr ⟨Bool.and_eq_true_iff.mpr ⟨rfl, decide_eq_true c1⟩, rfl⟩, decide_eq_true (h.loop.mpr he)⟩, decide_eq_true (show kindOf rs.scs (n 7) = sT by rw [h.sc]; exact h.k7)⟩)
    unfold openR
    rw [if_neg (show ¬ rs.blks.length ≥ 4 by rw [Paired.length h.bl]; omega)]
    show declR { rs with stage := 4, blks := rs.blks ++ [(a, sE)], scs := rs.scs ++ [[]], jmps := putA rs.jmps a (-1, -1), loop := (rs.scs ++ [[]]).length - 1 } (n i) sI = _
    have hl : (rs.scs ++ [[]]).length - 1 = rs.scs.length := by rw [List.length_append]; rfl
    rw [declR_eq (G.b (by omega))]
    show (if decide (kindOf (rs.scs ++ [[]]) (n i) = "") = true then some { rs with stage := 4, blks := rs.blks ++ [(a, sE)], scs := modL (rs.scs ++ [[]]) (n i) sI, jmps := putA rs.jmps a (-1, -1), loop := (rs.scs ++ [[]]).length - 1, szs := putA rs.szs (n i) 0 } else none) = _
    rw [kind_nil, modL_app, hl, h.sc]
    rfl
  constructor
  · intro r
    show acceptR rs a [w_each, n i, w_of, n 7] = none
    rw [e, show decide (kindOf scs (n i) = "") = false from r]
    rfl
  · intro r
    refine ⟨_, by show acceptR rs a [w_each, n i, w_of, n 7] = _; rw [e, show decide (kindOf scs (n i) = "") = true from r]; exact if_pos rfl, ?_⟩
    obtain ⟨p1, p2⟩ := open_blocks (rs' := { rs with jmps := putA rs.jmps a (-1, -1) }) (k := sE) h rfl (.inl rfl)
    refine ⟨h.man, rfl, ?_, ?_, p1, p2, ?_, l7_app h.l7⟩
    · show scs.length = 0 ↔ _
      rw [h.len]
      show _ ↔ sE ∉ lb ++ [sE]
      exact ⟨fun z => absurd z (by omega), fun z => absurd (List.mem_append.mpr (.inr List.mem_cons_self)) z⟩
    · show eachs (lb ++ [sE]) ≤ 1
      rw [eachs_app, eachs_0.mpr he]
      exact Nat.le_refl 1
    · show (scs ++ [_]).length = (lb ++ [sE]).length + 1
      rw [List.length_append, List.length_append, h.len]
      rfl
theorem goes_els (h : Rl n rs scs lb a) (ha : a ≠ 0) (hl : lb.getLast? = some sW) : Goes n rs scs lb a .els := by
  obtain ⟨l, rfl⟩ := List.getLast?_eq_some_iff.mp hl
  obtain ⟨bs, ⟨at_, kb⟩, eb, p, q⟩ := pair_lastB h.bl
  have hkb : kb = sW := q.2.1.trans (if_neg (by decide +kernel))
  subst hkb
  have q3 := q.2.2 rfl
  have e : acceptR rs a [w_else] = some { rs with stage := 4, jmps := putA rs.jmps at_ ((a : Int), -1), scs := rs.scs.dropLast ++ [[]] } := by
    rw [acc_block ha (by decide +kernel)]
    unfold blockR
    rw [if_neg (show ¬ S (List.getD [w_else] 0 []) = "each" by show ¬ S w_else = _; decide +kernel), if_neg (show ¬ S (List.getD [w_else] 0 []) = "when" by show ¬ S w_else = _; decide +kernel)]
    show (match true, rs.blks.getLast? with | true, some (at_, k) => _ | _, _ => none) = _
    rw [eb, List.getLast?_concat]
    show (if S w_else = "else" then (if (decide (sW = sW) && decide (((getA rs.jmps at_).getD (0, 0)).1 = -1)) = true then _ else none) else _) = _
    rw [if_pos (by decide +kernel), q3, if_pos (by decide +kernel)]
  have nd := h.nd
  rw [eb, List.map_append] at nd
  have sep := (List.nodup_append.mp nd).2.2
  refine ⟨(fun r => by cases r), fun _ => ⟨_, e, h.man, by show rs.scs.dropLast ++ [[]] = _; rw [h.sc]; rfl, ?_, ?_, ?_, by show (rs.blks.map Prod.fst).Nodup; exact h.nd, ?_, ?_⟩⟩
  · show rs.loop = 0 ↔ _
    rw [h.loop]
    show sE ∉ l ++ [sW] ↔ sE ∉ (l ++ [sW]).dropLast ++ [sL]
    rw [List.dropLast_concat, List.mem_append, List.mem_append, List.mem_singleton, List.mem_singleton]
    exact ⟨fun z y => z (.inl (y.elim id fun e => absurd e (by decide +kernel))), fun z y => z (.inl (y.elim id fun e => absurd e (by decide +kernel)))⟩
  · show eachs ((l ++ [sW]).dropLast ++ [sL]) ≤ 1
    have := h.one
    rw [eachs_app] at this
    rw [List.dropLast_concat, eachs_app]
    exact this
  · show Paired (BR (putA rs.jmps at_ ((a : Int), -1)) (a + 1)) rs.blks ((l ++ [sW]).dropLast ++ [sL])
    rw [eb, List.dropLast_concat]
    refine pair_app ?_ (.cons ⟨Nat.lt_succ_of_lt q.1, (if_neg (by decide +kernel)).symm, fun z => absurd z (by decide +kernel)⟩ .nil)
    have go : ∀ {xs : List (Nat × Str)} {ys : List Str}, Paired (BR rs.jmps a) xs ys → (∀ b ∈ xs, at_ ≠ b.1) → Paired (BR (putA rs.jmps at_ ((a : Int), -1)) (a + 1)) xs ys := by
      intro xs ys p
      induction p with
      | nil => exact fun _ => .nil
      | cons q _ ih => exact fun m => .cons ⟨Nat.lt_succ_of_lt q.1, q.2.1, fun e => by rw [get_other _ (m _ List.mem_cons_self)]; exact q.2.2 e⟩ (ih fun b hb => m b (List.mem_cons_of_mem _ hb))
    exact go p fun b hb z => sep _ (List.mem_map.mpr ⟨b, hb, rfl⟩) at_ List.mem_cons_self z.symm
  · show (scs.dropLast ++ [[]]).length = ((l ++ [sW]).dropLast ++ [sL]).length + 1
    rw [List.dropLast_concat, List.length_append, List.length_append, List.length_dropLast, h.len, List.length_append]
    rfl
  · obtain ⟨s0, t, rfl, e7⟩ := h.l7
    have hlen := h.len
    rw [List.length_cons, List.length_append] at hlen
    obtain ⟨x, t, rfl⟩ : ∃ x r, t = x :: r := by
      cases t with
      | nil => exact absurd hlen (by show ¬ 0 + 1 = l.length + 1 + 1; omega)
      | cons x r => exact ⟨x, r, rfl⟩
    exact ⟨s0, (x :: t).dropLast ++ [[]], rfl, e7⟩
theorem goes_fin (h : Rl n rs scs lb a) (ha : a ≠ 0) (hl : lb ≠ []) : Goes n rs scs lb a .fin := by
  obtain ⟨l, k, rfl⟩ : ∃ l k, lb = l ++ [k] := ⟨_, _, (List.dropLast_concat_getLast hl).symm⟩
  obtain ⟨bs, ⟨at_, kb⟩, eb, p, q⟩ := pair_lastB h.bl
  have hkb : kb = if k = sE then sE else sW := q.2.1
  have e : acceptR rs a [w_end] = some { rs with stage := 4, jmps := putA rs.jmps at_ (((getA rs.jmps at_).getD (0, 0)).1, (a : Int)), blks := rs.blks.dropLast, scs := rs.scs.dropLast, loop := if kb = sE then 0 else rs.loop } := by
    rw [acc_block ha (by decide +kernel)]
    unfold blockR
    rw [if_neg (show ¬ S (List.getD [w_end] 0 []) = "each" by show ¬ S w_end = _; decide +kernel), if_neg (show ¬ S (List.getD [w_end] 0 []) = "when" by show ¬ S w_end = _; decide +kernel)]
    show (match true, rs.blks.getLast? with | true, some (at_, k) => _ | _, _ => none) = _
    rw [eb, List.getLast?_concat]
    show (if S w_end = "else" then _ else _) = _
    rw [if_neg (by decide +kernel)]
  have nd := h.nd
  rw [eb, List.map_append] at nd
  have sep := (List.nodup_append.mp nd).2.2
  have one := h.one
  rw [eachs_app] at one
  refine ⟨(fun r => by cases r), fun _ => ⟨_, e, h.man, by show rs.scs.dropLast = _; rw [h.sc]; rfl, ?_, ?_, ?_, ?_, ?_, ?_⟩⟩
  · show (if kb = sE then 0 else rs.loop) = 0 ↔ sE ∉ (l ++ [k]).dropLast
    rw [List.dropLast_concat, hkb]
    by_cases c : k = sE
    · rw [if_pos c, if_pos rfl]
      rw [c, show eachs [sE] = 1 by decide +kernel] at one
      exact ⟨fun _ => eachs_0.mp (by omega), fun _ => rfl⟩
    · rw [if_neg c, if_neg (by decide +kernel), h.loop, List.mem_append, List.mem_singleton]
      exact ⟨fun z y => z (.inl y), fun z y => y.elim z fun e => c e.symm⟩
  · show eachs (l ++ [k]).dropLast ≤ 1
    rw [List.dropLast_concat]
    omega
  · show Paired (BR (putA rs.jmps at_ (((getA rs.jmps at_).getD (0, 0)).1, (a : Int))) (a + 1)) rs.blks.dropLast (l ++ [k]).dropLast
    rw [eb, List.dropLast_concat, List.dropLast_concat]
    have go : ∀ {z : Int × Int} {xs : List (Nat × Str)} {ys : List Str}, Paired (BR rs.jmps a) xs ys → (∀ b ∈ xs, at_ ≠ b.1) → Paired (BR (putA rs.jmps at_ z) (a + 1)) xs ys := by
      intro z xs ys p
      induction p with
      | nil => exact fun _ => .nil
      | cons q _ ih => exact fun m => .cons ⟨Nat.lt_succ_of_lt q.1, q.2.1, fun e => by rw [get_other _ (m _ List.mem_cons_self)]; exact q.2.2 e⟩ (ih fun b hb => m b (List.mem_cons_of_mem _ hb))
    exact go p fun b hb z => sep _ (List.mem_map.mpr ⟨b, hb, rfl⟩) at_ List.mem_cons_self z.symm
  · show (rs.blks.dropLast.map Prod.fst).Nodup
    rw [eb, List.dropLast_concat]
    exact (List.nodup_append.mp nd).1
  · show scs.dropLast.length = (l ++ [k]).dropLast.length + 1
    rw [List.dropLast_concat, List.length_dropLast, h.len, List.length_append]
    rfl
  · obtain ⟨s0, t, rfl, e7⟩ := h.l7
    have hlen := h.len
    rw [List.length_cons, List.length_append] at hlen
    obtain ⟨x, t, rfl⟩ : ∃ x r, t = x :: r := by
      cases t with
      | nil => exact absurd hlen (by show ¬ 0 + 1 = l.length + 1 + 1; omega)
      | cons x r => exact ⟨x, r, rfl⟩
    exact ⟨s0, (x :: t).dropLast, rfl, e7⟩
/-- every line that may be drawn -/
theorem goes (G : G8 n) (h : Rl n rs scs lb a) (ha : a ≠ 0) {l : Ln} (hg : l.gen lb) : Goes n rs scs lb a l := by
  cases l with
  | decl k i => exact goes_decl G h ha k hg
  | count i j => exact goes_count G h ha hg.1 hg.2
  | each i => exact goes_each G h ha hg.1 hg.2.1 hg.2.2
  | when i => exact goes_when h ha hg.2
  | els => exact goes_els h ha hg
  | fin => exact goes_fin h ha hg
  | say i => exact goes_say h ha
  | bind i j k => exact goes_bind h ha
  | ask i j => exact goes_ask h ha hg.2.2
end
theorem readR_app (rs : RS) (a : Nat) (A B : List (List Nm)) : readR rs a (A ++ B) = match readR rs a A with | .inl r => readR r (a + A.length) B | .inr b => .inr b := by
  induction A generalizing rs a with
  | nil => rfl
  | cons x A ih =>
    rw [List.cons_append, readR, readR]
    split
    · rfl
    · cases acceptR rs a x with
      | none => rfl
      | some r =>
        show readR r (a + 1) (A ++ B) = _
        rw [ih, List.length_cons, show a + 1 + A.length = a + (A.length + 1) by omega]
theorem acc_opts {rs : RS} {a : Nat} {p0 : Nm} {rest : List Nm} (ha : a ≠ 0) (h : S p0 = "options") (hs : rs.stage = 1) : acceptR rs a (p0 :: rest) = (declsR rs rest "option").map fun r => { r with opts := rest, stage := 2 } := by
  simp only [acceptR, if_neg ha, if_pos h, if_pos hs]
theorem acc_lsts {rs : RS} {a : Nat} {p0 : Nm} {rest : List Nm} (ha : a ≠ 0) (h : S p0 = "lists") (hs : rs.stage ≤ 2) : acceptR rs a (p0 :: rest) = (declsR rs rest "list").map fun r => { r with lsts := rest, stage := 3 } := by
  have h1 : ¬ S p0 = "options" := by rw [h]; decide +kernel
  simp only [acceptR, if_neg ha, if_neg h1, if_pos h, if_pos hs]
/-- the head of the program -/
def headP (n : Nat → Nm) : List (List Nm) := [[w_by, w_name], [w_options, n 6], [w_lists, n 7]]
def scs0 (n : Nat → Nm) : Scs := [[(n 6, sO), (n 7, sT)]]
def rs3 (n : Nat → Nm) : RS := { RS.new with man := S w_name, opts := [n 6], lsts := [n 7], stage := 3, scs := scs0 n, szs := [(n 6, 0), (n 7, 0)] }
theorem head_rl {n : Nat → Nm} (G : G8 n) : ∃ rs, readR RS.new 0 (headP n) = .inl rs ∧ Rl n rs (scs0 n) [] 3 := by
  have n67 : n 6 ≠ n 7 := fun z => by have := G.ne 6 7 (by decide) (by decide) z; omega
  have b6 := G.b (i := 6) (by decide)
  have b7 := G.b (i := 7) (by decide)
  have e0 : acceptR RS.new 0 [w_by, w_name] = some { RS.new with man := S w_name, stage := 1 } := by
    show (if (decide (S w_by = "by") && decide (S w_name ∈ (["order", "number", "name"] : List Str))) = true then some { RS.new with man := S w_name, stage := 1 } else none) = _
    rw [if_pos (by decide +kernel)]
  have e1 : acceptR { RS.new with man := S w_name, stage := 1 } 1 [w_options, n 6] = some { RS.new with man := S w_name, opts := [n 6], stage := 2, scs := [[(n 6, sO)]], szs := [(n 6, 0)] } := by
    rw [acc_opts (by decide) (by decide +kernel) rfl]
    show (decAll _ sO [n 6]).map _ = _
    unfold decAll
    rw [declR_eq b6]
    rfl
  have e2 : acceptR { RS.new with man := S w_name, opts := [n 6], stage := 2, scs := [[(n 6, sO)]], szs := [(n 6, 0)] } 2 [w_lists, n 7] = some (rs3 n) := by
    have k : kindOf [[(n 6, sO)]] (n 7) = "" := by
      unfold kindOf kindO getA
      rw [List.findSome?_cons, List.find?_cons, decide_eq_false n67]
      rfl
    have p1 : putA [(n 6, sO)] (n 7) sT = [(n 6, sO), (n 7, sT)] := by
      unfold putA
      rw [List.any_cons, decide_eq_false n67]
      rfl
    have p2 : putA [(n 6, (0 : Int))] (n 7) 0 = [(n 6, 0), (n 7, 0)] := by
      unfold putA
      rw [List.any_cons, decide_eq_false n67]
      rfl
    rw [acc_lsts (by decide) (by decide +kernel) (Nat.le_refl 2)]
    show (decAll _ sT [n 7]).map _ = _
    unfold decAll
    rw [declR_eq b7]
    show Option.map _ (match (if decide (kindOf [[(n 6, sO)]] (n 7) = "") = true then _ else _) with | some r => decAll r sT [] | none => none) = _
    rw [k]
    show some _ = _
    rw [show modL [[(n 6, sO)]] (n 7) sT = [putA [(n 6, sO)] (n 7) sT] from rfl, p1, p2]
    rfl
  refine ⟨rs3 n, by unfold headP; rw [readR, if_neg (by decide), e0]; show readR _ 1 _ = _; rw [readR, if_neg (by decide), e1]; show readR _ 2 _ = _; rw [readR, if_neg (by decide), e2]; rfl, ?_⟩
  refine ⟨by show S w_name = _; decide +kernel, rfl, ⟨(fun _ z => nomatch z), fun _ => rfl⟩, Nat.zero_le 1, .nil, List.Pairwise.nil, rfl, ⟨_, [], rfl, ?_⟩⟩
  show getA [(n 6, sO), (n 7, sT)] (n 7) = _
  unfold getA
  rw [List.find?_cons, decide_eq_false n67, List.find?_cons, decide_eq_true rfl]
  rfl
end LW
end

section
local macro_rules | `(tactic| walk_at "tx") => `(tactic| first
  | ((with_reducible refine' Eg.c_sfld ?hs ?hc ?hn ?hl ?_); (case hs => walk_at "hp"); (case hc => assumption); (case hn => assumption); (case hl => exact Nat.le_of_ble_eq_true rfl))
  | with_reducible refine Ex.w_rs ?_
  | with_reducible refine Ex.w_xg ?_
  | with_reducible refine Co.w_makeS ?_
  | with_reducible refine Po.w_tru ?_
  | ((with_reducible refine' Po.c_truL ?hs ?_); (case hs => walk_at "hp")))
local macro_rules | `(tactic| walk_at "at") => `(tactic| first | exact atI_nat (j := 0) rfl | exact atI_nat (j := 1) rfl | exact atI_nat (j := 2) rfl | exact atI_nat (j := 3) rfl | exact atI_nat (j := 4) rfl | exact atI_nat (j := 5) rfl | exact atI_nat (j := 6) rfl | exact atI_nat (j := 7) rfl)
namespace LW
open PySem L2 SX Tx
/-! k23: the law's own defs, first part -/
abbrev nms (n : Nat → Nm) : List V := [.str (S (n 0)), .str (S (n 1)), .str (S (n 2)), .str (S (n 3)), .str (S (n 4)), .str (S (n 5)), .str (S (n 6)), .str (S (n 7))]
theorem at_nms {n : Nat → Nm} {i : Nat} (h : i < 8) : atI (nms n) (i : Int) = some (.str (S (n i))) := by
  rcases (by omega : i = 0 ∨ i = 1 ∨ i = 2 ∨ i = 3 ∨ i = 4 ∨ i = 5 ∨ i = 6 ∨ i = 7) with rfl | rfl | rfl | rfl | rfl | rfl | rfl | rfl <;> exact atI_nat rfl
abbrev strN (ps : List Nm) : List V := ps.map fun x => V.str (S x)
theorem BagR.nn {H : Hp} {a x : Addr} (h : BagR H a) (z : H x = none) : x ≠ a := by
  obtain ⟨_, _, _, e⟩ := h
  exact (ne_of_none e z).symm
theorem KeptB.free {b : Addr} {H T : Hp} {r : Addr} (k : KeptB b H T) (hb : BagR T b) (h : T r = none) : H r = none := by
  cases e : H r with
  | none => rfl
  | some o => exact absurd (k r o e (hb.nn h)) (by rw [h]; exact fun z => nomatch z)
/-- the law's scopes in the heap -/
structure ScAt (H : Hp) (p : Addr) (ds : List Addr) (scs : Scs) : Prop where
  l : H p = some (.lst (ds.map V.ref))
  d : Paired (fun d s => H d = some (.dK (encS s))) ds scs
  nd : ds.Nodup
theorem ScAt.to {H H' : Hp} {p : Addr} {ds : List Addr} {scs : Scs} (h : ScAt H p ds scs) (k : ∀ c o, H c = some o → (c = p ∨ ∃ kvs, o = .dK kvs) → H' c = some o) : ScAt H' p ds scs :=
  ⟨k _ _ h.l (.inl rfl), Paired.mapP h.d fun _ _ e => k _ _ e (.inr ⟨_, rfl⟩), h.nd⟩
theorem ScAt.keep {H H' : Hp} {p : Addr} {ds : List Addr} {scs : Scs} (h : ScAt H p ds scs) (s : Same H H') : ScAt H' p ds scs := h.to fun c o e _ => s c o e
theorem ScAt.kept {H H' : Hp} {p b : Addr} {ds : List Addr} {scs : Scs} (h : ScAt H p ds scs) (s : KeptB b H H') (hb : BagR H b) (hp : p ≠ b) : ScAt H' p ds scs := h.to fun c o e z => s c o e (by
  rcases z with rfl | ⟨kvs, rfl⟩
  · exact hp
  · rintro rfl
    obtain ⟨x, y, w, eb⟩ := hb
    rw [eb] at e
    cases e)
def sp_l_kind : Sp := fun vs H Q _ => ∃ (p : Addr) (ds : List Addr) (scs : Scs) (x : Nm), vs = [.ref p, .str (S x)] ∧ ScAt H p ds scs ∧ Q (.str (kindOf scs x)) H
def sp_l_line (K : PySem.W.Frag) : Sp := fun vs H Q _ => ∃ (b a g : Addr) (n : Nat → Nm) (lb : List Str), vs = [.ref b, .ref a, .ref g] ∧ BagR H b ∧ a ≠ b ∧ g ≠ b ∧ H a = some (.lst (nms n)) ∧ H g = some (.lst (lb.map V.str)) ∧ lb.length ≤ 4 ∧
  ∀ (r : Addr) (l : Ln) (H' : Hp), l.gen lb → H r = none → H' r = some (.lst (strN (l.ps n))) → BagR H' b → KeptB b H H' → Q (.ref r) H'
section
variable {P : Program} {w : World} {K : PySem.W.Frag} {mg : Str → Option Value} {base : Heap} {Z : Ad}
set_option maxHeartbeats 8000000 in
theorem ok_l_kind (T : Txt K mg Z) : FnOk P w K mg base CX0 1 Z.a_l_kind Z.d_l_kind ["_law_scopes", "_law_name"] sp_l_kind := by
  refine T.F_l_kind.ok sc_l_kind (fun vs H Q E h => ?_) (fun cdv A outer s H vs Q E hr h => ?_)
  · obtain ⟨p, ds, scs, x, rfl, _⟩ := h
    rfl
  · obtain ⟨p, ds, scs, x, rfl, hS, q⟩ := h
    have nd := sc_l_kind.nd
    have hu := hu_of hr
    have hsl := hS.l
    refine ⟨_, (pss_cons (ps_for PassesOwn.never rfl (pi_list (pv 0)) (pg_name (i := 2) nd rfl (Or.inl rfl))
  (pss_one (ps_if (pt_cmp (pc_din hu (pv 1) (pv 2)))
  (pss_one (ps_ret (pe_dget hu (pv 2) (pv 1) (fun _ _ => rfl))))
  pss_nil)))
  (pss_one (ps_ret pe_str))), ?_⟩
    refine Eg.w_sig (σ := [some (.ref p), some (.str (S x)), none]) rfl ?_
    walk_at "go"
    refine for_list (xs := ds.map V.ref) (fun j σ' H' => ∃ v2 : Option V, σ' = [some (.ref p), some (.str (S x)), v2] ∧ H = H' ∧ kindO scs x = kindO (scs.drop j) x) ⟨none, rfl, rfl, rfl⟩ ?_ ?_ ?_
    · rintro j _ _ _ ⟨v2, rfl, rfl, _⟩
      exact SqL.of hsl
    · rintro j y _ _ hy ⟨v2, rfl, rfl, hk⟩
      rw [List.getElem?_map] at hy
      obtain ⟨d, hd, rfl⟩ := Option.map_eq_some_iff.mp hy
      obtain ⟨sc, hs, hdk⟩ := pair_getL hS.d hd
      rw [kind_drop hs] at hk
      have dg := Tw.dgetK (k := .inr (S x)) (.inl hdk)
      rw [val_S] at dg
      walk_at "go"
      refine Eg.c_din dg ?_
      cases e : getA sc x with
      | none =>
        rw [e] at hk
        rw [show (Option.map V.str (none : Option Str)).isSome = false from rfl]
        walk_at "go"
        exact ⟨_, rfl, rfl, hk⟩
      | some k =>
        rw [e] at hk dg
        rw [show (Option.map V.str (some k)).isSome = true from rfl]
        walk_at "go"
        refine ⟨d, .str k, rfl, dg, ?_⟩
        walk_at "go"
        have e : kindOf scs x = k := by
          unfold kindOf
          rw [hk]
          rfl
        rw [e] at q
        exact q
    · rintro _ _ ⟨v2, rfl, rfl, hk⟩
      rw [List.length_map, Paired.length hS.d, List.drop_length] at hk
      walk_at "go"
      have e : kindOf scs x = "" := by
        unfold kindOf
        rw [hk]
        rfl
      rw [e] at q
      exact q
set_option maxHeartbeats 8000000 in
theorem ok_l_line (T : Txt K mg Z) : FnOk P w K mg base CX0 2 Z.a_l_line Z.d_l_line ["_law_bag_here", "_law_names_here", "_law_blocks"] (sp_l_line K) := by
  refine T.F_l_line.ok sc_l_line (fun vs H Q E h => ?_) (fun cdv A outer s H vs Q E hr h => ?_)
  · obtain ⟨b, a, g, n, lb, rfl, _⟩ := h
    rfl
  · obtain ⟨b, a, g, n, lb, rfl, hb, hab, hgb, ha, hg, hl4, q⟩ := h
    have nd := sc_l_line.nd
    have hu := hu_of hr
    refine ⟨_, (pss_cons (ps_set (i := 3) nd rfl (Or.inl rfl) (pe_call (ok_l_take T) (hr.mono (by decide)) (by rfl) T.g_l_take T.F_l_take.kp T.b_l_take .nil pass0 (pa_cons (pv 0) (pa_cons pe_int pa_nil))))
  (pss_cons (ps_set (i := 4) nd rfl (Or.inl rfl) (pe_ix ix_list (pv 1) (pe_call (ok_l_take T) (hr.mono (by decide)) (by rfl) T.g_l_take T.F_l_take.kp T.b_l_take .nil pass0 (pa_cons (pv 0) (pa_cons pe_int pa_nil))) (fun _ _ => rfl)))
  (pss_cons (ps_set (i := 5) nd rfl (Or.inl rfl) (pe_ix ix_list (pv 1) (pe_call (ok_l_take T) (hr.mono (by decide)) (by rfl) T.g_l_take T.F_l_take.kp T.b_l_take .nil pass0 (pa_cons (pv 0) (pa_cons pe_int pa_nil))) (fun _ _ => rfl)))
  (pss_cons (ps_if (pt_cmpR op_lt (pv 3) pe_int (nomark _))
  (pss_one (ps_ret (pe_lst (pa_cons (pe_ix ix_list (pe_lst (pa_cons pe_str (pa_cons pe_str (pa_cons pe_str pa_nil)))) (pv 3) (fun _ _ => rfl)) (pa_cons (pv 4) pa_nil)))))
  pss_nil)
  (pss_cons (ps_if (pt_cmpR op_eq (pv 3) pe_int (nomark _))
  (pss_one (ps_ret (pe_lst (pa_cons pe_str (pa_cons (pv 4) (pa_cons (pv 5) (pa_cons pe_str pa_nil)))))))
  pss_nil)
  (C8.pss_cut (ps_if (PW.pt (pw_and (pt_cmpR op_eq (pv 3) pe_int (nomark _)) (pw_and (pt_cmpR op_lt (pe_callB Eg.cr_len (by rfl) T.u_len (by decide +kernel) (pa_cons (pv 2) pa_nil)) pe_int (nomark _)) (pw_and1 (pt_cmpR op_notIn_seq pe_str (pv 2) (by rfl))))))
  (pss_one (ps_ret (pe_lst (pa_cons pe_str (pa_cons (pv 4) (pa_cons pe_str (pa_cons (pe_ix ix_list (pv 1) pe_int (fun _ _ => rfl)) pa_nil)))))))
  pss_nil)
  (C8.pss_cut (ps_if (PW.pt (pw_and (pt_cmpR op_lt (pv 3) pe_int (nomark _)) (pw_and1 (pt_cmpR op_lt (pe_callB Eg.cr_len (by rfl) T.u_len (by decide +kernel) (pa_cons (pv 2) pa_nil)) pe_int (nomark _)))))
  (pss_one (ps_ret (pe_lst (pa_cons pe_str (pa_cons (pe_ix ix_list (pe_lst (pa_cons (pe_ix ix_list (pv 1) pe_int (fun _ _ => rfl)) (pa_cons (pv 4) pa_nil))) (pe_call (ok_l_take T) (hr.mono (by decide)) (by rfl) T.g_l_take T.F_l_take.kp T.b_l_take .nil pass0 (pa_cons (pv 0) (pa_cons pe_int pa_nil))) (fun _ _ => rfl)) pa_nil)))))
  pss_nil)
  (C8.pss_cut (ps_if (PW.pt (pw_and (pt_cmpR op_eq (pv 3) pe_int (nomark _)) (pw_and (pt_cmpR (Tw.op_neE (Nat.lt_of_succ_lt hu)) (pv 2) (pe_lst pa_nil) (nomark _)) (pw_and1 (pt_cmpR op_eq (pe_ix ix_list (pv 2) (pe_un un_neg pe_int) (fun _ _ => rfl)) pe_str (nomark _))))))
  (pss_one (ps_ret (pe_lst (pa_cons pe_str pa_nil))))
  pss_nil)
  (C8.pss_cut (ps_if (PW.pt (pw_and (pt_cmpR op_lt (pv 3) pe_int (nomark _)) (pw_and1 (pt_cmpR (Tw.op_neE (Nat.lt_of_succ_lt hu)) (pv 2) (pe_lst pa_nil) (nomark _)))))
  (pss_one (ps_ret (pe_lst (pa_cons pe_str pa_nil))))
  pss_nil)
  (pss_cons (ps_if (pt_cmpR op_lt (pv 3) pe_int (nomark _))
  (pss_one (ps_ret (pe_lst (pa_cons pe_str (pa_cons (pv 4) (pa_cons pe_str (pa_cons pe_str pa_nil)))))))
  pss_nil)
  (pss_cons (ps_if (pt_cmpR op_in_seq pe_str (pv 2) (by rfl))
  (pss_one (ps_ret (pe_lst (pa_cons pe_str (pa_cons (pv 4) (pa_cons pe_str (pa_cons (pv 5) (pa_cons pe_str (pa_cons (pe_ix ix_list (pv 1) (pe_call (ok_l_take T) (hr.mono (by decide)) (by rfl) T.g_l_take T.F_l_take.kp T.b_l_take .nil pass0 (pa_cons (pv 0) (pa_cons pe_int pa_nil))) (fun _ _ => rfl)) (pa_cons pe_str pa_nil))))))))))
  pss_nil)
  (pss_one (ps_ret (pe_lst (pa_cons pe_str (pa_cons (pv 4) (pa_cons (pv 5) pa_nil))))))))))))))))), ?_⟩
    refine Eg.w_sig (σ := [some (.ref b), some (.ref a), some (.ref g), none, none, none]) rfl ?_
    have e_text : ("text" : Str) = S w_text := by decide +kernel
    have e_row : ("row" : Str) = S w_row := by decide +kernel
    have e_count : ("count" : Str) = S w_count := by decide +kernel
    have e_4 : ("4" : Str) = S w_4 := by decide +kernel
    have e_each : ("each" : Str) = S w_each := by decide +kernel
    have e_of : ("of" : Str) = S w_of := by decide +kernel
    have e_when : ("when" : Str) = S w_when := by decide +kernel
    have e_else : ("else" : Str) = S w_else := by decide +kernel
    have e_end : ("end" : Str) = S w_end := by decide +kernel
    have e_say : ("say" : Str) = S w_say := by decide +kernel
    have e_back : ("back" : Str) = S w_back := by decide +kernel
    have e_and : ("and" : Str) = S w_and := by decide +kernel
    have e_bind : ("bind" : Str) = S w_bind := by decide +kernel
    have e_q : ("q" : Str) = S w_q := by decide +kernel
    have e_ask : ("ask" : Str) = S w_ask := by decide +kernel
    have k_0 : KeptB b H H := KeptB.of (Same.refl H)
    have lgl : (lb.map V.str).length = lb.length := List.length_map ..
    walk_at "go"
    refine ⟨b, _, rfl, hb, by decide, by decide, fun r1 T1 rz1 rl1 b_1 ft1 => ?_⟩
    obtain ⟨kh, rfl⟩ := Int.eq_ofNat_of_zero_le rz1
    have fa_1 := (ft1 a hab).trans ha
    have fg_1 := (ft1 g hgb).trans hg
    have k_1 := (k_0).trans (KeptB.fr ft1)
    have hkh : kh < 12 := by omega
    walk_at "go"
    refine ⟨b, _, rfl, b_1, by decide, by decide, fun r2 T2 rz2 rl2 b_2 ft2 => ?_⟩
    obtain ⟨i, rfl⟩ := Int.eq_ofNat_of_zero_le rz2
    have fa_2 := (ft2 a hab).trans fa_1
    have fg_2 := (ft2 g hgb).trans fg_1
    have k_2 := (k_1).trans (KeptB.fr ft2)
    have hi : i < 6 := by omega
    have ixi : atI (nms n) (i : Int) = some (.str (S (n i))) := at_nms (by omega)
    walk_at "go"
    refine ⟨b, _, rfl, b_2, by decide, by decide, fun r3 T3 rz3 rl3 b_3 ft3 => ?_⟩
    obtain ⟨j, rfl⟩ := Int.eq_ofNat_of_zero_le rz3
    have fa_3 := (ft3 a hab).trans fa_2
    have fg_3 := (ft3 g hgb).trans fg_2
    have k_3 := (k_2).trans (KeptB.fr ft3)
    have hj : j < 6 := by omega
    have ixj : atI (nms n) (j : Int) = some (.str (S (n j))) := at_nms (by omega)
    walk_at "go"
    refine Eg.brD (fun c1 => ?_) (fun c1 => ?_)
    · walk_at "go"
      intro d hd
      have u4 : upd T3 d (.lst ([V.str "text", V.str "row", V.str "text"])) d = some (.lst ([V.str "text", V.str "row", V.str "text"])) := upd_same
      have s4 : Same T3 (upd T3 d (.lst ([V.str "text", V.str "row", V.str "text"]))) := fun c ob e => Eg.upd_old e hd
      have nbd : d ≠ b := b_3.nn hd
      generalize upd T3 d (.lst ([V.str "text", V.str "row", V.str "text"])) = G4 at u4 s4 ⊢
      have fa_4 := s4 _ _ fa_3
      have fg_4 := s4 _ _ fg_3
      have b_4 := b_3.keep s4
      have k_4 := (k_3).trans (KeptB.of s4)
      have ixd : atI [V.str "text", V.str "row", V.str "text"] (kh : Int) = some (.str (S (kdW (decide (kh = 1))))) := by
        rw [e_text, e_row]
        rcases (by omega : kh = 0 ∨ kh = 1 ∨ kh = 2) with rfl | rfl | rfl <;> exact atI_nat rfl
      walk_at "go"
      intro r hr
      exact q r (.decl (decide (kh = 1)) i) _ hi (k_4.free b_4 hr) (by rw [upd_same]; rfl) (b_4.keep fun c o e => Eg.upd_old e hr) (k_4.trans (.of fun c o e => Eg.upd_old e hr))
    walk_at "go"
    refine Eg.brD (fun c2 => ?_) (fun c2 => ?_)
    · walk_at "go"
      walk_at "go"
      intro r hr
      exact q r (.count i j) _ ⟨hi, hj⟩ (k_3.free b_3 hr) (by rw [upd_same, e_count, e_4]; rfl) (b_3.keep fun c o e => Eg.upd_old e hr) (k_3.trans (.of fun c o e => Eg.upd_old e hr))
    have inE : ∀ (R : VK) (neg : Bool), R (.bl (if neg then !decide (sE ∈ lb) else decide (sE ∈ lb))) T3 → rIn K neg (.str "each") (.ref g) T3 R := fun R neg z => ⟨g, _, rfl, .inl (SqL.of fg_3), rfl, by rw [List.all_map]; exact List.all_eq_true.mpr fun _ _ => rfl, by rw [inV_strs]; exact z⟩
    have emp : ∀ xs : List V, (!xs.isEmpty) = decide (xs ≠ []) := fun xs => by cases xs <;> rfl
    walk_at "go"
    refine ⟨fun σ' H' => σ' = [some (.ref b), some (.ref a), some (.ref g), some (.int (kh : Int)), some (.str (S (n i))), some (.str (S (n j)))] ∧ T3 = H', ?_, ?_⟩
    · walk_at "go"
      refine Eg.brD (fun c3 => ?_) (fun c3 => ?_)
      · walk_at "go"
        refine Eg.brD (fun c4 => ?_) (fun c4 => ?_)
        · walk_at "go"
          refine inE _ true ?_
          rw [if_pos rfl]
          cases c5 : decide (sE ∈ lb) with
          | true =>
            walk_at "go"
            exact ⟨rfl, rfl⟩
          | false =>
            walk_at "go"
            intro r hr
            exact q r (.each i) _ ⟨hi, by rw [lgl] at c4; omega, of_decide_eq_false c5⟩ (k_3.free b_3 hr) (by rw [upd_same, e_each, e_of]; rfl) (b_3.keep fun c o e => Eg.upd_old e hr) (k_3.trans (.of fun c o e => Eg.upd_old e hr))
        · walk_at "go"
          exact ⟨rfl, rfl⟩
      · walk_at "go"
        exact ⟨rfl, rfl⟩
    rintro _ _ ⟨rfl, rfl⟩
    walk_at "go"

    refine ⟨fun σ' H' => σ' = [some (.ref b), some (.ref a), some (.ref g), some (.int (kh : Int)), some (.str (S (n i))), some (.str (S (n j)))] ∧ T3 = H', ?_, ?_⟩
    · walk_at "go"
      refine Eg.brD (fun c3 => ?_) (fun c3 => ?_)
      · walk_at "go"
        refine Eg.brD (fun c4 => ?_) (fun c4 => ?_)
        · walk_at "go"
          intro d hd
          have u5 : upd T3 d (.lst ([V.str (S (n 6)), V.str (S (n i))])) d = some (.lst ([V.str (S (n 6)), V.str (S (n i))])) := upd_same
          have s5 : Same T3 (upd T3 d (.lst ([V.str (S (n 6)), V.str (S (n i))]))) := fun c ob e => Eg.upd_old e hd
          have nbd : d ≠ b := b_3.nn hd
          generalize upd T3 d (.lst ([V.str (S (n 6)), V.str (S (n i))])) = G5 at u5 s5 ⊢
          have fa_5 := s5 _ _ fa_3
          have fg_5 := s5 _ _ fg_3
          have b_5 := b_3.keep s5
          have k_5 := (k_3).trans (KeptB.of s5)
          walk_at "go"
          refine ⟨b, _, rfl, b_5, by decide, by decide, fun r6 T6 rz6 rl6 b_6 ft6 => ?_⟩
          obtain ⟨m, rfl⟩ := Int.eq_ofNat_of_zero_le rz6
          have fa_6 := (ft6 a hab).trans fa_5
          have fg_6 := (ft6 g hgb).trans fg_5
          have fd_6 := (ft6 d nbd).trans u5
          have k_6 := (k_5).trans (KeptB.fr ft6)
          have hm : m < 2 := by omega
          have ixd : atI [V.str (S (n 6)), V.str (S (n i))] (m : Int) = some (.str (S (n (if m = 0 then 6 else i)))) := by
            rcases (by omega : m = 0 ∨ m = 1) with rfl | rfl <;> exact atI_nat rfl
          walk_at "go"
          intro r hr
          exact q r (.when (if m = 0 then 6 else i)) _ ⟨by split <;> omega, by rw [lgl] at c4; omega⟩ (k_6.free b_6 hr) (by rw [upd_same, e_when]; rfl) (b_6.keep fun c o e => Eg.upd_old e hr) (k_6.trans (.of fun c o e => Eg.upd_old e hr))
        · walk_at "go"
          exact ⟨rfl, rfl⟩
      · walk_at "go"
        exact ⟨rfl, rfl⟩
    rintro _ _ ⟨rfl, rfl⟩
    walk_at "go"

    refine ⟨fun σ' H' => σ' = [some (.ref b), some (.ref a), some (.ref g), some (.int (kh : Int)), some (.str (S (n i))), some (.str (S (n j)))] ∧ Same T3 H', ?_, ?_⟩
    · walk_at "go"
      refine Eg.brD (fun c3 => ?_) (fun c3 => ?_)
      · walk_at "go"
        intro d hd
        have u7 : upd T3 d (.lst ([])) d = some (.lst ([])) := upd_same
        have s7 : Same T3 (upd T3 d (.lst ([]))) := fun c ob e => Eg.upd_old e hd
        have nbd : d ≠ b := b_3.nn hd
        generalize upd T3 d (.lst ([])) = G7 at u7 s7 ⊢
        have fa_7 := s7 _ _ fa_3
        have fg_7 := s7 _ _ fg_3
        have b_7 := b_3.keep s7
        have k_7 := (k_3).trans (KeptB.of s7)
        refine ⟨g, d, _, rfl, rfl, fg_7, u7, ?_⟩
        rw [if_pos rfl]
        cases c4 : (lb.map V.str).isEmpty with
        | true =>
          walk_at "go"
          exact ⟨rfl, s7⟩
        | false =>
          have lbn : lb ≠ [] := fun z => by rw [z] at c4; cases c4
          obtain ⟨lk, hlk⟩ : ∃ k, lb.getLast? = some k := by
            cases e : lb.getLast? with
            | none => exact absurd (List.getLast?_eq_none_iff.mp e) lbn
            | some k => exact ⟨k, rfl⟩
          have ixl : atI (lb.map V.str) (-1) = some (V.str lk) := Tx.atI_last (by rw [List.getLast?_map, hlk]; rfl)
          walk_at "go"
          rw [Eg.str_eq]
          refine Eg.brD (fun c5 => ?_) (fun c5 => ?_)
          · walk_at "go"
            walk_at "go"
            intro r hr
            exact q r (.els) _ (by show lb.getLast? = some sW; rw [hlk, c5]) (k_7.free b_7 hr) (by rw [upd_same, e_else]; rfl) (b_7.keep fun c o e => Eg.upd_old e hr) (k_7.trans (.of fun c o e => Eg.upd_old e hr))
          · walk_at "go"
            exact ⟨rfl, s7⟩
      · walk_at "go"
        exact ⟨rfl, Same.refl _⟩
    rintro _ H9 ⟨rfl, s9⟩
    have fa_8 := s9 _ _ fa_3
    have fg_8 := s9 _ _ fg_3
    have b_8 := b_3.keep s9
    have k_8 := (k_3).trans (KeptB.of s9)
    walk_at "go"
    refine ⟨fun σ' H' => σ' = [some (.ref b), some (.ref a), some (.ref g), some (.int (kh : Int)), some (.str (S (n i))), some (.str (S (n j)))] ∧ Same H9 H', ?_, ?_⟩
    · walk_at "go"
      refine Eg.brD (fun c3 => ?_) (fun c3 => ?_)
      · walk_at "go"
        intro d hd
        have u9 : upd H9 d (.lst ([])) d = some (.lst ([])) := upd_same
        have s9 : Same H9 (upd H9 d (.lst ([]))) := fun c ob e => Eg.upd_old e hd
        have nbd : d ≠ b := b_8.nn hd
        generalize upd H9 d (.lst ([])) = G9 at u9 s9 ⊢
        have fa_9 := s9 _ _ fa_8
        have fg_9 := s9 _ _ fg_8
        have b_9 := b_8.keep s9
        have k_9 := (k_8).trans (KeptB.of s9)
        refine ⟨g, d, _, rfl, rfl, fg_9, u9, ?_⟩
        rw [if_pos rfl]
        cases c4 : (lb.map V.str).isEmpty with
        | true =>
          walk_at "go"
          exact ⟨rfl, s9⟩
        | false =>
          have lbn : lb ≠ [] := fun z => by rw [z] at c4; cases c4
          walk_at "go"
          intro r hr
          exact q r (.fin) _ lbn (k_9.free b_9 hr) (by rw [upd_same, e_end]; rfl) (b_9.keep fun c o e => Eg.upd_old e hr) (k_9.trans (.of fun c o e => Eg.upd_old e hr))
      · walk_at "go"
        exact ⟨rfl, Same.refl _⟩
    rintro _ H10 ⟨rfl, s10⟩
    have fa_10 := s10 _ _ fa_8
    have fg_10 := s10 _ _ fg_8
    have b_10 := b_8.keep s10
    have k_10 := (k_8).trans (KeptB.of s10)
    walk_at "go"
    refine Eg.brD (fun c6 => ?_) (fun c6 => ?_)
    · walk_at "go"
      walk_at "go"
      intro r hr
      exact q r (.say i) _ hi (k_10.free b_10 hr) (by rw [upd_same, e_say, e_back, e_and]; rfl) (b_10.keep fun c o e => Eg.upd_old e hr) (k_10.trans (.of fun c o e => Eg.upd_old e hr))
    walk_at "go"
    refine ⟨g, _, rfl, .inl (SqL.of fg_10), rfl, by rw [List.all_map]; exact List.all_eq_true.mpr fun _ _ => rfl, ?_⟩
    rw [if_neg Bool.false_ne_true, inV_strs]
    cases c7 : decide (sE ∈ lb) with
    | true =>
      walk_at "go"
      refine ⟨b, _, rfl, b_10, by decide, by decide, fun r11 T11 rz11 rl11 b_11 ft11 => ?_⟩
      obtain ⟨m, rfl⟩ := Int.eq_ofNat_of_zero_le rz11
      have fa_11 := (ft11 a hab).trans fa_10
      have fg_11 := (ft11 g hgb).trans fg_10
      have k_11 := (k_10).trans (KeptB.fr ft11)
      have hm : m < 7 := by omega
      have ixm : atI (nms n) (m : Int) = some (.str (S (n m))) := at_nms (by omega)
      walk_at "go"
      intro r hr
      exact q r (.bind i j m) _ ⟨hi, hj, hm⟩ (k_11.free b_11 hr) (by rw [upd_same, e_bind, e_back, e_q]; rfl) (b_11.keep fun c o e => Eg.upd_old e hr) (k_11.trans (.of fun c o e => Eg.upd_old e hr))
    | false =>
      walk_at "go"
      intro r hr
      exact q r (.ask i j) _ ⟨hi, hj, of_decide_eq_false c7⟩ (k_10.free b_10 hr) (by rw [upd_same, e_ask]; rfl) (b_10.keep fun c o e => Eg.upd_old e hr) (k_10.trans (.of fun c o e => Eg.upd_old e hr))
end
end LW
end

section
local macro_rules | `(tactic| walk_at "tx") => `(tactic| first
  | ((with_reducible refine' Eg.c_sfld ?hs ?hc ?hn ?hl ?_); (case hs => walk_at "hp"); (case hc => assumption); (case hn => assumption); (case hl => exact Nat.le_of_ble_eq_true rfl))
  | with_reducible refine Ex.w_rs ?_
  | with_reducible refine Ex.w_xg ?_
  | with_reducible refine Co.w_makeS ?_
  | with_reducible refine Po.w_tru ?_
  | ((with_reducible refine' Po.c_truL ?hs ?_); (case hs => walk_at "hp")))
local macro_rules | `(tactic| walk_at "at") => `(tactic| first | exact atI_nat (j := 0) rfl | exact atI_nat (j := 1) rfl | exact atI_nat (j := 2) rfl | exact atI_nat (j := 3) rfl | exact atI_nat (j := 4) rfl | exact atI_nat (j := 5) rfl | exact atI_nat (j := 6) rfl | exact atI_nat (j := 7) rfl)
namespace LW
open PySem L2 SX Tx
/-! k23: right, step -/
def sp_l_right : Sp := fun vs H Q _ => ∃ (p : Addr) (ds : List Addr) (scs : Scs) (r : Addr) (n : Nat → Nm) (l : Ln), vs = [.ref p, .ref r] ∧ ScAt H p ds scs ∧ H r = some (.lst (strN (l.ps n))) ∧ ∀ H', Same H H' → Q (.bl (rightB n scs l)) H'
theorem ps_len (n : Nat → Nm) (l : Ln) : (l.ps n).length ≤ 7 := by
  cases l <;> exact Nat.le_of_ble_eq_true rfl
section
variable {P : Program} {w : World} {K : PySem.W.Frag} {mg : Str → Option Value} {base : Heap} {Z : Ad}
set_option maxHeartbeats 8000000 in
theorem ok_l_right (T : Txt K mg Z) : FnOk P w K mg base CX0 2 Z.a_l_right Z.d_l_right ["_law_scopes", "_law_parts"] sp_l_right := by
  refine T.F_l_right.ok sc_l_right (fun vs H Q E h => ?_) (fun cdv A outer s H vs Q E hr h => ?_)
  · obtain ⟨p, ds, scs, r, n, l, rfl, _⟩ := h
    rfl
  · obtain ⟨p, ds, scs, r, n, l, rfl, hS, hrr, q⟩ := h
    have nd := sc_l_right.nd
    have hu := hu_of hr
    refine ⟨_, (pss_cons (ps_setLc (i := 2) (own := [("_law_part", 4)]) rfl nd rfl rfl (sw_true rfl rfl rfl (by decide +kernel)) (pi_list (pv 1)) (blkOk_by (N := N_l_right) (sc := defScope s_l_right) (by decide +kernel)) (fun _ _ _ _ _ => (pg_name (i := 4) nd rfl (Or.inl rfl))) (fun _ _ _ _ _ => pts_nil) (fun _ _ _ _ _ => (Eg.peE (pe_call (ok_l_kind T) (hr.mono (by decide)) (by rfl) T.g_l_kind T.F_l_kind.kp T.b_l_kind .nil pass0 (pa_cons (pv 0) (pa_cons (pv 4) pa_nil))) (by walk_at "blk"))))
  (pss_cons (ps_set (i := 3) nd rfl (Or.inl rfl) (pe_ix ix_list (pv 1) pe_int (fun _ _ => rfl)))
  (pss_cons (ps_if (pt_cmpR op_in_seq (pv 3) (pe_lst (pa_cons pe_str (pa_cons pe_str (pa_cons pe_str pa_nil)))) (by rfl))
  (pss_one (ps_ret (pe_cmpR op_eq (pe_ix ix_list (pv 2) pe_int (fun _ _ => rfl)) pe_str (nomark _))))
  pss_nil)
  (pss_cons (ps_if (pt_cmpR op_eq (pv 3) pe_str (nomark _))
  (pss_one (ps_ret (pe_and (pe_cmpR op_eq (pe_ix ix_list (pv 2) pe_int (fun _ _ => rfl)) pe_str (nomark _)) (pe_one (pe_cmpR op_eq (pe_ix ix_list (pv 2) pe_int (fun _ _ => rfl)) pe_str (nomark _))))))
  pss_nil)
  (pss_cons (ps_if (pt_cmpR op_eq (pv 3) pe_str (nomark _))
  (pss_one (ps_ret (pe_cmpR op_in_seq (pe_ix ix_list (pv 2) pe_int (fun _ _ => rfl)) (pe_lst (pa_cons pe_str (pa_cons pe_str pa_nil))) (by rfl))))
  pss_nil)
  (pss_cons (ps_if (pt_cmpR op_eq (pv 3) pe_str (nomark _))
  (pss_one (ps_ret (pe_cmpR op_eq (pe_ix ix_list (pv 2) pe_int (fun _ _ => rfl)) pe_str (nomark _))))
  pss_nil)
  (pss_cons (ps_if (pt_cmpR op_eq (pv 3) pe_str (nomark _))
  (pss_one (ps_ret (pe_and (pe_cmpR op_eq (pe_ix ix_list (pv 2) pe_int (fun _ _ => rfl)) pe_str (nomark _)) (pe_one (pe_cmpR op_eq (pe_ix ix_list (pv 2) pe_int (fun _ _ => rfl)) pe_str (nomark _))))))
  pss_nil)
  (pss_cons (ps_if (pt_cmpR op_eq (pv 3) pe_str (nomark _))
  (pss_one (ps_ret (pe_and (pe_cmpR op_eq (pe_ix ix_list (pv 2) pe_int (fun _ _ => rfl)) pe_str (nomark _)) (pe_and (pe_cmpR op_eq (pe_ix ix_list (pv 2) pe_int (fun _ _ => rfl)) pe_str (nomark _)) (pe_one (pe_cmpR op_in_seq (pe_ix ix_list (pv 2) pe_int (fun _ _ => rfl)) (pe_lst (pa_cons pe_str (pa_cons pe_str pa_nil))) (by rfl)))))))
  pss_nil)
  (pss_one (ps_ret pe_bl)))))))))), ?_⟩
    refine Eg.w_sig (σ := [some (.ref p), some (.ref r), none, none, none]) rfl ?_
    have qq : ∀ c, c = rightB n scs l → ∀ H', Same H H' → Q (.bl c) H' := fun c e H' s => e ▸ q H' s
    clear q
    walk_at "gw"
    refine Tl.fm_list (xs := l.ps n) (G := fun x => .str (S x)) (F := fun x => .str (kindOf scs x)) (P := fun _ => true) hrr (by have := ps_len n l; omega) (fun R h => ?_) (fun H' z R s' hz h => ?_) (fun H' z R s' hz hp h => ?_) (fun D H1 hD s1 h1 => ?_)
    · walk_at "go"
      exact h
    · walk_at "go"
      exact h H' (Same.refl _)
    · walk_at "go"
      exact ⟨p, ds, scs, z, rfl, hS.keep s', h H' (Same.refl _)⟩
    rw [List.filter_eq_self.mpr fun _ _ => rfl] at h1
    have h1r := s1 _ _ hrr
    walk_at "gw"
    have e_text : ("text" : Str) = S w_text := by decide +kernel
    have e_row : ("row" : Str) = S w_row := by decide +kernel
    have e_count : ("count" : Str) = S w_count := by decide +kernel
    have e_each : ("each" : Str) = S w_each := by decide +kernel
    have e_when : ("when" : Str) = S w_when := by decide +kernel
    have e_say : ("say" : Str) = S w_say := by decide +kernel
    have e_bind : ("bind" : Str) = S w_bind := by decide +kernel
    have e_ask : ("ask" : Str) = S w_ask := by decide +kernel
    rw [e_each, e_count, e_when, e_say, e_ask, e_bind]
    cases l with
    | decl k i =>
      have h1r : H1 r = some (.lst [V.str (S (kdW k)), V.str (S (n i))]) := h1r
      have h1 : H1 D = some (.lst [V.str (kindOf scs (kdW k)), V.str (kindOf scs (n i))]) := h1
      walk_at "go"
      intro d hd
      have u12 : upd H1 d (.lst [V.str "text", V.str "row", V.str (S w_each)]) d = some (.lst [V.str "text", V.str "row", V.str (S w_each)]) := upd_same
      have s12 : Same H1 (upd H1 d (.lst [V.str "text", V.str "row", V.str (S w_each)])) := fun c ob e => Eg.upd_old e hd
      generalize upd H1 d (.lst [V.str "text", V.str "row", V.str (S w_each)]) = G12 at u12 s12 ⊢
      have fr_12 := s12 _ _ h1r
      have fD_12 := s12 _ _ h1
      have ss_12 := (s1).trans s12
      refine ⟨d, _, rfl, .inl (SqL.of u12), rfl, rfl, ?_⟩
      rw [if_neg Bool.false_ne_true, show inV (.str (S (kdW k))) [V.str "text", V.str "row", V.str (S w_each)] = true by cases k <;> decide +kernel]
      walk_at "go"
      exact qq _ (Eg.str_eq.trans rfl) _ (ss_12)
    | count i j =>
      have h1r : H1 r = some (.lst [V.str (S (w_count)), V.str (S (n i)), V.str (S (n j)), V.str (S (w_4))]) := h1r
      have h1 : H1 D = some (.lst [V.str (kindOf scs (w_count)), V.str (kindOf scs (n i)), V.str (kindOf scs (n j)), V.str (kindOf scs (w_4))]) := h1
      walk_at "go"
      intro d hd
      have u13 : upd H1 d (.lst [V.str "text", V.str "row", V.str (S w_each)]) d = some (.lst [V.str "text", V.str "row", V.str (S w_each)]) := upd_same
      have s13 : Same H1 (upd H1 d (.lst [V.str "text", V.str "row", V.str (S w_each)])) := fun c ob e => Eg.upd_old e hd
      generalize upd H1 d (.lst [V.str "text", V.str "row", V.str (S w_each)]) = G13 at u13 s13 ⊢
      have fr_13 := s13 _ _ h1r
      have fD_13 := s13 _ _ h1
      have ss_13 := (s1).trans s13
      refine ⟨d, _, rfl, .inl (SqL.of u13), rfl, rfl, ?_⟩
      rw [if_neg Bool.false_ne_true, show inV (.str (S (w_count))) [V.str "text", V.str "row", V.str (S w_each)] = false by decide +kernel]
      walk_at "go"
      rw [show decide (V.str (S w_count) = V.str (S w_count)) = true by decide +kernel]
      walk_at "go"
      rw [Eg.str_eq]
      cases z1 : decide (kindOf scs (n i) = "") with
      | true =>
        walk_at "go"
        exact qq _ (by show _ = (decide (kindOf scs (n i) = "") && decide (kindOf scs (n j) = "row")); rw [z1, Eg.str_eq]; rfl) _ (ss_13)
      | false =>
        walk_at "go"
        exact qq _ (by show _ = (decide (kindOf scs (n i) = "") && decide (kindOf scs (n j) = "row")); rw [z1]; rfl) _ (ss_13)
    | each i =>
      have h1r : H1 r = some (.lst [V.str (S (w_each)), V.str (S (n i)), V.str (S (w_of)), V.str (S (n 7))]) := h1r
      have h1 : H1 D = some (.lst [V.str (kindOf scs (w_each)), V.str (kindOf scs (n i)), V.str (kindOf scs (w_of)), V.str (kindOf scs (n 7))]) := h1
      walk_at "go"
      intro d hd
      have u14 : upd H1 d (.lst [V.str "text", V.str "row", V.str (S w_each)]) d = some (.lst [V.str "text", V.str "row", V.str (S w_each)]) := upd_same
      have s14 : Same H1 (upd H1 d (.lst [V.str "text", V.str "row", V.str (S w_each)])) := fun c ob e => Eg.upd_old e hd
      generalize upd H1 d (.lst [V.str "text", V.str "row", V.str (S w_each)]) = G14 at u14 s14 ⊢
      have fr_14 := s14 _ _ h1r
      have fD_14 := s14 _ _ h1
      have ss_14 := (s1).trans s14
      refine ⟨d, _, rfl, .inl (SqL.of u14), rfl, rfl, ?_⟩
      rw [if_neg Bool.false_ne_true, show inV (.str (S (w_each))) [V.str "text", V.str "row", V.str (S w_each)] = true by decide +kernel]
      walk_at "go"
      exact qq _ (Eg.str_eq.trans rfl) _ (ss_14)
    | when i =>
      have h1r : H1 r = some (.lst [V.str (S (w_when)), V.str (S (n i))]) := h1r
      have h1 : H1 D = some (.lst [V.str (kindOf scs (w_when)), V.str (kindOf scs (n i))]) := h1
      walk_at "go"
      intro d hd
      have u15 : upd H1 d (.lst [V.str "text", V.str "row", V.str (S w_each)]) d = some (.lst [V.str "text", V.str "row", V.str (S w_each)]) := upd_same
      have s15 : Same H1 (upd H1 d (.lst [V.str "text", V.str "row", V.str (S w_each)])) := fun c ob e => Eg.upd_old e hd
      generalize upd H1 d (.lst [V.str "text", V.str "row", V.str (S w_each)]) = G15 at u15 s15 ⊢
      have fr_15 := s15 _ _ h1r
      have fD_15 := s15 _ _ h1
      have ss_15 := (s1).trans s15
      refine ⟨d, _, rfl, .inl (SqL.of u15), rfl, rfl, ?_⟩
      rw [if_neg Bool.false_ne_true, show inV (.str (S (w_when))) [V.str "text", V.str "row", V.str (S w_each)] = false by decide +kernel]
      walk_at "go"
      rw [show decide (V.str (S w_when) = V.str (S w_count)) = false by decide +kernel]
      walk_at "go"
      rw [show decide (V.str (S w_when) = V.str (S w_when)) = true by decide +kernel]
      walk_at "go"
      intro d2 hd2
      have u16 : upd G15 d2 (.lst [V.str "option", V.str "item"]) d2 = some (.lst [V.str "option", V.str "item"]) := upd_same
      have s16 : Same G15 (upd G15 d2 (.lst [V.str "option", V.str "item"])) := fun c ob e => Eg.upd_old e hd2
      generalize upd G15 d2 (.lst [V.str "option", V.str "item"]) = G16 at u16 s16 ⊢
      have fr_16 := s16 _ _ fr_15
      have fD_16 := s16 _ _ fD_15
      have fd_16 := s16 _ _ u15
      have ss_16 := (ss_15).trans s16
      refine ⟨d2, _, rfl, .inl (SqL.of u16), rfl, rfl, ?_⟩
      rw [if_neg Bool.false_ne_true, show inV (.str (kindOf scs (n i))) [V.str "option", V.str "item"] = valOf scs (n i) from inV_strs ["option", "item"]]
      exact qq _ rfl _ (ss_16)
    | els =>
      have h1r : H1 r = some (.lst [V.str (S (w_else))]) := h1r
      have h1 : H1 D = some (.lst [V.str (kindOf scs (w_else))]) := h1
      walk_at "go"
      intro d hd
      have u17 : upd H1 d (.lst [V.str "text", V.str "row", V.str (S w_each)]) d = some (.lst [V.str "text", V.str "row", V.str (S w_each)]) := upd_same
      have s17 : Same H1 (upd H1 d (.lst [V.str "text", V.str "row", V.str (S w_each)])) := fun c ob e => Eg.upd_old e hd
      generalize upd H1 d (.lst [V.str "text", V.str "row", V.str (S w_each)]) = G17 at u17 s17 ⊢
      have fr_17 := s17 _ _ h1r
      have fD_17 := s17 _ _ h1
      have ss_17 := (s1).trans s17
      refine ⟨d, _, rfl, .inl (SqL.of u17), rfl, rfl, ?_⟩
      rw [if_neg Bool.false_ne_true, show inV (.str (S (w_else))) [V.str "text", V.str "row", V.str (S w_each)] = false by decide +kernel]
      walk_at "go"
      rw [show decide (V.str (S w_else) = V.str (S w_count)) = false by decide +kernel]
      walk_at "go"
      rw [show decide (V.str (S w_else) = V.str (S w_when)) = false by decide +kernel]
      walk_at "go"
      rw [show decide (V.str (S w_else) = V.str (S w_say)) = false by decide +kernel]
      walk_at "go"
      rw [show decide (V.str (S w_else) = V.str (S w_ask)) = false by decide +kernel]
      walk_at "go"
      rw [show decide (V.str (S w_else) = V.str (S w_bind)) = false by decide +kernel]
      walk_at "go"
      exact qq _ rfl _ (ss_17)
    | fin =>
      have h1r : H1 r = some (.lst [V.str (S (w_end))]) := h1r
      have h1 : H1 D = some (.lst [V.str (kindOf scs (w_end))]) := h1
      walk_at "go"
      intro d hd
      have u18 : upd H1 d (.lst [V.str "text", V.str "row", V.str (S w_each)]) d = some (.lst [V.str "text", V.str "row", V.str (S w_each)]) := upd_same
      have s18 : Same H1 (upd H1 d (.lst [V.str "text", V.str "row", V.str (S w_each)])) := fun c ob e => Eg.upd_old e hd
      generalize upd H1 d (.lst [V.str "text", V.str "row", V.str (S w_each)]) = G18 at u18 s18 ⊢
      have fr_18 := s18 _ _ h1r
      have fD_18 := s18 _ _ h1
      have ss_18 := (s1).trans s18
      refine ⟨d, _, rfl, .inl (SqL.of u18), rfl, rfl, ?_⟩
      rw [if_neg Bool.false_ne_true, show inV (.str (S (w_end))) [V.str "text", V.str "row", V.str (S w_each)] = false by decide +kernel]
      walk_at "go"
      rw [show decide (V.str (S w_end) = V.str (S w_count)) = false by decide +kernel]
      walk_at "go"
      rw [show decide (V.str (S w_end) = V.str (S w_when)) = false by decide +kernel]
      walk_at "go"
      rw [show decide (V.str (S w_end) = V.str (S w_say)) = false by decide +kernel]
      walk_at "go"
      rw [show decide (V.str (S w_end) = V.str (S w_ask)) = false by decide +kernel]
      walk_at "go"
      rw [show decide (V.str (S w_end) = V.str (S w_bind)) = false by decide +kernel]
      walk_at "go"
      exact qq _ rfl _ (ss_18)
    | say i =>
      have h1r : H1 r = some (.lst [V.str (S (w_say)), V.str (S (n i)), V.str (S (w_back)), V.str (S (w_and))]) := h1r
      have h1 : H1 D = some (.lst [V.str (kindOf scs (w_say)), V.str (kindOf scs (n i)), V.str (kindOf scs (w_back)), V.str (kindOf scs (w_and))]) := h1
      walk_at "go"
      intro d hd
      have u19 : upd H1 d (.lst [V.str "text", V.str "row", V.str (S w_each)]) d = some (.lst [V.str "text", V.str "row", V.str (S w_each)]) := upd_same
      have s19 : Same H1 (upd H1 d (.lst [V.str "text", V.str "row", V.str (S w_each)])) := fun c ob e => Eg.upd_old e hd
      generalize upd H1 d (.lst [V.str "text", V.str "row", V.str (S w_each)]) = G19 at u19 s19 ⊢
      have fr_19 := s19 _ _ h1r
      have fD_19 := s19 _ _ h1
      have ss_19 := (s1).trans s19
      refine ⟨d, _, rfl, .inl (SqL.of u19), rfl, rfl, ?_⟩
      rw [if_neg Bool.false_ne_true, show inV (.str (S (w_say))) [V.str "text", V.str "row", V.str (S w_each)] = false by decide +kernel]
      walk_at "go"
      rw [show decide (V.str (S w_say) = V.str (S w_count)) = false by decide +kernel]
      walk_at "go"
      rw [show decide (V.str (S w_say) = V.str (S w_when)) = false by decide +kernel]
      walk_at "go"
      rw [show decide (V.str (S w_say) = V.str (S w_say)) = true by decide +kernel]
      walk_at "go"
      exact qq _ (Eg.str_eq.trans rfl) _ (ss_19)
    | bind i j k =>
      have h1r : H1 r = some (.lst [V.str (S (w_bind)), V.str (S (n i)), V.str (S (w_back)), V.str (S (n j)), V.str (S (w_back)), V.str (S (n k)), V.str (S (w_q))]) := h1r
      have h1 : H1 D = some (.lst [V.str (kindOf scs (w_bind)), V.str (kindOf scs (n i)), V.str (kindOf scs (w_back)), V.str (kindOf scs (n j)), V.str (kindOf scs (w_back)), V.str (kindOf scs (n k)), V.str (kindOf scs (w_q))]) := h1
      walk_at "go"
      intro d hd
      have u20 : upd H1 d (.lst [V.str "text", V.str "row", V.str (S w_each)]) d = some (.lst [V.str "text", V.str "row", V.str (S w_each)]) := upd_same
      have s20 : Same H1 (upd H1 d (.lst [V.str "text", V.str "row", V.str (S w_each)])) := fun c ob e => Eg.upd_old e hd
      generalize upd H1 d (.lst [V.str "text", V.str "row", V.str (S w_each)]) = G20 at u20 s20 ⊢
      have fr_20 := s20 _ _ h1r
      have fD_20 := s20 _ _ h1
      have ss_20 := (s1).trans s20
      refine ⟨d, _, rfl, .inl (SqL.of u20), rfl, rfl, ?_⟩
      rw [if_neg Bool.false_ne_true, show inV (.str (S (w_bind))) [V.str "text", V.str "row", V.str (S w_each)] = false by decide +kernel]
      walk_at "go"
      rw [show decide (V.str (S w_bind) = V.str (S w_count)) = false by decide +kernel]
      walk_at "go"
      rw [show decide (V.str (S w_bind) = V.str (S w_when)) = false by decide +kernel]
      walk_at "go"
      rw [show decide (V.str (S w_bind) = V.str (S w_say)) = false by decide +kernel]
      walk_at "go"
      rw [show decide (V.str (S w_bind) = V.str (S w_ask)) = false by decide +kernel]
      walk_at "go"
      rw [show decide (V.str (S w_bind) = V.str (S w_bind)) = true by decide +kernel]
      walk_at "go"
      rw [Eg.str_eq]
      cases z1 : decide (kindOf scs (n i) = "text") with
      | false =>
        walk_at "go"
        exact qq _ (by show _ = (decide (kindOf scs (n i) = "text") && (decide (kindOf scs (n j) = "row") && valOf scs (n k))); rw [z1]; rfl) _ (ss_20)
      | true =>
        walk_at "go"
        rw [Eg.str_eq]
        cases z2 : decide (kindOf scs (n j) = "row") with
        | false =>
          walk_at "go"
          exact qq _ (by show _ = (decide (kindOf scs (n i) = "text") && (decide (kindOf scs (n j) = "row") && valOf scs (n k))); rw [z1, z2]; rfl) _ (ss_20)
        | true =>
          walk_at "go"
          intro d2 hd2
          have u21 : upd G20 d2 (.lst [V.str "option", V.str "item"]) d2 = some (.lst [V.str "option", V.str "item"]) := upd_same
          have s21 : Same G20 (upd G20 d2 (.lst [V.str "option", V.str "item"])) := fun c ob e => Eg.upd_old e hd2
          generalize upd G20 d2 (.lst [V.str "option", V.str "item"]) = G21 at u21 s21 ⊢
          have fr_21 := s21 _ _ fr_20
          have fD_21 := s21 _ _ fD_20
          have fd_21 := s21 _ _ u20
          have ss_21 := (ss_20).trans s21
          refine ⟨d2, _, rfl, .inl (SqL.of u21), rfl, rfl, ?_⟩
          rw [if_neg Bool.false_ne_true, show inV (.str (kindOf scs (n k))) [V.str "option", V.str "item"] = valOf scs (n k) from inV_strs ["option", "item"]]
          exact qq _ (by show _ = (decide (kindOf scs (n i) = "text") && (decide (kindOf scs (n j) = "row") && valOf scs (n k))); rw [z1, z2]; rfl) _ (ss_21)
    | ask i j =>
      have h1r : H1 r = some (.lst [V.str (S (w_ask)), V.str (S (n i)), V.str (S (n j))]) := h1r
      have h1 : H1 D = some (.lst [V.str (kindOf scs (w_ask)), V.str (kindOf scs (n i)), V.str (kindOf scs (n j))]) := h1
      walk_at "go"
      intro d hd
      have u22 : upd H1 d (.lst [V.str "text", V.str "row", V.str (S w_each)]) d = some (.lst [V.str "text", V.str "row", V.str (S w_each)]) := upd_same
      have s22 : Same H1 (upd H1 d (.lst [V.str "text", V.str "row", V.str (S w_each)])) := fun c ob e => Eg.upd_old e hd
      generalize upd H1 d (.lst [V.str "text", V.str "row", V.str (S w_each)]) = G22 at u22 s22 ⊢
      have fr_22 := s22 _ _ h1r
      have fD_22 := s22 _ _ h1
      have ss_22 := (s1).trans s22
      refine ⟨d, _, rfl, .inl (SqL.of u22), rfl, rfl, ?_⟩
      rw [if_neg Bool.false_ne_true, show inV (.str (S (w_ask))) [V.str "text", V.str "row", V.str (S w_each)] = false by decide +kernel]
      walk_at "go"
      rw [show decide (V.str (S w_ask) = V.str (S w_count)) = false by decide +kernel]
      walk_at "go"
      rw [show decide (V.str (S w_ask) = V.str (S w_when)) = false by decide +kernel]
      walk_at "go"
      rw [show decide (V.str (S w_ask) = V.str (S w_say)) = false by decide +kernel]
      walk_at "go"
      rw [show decide (V.str (S w_ask) = V.str (S w_ask)) = true by decide +kernel]
      walk_at "go"
      rw [Eg.str_eq]
      cases z1 : decide (kindOf scs (n i) = "text") with
      | true =>
        walk_at "go"
        exact qq _ (by show _ = (decide (kindOf scs (n i) = "text") && decide (kindOf scs (n j) = "row")); rw [z1, Eg.str_eq]; rfl) _ (ss_22)
      | false =>
        walk_at "go"
        exact qq _ (by show _ = (decide (kindOf scs (n i) = "text") && decide (kindOf scs (n j) = "row")); rw [z1]; rfl) _ (ss_22)
end
end LW
end

section
local macro_rules | `(tactic| walk_at "tx") => `(tactic| first
  | ((with_reducible refine' Eg.c_sfld ?hs ?hc ?hn ?hl ?_); (case hs => walk_at "hp"); (case hc => assumption); (case hn => assumption); (case hl => exact Nat.le_of_ble_eq_true rfl))
  | with_reducible refine Ex.w_rs ?_
  | with_reducible refine Ex.w_xg ?_
  | with_reducible refine Co.w_makeS ?_
  | with_reducible refine Po.w_tru ?_
  | ((with_reducible refine' Po.c_truL ?hs ?_); (case hs => walk_at "hp")))
local macro_rules | `(tactic| walk_at "at") => `(tactic| first | exact atI_nat (j := 0) rfl | exact atI_nat (j := 1) rfl | exact atI_nat (j := 2) rfl | exact atI_nat (j := 3) rfl | exact atI_nat (j := 4) rfl | exact atI_nat (j := 5) rfl | exact atI_nat (j := 6) rfl | exact atI_nat (j := 7) rfl)
namespace LW
open PySem L2 SX Tx
/-! k23: step -/
def sp_l_step : Sp := fun vs H Q _ => ∃ (p : Addr) (ds : List Addr) (scs : Scs) (g : Addr) (lb : List Str) (r : Addr) (n : Nat → Nm) (l : Ln), vs = [.ref p, .ref g, .ref r] ∧ ScAt H p ds scs ∧ H g = some (.lst (lb.map V.str)) ∧ H r = some (.lst (strN (l.ps n))) ∧ l.gen lb ∧ scs.length = lb.length + 1 ∧ lb.length ≤ 4 ∧ (∀ sc ∈ scs, sc.length ≤ 1000) ∧ p ≠ g ∧ p ≠ r ∧ g ≠ r ∧
  ∀ (ds' : List Addr) (H' : Hp), ScAt H' p ds' (stepS n scs l) → H' g = some (.lst ((stepB lb l).map V.str)) → (∀ c xs, H c = some (.lst xs) → c ≠ p → c ≠ g → H' c = some (.lst xs)) → Q .non H'
def kds : List (Nm × Str) := [(w_text, S w_text), (w_row, S w_row), (w_count, sN)]
theorem ScAt.len {H : Hp} {p : Addr} {ds : List Addr} {scs : Scs} (h : ScAt H p ds scs) : ds.length = scs.length := Paired.length h.d
/-- the last scope put anew -/
theorem ScAt.decl {H H' : Hp} {p : Addr} {di : List Addr} {dl : Addr} {si : Scs} {sl : List (Nm × Str)} {x : Nm} {k : Str} (h : ScAt H p (di ++ [dl]) (si ++ [sl])) (hd : H' dl = some (.dK (encS (putA sl x k)))) (k' : ∀ c o, H c = some o → c ≠ dl → H' c = some o) (pi : Paired (fun d s => H d = some (.dK (encS s))) di si) : ScAt H' p (di ++ [dl]) (modL (si ++ [sl]) x k) := by
  have sep := (List.nodup_append.mp h.nd).2.2
  have hdl : H dl = some (.dK (encS sl)) := by
    obtain ⟨y, hy, e⟩ := pair_getL h.d (i := di.length) (x := dl) (by rw [List.getElem?_append_right (Nat.le_refl _), Nat.sub_self]; rfl)
    rw [Paired.length pi, List.getElem?_append_right (Nat.le_refl _), Nat.sub_self] at hy
    cases Option.some.inj hy
    exact e
  refine ⟨k' _ _ h.l (ne_of h.l hdl fun z => nomatch z), ?_, h.nd⟩
  rw [modL_app]
  refine pair_app ?_ (.cons hd .nil)
  have go : ∀ {xs : List Addr} {ys : Scs}, Paired (fun d s => H d = some (.dK (encS s))) xs ys → (∀ c ∈ xs, c ≠ dl) → Paired (fun d s => H' d = some (.dK (encS s))) xs ys := by
    intro xs ys q
    induction q with
    | nil => exact fun _ => .nil
    | cons a _ ih => exact fun m => .cons (k' _ _ a (m _ List.mem_cons_self)) (ih fun c hc => m c (List.mem_cons_of_mem _ hc))
  exact go pi fun c hc => sep c hc dl List.mem_cons_self
theorem ScAt.push {H H' : Hp} {p d : Addr} {ds : List Addr} {scs : Scs} {sc : List (Nm × Str)} (h : ScAt H p ds scs) (hd : H d = none) (h' : H' p = some (.lst (ds.map V.ref ++ [V.ref d]))) (hd' : H' d = some (.dK (encS sc))) (k : ∀ c kvs, H c = some (.dK kvs) → H' c = some (.dK kvs)) : ScAt H' p (ds ++ [d]) (scs ++ [sc]) := by
  refine ⟨by rw [h', List.map_append]; rfl, pair_app (Paired.mapP h.d fun _ _ e => k _ _ e) (.cons hd' .nil), List.nodup_append.mpr ⟨h.nd, List.pairwise_singleton _ _, fun x hx y hy e => ?_⟩⟩
  rw [List.mem_singleton.mp hy] at e
  obtain ⟨i, hi⟩ := List.mem_iff_getElem?.mp hx
  obtain ⟨sc, _, hx2⟩ := pair_getL h.d hi
  rw [e, hd] at hx2
  cases hx2
theorem ScAt.pop {H H' : Hp} {p : Addr} {ds : List Addr} {scs : Scs} (h : ScAt H p ds scs) (h' : H' p = some (.lst (ds.dropLast.map V.ref))) (k : ∀ c kvs, H c = some (.dK kvs) → H' c = some (.dK kvs)) : ScAt H' p ds.dropLast scs.dropLast :=
  ⟨h', Paired.mapP (drop_pair h.d) fun _ _ e => k _ _ e, h.nd.sublist (List.dropLast_sublist ds)⟩
theorem ixN_last {n : Nat} (h : 0 < n) : ixN n (-1) = some (n - 1) := by
  unfold ixN
  rw [if_neg (by decide), if_pos (by omega)]
  exact congrArg some (by omega)
theorem pop_get {α β : Type} {f : α → β} {xs : List α} (h : xs ≠ []) : (xs.map f)[(xs.map f).length - 1]? = some (f (xs.getLast h)) := by
  rw [← List.getLast?_eq_getElem?, List.getLast?_map, List.getLast?_eq_some_getLast h]
  rfl
theorem set_last {α : Type} {x : α} : ∀ {xs : List α}, xs ≠ [] → xs.set (xs.length - 1) x = xs.dropLast ++ [x]
  | [], h => absurd rfl h
  | [y], _ => rfl
  | y :: z :: r, _ => by
    have ih := set_last (x := x) (xs := z :: r) (fun e => nomatch e)
    show y :: (z :: r).set ((z :: r).length - 1) x = y :: ((z :: r).dropLast ++ [x])
    rw [ih]
section
variable {P : Program} {w : World} {K : PySem.W.Frag} {mg : Str → Option Value} {base : Heap} {Z : Ad}
set_option maxHeartbeats 8000000 in
theorem ok_l_step (T : Txt K mg Z) : FnOk P w K mg base CX0 1 Z.a_l_step Z.d_l_step ["_law_scopes", "_law_blocks", "_law_parts"] sp_l_step := by
  refine T.F_l_step.ok sc_l_step (fun vs H Q E h => ?_) (fun cdv A outer s H vs Q E hr h => ?_)
  · obtain ⟨p, ds, scs, g, lb, r, n, l, rfl, _⟩ := h
    rfl
  · obtain ⟨p, ds, scs, g, lb, r, n, l, rfl, hS, hg, hrr, hgen, hlen, hl4, hsz, hpg, hpr, hgr, q⟩ := h
    have nd := sc_l_step.nd
    have hu := hu_of hr
    refine ⟨_, (pss_cons (ps_set (i := 3) nd rfl (Or.inl rfl) (pe_ix ix_list (pv 2) pe_int (fun _ _ => rfl)))
  (pss_cons (ps_set (i := 4) nd rfl (Or.inl rfl) (pe_disp (pps_cons pe_str pe_str (pps_cons pe_str pe_str (pps_cons pe_str pe_str pps_nil))) rfl rfl (fun z => nomatch z) (show 3 ≤ 15 by decide)))
  (pss_cons (ps_if (pt_cmp (pc_din hu (pv 3) (pv 4)))
  (pss_one (ps_dput hu (pe_ix ix_list (pv 0) (pe_un un_neg pe_int) (fun _ _ => rfl)) (pe_ix ix_list (pv 2) pe_int (fun _ _ => rfl)) (pe_dget hu (pv 4) (pv 3) (fun _ _ => rfl)) rfl))
  pss_nil)
  (pss_cons (ps_if (pt_cmpR op_eq (pv 3) pe_str (nomark _))
  (pss_cons (ps_expr (pe_bm PySem.F.plainAttrs_list PySem.F.slot_list_append PySem.F.type_list_append mt_append (pv 0) (pa_cons (pe_disp (pps_cons (pe_ix ix_list (pv 2) pe_int (fun _ _ => rfl)) pe_str pps_nil) rfl rfl (fun z => nomatch z) (show 1 ≤ 15 by decide)) pa_nil)))
  (pss_one (ps_expr (pe_bm PySem.F.plainAttrs_list PySem.F.slot_list_append PySem.F.type_list_append mt_append (pv 1) (pa_cons pe_str pa_nil)))))
  pss_nil)
  (pss_cons (ps_if (pt_cmpR op_eq (pv 3) pe_str (nomark _))
  (pss_cons (ps_expr (pe_bm PySem.F.plainAttrs_list PySem.F.slot_list_append PySem.F.type_list_append mt_append (pv 0) (pa_cons pe_dnewK pa_nil)))
  (pss_one (ps_expr (pe_bm PySem.F.plainAttrs_list PySem.F.slot_list_append PySem.F.type_list_append mt_append (pv 1) (pa_cons pe_str pa_nil)))))
  pss_nil)
  (pss_cons (ps_if (pt_cmpR op_eq (pv 3) pe_str (nomark _))
  (pss_cons (ps_asg pe_dnewK (pg_sub (pv 0) (pe_un un_neg pe_int) set_list))
  (pss_one (ps_asg pe_str (pg_sub (pv 1) (pe_un un_neg pe_int) set_list))))
  pss_nil)
  (pss_one (ps_if (pt_cmpR op_eq (pv 3) pe_str (nomark _))
  (pss_cons (ps_expr (pe_bm0 PySem.F.plainAttrs_list PySem.F.slot_list_pop PySem.F.type_list_pop mt_pop (pv 0)))
  (pss_one (ps_expr (pe_bm0 PySem.F.plainAttrs_list PySem.F.slot_list_pop PySem.F.type_list_pop mt_pop (pv 1)))))
  pss_nil)))))))), ?_⟩
    refine Eg.w_sig (σ := [some (.ref p), some (.ref g), some (.ref r), none, none]) rfl ?_
    have e_text : ("text" : Str) = S w_text := by decide +kernel
    have e_row : ("row" : Str) = S w_row := by decide +kernel
    have e_count : ("count" : Str) = S w_count := by decide +kernel
    have e_each : ("each" : Str) = S w_each := by decide +kernel
    have e_when : ("when" : Str) = S w_when := by decide +kernel
    have e_else : ("else" : Str) = S w_else := by decide +kernel
    have e_end : ("end" : Str) = S w_end := by decide +kernel
    rw [e_text, e_row, e_count, e_each, e_when, e_else, e_end]
    cases l with
    | decl k i =>
      cases k with
      | false =>
        have hrr : H r = some (.lst [V.str (S (w_text)), V.str (S (n i))]) := hrr
        walk_at "go"
        intro kd hkd
        refine Mk.w_pairC ?_
        walk_at "go"
        refine Mk.w_pairC ?_
        walk_at "go"
        refine Mk.w_pairC ?_
        walk_at "go"
        refine Mk.w_pairN ?_
        have ukd : upd H kd (.dK []) kd = some (.dK []) := upd_same
        refine ⟨ukd, [(.inr (S w_text), .str (S w_text)), (.inr (S w_row), .str (S w_row)), (.inr (S w_count), .str sN)], rfl, by decide, ?_⟩
        rw [show mergeK [] [((.inr (S w_text) : Key), V.str (S w_text)), (.inr (S w_row), .str (S w_row)), (.inr (S w_count), .str sN)] = encS kds by decide +kernel]
        rw [show upd (upd H kd (.dK [])) kd (.dK (encS kds)) = upd H kd (.dK (encS kds)) from by
          funext c
          by_cases e : c = kd
          · rw [e, upd_same, upd_same]
          · rw [upd_ne e, upd_ne e, upd_ne e]]
        have u23 : upd H kd (.dK (encS kds)) kd = some (.dK (encS kds)) := upd_same
        have s23 : Same H (upd H kd (.dK (encS kds))) := fun c ob e => Eg.upd_old e hkd
        generalize upd H kd (.dK (encS kds)) = G23 at u23 s23 ⊢
        have fr_23 := s23 _ _ hrr
        have fg_23 := s23 _ _ hg
        have fp_23 := s23 _ _ hS.l
        have ss_23 := (Same.refl H).trans s23
        have dg := Tw.dgetK (k := .inr (S (w_text))) (.inl u23)
        rw [val_S] at dg
        walk_at "go"
        refine Eg.c_din dg ?_
        rw [show (Option.map V.str (getA kds (w_text))).isSome = true by decide +kernel]
        walk_at "go"
        rw [show Option.map V.str (getA kds (w_text)) = some (.str (S w_text)) by decide +kernel] at dg
        refine ⟨kd, _, rfl, dg, ?_⟩
        walk_at "go"
        have hS1 := hS.keep (ss_23)
        obtain ⟨di, dl, si, sl, eD, eS, pi, hdl⟩ := pair_last hS1.d (fun z => by rw [z] at hlen; cases hlen)
        have iL : atI (ds.map V.ref) (-1) = some (V.ref dl) := Tx.atI_last (by rw [eD, List.map_append, List.getLast?_append]; rfl)
        refine Eg.w_ixL (SqL.of fp_23) iL ?_
        walk_at "go"
        refine ⟨dl, _, rfl, DPut.k (k := .inr (S (n i))) hdl (by have := hsz sl (by rw [eS]; exact List.mem_append.mpr (.inr List.mem_cons_self)); rw [sizeLine_eq]; unfold encS; rw [List.length_map]; omega), ?_⟩
        rw [put_S]
        have k2 : ∀ c o, G23 c = some o → c ≠ dl → upd G23 dl (.dK (encS (putA sl (n i) (S w_text)))) c = some o := fun c o e nn => Eg.upd_mut nn e
        have hnew : upd G23 dl (.dK (encS (putA sl (n i) (S w_text)))) dl = some (.dK (encS (putA sl (n i) (S w_text)))) := upd_same
        subst eD
        have hS2 : ScAt (upd G23 dl (.dK (encS (putA sl (n i) (S w_text))))) p (di ++ [dl]) (stepS n scs (.decl false i)) := by
          rw [show stepS n scs (.decl false i) = modL (si ++ [sl]) (n i) (S w_text) by rw [← eS]; rfl]
          exact ScAt.decl (by rw [← eS]; exact hS1) hnew k2 pi
        have hg2 := k2 _ _ fg_23 (ne_of fg_23 hdl fun z => nomatch z)
        have hr2 := k2 _ _ fr_23 (ne_of fr_23 hdl fun z => nomatch z)
        have fr : ∀ c xs, H c = some (.lst xs) → upd G23 dl (.dK (encS (putA sl (n i) (S w_text)))) c = some (.lst xs) := fun c xs e => k2 _ _ ((ss_23) _ _ e) (ne_of ((ss_23) _ _ e) hdl fun z => nomatch z)
        generalize upd G23 dl (.dK (encS (putA sl (n i) (S w_text)))) = H2 at hS2 hg2 hr2 fr ⊢
        walk_at "go"
        rw [show decide (V.str (S w_text) = V.str (S w_each)) = false by decide +kernel]
        walk_at "go"
        rw [show decide (V.str (S w_text) = V.str (S w_when)) = false by decide +kernel]
        walk_at "go"
        rw [show decide (V.str (S w_text) = V.str (S w_else)) = false by decide +kernel]
        walk_at "go"
        rw [show decide (V.str (S w_text) = V.str (S w_end)) = false by decide +kernel]
        walk_at "go"
        exact q _ _ hS2 hg2 fun c xs e _ _ => fr c xs e
      | true =>
        have hrr : H r = some (.lst [V.str (S (w_row)), V.str (S (n i))]) := hrr
        walk_at "go"
        intro kd hkd
        refine Mk.w_pairC ?_
        walk_at "go"
        refine Mk.w_pairC ?_
        walk_at "go"
        refine Mk.w_pairC ?_
        walk_at "go"
        refine Mk.w_pairN ?_
        have ukd : upd H kd (.dK []) kd = some (.dK []) := upd_same
        refine ⟨ukd, [(.inr (S w_text), .str (S w_text)), (.inr (S w_row), .str (S w_row)), (.inr (S w_count), .str sN)], rfl, by decide, ?_⟩
        rw [show mergeK [] [((.inr (S w_text) : Key), V.str (S w_text)), (.inr (S w_row), .str (S w_row)), (.inr (S w_count), .str sN)] = encS kds by decide +kernel]
        rw [show upd (upd H kd (.dK [])) kd (.dK (encS kds)) = upd H kd (.dK (encS kds)) from by
          funext c
          by_cases e : c = kd
          · rw [e, upd_same, upd_same]
          · rw [upd_ne e, upd_ne e, upd_ne e]]
        have u24 : upd H kd (.dK (encS kds)) kd = some (.dK (encS kds)) := upd_same
        have s24 : Same H (upd H kd (.dK (encS kds))) := fun c ob e => Eg.upd_old e hkd
        generalize upd H kd (.dK (encS kds)) = G24 at u24 s24 ⊢
        have fr_24 := s24 _ _ hrr
        have fg_24 := s24 _ _ hg
        have fp_24 := s24 _ _ hS.l
        have ss_24 := (Same.refl H).trans s24
        have dg := Tw.dgetK (k := .inr (S (w_row))) (.inl u24)
        rw [val_S] at dg
        walk_at "go"
        refine Eg.c_din dg ?_
        rw [show (Option.map V.str (getA kds (w_row))).isSome = true by decide +kernel]
        walk_at "go"
        rw [show Option.map V.str (getA kds (w_row)) = some (.str (S w_row)) by decide +kernel] at dg
        refine ⟨kd, _, rfl, dg, ?_⟩
        walk_at "go"
        have hS1 := hS.keep (ss_24)
        obtain ⟨di, dl, si, sl, eD, eS, pi, hdl⟩ := pair_last hS1.d (fun z => by rw [z] at hlen; cases hlen)
        have iL : atI (ds.map V.ref) (-1) = some (V.ref dl) := Tx.atI_last (by rw [eD, List.map_append, List.getLast?_append]; rfl)
        refine Eg.w_ixL (SqL.of fp_24) iL ?_
        walk_at "go"
        refine ⟨dl, _, rfl, DPut.k (k := .inr (S (n i))) hdl (by have := hsz sl (by rw [eS]; exact List.mem_append.mpr (.inr List.mem_cons_self)); rw [sizeLine_eq]; unfold encS; rw [List.length_map]; omega), ?_⟩
        rw [put_S]
        have k2 : ∀ c o, G24 c = some o → c ≠ dl → upd G24 dl (.dK (encS (putA sl (n i) (S w_row)))) c = some o := fun c o e nn => Eg.upd_mut nn e
        have hnew : upd G24 dl (.dK (encS (putA sl (n i) (S w_row)))) dl = some (.dK (encS (putA sl (n i) (S w_row)))) := upd_same
        subst eD
        have hS2 : ScAt (upd G24 dl (.dK (encS (putA sl (n i) (S w_row))))) p (di ++ [dl]) (stepS n scs (.decl true i)) := by
          rw [show stepS n scs (.decl true i) = modL (si ++ [sl]) (n i) (S w_row) by rw [← eS]; rfl]
          exact ScAt.decl (by rw [← eS]; exact hS1) hnew k2 pi
        have hg2 := k2 _ _ fg_24 (ne_of fg_24 hdl fun z => nomatch z)
        have hr2 := k2 _ _ fr_24 (ne_of fr_24 hdl fun z => nomatch z)
        have fr : ∀ c xs, H c = some (.lst xs) → upd G24 dl (.dK (encS (putA sl (n i) (S w_row)))) c = some (.lst xs) := fun c xs e => k2 _ _ ((ss_24) _ _ e) (ne_of ((ss_24) _ _ e) hdl fun z => nomatch z)
        generalize upd G24 dl (.dK (encS (putA sl (n i) (S w_row)))) = H2 at hS2 hg2 hr2 fr ⊢
        walk_at "go"
        rw [show decide (V.str (S w_row) = V.str (S w_each)) = false by decide +kernel]
        walk_at "go"
        rw [show decide (V.str (S w_row) = V.str (S w_when)) = false by decide +kernel]
        walk_at "go"
        rw [show decide (V.str (S w_row) = V.str (S w_else)) = false by decide +kernel]
        walk_at "go"
        rw [show decide (V.str (S w_row) = V.str (S w_end)) = false by decide +kernel]
        walk_at "go"
        exact q _ _ hS2 hg2 fun c xs e _ _ => fr c xs e
    | count i j =>
      have hrr : H r = some (.lst [V.str (S (w_count)), V.str (S (n i)), V.str (S (n j)), V.str (S (w_4))]) := hrr
      walk_at "go"
      intro kd hkd
      refine Mk.w_pairC ?_
      walk_at "go"
      refine Mk.w_pairC ?_
      walk_at "go"
      refine Mk.w_pairC ?_
      walk_at "go"
      refine Mk.w_pairN ?_
      have ukd : upd H kd (.dK []) kd = some (.dK []) := upd_same
      refine ⟨ukd, [(.inr (S w_text), .str (S w_text)), (.inr (S w_row), .str (S w_row)), (.inr (S w_count), .str sN)], rfl, by decide, ?_⟩
      rw [show mergeK [] [((.inr (S w_text) : Key), V.str (S w_text)), (.inr (S w_row), .str (S w_row)), (.inr (S w_count), .str sN)] = encS kds by decide +kernel]
      rw [show upd (upd H kd (.dK [])) kd (.dK (encS kds)) = upd H kd (.dK (encS kds)) from by
        funext c
        by_cases e : c = kd
        · rw [e, upd_same, upd_same]
        · rw [upd_ne e, upd_ne e, upd_ne e]]
      have u25 : upd H kd (.dK (encS kds)) kd = some (.dK (encS kds)) := upd_same
      have s25 : Same H (upd H kd (.dK (encS kds))) := fun c ob e => Eg.upd_old e hkd
      generalize upd H kd (.dK (encS kds)) = G25 at u25 s25 ⊢
      have fr_25 := s25 _ _ hrr
      have fg_25 := s25 _ _ hg
      have fp_25 := s25 _ _ hS.l
      have ss_25 := (Same.refl H).trans s25
      have dg := Tw.dgetK (k := .inr (S (w_count))) (.inl u25)
      rw [val_S] at dg
      walk_at "go"
      refine Eg.c_din dg ?_
      rw [show (Option.map V.str (getA kds (w_count))).isSome = true by decide +kernel]
      walk_at "go"
      rw [show Option.map V.str (getA kds (w_count)) = some (.str (sN)) by decide +kernel] at dg
      refine ⟨kd, _, rfl, dg, ?_⟩
      walk_at "go"
      have hS1 := hS.keep (ss_25)
      obtain ⟨di, dl, si, sl, eD, eS, pi, hdl⟩ := pair_last hS1.d (fun z => by rw [z] at hlen; cases hlen)
      have iL : atI (ds.map V.ref) (-1) = some (V.ref dl) := Tx.atI_last (by rw [eD, List.map_append, List.getLast?_append]; rfl)
      refine Eg.w_ixL (SqL.of fp_25) iL ?_
      walk_at "go"
      refine ⟨dl, _, rfl, DPut.k (k := .inr (S (n i))) hdl (by have := hsz sl (by rw [eS]; exact List.mem_append.mpr (.inr List.mem_cons_self)); rw [sizeLine_eq]; unfold encS; rw [List.length_map]; omega), ?_⟩
      rw [put_S]
      have k2 : ∀ c o, G25 c = some o → c ≠ dl → upd G25 dl (.dK (encS (putA sl (n i) (sN)))) c = some o := fun c o e nn => Eg.upd_mut nn e
      have hnew : upd G25 dl (.dK (encS (putA sl (n i) (sN)))) dl = some (.dK (encS (putA sl (n i) (sN)))) := upd_same
      subst eD
      have hS2 : ScAt (upd G25 dl (.dK (encS (putA sl (n i) (sN))))) p (di ++ [dl]) (stepS n scs (.count i j)) := by
        rw [show stepS n scs (.count i j) = modL (si ++ [sl]) (n i) (sN) by rw [← eS]; rfl]
        exact ScAt.decl (by rw [← eS]; exact hS1) hnew k2 pi
      have hg2 := k2 _ _ fg_25 (ne_of fg_25 hdl fun z => nomatch z)
      have hr2 := k2 _ _ fr_25 (ne_of fr_25 hdl fun z => nomatch z)
      have fr : ∀ c xs, H c = some (.lst xs) → upd G25 dl (.dK (encS (putA sl (n i) (sN)))) c = some (.lst xs) := fun c xs e => k2 _ _ ((ss_25) _ _ e) (ne_of ((ss_25) _ _ e) hdl fun z => nomatch z)
      generalize upd G25 dl (.dK (encS (putA sl (n i) (sN)))) = H2 at hS2 hg2 hr2 fr ⊢
      walk_at "go"
      rw [show decide (V.str (S w_count) = V.str (S w_each)) = false by decide +kernel]
      walk_at "go"
      rw [show decide (V.str (S w_count) = V.str (S w_when)) = false by decide +kernel]
      walk_at "go"
      rw [show decide (V.str (S w_count) = V.str (S w_else)) = false by decide +kernel]
      walk_at "go"
      rw [show decide (V.str (S w_count) = V.str (S w_end)) = false by decide +kernel]
      walk_at "go"
      exact q _ _ hS2 hg2 fun c xs e _ _ => fr c xs e
    | each i =>
      have hrr : H r = some (.lst [V.str (S (w_each)), V.str (S (n i)), V.str (S (w_of)), V.str (S (n 7))]) := hrr
      walk_at "go"
      intro kd hkd
      refine Mk.w_pairC ?_
      walk_at "go"
      refine Mk.w_pairC ?_
      walk_at "go"
      refine Mk.w_pairC ?_
      walk_at "go"
      refine Mk.w_pairN ?_
      have ukd : upd H kd (.dK []) kd = some (.dK []) := upd_same
      refine ⟨ukd, [(.inr (S w_text), .str (S w_text)), (.inr (S w_row), .str (S w_row)), (.inr (S w_count), .str sN)], rfl, by decide, ?_⟩
      rw [show mergeK [] [((.inr (S w_text) : Key), V.str (S w_text)), (.inr (S w_row), .str (S w_row)), (.inr (S w_count), .str sN)] = encS kds by decide +kernel]
      rw [show upd (upd H kd (.dK [])) kd (.dK (encS kds)) = upd H kd (.dK (encS kds)) from by
        funext c
        by_cases e : c = kd
        · rw [e, upd_same, upd_same]
        · rw [upd_ne e, upd_ne e, upd_ne e]]
      have u26 : upd H kd (.dK (encS kds)) kd = some (.dK (encS kds)) := upd_same
      have s26 : Same H (upd H kd (.dK (encS kds))) := fun c ob e => Eg.upd_old e hkd
      generalize upd H kd (.dK (encS kds)) = G26 at u26 s26 ⊢
      have fr_26 := s26 _ _ hrr
      have fg_26 := s26 _ _ hg
      have fp_26 := s26 _ _ hS.l
      have ss_26 := (Same.refl H).trans s26
      have dg := Tw.dgetK (k := .inr (S (w_each))) (.inl u26)
      rw [val_S] at dg
      walk_at "go"
      refine Eg.c_din dg ?_
      rw [show (Option.map V.str (getA kds (w_each))).isSome = false by decide +kernel]
      walk_at "go"
      rw [show decide (V.str (S w_each) = V.str (S w_each)) = true by decide +kernel]
      walk_at "go"
      have dsl : (ds.map V.ref).length = lb.length + 1 := by rw [List.length_map, hS.len, hlen]
      have lbl : (lb.map V.str).length = lb.length := List.length_map ..
      have kp : kd ≠ p := (ne_of_none hS.l hkd).symm
      have kg : kd ≠ g := (ne_of_none hg hkd).symm
      intro d hd
      have ud : upd G26 d (.dK []) d = some (.dK []) := upd_same
      have mk : ∀ k : Key × V, upd (upd G26 d (.dK [])) d (.dK [k]) = upd G26 d (.dK [k]) := fun k => by
        funext c
        by_cases e : c = d
        · rw [e, upd_same, upd_same]
        · rw [upd_ne e, upd_ne e, upd_ne e]
      have hr2 := (fun c ob e => Eg.upd_old e hd : Same G26 (upd G26 d (.dK []))) _ _ fr_26
      walk_at "go"
      refine ⟨ud, .inr (S (n i)), rfl, ?_⟩
      rw [mk]
      rw [show [((.inr (S (n i)) : Key), V.str "item")] = encS [(n i, sI)] from rfl]
      have d0 : H d = none := (ss_26).free hd
      have dp : d ≠ p := (ne_of_none hS.l d0).symm
      have dg_ : d ≠ g := (ne_of_none hg d0).symm
      have u27 : upd G26 d (.dK (encS [(n i, sI)])) d = some (.dK (encS [(n i, sI)])) := upd_same
      have s27 : Same G26 (upd G26 d (.dK (encS [(n i, sI)]))) := fun c ob e => Eg.upd_old e hd
      generalize upd G26 d (.dK (encS [(n i, sI)])) = G27 at u27 s27 ⊢
      have fr_27 := s27 _ _ fr_26
      have fg_27 := s27 _ _ fg_26
      have fp_27 := s27 _ _ fp_26
      have fkd_27 := s27 _ _ u26
      have ss_27 := (ss_26).trans s27
      walk_at "go"
      have k28 : ∀ c o, G27 c = some o → c ≠ p → upd G27 p (.lst (ds.map V.ref ++ [V.ref d])) c = some o := fun c o e nn => Eg.upd_mut nn e
      have u28 : upd G27 p (.lst (ds.map V.ref ++ [V.ref d])) p = some (.lst (ds.map V.ref ++ [V.ref d])) := upd_same
      generalize upd G27 p (.lst (ds.map V.ref ++ [V.ref d])) = G28 at k28 u28 ⊢
      have fr_28 := k28 _ _ fr_27 (hpr.symm)
      have fg_28 := k28 _ _ fg_27 (hpg.symm)
      have fkd_28 := k28 _ _ fkd_27 (kp)
      have fd_28 := k28 _ _ u27 (dp)
      walk_at "go"
      rw [show lb.map V.str ++ [V.str (S w_each)] = (stepB lb (.each i)).map V.str by rw [← e_each]; show _ = (lb ++ [_]).map V.str; rw [List.map_append]; rfl]
      have k29 : ∀ c o, G28 c = some o → c ≠ g → upd G28 g (.lst ((stepB lb (.each i)).map V.str)) c = some o := fun c o e nn => Eg.upd_mut nn e
      have u29 : upd G28 g (.lst ((stepB lb (.each i)).map V.str)) g = some (.lst ((stepB lb (.each i)).map V.str)) := upd_same
      generalize upd G28 g (.lst ((stepB lb (.each i)).map V.str)) = G29 at k29 u29 ⊢
      have fr_29 := k29 _ _ fr_28 (hgr.symm)
      have fp_29 := k29 _ _ u28 (hpg)
      have fkd_29 := k29 _ _ fkd_28 (kg)
      have fd_29 := k29 _ _ fd_28 (dg_)
      walk_at "go"
      rw [show decide (V.str (S w_each) = V.str (S w_when)) = false by decide +kernel]
      walk_at "go"
      rw [show decide (V.str (S w_each) = V.str (S w_else)) = false by decide +kernel]
      walk_at "go"
      rw [show decide (V.str (S w_each) = V.str (S w_end)) = false by decide +kernel]
      walk_at "go"
      have kk : ∀ c o, H c = some o → c ≠ p → c ≠ g → G29 c = some o := fun c o e n1 n2 => k29 _ _ (k28 _ _ ((ss_27) _ _ e) n1) n2
      have kD : ∀ c kvs, H c = some (.dK kvs) → G29 c = some (.dK kvs) := fun c kvs e => kk c _ e (ne_of e hS.l fun z => nomatch z) (ne_of e hg fun z => nomatch z)
      exact q (ds ++ [d]) _ (hS.push d0 fp_29 fd_29 kD) u29 fun c xs e n1 n2 => kk c _ e n1 n2
    | when i =>
      have hrr : H r = some (.lst [V.str (S (w_when)), V.str (S (n i))]) := hrr
      walk_at "go"
      intro kd hkd
      refine Mk.w_pairC ?_
      walk_at "go"
      refine Mk.w_pairC ?_
      walk_at "go"
      refine Mk.w_pairC ?_
      walk_at "go"
      refine Mk.w_pairN ?_
      have ukd : upd H kd (.dK []) kd = some (.dK []) := upd_same
      refine ⟨ukd, [(.inr (S w_text), .str (S w_text)), (.inr (S w_row), .str (S w_row)), (.inr (S w_count), .str sN)], rfl, by decide, ?_⟩
      rw [show mergeK [] [((.inr (S w_text) : Key), V.str (S w_text)), (.inr (S w_row), .str (S w_row)), (.inr (S w_count), .str sN)] = encS kds by decide +kernel]
      rw [show upd (upd H kd (.dK [])) kd (.dK (encS kds)) = upd H kd (.dK (encS kds)) from by
        funext c
        by_cases e : c = kd
        · rw [e, upd_same, upd_same]
        · rw [upd_ne e, upd_ne e, upd_ne e]]
      have u30 : upd H kd (.dK (encS kds)) kd = some (.dK (encS kds)) := upd_same
      have s30 : Same H (upd H kd (.dK (encS kds))) := fun c ob e => Eg.upd_old e hkd
      generalize upd H kd (.dK (encS kds)) = G30 at u30 s30 ⊢
      have fr_30 := s30 _ _ hrr
      have fg_30 := s30 _ _ hg
      have fp_30 := s30 _ _ hS.l
      have ss_30 := (Same.refl H).trans s30
      have dg := Tw.dgetK (k := .inr (S (w_when))) (.inl u30)
      rw [val_S] at dg
      walk_at "go"
      refine Eg.c_din dg ?_
      rw [show (Option.map V.str (getA kds (w_when))).isSome = false by decide +kernel]
      walk_at "go"
      rw [show decide (V.str (S w_when) = V.str (S w_each)) = false by decide +kernel]
      walk_at "go"
      rw [show decide (V.str (S w_when) = V.str (S w_when)) = true by decide +kernel]
      walk_at "go"
      have dsl : (ds.map V.ref).length = lb.length + 1 := by rw [List.length_map, hS.len, hlen]
      have lbl : (lb.map V.str).length = lb.length := List.length_map ..
      have kp : kd ≠ p := (ne_of_none hS.l hkd).symm
      have kg : kd ≠ g := (ne_of_none hg hkd).symm
      intro d hd
      rw [show (.dK [] : HO) = .dK (encS []) from rfl]
      have d0 : H d = none := (ss_30).free hd
      have dp : d ≠ p := (ne_of_none hS.l d0).symm
      have dg_ : d ≠ g := (ne_of_none hg d0).symm
      have u31 : upd G30 d (.dK (encS [])) d = some (.dK (encS [])) := upd_same
      have s31 : Same G30 (upd G30 d (.dK (encS []))) := fun c ob e => Eg.upd_old e hd
      generalize upd G30 d (.dK (encS [])) = G31 at u31 s31 ⊢
      have fr_31 := s31 _ _ fr_30
      have fg_31 := s31 _ _ fg_30
      have fp_31 := s31 _ _ fp_30
      have fkd_31 := s31 _ _ u30
      have ss_31 := (ss_30).trans s31
      walk_at "go"
      have k32 : ∀ c o, G31 c = some o → c ≠ p → upd G31 p (.lst (ds.map V.ref ++ [V.ref d])) c = some o := fun c o e nn => Eg.upd_mut nn e
      have u32 : upd G31 p (.lst (ds.map V.ref ++ [V.ref d])) p = some (.lst (ds.map V.ref ++ [V.ref d])) := upd_same
      generalize upd G31 p (.lst (ds.map V.ref ++ [V.ref d])) = G32 at k32 u32 ⊢
      have fr_32 := k32 _ _ fr_31 (hpr.symm)
      have fg_32 := k32 _ _ fg_31 (hpg.symm)
      have fkd_32 := k32 _ _ fkd_31 (kp)
      have fd_32 := k32 _ _ u31 (dp)
      walk_at "go"
      rw [show lb.map V.str ++ [V.str (S w_when)] = (stepB lb (.when i)).map V.str by rw [← e_when]; show _ = (lb ++ [_]).map V.str; rw [List.map_append]; rfl]
      have k33 : ∀ c o, G32 c = some o → c ≠ g → upd G32 g (.lst ((stepB lb (.when i)).map V.str)) c = some o := fun c o e nn => Eg.upd_mut nn e
      have u33 : upd G32 g (.lst ((stepB lb (.when i)).map V.str)) g = some (.lst ((stepB lb (.when i)).map V.str)) := upd_same
      generalize upd G32 g (.lst ((stepB lb (.when i)).map V.str)) = G33 at k33 u33 ⊢
      have fr_33 := k33 _ _ fr_32 (hgr.symm)
      have fp_33 := k33 _ _ u32 (hpg)
      have fkd_33 := k33 _ _ fkd_32 (kg)
      have fd_33 := k33 _ _ fd_32 (dg_)
      walk_at "go"
      rw [show decide (V.str (S w_when) = V.str (S w_else)) = false by decide +kernel]
      walk_at "go"
      rw [show decide (V.str (S w_when) = V.str (S w_end)) = false by decide +kernel]
      walk_at "go"
      have kk : ∀ c o, H c = some o → c ≠ p → c ≠ g → G33 c = some o := fun c o e n1 n2 => k33 _ _ (k32 _ _ ((ss_31) _ _ e) n1) n2
      have kD : ∀ c kvs, H c = some (.dK kvs) → G33 c = some (.dK kvs) := fun c kvs e => kk c _ e (ne_of e hS.l fun z => nomatch z) (ne_of e hg fun z => nomatch z)
      exact q (ds ++ [d]) _ (hS.push d0 fp_33 fd_33 kD) u33 fun c xs e n1 n2 => kk c _ e n1 n2
    | els =>
      have hrr : H r = some (.lst [V.str (S (w_else))]) := hrr
      walk_at "go"
      intro kd hkd
      refine Mk.w_pairC ?_
      walk_at "go"
      refine Mk.w_pairC ?_
      walk_at "go"
      refine Mk.w_pairC ?_
      walk_at "go"
      refine Mk.w_pairN ?_
      have ukd : upd H kd (.dK []) kd = some (.dK []) := upd_same
      refine ⟨ukd, [(.inr (S w_text), .str (S w_text)), (.inr (S w_row), .str (S w_row)), (.inr (S w_count), .str sN)], rfl, by decide, ?_⟩
      rw [show mergeK [] [((.inr (S w_text) : Key), V.str (S w_text)), (.inr (S w_row), .str (S w_row)), (.inr (S w_count), .str sN)] = encS kds by decide +kernel]
      rw [show upd (upd H kd (.dK [])) kd (.dK (encS kds)) = upd H kd (.dK (encS kds)) from by
        funext c
        by_cases e : c = kd
        · rw [e, upd_same, upd_same]
        · rw [upd_ne e, upd_ne e, upd_ne e]]
      have u34 : upd H kd (.dK (encS kds)) kd = some (.dK (encS kds)) := upd_same
      have s34 : Same H (upd H kd (.dK (encS kds))) := fun c ob e => Eg.upd_old e hkd
      generalize upd H kd (.dK (encS kds)) = G34 at u34 s34 ⊢
      have fr_34 := s34 _ _ hrr
      have fg_34 := s34 _ _ hg
      have fp_34 := s34 _ _ hS.l
      have ss_34 := (Same.refl H).trans s34
      have dg := Tw.dgetK (k := .inr (S (w_else))) (.inl u34)
      rw [val_S] at dg
      walk_at "go"
      refine Eg.c_din dg ?_
      rw [show (Option.map V.str (getA kds (w_else))).isSome = false by decide +kernel]
      walk_at "go"
      rw [show decide (V.str (S w_else) = V.str (S w_each)) = false by decide +kernel]
      walk_at "go"
      rw [show decide (V.str (S w_else) = V.str (S w_when)) = false by decide +kernel]
      walk_at "go"
      rw [show decide (V.str (S w_else) = V.str (S w_else)) = true by decide +kernel]
      walk_at "go"
      have dsl : (ds.map V.ref).length = lb.length + 1 := by rw [List.length_map, hS.len, hlen]
      have lbl : (lb.map V.str).length = lb.length := List.length_map ..
      have kp : kd ≠ p := (ne_of_none hS.l hkd).symm
      have kg : kd ≠ g := (ne_of_none hg hkd).symm
      intro d hd
      rw [show (.dK [] : HO) = .dK (encS []) from rfl]
      have d0 : H d = none := (ss_34).free hd
      have dp : d ≠ p := (ne_of_none hS.l d0).symm
      have dg_ : d ≠ g := (ne_of_none hg d0).symm
      have u35 : upd G34 d (.dK (encS [])) d = some (.dK (encS [])) := upd_same
      have s35 : Same G34 (upd G34 d (.dK (encS []))) := fun c ob e => Eg.upd_old e hd
      generalize upd G34 d (.dK (encS [])) = G35 at u35 s35 ⊢
      have fr_35 := s35 _ _ fr_34
      have fg_35 := s35 _ _ fg_34
      have fp_35 := s35 _ _ fp_34
      have fkd_35 := s35 _ _ u34
      have ss_35 := (ss_34).trans s35
      walk_at "go"
      refine Eg.w_setL fp_35 (ixN_last (by omega)) ?_
      rw [set_last (fun z => by rw [z] at dsl; cases dsl), ← List.map_dropLast, show ds.dropLast.map V.ref ++ [V.ref d] = (ds.dropLast ++ [d]).map V.ref by rw [List.map_append]; rfl]
      have k36 : ∀ c o, G35 c = some o → c ≠ p → upd G35 p (.lst ((ds.dropLast ++ [d]).map V.ref)) c = some o := fun c o e nn => Eg.upd_mut nn e
      have u36 : upd G35 p (.lst ((ds.dropLast ++ [d]).map V.ref)) p = some (.lst ((ds.dropLast ++ [d]).map V.ref)) := upd_same
      generalize upd G35 p (.lst ((ds.dropLast ++ [d]).map V.ref)) = G36 at k36 u36 ⊢
      have fr_36 := k36 _ _ fr_35 (hpr.symm)
      have fg_36 := k36 _ _ fg_35 (hpg.symm)
      have fkd_36 := k36 _ _ fkd_35 (kp)
      have fd_36 := k36 _ _ u35 (dp)
      walk_at "go"
      refine Eg.w_setL fg_36 (ixN_last (by have := hgen; rw [lbl]; cases lb with | nil => cases this | cons x r => exact Nat.succ_pos _)) ?_
      rw [set_last (fun z => by have e := List.map_eq_nil_iff.mp z; rw [e] at hgen; cases hgen), ← List.map_dropLast, show lb.dropLast.map V.str ++ [V.str (S w_else)] = (stepB lb .els).map V.str by rw [← e_else]; show _ = (lb.dropLast ++ [sL]).map V.str; rw [List.map_append]; rfl]
      have k37 : ∀ c o, G36 c = some o → c ≠ g → upd G36 g (.lst ((stepB lb .els).map V.str)) c = some o := fun c o e nn => Eg.upd_mut nn e
      have u37 : upd G36 g (.lst ((stepB lb .els).map V.str)) g = some (.lst ((stepB lb .els).map V.str)) := upd_same
      generalize upd G36 g (.lst ((stepB lb .els).map V.str)) = G37 at k37 u37 ⊢
      have fr_37 := k37 _ _ fr_36 (hgr.symm)
      have fp_37 := k37 _ _ u36 (hpg)
      have fkd_37 := k37 _ _ fkd_36 (kg)
      have fd_37 := k37 _ _ fd_36 (dg_)
      walk_at "go"
      rw [show decide (V.str (S w_else) = V.str (S w_end)) = false by decide +kernel]
      walk_at "go"
      have kk : ∀ c o, H c = some o → c ≠ p → c ≠ g → G37 c = some o := fun c o e n1 n2 => k37 _ _ (k36 _ _ ((ss_35) _ _ e) n1) n2
      have kD : ∀ c kvs, H c = some (.dK kvs) → G37 c = some (.dK kvs) := fun c kvs e => kk c _ e (ne_of e hS.l fun z => nomatch z) (ne_of e hg fun z => nomatch z)
      refine q (ds.dropLast ++ [d]) _ (ScAt.push (H := upd H p (.lst (ds.dropLast.map V.ref))) (hS.pop upd_same fun c kvs e => Eg.upd_mut (ne_of e hS.l fun z => nomatch z) e) ((upd_ne dp).trans d0) (by rw [fp_37, List.map_append]; rfl) fd_37 fun c kvs e => ?_) u37 fun c xs e n1 n2 => kk c _ e n1 n2
      by_cases z : c = p
      · rw [z, upd_same] at e
        cases e
      · exact kD c kvs ((upd_ne z).symm.trans e)
    | fin =>
      have hrr : H r = some (.lst [V.str (S (w_end))]) := hrr
      walk_at "go"
      intro kd hkd
      refine Mk.w_pairC ?_
      walk_at "go"
      refine Mk.w_pairC ?_
      walk_at "go"
      refine Mk.w_pairC ?_
      walk_at "go"
      refine Mk.w_pairN ?_
      have ukd : upd H kd (.dK []) kd = some (.dK []) := upd_same
      refine ⟨ukd, [(.inr (S w_text), .str (S w_text)), (.inr (S w_row), .str (S w_row)), (.inr (S w_count), .str sN)], rfl, by decide, ?_⟩
      rw [show mergeK [] [((.inr (S w_text) : Key), V.str (S w_text)), (.inr (S w_row), .str (S w_row)), (.inr (S w_count), .str sN)] = encS kds by decide +kernel]
      rw [show upd (upd H kd (.dK [])) kd (.dK (encS kds)) = upd H kd (.dK (encS kds)) from by
        funext c
        by_cases e : c = kd
        · rw [e, upd_same, upd_same]
        · rw [upd_ne e, upd_ne e, upd_ne e]]
      have u38 : upd H kd (.dK (encS kds)) kd = some (.dK (encS kds)) := upd_same
      have s38 : Same H (upd H kd (.dK (encS kds))) := fun c ob e => Eg.upd_old e hkd
      generalize upd H kd (.dK (encS kds)) = G38 at u38 s38 ⊢
      have fr_38 := s38 _ _ hrr
      have fg_38 := s38 _ _ hg
      have fp_38 := s38 _ _ hS.l
      have ss_38 := (Same.refl H).trans s38
      have dg := Tw.dgetK (k := .inr (S (w_end))) (.inl u38)
      rw [val_S] at dg
      walk_at "go"
      refine Eg.c_din dg ?_
      rw [show (Option.map V.str (getA kds (w_end))).isSome = false by decide +kernel]
      walk_at "go"
      rw [show decide (V.str (S w_end) = V.str (S w_each)) = false by decide +kernel]
      walk_at "go"
      rw [show decide (V.str (S w_end) = V.str (S w_when)) = false by decide +kernel]
      walk_at "go"
      rw [show decide (V.str (S w_end) = V.str (S w_else)) = false by decide +kernel]
      walk_at "go"
      rw [show decide (V.str (S w_end) = V.str (S w_end)) = true by decide +kernel]
      walk_at "go"
      have dsl : (ds.map V.ref).length = lb.length + 1 := by rw [List.length_map, hS.len, hlen]
      have lbl : (lb.map V.str).length = lb.length := List.length_map ..
      have kp : kd ≠ p := (ne_of_none hS.l hkd).symm
      have kg : kd ≠ g := (ne_of_none hg hkd).symm
      have lbn : lb ≠ [] := hgen
      refine ⟨p, _, .ref (ds.getLast (fun z => by rw [z] at dsl; cases dsl)), rfl, rfl, fp_38, pop_get _, ?_⟩
      rw [← List.map_dropLast]
      have k39 : ∀ c o, G38 c = some o → c ≠ p → upd G38 p (.lst (ds.dropLast.map V.ref)) c = some o := fun c o e nn => Eg.upd_mut nn e
      have u39 : upd G38 p (.lst (ds.dropLast.map V.ref)) p = some (.lst (ds.dropLast.map V.ref)) := upd_same
      generalize upd G38 p (.lst (ds.dropLast.map V.ref)) = G39 at k39 u39 ⊢
      have fr_39 := k39 _ _ fr_38 (hpr.symm)
      have fg_39 := k39 _ _ fg_38 (hpg.symm)
      have fkd_39 := k39 _ _ u38 (kp)
      walk_at "go"
      refine ⟨g, _, .str (lb.getLast lbn), rfl, rfl, fg_39, pop_get lbn, ?_⟩
      rw [← List.map_dropLast]
      have k40 : ∀ c o, G39 c = some o → c ≠ g → upd G39 g (.lst (lb.dropLast.map V.str)) c = some o := fun c o e nn => Eg.upd_mut nn e
      have u40 : upd G39 g (.lst (lb.dropLast.map V.str)) g = some (.lst (lb.dropLast.map V.str)) := upd_same
      generalize upd G39 g (.lst (lb.dropLast.map V.str)) = G40 at k40 u40 ⊢
      have fr_40 := k40 _ _ fr_39 (hgr.symm)
      have fp_40 := k40 _ _ u39 (hpg)
      have fkd_40 := k40 _ _ fkd_39 (kg)
      walk_at "go"
      have kk : ∀ c o, H c = some o → c ≠ p → c ≠ g → G40 c = some o := fun c o e n1 n2 => k40 _ _ (k39 _ _ ((ss_38) _ _ e) n1) n2
      have kD : ∀ c kvs, H c = some (.dK kvs) → G40 c = some (.dK kvs) := fun c kvs e => kk c _ e (ne_of e hS.l fun z => nomatch z) (ne_of e hg fun z => nomatch z)
      exact q (ds.dropLast) _ (hS.pop fp_40 kD) u40 fun c xs e n1 n2 => kk c _ e n1 n2
    | say i =>
      have hrr : H r = some (.lst [V.str (S (w_say)), V.str (S (n i)), V.str (S (w_back)), V.str (S (w_and))]) := hrr
      walk_at "go"
      intro kd hkd
      refine Mk.w_pairC ?_
      walk_at "go"
      refine Mk.w_pairC ?_
      walk_at "go"
      refine Mk.w_pairC ?_
      walk_at "go"
      refine Mk.w_pairN ?_
      have ukd : upd H kd (.dK []) kd = some (.dK []) := upd_same
      refine ⟨ukd, [(.inr (S w_text), .str (S w_text)), (.inr (S w_row), .str (S w_row)), (.inr (S w_count), .str sN)], rfl, by decide, ?_⟩
      rw [show mergeK [] [((.inr (S w_text) : Key), V.str (S w_text)), (.inr (S w_row), .str (S w_row)), (.inr (S w_count), .str sN)] = encS kds by decide +kernel]
      rw [show upd (upd H kd (.dK [])) kd (.dK (encS kds)) = upd H kd (.dK (encS kds)) from by
        funext c
        by_cases e : c = kd
        · rw [e, upd_same, upd_same]
        · rw [upd_ne e, upd_ne e, upd_ne e]]
      have u41 : upd H kd (.dK (encS kds)) kd = some (.dK (encS kds)) := upd_same
      have s41 : Same H (upd H kd (.dK (encS kds))) := fun c ob e => Eg.upd_old e hkd
      generalize upd H kd (.dK (encS kds)) = G41 at u41 s41 ⊢
      have fr_41 := s41 _ _ hrr
      have fg_41 := s41 _ _ hg
      have fp_41 := s41 _ _ hS.l
      have ss_41 := (Same.refl H).trans s41
      have dg := Tw.dgetK (k := .inr (S (w_say))) (.inl u41)
      rw [val_S] at dg
      walk_at "go"
      refine Eg.c_din dg ?_
      rw [show (Option.map V.str (getA kds (w_say))).isSome = false by decide +kernel]
      walk_at "go"
      rw [show decide (V.str (S w_say) = V.str (S w_each)) = false by decide +kernel]
      walk_at "go"
      rw [show decide (V.str (S w_say) = V.str (S w_when)) = false by decide +kernel]
      walk_at "go"
      rw [show decide (V.str (S w_say) = V.str (S w_else)) = false by decide +kernel]
      walk_at "go"
      rw [show decide (V.str (S w_say) = V.str (S w_end)) = false by decide +kernel]
      walk_at "go"
      exact q ds _ (hS.keep (ss_41)) fg_41 fun c xs e _ _ => (ss_41) _ _ e
    | bind i j k =>
      have hrr : H r = some (.lst [V.str (S (w_bind)), V.str (S (n i)), V.str (S (w_back)), V.str (S (n j)), V.str (S (w_back)), V.str (S (n k)), V.str (S (w_q))]) := hrr
      walk_at "go"
      intro kd hkd
      refine Mk.w_pairC ?_
      walk_at "go"
      refine Mk.w_pairC ?_
      walk_at "go"
      refine Mk.w_pairC ?_
      walk_at "go"
      refine Mk.w_pairN ?_
      have ukd : upd H kd (.dK []) kd = some (.dK []) := upd_same
      refine ⟨ukd, [(.inr (S w_text), .str (S w_text)), (.inr (S w_row), .str (S w_row)), (.inr (S w_count), .str sN)], rfl, by decide, ?_⟩
      rw [show mergeK [] [((.inr (S w_text) : Key), V.str (S w_text)), (.inr (S w_row), .str (S w_row)), (.inr (S w_count), .str sN)] = encS kds by decide +kernel]
      rw [show upd (upd H kd (.dK [])) kd (.dK (encS kds)) = upd H kd (.dK (encS kds)) from by
        funext c
        by_cases e : c = kd
        · rw [e, upd_same, upd_same]
        · rw [upd_ne e, upd_ne e, upd_ne e]]
      have u42 : upd H kd (.dK (encS kds)) kd = some (.dK (encS kds)) := upd_same
      have s42 : Same H (upd H kd (.dK (encS kds))) := fun c ob e => Eg.upd_old e hkd
      generalize upd H kd (.dK (encS kds)) = G42 at u42 s42 ⊢
      have fr_42 := s42 _ _ hrr
      have fg_42 := s42 _ _ hg
      have fp_42 := s42 _ _ hS.l
      have ss_42 := (Same.refl H).trans s42
      have dg := Tw.dgetK (k := .inr (S (w_bind))) (.inl u42)
      rw [val_S] at dg
      walk_at "go"
      refine Eg.c_din dg ?_
      rw [show (Option.map V.str (getA kds (w_bind))).isSome = false by decide +kernel]
      walk_at "go"
      rw [show decide (V.str (S w_bind) = V.str (S w_each)) = false by decide +kernel]
      walk_at "go"
      rw [show decide (V.str (S w_bind) = V.str (S w_when)) = false by decide +kernel]
      walk_at "go"
      rw [show decide (V.str (S w_bind) = V.str (S w_else)) = false by decide +kernel]
      walk_at "go"
      rw [show decide (V.str (S w_bind) = V.str (S w_end)) = false by decide +kernel]
      walk_at "go"
      exact q ds _ (hS.keep (ss_42)) fg_42 fun c xs e _ _ => (ss_42) _ _ e
    | ask i j =>
      have hrr : H r = some (.lst [V.str (S (w_ask)), V.str (S (n i)), V.str (S (n j))]) := hrr
      walk_at "go"
      intro kd hkd
      refine Mk.w_pairC ?_
      walk_at "go"
      refine Mk.w_pairC ?_
      walk_at "go"
      refine Mk.w_pairC ?_
      walk_at "go"
      refine Mk.w_pairN ?_
      have ukd : upd H kd (.dK []) kd = some (.dK []) := upd_same
      refine ⟨ukd, [(.inr (S w_text), .str (S w_text)), (.inr (S w_row), .str (S w_row)), (.inr (S w_count), .str sN)], rfl, by decide, ?_⟩
      rw [show mergeK [] [((.inr (S w_text) : Key), V.str (S w_text)), (.inr (S w_row), .str (S w_row)), (.inr (S w_count), .str sN)] = encS kds by decide +kernel]
      rw [show upd (upd H kd (.dK [])) kd (.dK (encS kds)) = upd H kd (.dK (encS kds)) from by
        funext c
        by_cases e : c = kd
        · rw [e, upd_same, upd_same]
        · rw [upd_ne e, upd_ne e, upd_ne e]]
      have u43 : upd H kd (.dK (encS kds)) kd = some (.dK (encS kds)) := upd_same
      have s43 : Same H (upd H kd (.dK (encS kds))) := fun c ob e => Eg.upd_old e hkd
      generalize upd H kd (.dK (encS kds)) = G43 at u43 s43 ⊢
      have fr_43 := s43 _ _ hrr
      have fg_43 := s43 _ _ hg
      have fp_43 := s43 _ _ hS.l
      have ss_43 := (Same.refl H).trans s43
      have dg := Tw.dgetK (k := .inr (S (w_ask))) (.inl u43)
      rw [val_S] at dg
      walk_at "go"
      refine Eg.c_din dg ?_
      rw [show (Option.map V.str (getA kds (w_ask))).isSome = false by decide +kernel]
      walk_at "go"
      rw [show decide (V.str (S w_ask) = V.str (S w_each)) = false by decide +kernel]
      walk_at "go"
      rw [show decide (V.str (S w_ask) = V.str (S w_when)) = false by decide +kernel]
      walk_at "go"
      rw [show decide (V.str (S w_ask) = V.str (S w_else)) = false by decide +kernel]
      walk_at "go"
      rw [show decide (V.str (S w_ask) = V.str (S w_end)) = false by decide +kernel]
      walk_at "go"
      exact q ds _ (hS.keep (ss_43)) fg_43 fun c xs e _ _ => (ss_43) _ _ e
end
end LW
end

section
local macro_rules | `(tactic| walk_at "tx") => `(tactic| first
  | ((with_reducible refine' Eg.c_sfld ?hs ?hc ?hn ?hl ?_); (case hs => walk_at "hp"); (case hc => assumption); (case hn => assumption); (case hl => exact Nat.le_of_ble_eq_true rfl))
  | with_reducible refine Ex.w_rs ?_
  | with_reducible refine Ex.w_xg ?_
  | with_reducible refine Co.w_makeS ?_
  | with_reducible refine Po.w_tru ?_
  | ((with_reducible refine' Po.c_truL ?hs ?_); (case hs => walk_at "hp")))
local macro_rules | `(tactic| walk_at "at") => `(tactic| first | exact atI_nat (j := 0) rfl | exact atI_nat (j := 1) rfl | exact atI_nat (j := 2) rfl | exact atI_nat (j := 3) rfl | exact atI_nat (j := 4) rfl | exact atI_nat (j := 5) rfl | exact atI_nat (j := 6) rfl | exact atI_nat (j := 7) rfl)
namespace LW
open PySem L2 SX Tx
/-! k23: the law -/
def okRow (r : List Nm) : Prop := r ≠ [] ∧ r.length ≤ 10 ∧ ∀ x ∈ r, Wd x
theorem ps_ok {n : Nat → Nm} (G : G8 n) {lb : List Str} {l : Ln} (h : l.gen lb) : okRow (l.ps n) := by
  have nm : ∀ i, i < 8 → Wd (n i) := fun i hi => nameZ_wd (G.z i hi)
  have wd : ∀ x ∈ ([w_text, w_row, w_count, w_4, w_each, w_of, w_when, w_else, w_end, w_say, w_back, w_and, w_bind, w_q, w_ask] : List Nm), Wd x := by decide +kernel
  cases l with
  | decl k i =>
    refine ⟨(fun z => nomatch z), Nat.le_of_ble_eq_true rfl, fun x hx => ?_⟩
    have hi : i < 6 := h
    simp only [Ln.ps, List.mem_cons, List.not_mem_nil, or_false] at hx
    rcases hx with rfl | rfl
    · cases k <;> exact wd _ (by decide)
    · exact nm _ (by omega)
  | count i j =>
    refine ⟨(fun z => nomatch z), Nat.le_of_ble_eq_true rfl, fun x hx => ?_⟩
    obtain ⟨h1, h2⟩ : i < 6 ∧ j < 6 := h
    simp only [Ln.ps, List.mem_cons, List.not_mem_nil, or_false] at hx
    rcases hx with rfl | rfl | rfl | rfl <;> first | exact nm _ (by omega) | exact wd _ (by decide)
  | each i =>
    refine ⟨(fun z => nomatch z), Nat.le_of_ble_eq_true rfl, fun x hx => ?_⟩
    have h1 : i < 6 := h.1
    simp only [Ln.ps, List.mem_cons, List.not_mem_nil, or_false] at hx
    rcases hx with rfl | rfl | rfl | rfl <;> first | exact nm _ (by omega) | exact wd _ (by decide)
  | when i =>
    refine ⟨(fun z => nomatch z), Nat.le_of_ble_eq_true rfl, fun x hx => ?_⟩
    have h1 : i < 7 := h.1
    simp only [Ln.ps, List.mem_cons, List.not_mem_nil, or_false] at hx
    rcases hx with rfl | rfl <;> first | exact nm _ (by omega) | exact wd _ (by decide)
  | els =>
    refine ⟨(fun z => nomatch z), Nat.le_of_ble_eq_true rfl, fun x hx => ?_⟩
    rw [List.mem_singleton.mp hx]
    exact wd _ (by decide)
  | fin =>
    refine ⟨(fun z => nomatch z), Nat.le_of_ble_eq_true rfl, fun x hx => ?_⟩
    rw [List.mem_singleton.mp hx]
    exact wd _ (by decide)
  | say i =>
    refine ⟨(fun z => nomatch z), Nat.le_of_ble_eq_true rfl, fun x hx => ?_⟩
    have h1 : i < 6 := h
    simp only [Ln.ps, List.mem_cons, List.not_mem_nil, or_false] at hx
    rcases hx with rfl | rfl | rfl | rfl <;> first | exact nm _ (by omega) | exact wd _ (by decide)
  | bind i j k =>
    refine ⟨(fun z => nomatch z), Nat.le_of_ble_eq_true rfl, fun x hx => ?_⟩
    obtain ⟨h1, h2, h3⟩ : i < 6 ∧ j < 6 ∧ k < 7 := h
    simp only [Ln.ps, List.mem_cons, List.not_mem_nil, or_false] at hx
    rcases hx with rfl | rfl | rfl | rfl | rfl | rfl | rfl <;> first | exact nm _ (by omega) | exact wd _ (by decide)
  | ask i j =>
    refine ⟨(fun z => nomatch z), Nat.le_of_ble_eq_true rfl, fun x hx => ?_⟩
    obtain ⟨h1, h2, _⟩ : i < 6 ∧ j < 6 ∧ _ := h
    simp only [Ln.ps, List.mem_cons, List.not_mem_nil, or_false] at hx
    rcases hx with rfl | rfl | rfl <;> first | exact nm _ (by omega) | exact wd _ (by decide)
theorem head_ok {n : Nat → Nm} (G : G8 n) : ∀ r ∈ headP n, okRow r := by
  have wd : ∀ x ∈ ([w_by, w_name, w_options, w_lists] : List Nm), Wd x := by decide +kernel
  intro r hr
  simp only [headP, List.mem_cons, List.not_mem_nil, or_false] at hr
  rcases hr with rfl | rfl | rfl <;> (refine ⟨(fun z => nomatch z), Nat.le_of_ble_eq_true rfl, fun x hx => ?_⟩; simp only [List.mem_cons, List.not_mem_nil, or_false] at hx; rcases hx with rfl | rfl) <;> first | exact wd _ (by decide) | exact nameZ_wd (G.z _ (by decide))
theorem prog_ok {n : Nat → Nm} (G : G8 n) {rows : List (List Nm)} (h : ∀ r ∈ rows, okRow r) (hl : rows.length ≤ 70) : okRows (headP n ++ rows) :=
  ⟨(fun z => nomatch z), by rw [List.length_append]; have : (headP n).length = 3 := rfl; omega, fun r hr => (List.mem_append.mp hr).elim (head_ok G r) (h r)⟩
/-- how the law stands: no wrong line so far, or one at d -/
def How (n : Nat → Nm) (rows : List (List Nm)) (scs : Scs) (lb : List Str) (due : Int) : Prop :=
  (due = -1 ∧ ∃ rs, readR RS.new 0 (headP n ++ rows) = .inl rs ∧ Rl n rs scs lb (3 + rows.length)) ∨ ∃ d : Nat, due = (d : Int) ∧ readR RS.new 0 (headP n ++ rows) = .inr d
theorem how_right {n : Nat → Nm} (G : G8 n) {rows : List (List Nm)} {scs : Scs} {lb : List Str} {l : Ln} (hl : rows.length < 50) (hg : l.gen lb) (hr : rightB n scs l = true) {rs : RS} (e : readR RS.new 0 (headP n ++ rows) = .inl rs) (R : Rl n rs scs lb (3 + rows.length)) : How n (rows ++ [l.ps n]) (stepS n scs l) (stepB lb l) (-1) := by
  obtain ⟨rs', e', R'⟩ := (goes G R (by omega) hg).2 hr
  refine .inl ⟨rfl, rs', ?_, by rw [List.length_append]; exact R'⟩
  rw [← List.append_assoc, readR_app, e, List.length_append, show (headP n).length = 3 from rfl]
  show readR rs (0 + (3 + rows.length)) [l.ps n] = _
  rw [Nat.zero_add, readR, if_neg (by omega), e']
  rfl
theorem how_wrong {n : Nat → Nm} (G : G8 n) {rows : List (List Nm)} {scs : Scs} {lb : List Str} {l : Ln} (hl : rows.length < 50) (hg : l.gen lb) (hr : rightB n scs l = false) {rs : RS} (e : readR RS.new 0 (headP n ++ rows) = .inl rs) (R : Rl n rs scs lb (3 + rows.length)) (scs' : Scs) (lb' : List Str) : How n (rows ++ [l.ps n]) scs' lb' ((3 + rows.length : Nat) : Int) := by
  have e' := (goes G R (by omega) hg).1 hr
  refine .inr ⟨_, rfl, ?_⟩
  rw [← List.append_assoc, readR_app, e, List.length_append, show (headP n).length = 3 from rfl]
  show readR rs (0 + (3 + rows.length)) [l.ps n] = _
  rw [Nat.zero_add, readR, if_neg (by omega), e']
theorem how_more {n : Nat → Nm} {rows : List (List Nm)} {d : Nat} (e : readR RS.new 0 (headP n ++ rows) = .inr d) (r : List Nm) (scs' : Scs) (lb' : List Str) : How n (rows ++ [r]) scs' lb' (d : Int) := by
  refine .inr ⟨d, rfl, ?_⟩
  rw [← List.append_assoc, readR_app, e]
theorem how_at {n : Nat → Nm} {rows : List (List Nm)} {scs : Scs} {lb : List Str} {rs : RS} (e : readR RS.new 0 (headP n ++ rows) = .inl rs) (R : Rl n rs scs lb (3 + rows.length)) : atOf (progR (headP n ++ rows)) = if lb = [] then -2 else ((3 + rows.length : Nat) : Int) := by
  unfold progR
  rw [e]
  have hb : rs.blks = [] ↔ lb = [] := by
    have := Paired.length R.bl
    constructor
    · intro z; rw [z] at this; exact List.length_eq_zero_iff.mp this.symm
    · intro z; rw [z] at this; exact List.length_eq_zero_iff.mp this
  by_cases c : lb = []
  · rw [if_pos c]
    show atOf (if rs.blks = [] then _ else _) = _
    rw [if_pos (hb.mpr c)]
    rfl
  · rw [if_neg c]
    show atOf (if rs.blks = [] then _ else _) = _
    rw [if_neg (fun z => c (hb.mp z)), List.length_append]
    rfl
theorem how_at' {n : Nat → Nm} {rows : List (List Nm)} {d : Nat} (e : readR RS.new 0 (headP n ++ rows) = .inr d) : atOf (progR (headP n ++ rows)) = (d : Int) := by
  unfold progR
  rw [e]
  rfl
theorem step_size {n : Nat → Nm} {scs : Scs} {l : Ln} {m : Nat} (h : ∀ sc ∈ scs, sc.length ≤ m) (hm : 1 ≤ m) : ∀ sc ∈ stepS n scs l, sc.length ≤ m + 1 := by
  have hd : ∀ (x : Nm) (k : Str), ∀ sc ∈ modL scs x k, sc.length ≤ m + 1 := fun x k sc hs => by
    rcases List.eq_nil_or_concat scs with rfl | ⟨i, s, rfl⟩
    · cases hs
    · rw [List.concat_eq_append, modL_app] at hs
      rcases List.mem_append.mp hs with hs | hs
      · have := h sc (by rw [List.concat_eq_append]; exact List.mem_append.mpr (.inl hs))
        omega
      · rw [List.mem_singleton.mp hs]
        have := h s (by rw [List.concat_eq_append]; exact List.mem_append.mpr (.inr List.mem_cons_self))
        unfold putA
        split
        · rw [List.length_map]; omega
        · rw [List.length_append]; exact Nat.succ_le_succ this
  have up : ∀ sc ∈ scs, sc.length ≤ m + 1 := fun sc hs => Nat.le_succ_of_le (h sc hs)
  have dr : ∀ sc ∈ scs.dropLast, sc.length ≤ m + 1 := fun sc hs => up sc ((List.dropLast_sublist scs).subset hs)
  have ap : ∀ (A : Scs) (x : List (Nm × Str)), (∀ sc ∈ A, sc.length ≤ m + 1) → x.length ≤ 1 → ∀ sc ∈ A ++ [x], sc.length ≤ m + 1 := fun A x hA hx sc hs => (List.mem_append.mp hs).elim (hA sc) fun e => by rw [List.mem_singleton.mp e]; omega
  cases l with
  | decl k i => exact hd _ _
  | count i j => exact hd _ _
  | each i => exact ap _ _ up (Nat.le_refl 1)
  | when i => exact ap _ _ up (Nat.zero_le 1)
  | els => exact ap _ _ dr (Nat.zero_le 1)
  | fin => exact dr
  | say i => exact up
  | bind i j k => exact up
  | ask i j => exact up
theorem step_lb {lb : List Str} {l : Ln} (h : l.gen lb) (hl : lb.length ≤ 4) : (stepB lb l).length ≤ 4 := by
  cases l with
  | each i => have : lb.length < 4 := h.2.1; show (lb ++ [sE]).length ≤ 4; rw [List.length_append]; exact this
  | when i => have : lb.length < 4 := h.2; show (lb ++ [sW]).length ≤ 4; rw [List.length_append]; exact this
  | els =>
    have hne : lb ≠ [] := fun z => by rw [z] at h; cases h
    have := List.length_pos_iff.mpr hne
    show (lb.dropLast ++ [sL]).length ≤ 4
    rw [List.length_append, List.length_dropLast]
    show lb.length - 1 + 1 ≤ 4
    omega
  | fin => show lb.dropLast.length ≤ 4; rw [List.length_dropLast]; omega
  | decl k i => exact hl
  | count i j => exact hl
  | say i => exact hl
  | bind i j k => exact hl
  | ask i j => exact hl
theorem c_joinN {K : PySem.W.Frag} {H : Hp} {Q : VK} {p : Addr} {ps : List Nm} (h : H p = some (.lst (strN ps))) (r : okRow ps) (q : Q (.str (S (lineT ps))) H) : Es.jnL K " " Q (.ref p) H := by
  refine Es.jn_leaf (ys := ps.map S) (.inl (SqL.of (by rw [List.map_map]; exact h))) ?_ ?_
  · have b := sum_le (fun x : Str => x.length) 20 (ps.map S) fun x hx => by
      obtain ⟨t, ht, rfl⟩ := List.mem_map.mp hx
      exact (S_len _).symm ▸ (r.2.2 t ht).2.1
    have := r.2.1
    rw [List.length_map] at b ⊢
    have : (" " : Str).length = 1 := by decide +kernel
    rw [this]
    omega
  · rw [sp_S, SX.join_S]
    exact q
theorem c_joinT {K : PySem.W.Frag} {H : Hp} {Q : VK} {p : Addr} {rows : List (List Nm)} (h : H p = some (.lst (strL rows))) (ok : okRows rows) (q : Q (.str (S (textT rows))) H) : Es.jnL K "\n" Q (.ref p) H :=
  Es.jn_leaf (ys := rows.map fun r => S (lineT r)) (.inl (SqL.of (by rw [List.map_map]; exact h))) (text_sum ok) (by rw [text_join]; exact q)
/-- the law's things in a round -/
structure Now (H : Hp) (b x y p g : Addr) (n : Nat → Nm) (ds : List Addr) (scs : Scs) (lb : List Str) (rows : List (List Nm)) (m : Nat) : Prop where
  bag : BagR H b
  nm : H x = some (.lst (nms n))
  sc : ScAt H p ds scs
  bl : H g = some (.lst (lb.map V.str))
  ln : H y = some (.lst (strL (headP n ++ rows)))
  ok : ∀ r ∈ rows, okRow r
  len : rows.length ≤ m
  l4 : lb.length ≤ 4
  sz : ∀ sc ∈ scs, sc.length ≤ m + 2
theorem Now.kept {H H' : Hp} {b x y p g : Addr} {n : Nat → Nm} {ds : List Addr} {scs : Scs} {lb : List Str} {rows : List (List Nm)} {m : Nat} (h : Now H b x y p g n ds scs lb rows m) (k : KeptB b H H') (hb : BagR H' b) (xb : x ≠ b) (yb : y ≠ b) (pb : p ≠ b) (gb : g ≠ b) : Now H' b x y p g n ds scs lb rows m :=
  ⟨hb, k _ _ h.nm xb, h.sc.kept k h.bag pb, k _ _ h.bl gb, k _ _ h.ln yb, h.ok, h.len, h.l4, h.sz⟩
theorem Now.up {H : Hp} {b x y p g : Addr} {n : Nat → Nm} {ds : List Addr} {scs : Scs} {lb : List Str} {rows : List (List Nm)} {m : Nat} (h : Now H b x y p g n ds scs lb rows m) : Now H b x y p g n ds scs lb rows (m + 1) :=
  ⟨h.bag, h.nm, h.sc, h.bl, h.ln, h.ok, Nat.le_succ_of_le h.len, h.l4, fun sc hs => Nat.le_succ_of_le (h.sz sc hs)⟩
theorem Now.app {H : Hp} {b x y p g : Addr} {n : Nat → Nm} {ds : List Addr} {scs : Scs} {lb : List Str} {rows : List (List Nm)} {m : Nat} {r : List Nm} (h : Now H b x y p g n ds scs lb rows m) (hr : okRow r) (yb : y ≠ b) (xy : x ≠ y) (yp : y ≠ p) (yg : y ≠ g) : Now (upd H y (.lst (strL (headP n ++ rows) ++ [V.str (S (lineT r))]))) b x y p g n ds scs lb (rows ++ [r]) (m + 1) :=
  ⟨h.bag.to (upd_ne yb.symm), (upd_ne xy).trans h.nm, h.sc.to fun c o e z => Eg.upd_mut (by
    rcases z with rfl | ⟨kvs, rfl⟩
    · exact yp.symm
    · exact ne_of e h.ln fun z => nomatch z) e, (upd_ne yg.symm).trans h.bl, by rw [upd_same, ← List.append_assoc]; exact congrArg _ (congrArg _ (strL_app (headP n ++ rows) [r])),
    fun z hz => (List.mem_append.mp hz).elim (h.ok z) fun e => by rw [List.mem_singleton.mp e]; exact hr, by rw [List.length_append]; exact Nat.succ_le_succ h.len, h.l4, fun sc hs => Nat.le_succ_of_le (h.sz sc hs)⟩
def sp_law (K : PySem.W.Frag) : Sp := fun vs H Q _ => ∃ (a : Addr) (ns : List Int), vs = [.ref a] ∧ SqL K H a (ns.map V.int) ∧ ns.length ≤ 63 ∧ ∀ H', Q (.bl true) H'
section
variable {P : Program} {w : World} {K : PySem.W.Frag} {mg : Str → Option Value} {base : Heap} {Z : Ad}
set_option maxHeartbeats 8000000 in
theorem ok_law (T : Txt K mg Z) : FnOk P w K mg base CX0 10 Z.a_law Z.d_law ["_law_script"] (sp_law K) := by
  refine T.F_law.ok sc_law (fun vs H Q E h => ?_) (fun cdv A outer s H vs Q E hr h => ?_)
  · obtain ⟨a, ns, rfl, _⟩ := h
    rfl
  · obtain ⟨a, sc, rfl, hS, hlen, q⟩ := h
    have nd := sc_law.nd
    have hu := hu_of hr
    refine ⟨_, (pss_cons (ps_set (i := 1) nd rfl (Or.inl rfl) (pe_call (ok_l_bag T) (hr.mono (by decide)) (by rfl) T.g_l_bag T.F_l_bag.kp T.b_l_bag .nil pass0 (pa_cons (pv 0) (pa_cons pe_int pa_nil))))
  (pss_cons (ps_set (i := 2) nd rfl (Or.inl rfl) (pe_call (ok_l_names T) (hr.mono (by decide)) (by rfl) T.g_l_names T.F_l_names.kp T.b_l_names .nil pass0 (pa_cons (pv 1) (pa_cons pe_int pa_nil))))
  (pss_cons (ps_set (i := 3) nd rfl (Or.inl rfl) (pe_lst (pa_cons pe_str (pa_cons (pe_op Es.op_addS pe_str (pe_ix ix_list (pv 2) pe_int (fun _ _ => rfl))) (pa_cons (pe_op Es.op_addS pe_str (pe_ix ix_list (pv 2) pe_int (fun _ _ => rfl))) pa_nil)))))
  (pss_cons (ps_set (i := 4) nd rfl (Or.inl rfl) (pe_lst (pa_cons (pe_disp (pps_cons (pe_ix ix_list (pv 2) pe_int (fun _ _ => rfl)) pe_str (pps_cons (pe_ix ix_list (pv 2) pe_int (fun _ _ => rfl)) pe_str pps_nil)) rfl rfl (fun z => nomatch z) (show 2 ≤ 15 by decide)) pa_nil)))
  (pss_cons (ps_set (i := 5) nd rfl (Or.inl rfl) (pe_lst pa_nil))
  (pss_cons (ps_set (i := 6) nd rfl (Or.inl rfl) (pe_un un_neg pe_int))
  (pss_cons (ps_for PassesOwn.never rfl (pi_range1 (by rfl) T.u_range (pa_cons (pe_op op_add pe_int (pe_call (ok_l_take T) (hr.mono (by decide)) (by rfl) T.g_l_take T.F_l_take.kp T.b_l_take .nil pass0 (pa_cons (pv 1) (pa_cons pe_int pa_nil)))) pa_nil)) (pg_name (i := 7) nd rfl (Or.inl rfl))
  (pss_cons (ps_set (i := 8) nd rfl (Or.inl rfl) (pe_call (ok_l_line T) (hr.mono (by decide)) (by rfl) T.g_l_line T.F_l_line.kp T.b_l_line .nil pass0 (pa_cons (pv 1) (pa_cons (pv 2) (pa_cons (pv 5) pa_nil)))))
  (C8.pss_cut (ps_if (PW.pt (pw_and (pt_cmpR op_lt (pv 6) pe_int (nomark _)) (pw_and1 (pt_not (pt_val (pe_call (ok_l_right T) (hr.mono (by decide)) (by rfl) T.g_l_right T.F_l_right.kp T.b_l_right .nil pass0 (pa_cons (pv 4) (pa_cons (pv 8) pa_nil))))))))
  (pss_cons (ps_if (pt_cmpR op_gt (pe_call (ok_l_take T) (hr.mono (by decide)) (by rfl) T.g_l_take T.F_l_take.kp T.b_l_take .nil pass0 (pa_cons (pv 1) (pa_cons pe_int pa_nil))) pe_int (nomark _))
  (pss_one ps_continue)
  pss_nil)
  (pss_one (ps_set (i := 6) nd rfl (Or.inl rfl) (pe_callB Eg.cr_len (by rfl) T.u_len (by decide +kernel) (pa_cons (pv 3) pa_nil)))))
  pss_nil)
  (pss_cons (ps_expr (pe_bm PySem.F.plainAttrs_list PySem.F.slot_list_append PySem.F.type_list_append mt_append (pv 3) (pa_cons (pe_join pe_str (pv 8)) pa_nil)))
  (pss_one (ps_if (pt_cmpR op_lt (pv 6) pe_int (nomark _))
  (pss_one (ps_expr (pe_call (ok_l_step T) (hr.mono (by decide)) (by rfl) T.g_l_step T.F_l_step.kp T.b_l_step .nil pass0 (pa_cons (pv 4) (pa_cons (pv 5) (pa_cons (pv 8) pa_nil))))))
  pss_nil))))))
  (C8.pss_cut (ps_if (PW.pt (pw_and (pt_cmpR op_lt (pv 6) pe_int (nomark _)) (pw_and1 (pt_cmpR (Tw.op_neE (Nat.lt_of_succ_lt hu)) (pv 5) (pe_lst pa_nil) (nomark _)))))
  (pss_one (ps_set (i := 6) nd rfl (Or.inl rfl) (pe_callB Eg.cr_len (by rfl) T.u_len (by decide +kernel) (pa_cons (pv 3) pa_nil))))
  pss_nil)
  (pss_cons (ps_if (pt_cmpR op_ge (pv 6) pe_int (nomark _))
  (pss_one (ps_ret (pe_cmpR op_eq (pe_call (ok_l_at T) (hr.mono (by decide)) (by rfl) T.g_l_at T.F_l_at.kp T.b_l_at .nil pass0 (pa_cons (pe_join pe_str (pv 3)) pa_nil)) (pv 6) (nomark _))))
  pss_nil)
  (pss_one (ps_ret (pe_cmpR op_eq (pe_call (ok_l_at T) (hr.mono (by decide)) (by rfl) T.g_l_at T.F_l_at.kp T.b_l_at .nil pass0 (pa_cons (pe_join pe_str (pv 3)) pa_nil)) (pe_un un_neg pe_int) (nomark _))))))))))))), ?_⟩
    refine Eg.w_sig (σ := [some (.ref a), none, none, none, none, none, none, none, none]) rfl ?_
    have e_by_name : ("by name" : Str) = S [98, 121, 32, 110, 97, 109, 101] := by decide +kernel
    have e_options : ("options " : Str) = S [111, 112, 116, 105, 111, 110, 115, 32] := by decide +kernel
    have e_lists : ("lists " : Str) = S [108, 105, 115, 116, 115, 32] := by decide +kernel
    rw [e_by_name, e_options, e_lists]
    walk_at "go"
    refine ⟨a, sc, 0, rfl, hS, hlen, by decide, fun b H1 b0 hb1 s1 => ?_⟩
    walk_at "go"
    refine ⟨b, 8, rfl, hb1, by decide, fun x ns H2 x0 h2x nl nnd nz hb2 k2 => ?_⟩
    obtain ⟨n, en, hN, _⟩ := names_nam nl nnd nz
    have hG : G8 n := ⟨fun i hi => nz _ (by rw [en]; exact List.mem_map.mpr ⟨i, List.mem_range.mpr hi, rfl⟩), fun i j hi hj e => hN.inj i j hi hj e⟩
    have h2x : H2 x = some (.lst (nms n)) := by
      rw [h2x, en]
      rfl
    have xb : x ≠ b := fun z => by rw [z] at h2x; obtain ⟨_, _, _, e⟩ := hb2; rw [e] at h2x; cases h2x
    clear en nz nnd nl
    have l6 := hN.len 6
    have l7 := hN.len 7
    have k_0 : KeptB b H2 H2 := KeptB.of (Same.refl H2)
    have ix6 : atI (nms n) 6 = some (.str (S (n 6))) := at_nms (i := 6) (by decide)
    have ix7 : atI (nms n) 7 = some (.str (S (n 7))) := at_nms (i := 7) (by decide)
    walk_at "go"
    intro y hy
    rw [show ([V.str (S [98, 121, 32, 110, 97, 109, 101]), V.str (S ([111, 112, 116, 105, 111, 110, 115, 32] ++ n 6)), V.str (S ([108, 105, 115, 116, 115, 32] ++ n 7))] : List V) = strL (headP n ++ []) from by simp [strL, headP, lineT, TL.joinL, w_by, w_name, w_options, w_lists]]
    have u44 : upd H2 y (.lst (strL (headP n ++ []))) y = some (.lst (strL (headP n ++ []))) := upd_same
    have s44 : Same H2 (upd H2 y (.lst (strL (headP n ++ [])))) := fun c ob e => Eg.upd_old e hy
    have nby : y ≠ b := hb2.nn hy
    generalize upd H2 y (.lst (strL (headP n ++ []))) = G44 at u44 s44 ⊢
    have fx_44 := s44 _ _ h2x
    have b_44 := hb2.keep s44
    have k_44 := (k_0).trans (KeptB.of s44)
    walk_at "go"
    intro d hd
    have sd := (fun c ob e => Eg.upd_old e hd : Same G44 (upd G44 d (.dK [])))
    have ud : upd G44 d (.dK []) d = some (.dK []) := upd_same
    have hdx := sd _ _ fx_44
    refine Mk.w_pairC ?_
    walk_at "go"
    refine Mk.w_pairC ?_
    walk_at "go"
    refine Mk.w_pairN ?_
    refine ⟨ud, [(.inr (S (n 6)), .str sO), (.inr (S (n 7)), .str sT)], rfl, Nat.le_of_ble_eq_true rfl, ?_⟩
    rw [show mergeK [] [((.inr (S (n 6)) : Key), V.str sO), (.inr (S (n 7)), .str sT)] = encS [(n 6, sO), (n 7, sT)] by
      have n67 : n 6 ≠ n 7 := fun z => by have := hG.ne 6 7 (by decide) (by decide) z; omega
      show putK [((.inr (S (n 6)) : Key), V.str sO)] (.inr (S (n 7))) (.str sT) = _
      unfold putK
      rw [List.any_cons, decide_eq_false (show ¬ ((.inr (S (n 6)) : Key) = .inr (S (n 7))) from fun e => n67 (key_eq.mp e))]
      rfl]
    rw [show upd (upd G44 d (.dK [])) d (.dK (encS [(n 6, sO), (n 7, sT)])) = upd G44 d (.dK (encS [(n 6, sO), (n 7, sT)])) from by
      funext c
      by_cases e : c = d
      · rw [e, upd_same, upd_same]
      · rw [upd_ne e, upd_ne e, upd_ne e]]
    have u45 : upd G44 d (.dK (encS [(n 6, sO), (n 7, sT)])) d = some (.dK (encS [(n 6, sO), (n 7, sT)])) := upd_same
    have s45 : Same G44 (upd G44 d (.dK (encS [(n 6, sO), (n 7, sT)]))) := fun c ob e => Eg.upd_old e hd
    have nbd : d ≠ b := b_44.nn hd
    generalize upd G44 d (.dK (encS [(n 6, sO), (n 7, sT)])) = G45 at u45 s45 ⊢
    have fx_45 := s45 _ _ fx_44
    have fy_45 := s45 _ _ u44
    have b_45 := b_44.keep s45
    have k_45 := (k_44).trans (KeptB.of s45)
    walk_at "go"
    intro p hp
    have u46 : upd G45 p (.lst [V.ref d]) p = some (.lst [V.ref d]) := upd_same
    have s46 : Same G45 (upd G45 p (.lst [V.ref d])) := fun c ob e => Eg.upd_old e hp
    have nbp : p ≠ b := b_45.nn hp
    generalize upd G45 p (.lst [V.ref d]) = G46 at u46 s46 ⊢
    have fx_46 := s46 _ _ fx_45
    have fy_46 := s46 _ _ fy_45
    have fd_46 := s46 _ _ u45
    have b_46 := b_45.keep s46
    have k_46 := (k_45).trans (KeptB.of s46)
    walk_at "go"
    intro g hg
    have u47 : upd G46 g (.lst []) g = some (.lst []) := upd_same
    have s47 : Same G46 (upd G46 g (.lst [])) := fun c ob e => Eg.upd_old e hg
    have nbg : g ≠ b := b_46.nn hg
    generalize upd G46 g (.lst []) = G47 at u47 s47 ⊢
    have fx_47 := s47 _ _ fx_46
    have fy_47 := s47 _ _ fy_46
    have fd_47 := s47 _ _ fd_46
    have fp_47 := s47 _ _ u46
    have b_47 := b_46.keep s47
    have k_47 := (k_46).trans (KeptB.of s47)
    walk_at "go"
    have xy : x ≠ y := ne_of_none h2x (by first | exact hy | assumption)
    have xp : x ≠ p := fun z => by have e := fx_47; rw [z, fp_47] at e; cases e
    have xg : x ≠ g := fun z => by have e := fx_47; rw [z, u47] at e; cases e
    have yp : y ≠ p := fun z => by have e := fy_47; rw [z, fp_47] at e; cases e
    have yg : y ≠ g := fun z => by have e := fy_47; rw [z, u47] at e; cases e
    have pg : p ≠ g := fun z => by have e := fp_47; rw [z, u47] at e; cases e
    have yb := nby
    have pb := nbp
    have gb := nbg
    have now0 : Now G47 b x y p g n [d] (scs0 n) [] [] 0 := ⟨b_47, fx_47, ⟨fp_47, .cons fd_47 .nil, List.pairwise_singleton _ _⟩, u47, fy_47, (fun _ z => nomatch z), Nat.le_refl 0, by decide, fun sc hs => by rw [List.mem_singleton.mp hs]; exact Nat.le_of_ble_eq_true rfl⟩
    obtain ⟨rs0, er0, R0⟩ := head_rl hG
    have how0 : How n [] (scs0 n) [] (-1) := .inl ⟨rfl, rs0, by rw [List.append_nil]; exact er0, R0⟩
    refine ⟨b, _, rfl, b_47, by decide, by decide, fun r9 T0 rz9 rl9 bT0 ftT0 => ?_⟩
    obtain ⟨m, rfl⟩ := Int.eq_ofNat_of_zero_le rz9
    have hm : m < 20 := by omega
    have now0 := now0.kept (KeptB.fr ftT0) bT0 xb yb pb gb
    walk_at "go"
    refine for_range (lo := 0) (fun i σ' H' => ∃ (ds : List Addr) (scs : Scs) (lb : List Str) (rows : List (List Nm)) (due : Int) (v7 v8 : Option V), σ' = [some (.ref a), some (.ref b), some (.ref x), some (.ref y), some (.ref p), some (.ref g), some (.int (due)), v7, v8] ∧ Now H' b x y p g n ds scs lb rows i ∧ How n rows scs lb due) ⟨[d], scs0 n, [], [], -1, none, none, rfl, now0, how0⟩ ?_ ?_
    · rintro i _ H3 hi ⟨ds, scs, lb, rows, due, v7, v8, rfl, now, how⟩
      have hi30 : i < 24 := by omega
      walk_at "go"
      refine ⟨b, x, g, n, lb, rfl, now.bag, xb, gb, now.nm, now.bl, now.l4, fun r l H4 hgen r0 h4r hb4 k4 => ?_⟩
      have now4 := now.kept k4 hb4 xb yb pb gb
      have rb : r ≠ b := now.bag.nn r0
      have rx : r ≠ x := (ne_of_none now.nm r0).symm
      have ry : r ≠ y := (ne_of_none now.ln r0).symm
      have rp : r ≠ p := (ne_of_none now.sc.l r0).symm
      have rg : r ≠ g := (ne_of_none now.bl r0).symm
      have rok := ps_ok hG hgen
      have rl := now.len
      have hln : (strL (headP n ++ rows)).length = 3 + rows.length := by unfold strL; rw [List.length_map, List.length_append]; rfl
      clear now
      walk_at "go"
      rcases how with ⟨rfl, rs, er, R⟩ | ⟨e, rfl, er⟩
      · cases hrb : rightB n scs l with
        | true =>
          refine ⟨fun σ' H' => σ' = [some (.ref a), some (.ref b), some (.ref x), some (.ref y), some (.ref p), some (.ref g), some (.int (-1)), some (.int (0 + (i : Int))), some (.ref r)] ∧ Same H4 H', ?_, ?_⟩
          · walk_at "go"
            refine Eg.brDT (by decide) ?_
            walk_at "go"
            refine ⟨p, ds, scs, r, n, l, rfl, now4.sc, h4r, fun H5 s5 => ?_⟩
            rw [hrb]
            walk_at "go"
            exact ⟨rfl, s5⟩
          rintro _ H5 ⟨rfl, s5⟩
          have now5 := now4.kept (.of s5) (now4.bag.keep s5) xb yb pb gb
          have h5r := s5 _ _ h4r
          have h5y := now5.ln
          have bag5 := now5.bag
          walk_at "go"
          refine c_joinN h5r rok ?_
          walk_at "go"
          have now6 := now5.app rok yb xy yp yg
          have h6r := (upd_ne ry : upd H5 y (.lst (strL (headP n ++ rows) ++ [V.str (S (lineT (l.ps n)))])) r = _).trans h5r
          generalize upd H5 y (.lst (strL (headP n ++ rows) ++ [V.str (S (lineT (l.ps n)))])) = H6 at now6 h6r ⊢
          refine Eg.brDT (by decide) ?_
          walk_at "go"
          refine ⟨p, ds, scs, g, lb, r, n, l, rfl, now6.sc, now6.bl, h6r, hgen, R.len, now6.l4, fun sc hs => by have := now6.sz sc hs; omega, pg, rp.symm, rg.symm, fun ds' H7 sc7 bl7 fr7 => ?_⟩
          walk_at "go"
          obtain ⟨g1, g2, g3, eb⟩ := now6.bag
          exact ⟨ds', stepS n scs l, stepB lb l, rows ++ [l.ps n], -1, _, _, rfl, ⟨⟨g1, g2, g3, fr7 _ _ eb pb.symm gb.symm⟩, fr7 _ _ now6.nm xp xg, sc7, bl7, fr7 _ _ now6.ln yp yg, now6.ok, now6.len, step_lb hgen now6.l4, fun sc hs => by
            have := step_size (n := n) (l := l) now4.sz (by omega) sc hs
            omega⟩, how_right hG (by omega) hgen hrb er R⟩
        | false =>
          refine ⟨fun σ' H' => σ' = [some (.ref a), some (.ref b), some (.ref x), some (.ref y), some (.ref p), some (.ref g), some (.int (((3 + rows.length : Nat) : Int))), some (.int (0 + (i : Int))), some (.ref r)] ∧ BagR H' b ∧ KeptB b H4 H', ?_, ?_⟩
          · walk_at "go"
            refine Eg.brDT (by decide) ?_
            walk_at "go"
            refine ⟨p, ds, scs, r, n, l, rfl, now4.sc, h4r, fun H5 s5 => ?_⟩
            rw [hrb]
            walk_at "go"
            refine ⟨b, _, rfl, now4.bag.keep s5, by decide, by decide, fun c T1 c0 c1 bT kT => ?_⟩
            have k5 : KeptB b H4 T1 := (KeptB.of s5).trans (.fr kT)
            have now5 := now4.kept k5 bT xb yb pb gb
            have h5y := now5.ln
            walk_at "go"
            refine Eg.brD (fun z => ?_) (fun z => ?_)
            · walk_at "go"
              exact ⟨ds, scs, lb, rows, -1, _, _, rfl, now5.up, .inl ⟨rfl, rs, er, R⟩⟩
            · walk_at "go"
              exact ⟨by rw [hln]; rfl, bT, k5⟩
          rintro _ H5 ⟨rfl, b5, k5⟩
          have now5 := now4.kept k5 b5 xb yb pb gb
          have h5r := k5 _ _ h4r rb
          have h5y := now5.ln
          walk_at "go"
          refine c_joinN h5r rok ?_
          walk_at "go"
          have now6 := now5.app rok yb xy yp yg
          generalize upd H5 y (.lst (strL (headP n ++ rows) ++ [V.str (S (lineT (l.ps n)))])) = H6 at now6 ⊢
          refine Eg.brDF (by omega) ?_
          walk_at "go"
          exact ⟨ds, scs, lb, rows ++ [l.ps n], _, _, _, rfl, now6, how_wrong hG (by omega) hgen hrb er R scs lb⟩
      · refine ⟨fun σ' H' => σ' = [some (.ref a), some (.ref b), some (.ref x), some (.ref y), some (.ref p), some (.ref g), some (.int ((e : Int))), some (.int (0 + (i : Int))), some (.ref r)] ∧ H4 = H', ?_, ?_⟩
        · walk_at "go"
          refine Eg.brDF (by omega) ?_
          walk_at "go"
          exact ⟨rfl, rfl⟩
        rintro _ _ ⟨rfl, rfl⟩
        have h5y := now4.ln
        walk_at "go"
        refine c_joinN h4r rok ?_
        walk_at "go"
        have now6 := now4.app rok yb xy yp yg
        generalize upd H4 y (.lst (strL (headP n ++ rows) ++ [V.str (S (lineT (l.ps n)))])) = H6 at now6 ⊢
        refine Eg.brDF (by omega) ?_
        walk_at "go"
        exact ⟨ds, scs, lb, rows ++ [l.ps n], _, _, _, rfl, now6, how_more er _ scs lb⟩
    · rintro _ H3 ⟨ds, scs, lb, rows, due, v7, v8, rfl, now, how⟩
      have rl := now.len
      have okp := prog_ok hG now.ok (by omega)
      have hln : (strL (headP n ++ rows)).length = 3 + rows.length := by unfold strL; rw [List.length_map, List.length_append]; rfl
      have h3y := now.ln
      walk_at "go"
      rcases how with ⟨rfl, rs, er, R⟩ | ⟨e, rfl, er⟩
      · have at_ := how_at er R
        refine ⟨fun σ' H' => σ' = [some (.ref a), some (.ref b), some (.ref x), some (.ref y), some (.ref p), some (.ref g), some (.int ((if lb = [] then -1 else ((3 + rows.length : Nat) : Int)))), v7, v8] ∧ Same H3 H', ?_, ?_⟩
        · walk_at "go"
          refine Eg.brDT (by decide) ?_
          walk_at "go"
          intro d2 hd2
          have u9 : upd H3 d2 (.lst []) d2 = some (.lst []) := upd_same
          have s9 : Same H3 (upd H3 d2 (.lst [])) := fun c ob e => Eg.upd_old e hd2
          generalize upd H3 d2 (.lst []) = G9 at u9 s9 ⊢
          have h9y := s9 _ _ h3y
          refine ⟨g, d2, _, rfl, rfl, s9 _ _ now.bl, u9, ?_⟩
          rw [if_pos rfl]
          cases lb with
          | nil =>
            walk_at "go"
            exact ⟨rfl, s9⟩
          | cons k0 kr =>
            walk_at "go"
            refine Eg.brT rfl ?_
            walk_at "go"
            exact ⟨by rw [hln]; rfl, s9⟩
        rintro _ H4 ⟨rfl, s4⟩
        have h4y := s4 _ _ h3y
        walk_at "go"
        by_cases c : lb = []
        · rw [if_pos c] at at_ ⊢
          refine Eg.brDF (by decide) ?_
          walk_at "go"
          refine c_joinT h4y okp ?_
          walk_at "go"
          refine ⟨_, rfl, .inr ⟨_, rfl, text_fits okp, fun F1 s1 => ?_⟩⟩
          rw [text_rows okp, at_]
          walk_at "go"
          rw [decide_eq_true rfl]
          exact q F1
        · rw [if_neg c] at at_ ⊢
          refine Eg.brDT (by omega) ?_
          walk_at "go"
          refine c_joinT h4y okp ?_
          walk_at "go"
          refine ⟨_, rfl, .inr ⟨_, rfl, text_fits okp, fun F1 s1 => ?_⟩⟩
          rw [text_rows okp, at_]
          walk_at "go"
          rw [decide_eq_true rfl]
          exact q F1
      · have at_ := how_at' er
        refine ⟨fun σ' H' => σ' = [some (.ref a), some (.ref b), some (.ref x), some (.ref y), some (.ref p), some (.ref g), some (.int ((e : Int))), v7, v8] ∧ H3 = H', ?_, ?_⟩
        · walk_at "go"
          refine Eg.brDF (by omega) ?_
          refine Eg.brF rfl ?_
          walk_at "go"
          exact ⟨rfl, rfl⟩
        rintro _ _ ⟨rfl, rfl⟩
        walk_at "go"
        refine Eg.brDT (by omega) ?_
        walk_at "go"
        refine c_joinT h3y okp ?_
        walk_at "go"
        refine ⟨_, rfl, .inr ⟨_, rfl, text_fits okp, fun F1 s1 => ?_⟩⟩
        rw [text_rows okp, at_]
        walk_at "go"
        rw [decide_eq_true rfl]
        exact q F1
end
end LW
end

namespace LW
open PySem L2
set_option maxHeartbeats 8000000 in
theorem all_mk {l : PySem.W.OpenLaw} {w : World} {K : PySem.W.Frag} {h : Heap} {mg : Str → Option Value} {fa f0 f1 f2 f3 f4 f5 f6 f7 f8 f9 f10 f11 f12 f13 f14 f15 f16 f17 f18 f19 f20 f21 f22 f23 f24 f25 f26 f27 f28 f29 C0 C1 X0 X1 dT7 : Addr} (X : K.In h) (G : h.Ns mainGlobals mg) (hfa : mg "law" = some (.ref fa))
    {od0 an0 : Option Addr} {sl0 : Array (Option Value)} {oc0 kV0 dc0 pm0 cd0 ct0 : Value}
    {od1 an1 : Option Addr} {sl1 : Array (Option Value)} {oc1 kV1 dc1 pm1 cd1 ct1 : Value}
    {od2 an2 : Option Addr} {sl2 : Array (Option Value)} {oc2 kV2 dc2 pm2 cd2 ct2 : Value}
    {od3 an3 : Option Addr} {sl3 : Array (Option Value)} {oc3 kV3 dc3 pm3 cd3 ct3 : Value}
    {od4 an4 : Option Addr} {sl4 : Array (Option Value)} {oc4 kV4 dc4 pm4 cd4 ct4 : Value}
    {od5 an5 : Option Addr} {sl5 : Array (Option Value)} {oc5 kV5 dc5 pm5 cd5 ct5 : Value}
    {od6 an6 : Option Addr} {sl6 : Array (Option Value)} {oc6 kV6 dc6 pm6 cd6 ct6 : Value}
    {od7 an7 : Option Addr} {sl7 : Array (Option Value)} {oc7 kV7 dc7 pm7 cd7 ct7 : Value}
    {od8 an8 : Option Addr} {sl8 : Array (Option Value)} {oc8 kV8 dc8 pm8 cd8 ct8 : Value}
    {od9 an9 : Option Addr} {sl9 : Array (Option Value)} {oc9 kV9 dc9 pm9 cd9 ct9 : Value}
    {od10 an10 : Option Addr} {sl10 : Array (Option Value)} {oc10 kV10 dc10 pm10 cd10 ct10 : Value}
    {od11 an11 : Option Addr} {sl11 : Array (Option Value)} {oc11 kV11 dc11 pm11 cd11 ct11 : Value}
    {od12 an12 : Option Addr} {sl12 : Array (Option Value)} {oc12 kV12 dc12 pm12 cd12 ct12 : Value}
    {od13 an13 : Option Addr} {sl13 : Array (Option Value)} {oc13 kV13 dc13 pm13 cd13 ct13 : Value}
    {od14 an14 : Option Addr} {sl14 : Array (Option Value)} {oc14 kV14 dc14 pm14 cd14 ct14 : Value}
    {od15 an15 : Option Addr} {sl15 : Array (Option Value)} {oc15 kV15 dc15 pm15 cd15 ct15 : Value}
    {od16 an16 : Option Addr} {sl16 : Array (Option Value)} {oc16 kV16 dc16 pm16 cd16 ct16 : Value}
    {od17 an17 : Option Addr} {sl17 : Array (Option Value)} {oc17 kV17 dc17 pm17 cd17 ct17 : Value}
    {od18 an18 : Option Addr} {sl18 : Array (Option Value)} {oc18 kV18 dc18 pm18 cd18 ct18 : Value}
    {od19 an19 : Option Addr} {sl19 : Array (Option Value)} {oc19 kV19 dc19 pm19 cd19 ct19 : Value}
    {od20 an20 : Option Addr} {sl20 : Array (Option Value)} {oc20 kV20 dc20 pm20 cd20 ct20 : Value}
    {od21 an21 : Option Addr} {sl21 : Array (Option Value)} {oc21 kV21 dc21 pm21 cd21 ct21 : Value}
    {od22 an22 : Option Addr} {sl22 : Array (Option Value)} {oc22 kV22 dc22 pm22 cd22 ct22 : Value}
    {od23 an23 : Option Addr} {sl23 : Array (Option Value)} {oc23 kV23 dc23 pm23 cd23 ct23 : Value}
    {od24 an24 : Option Addr} {sl24 : Array (Option Value)} {oc24 kV24 dc24 pm24 cd24 ct24 : Value}
    {od25 an25 : Option Addr} {sl25 : Array (Option Value)} {oc25 kV25 dc25 pm25 cd25 ct25 : Value}
    {od26 an26 : Option Addr} {sl26 : Array (Option Value)} {oc26 kV26 dc26 pm26 cd26 ct26 : Value}
    {od27 an27 : Option Addr} {sl27 : Array (Option Value)} {oc27 kV27 dc27 pm27 cd27 ct27 : Value}
    {od28 an28 : Option Addr} {sl28 : Array (Option Value)} {oc28 kV28 dc28 pm28 cd28 ct28 : Value}
    {od29 an29 : Option Addr} {sl29 : Array (Option Value)} {oc29 kV29 dc29 pm29 cd29 ct29 : Value}
    {tc7 : Value} {td7 : Option Addr} {tn7 : Nat} {tl7 : Array (Option Value)}
    {tkp7_0 : PySem.Tok}
    {ltk1_0 : PySem.Tok}
    {nmx0 qx0 : Str} {Nx0 : Addr} {bsx0 : List Value} {snx0 : List Str} {subx0 : List Value} {abx0 : Bool} {colx0 : Option Bool} {ddx0 : Option Addr} {m0x0 m1x0 m2x0 m3x0 m5x0 : Option Value}
    {nmx1 qx1 : Str} {Nx1 : Addr} {bsx1 : List Value} {snx1 : List Str} {subx1 : List Value} {abx1 : Bool} {colx1 : Option Bool} {ddx1 : Option Addr} {m0x1 m1x1 m2x1 m3x1 m5x1 : Option Value}
    {tk_LETTERS tk_MOST_ADDS tk_MOST_COUNT tk_MOST_DEPTH tk_MOST_NAMES tk_MOST_SHIFTS tk_SIGNS : PySem.Tok}
    {TT_MANNERS : Addr} {ttd_MANNERS : Option Addr} {ttn_MANNERS : Nat} {tts_MANNERS : Array (Option Value)} {ttk_MANNERS_0 ttk_MANNERS_1 ttk_MANNERS_2 : PySem.Tok}
    {TT_RESERVED : Addr} {ttd_RESERVED : Option Addr} {ttn_RESERVED : Nat} {tts_RESERVED : Array (Option Value)} {ttk_RESERVED_0 ttk_RESERVED_1 ttk_RESERVED_2 ttk_RESERVED_3 ttk_RESERVED_4 ttk_RESERVED_5 ttk_RESERVED_6 ttk_RESERVED_7 ttk_RESERVED_8 ttk_RESERVED_9 ttk_RESERVED_10 ttk_RESERVED_11 ttk_RESERVED_12 ttk_RESERVED_13 ttk_RESERVED_14 ttk_RESERVED_15 ttk_RESERVED_16 ttk_RESERVED_17 ttk_RESERVED_18 ttk_RESERVED_19 ttk_RESERVED_20 ttk_RESERVED_21 ttk_RESERVED_22 ttk_RESERVED_23 ttk_RESERVED_24 ttk_RESERVED_25 : PySem.Tok}
    {TT_SIDES : Addr} {ttd_SIDES : Option Addr} {ttn_SIDES : Nat} {tts_SIDES : Array (Option Value)} {ttk_SIDES_0 ttk_SIDES_1 : PySem.Tok}
    (ax0 : PySem.W.nsIn K mainGlobals "OwnholesError" = some (some (.ref X0)))
    (ax1 : PySem.W.nsIn K mainGlobals "BadProgram" = some (some (.ref X1)))
    (aC0 : PySem.W.nsIn K mainGlobals "Reader" = some (some (.ref C0)))
    (aC1 : PySem.W.nsIn K mainGlobals "Program" = some (some (.ref C1)))
    (a0 : PySem.W.nsIn K mainGlobals "is_name" = some (some (.ref f0)))
    (l0 : K.lookup f0 = some ⟨oc0, od0, .func (PySem.W.fnOf "is_name" "is_name" (defArgs s_is_name) (defBody s_is_name) (defScope s_is_name) .none kV0 dc0 pm0 an0 cd0 ct0), sl0⟩)
    (c0 : PySem.W.codeIn K cd0 "is_name" = true)
    (k0 : PySem.W.keepIn K (.ref f0) = true)
    (a1 : PySem.W.nsIn K mainGlobals "is_literal" = some (some (.ref f1)))
    (l1 : K.lookup f1 = some ⟨oc1, od1, .func (PySem.W.fnOf "is_literal" "is_literal" (defArgs s_is_literal) (defBody s_is_literal) (defScope s_is_literal) .none kV1 dc1 pm1 an1 cd1 ct1), sl1⟩)
    (c1 : PySem.W.codeIn K cd1 "is_literal" = true)
    (k1 : PySem.W.keepIn K (.ref f1) = true)
    (a2 : PySem.W.nsIn K mainGlobals "is_numeral" = some (some (.ref f2)))
    (l2 : K.lookup f2 = some ⟨oc2, od2, .func (PySem.W.fnOf "is_numeral" "is_numeral" (defArgs s_is_numeral) (defBody s_is_numeral) (defScope s_is_numeral) .none kV2 dc2 pm2 an2 cd2 ct2), sl2⟩)
    (c2 : PySem.W.codeIn K cd2 "is_numeral" = true)
    (k2 : PySem.W.keepIn K (.ref f2) = true)
    (a3 : PySem.W.findIn K (.ref C0) "__init__" = some (some (.ref f3)))
    (i3 : PySem.W.isFn K (.ref f3) = true)
    (l3 : K.lookup f3 = some ⟨oc3, od3, .func (PySem.W.fnOf "__init__" "Reader.__init__" (defArgs s_Reader_init) (defBody s_Reader_init) (defScope s_Reader_init) .none kV3 dc3 pm3 an3 cd3 ct3), sl3⟩)
    (c3 : PySem.W.codeIn K cd3 "Reader.__init__" = true)
    (k3 : PySem.W.keepIn K (.ref f3) = true)
    (a4 : PySem.W.findIn K (.ref C0) "kind_of" = some (some (.ref f4)))
    (i4 : PySem.W.isFn K (.ref f4) = true)
    (l4 : K.lookup f4 = some ⟨oc4, od4, .func (PySem.W.fnOf "kind_of" "Reader.kind_of" (defArgs s_Reader_kind_of) (defBody s_Reader_kind_of) (defScope s_Reader_kind_of) .none kV4 dc4 pm4 an4 cd4 ct4), sl4⟩)
    (c4 : PySem.W.codeIn K cd4 "Reader.kind_of" = true)
    (k4 : PySem.W.keepIn K (.ref f4) = true)
    (a5 : PySem.W.findIn K (.ref C0) "declare" = some (some (.ref f5)))
    (i5 : PySem.W.isFn K (.ref f5) = true)
    (l5 : K.lookup f5 = some ⟨oc5, od5, .func (PySem.W.fnOf "declare" "Reader.declare" (defArgs s_Reader_declare) (defBody s_Reader_declare) (defScope s_Reader_declare) .none kV5 dc5 pm5 an5 cd5 ct5), sl5⟩)
    (c5 : PySem.W.codeIn K cd5 "Reader.declare" = true)
    (k5 : PySem.W.keepIn K (.ref f5) = true)
    (a6 : PySem.W.findIn K (.ref C0) "is_local" = some (some (.ref f6)))
    (i6 : PySem.W.isFn K (.ref f6) = true)
    (l6 : K.lookup f6 = some ⟨oc6, od6, .func (PySem.W.fnOf "is_local" "Reader.is_local" (defArgs s_Reader_is_local) (defBody s_Reader_is_local) (defScope s_Reader_is_local) .none kV6 dc6 pm6 an6 cd6 ct6), sl6⟩)
    (c6 : PySem.W.codeIn K cd6 "Reader.is_local" = true)
    (k6 : PySem.W.keepIn K (.ref f6) = true)
    (a7 : PySem.W.findIn K (.ref C0) "grow" = some (some (.ref f7)))
    (i7 : PySem.W.isFn K (.ref f7) = true)
    (l7 : K.lookup f7 = some ⟨oc7, od7, .func (PySem.W.fnOf "grow" "Reader.grow" (defArgs s_Reader_grow) (defBody s_Reader_grow) (defScope s_Reader_grow) (.ref dT7) kV7 dc7 pm7 an7 cd7 ct7), sl7⟩)
    (lT7 : K.lookup dT7 = some ⟨tc7, td7, .seq #[.int 1 tkp7_0] tn7, tl7⟩)
    (c7 : PySem.W.codeIn K cd7 "Reader.grow" = true)
    (k7 : PySem.W.keepIn K (.ref f7) = true)
    (a8 : PySem.W.findIn K (.ref C0) "accept" = some (some (.ref f8)))
    (i8 : PySem.W.isFn K (.ref f8) = true)
    (l8 : K.lookup f8 = some ⟨oc8, od8, .func (PySem.W.fnOf "accept" "Reader.accept" (defArgs s_Reader_accept) (defBody s_Reader_accept) (defScope s_Reader_accept) .none kV8 dc8 pm8 an8 cd8 ct8), sl8⟩)
    (c8 : PySem.W.codeIn K cd8 "Reader.accept" = true)
    (k8 : PySem.W.keepIn K (.ref f8) = true)
    (a9 : PySem.W.findIn K (.ref C0) "accept_manner" = some (some (.ref f9)))
    (i9 : PySem.W.isFn K (.ref f9) = true)
    (l9 : K.lookup f9 = some ⟨oc9, od9, .func (PySem.W.fnOf "accept_manner" "Reader.accept_manner" (defArgs s_Reader_accept_manner) (defBody s_Reader_accept_manner) (defScope s_Reader_accept_manner) .none kV9 dc9 pm9 an9 cd9 ct9), sl9⟩)
    (c9 : PySem.W.codeIn K cd9 "Reader.accept_manner" = true)
    (k9 : PySem.W.keepIn K (.ref f9) = true)
    (a10 : PySem.W.findIn K (.ref C0) "declare_all" = some (some (.ref f10)))
    (i10 : PySem.W.isFn K (.ref f10) = true)
    (l10 : K.lookup f10 = some ⟨oc10, od10, .func (PySem.W.fnOf "declare_all" "Reader.declare_all" (defArgs s_Reader_declare_all) (defBody s_Reader_declare_all) (defScope s_Reader_declare_all) .none kV10 dc10 pm10 an10 cd10 ct10), sl10⟩)
    (c10 : PySem.W.codeIn K cd10 "Reader.declare_all" = true)
    (k10 : PySem.W.keepIn K (.ref f10) = true)
    (a11 : PySem.W.findIn K (.ref C0) "accept_block" = some (some (.ref f11)))
    (i11 : PySem.W.isFn K (.ref f11) = true)
    (l11 : K.lookup f11 = some ⟨oc11, od11, .func (PySem.W.fnOf "accept_block" "Reader.accept_block" (defArgs s_Reader_accept_block) (defBody s_Reader_accept_block) (defScope s_Reader_accept_block) .none kV11 dc11 pm11 an11 cd11 ct11), sl11⟩)
    (c11 : PySem.W.codeIn K cd11 "Reader.accept_block" = true)
    (k11 : PySem.W.keepIn K (.ref f11) = true)
    (a12 : PySem.W.findIn K (.ref C0) "open_block" = some (some (.ref f12)))
    (i12 : PySem.W.isFn K (.ref f12) = true)
    (l12 : K.lookup f12 = some ⟨oc12, od12, .func (PySem.W.fnOf "open_block" "Reader.open_block" (defArgs s_Reader_open_block) (defBody s_Reader_open_block) (defScope s_Reader_open_block) .none kV12 dc12 pm12 an12 cd12 ct12), sl12⟩)
    (c12 : PySem.W.codeIn K cd12 "Reader.open_block" = true)
    (k12 : PySem.W.keepIn K (.ref f12) = true)
    (a13 : PySem.W.findIn K (.ref C0) "accept_each" = some (some (.ref f13)))
    (i13 : PySem.W.isFn K (.ref f13) = true)
    (l13 : K.lookup f13 = some ⟨oc13, od13, .func (PySem.W.fnOf "accept_each" "Reader.accept_each" (defArgs s_Reader_accept_each) (defBody s_Reader_accept_each) (defScope s_Reader_accept_each) .none kV13 dc13 pm13 an13 cd13 ct13), sl13⟩)
    (c13 : PySem.W.codeIn K cd13 "Reader.accept_each" = true)
    (k13 : PySem.W.keepIn K (.ref f13) = true)
    (a14 : PySem.W.findIn K (.ref C0) "accept_other" = some (some (.ref f14)))
    (i14 : PySem.W.isFn K (.ref f14) = true)
    (l14 : K.lookup f14 = some ⟨oc14, od14, .func (PySem.W.fnOf "accept_other" "Reader.accept_other" (defArgs s_Reader_accept_other) (defBody s_Reader_accept_other) (defScope s_Reader_accept_other) .none kV14 dc14 pm14 an14 cd14 ct14), sl14⟩)
    (c14 : PySem.W.codeIn K cd14 "Reader.accept_other" = true)
    (k14 : PySem.W.keepIn K (.ref f14) = true)
    (a15 : PySem.W.findIn K (.ref C0) "accept_writing" = some (some (.ref f15)))
    (i15 : PySem.W.isFn K (.ref f15) = true)
    (l15 : K.lookup f15 = some ⟨oc15, od15, .func (PySem.W.fnOf "accept_writing" "Reader.accept_writing" (defArgs s_Reader_accept_writing) (defBody s_Reader_accept_writing) (defScope s_Reader_accept_writing) .none kV15 dc15 pm15 an15 cd15 ct15), sl15⟩)
    (c15 : PySem.W.codeIn K cd15 "Reader.accept_writing" = true)
    (k15 : PySem.W.keepIn K (.ref f15) = true)
    (a16 : PySem.W.findIn K (.ref C0) "is_value" = some (some (.ref f16)))
    (i16 : PySem.W.isFn K (.ref f16) = true)
    (l16 : K.lookup f16 = some ⟨oc16, od16, .func (PySem.W.fnOf "is_value" "Reader.is_value" (defArgs s_Reader_is_value) (defBody s_Reader_is_value) (defScope s_Reader_is_value) .none kV16 dc16 pm16 an16 cd16 ct16), sl16⟩)
    (c16 : PySem.W.codeIn K cd16 "Reader.is_value" = true)
    (k16 : PySem.W.keepIn K (.ref f16) = true)
    (a17 : PySem.W.findIn K (.ref C0) "accept_bind" = some (some (.ref f17)))
    (i17 : PySem.W.isFn K (.ref f17) = true)
    (l17 : K.lookup f17 = some ⟨oc17, od17, .func (PySem.W.fnOf "accept_bind" "Reader.accept_bind" (defArgs s_Reader_accept_bind) (defBody s_Reader_accept_bind) (defScope s_Reader_accept_bind) .none kV17 dc17 pm17 an17 cd17 ct17), sl17⟩)
    (c17 : PySem.W.codeIn K cd17 "Reader.accept_bind" = true)
    (k17 : PySem.W.keepIn K (.ref f17) = true)
    (a18 : PySem.W.findIn K (.ref C0) "accept_add" = some (some (.ref f18)))
    (i18 : PySem.W.isFn K (.ref f18) = true)
    (l18 : K.lookup f18 = some ⟨oc18, od18, .func (PySem.W.fnOf "accept_add" "Reader.accept_add" (defArgs s_Reader_accept_add) (defBody s_Reader_accept_add) (defScope s_Reader_accept_add) .none kV18 dc18 pm18 an18 cd18 ct18), sl18⟩)
    (c18 : PySem.W.codeIn K cd18 "Reader.accept_add" = true)
    (k18 : PySem.W.keepIn K (.ref f18) = true)
    (a19 : PySem.W.findIn K (.ref C1) "__init__" = some (some (.ref f19)))
    (i19 : PySem.W.isFn K (.ref f19) = true)
    (l19 : K.lookup f19 = some ⟨oc19, od19, .func (PySem.W.fnOf "__init__" "Program.__init__" (defArgs s_Program_init) (defBody s_Program_init) (defScope s_Program_init) .none kV19 dc19 pm19 an19 cd19 ct19), sl19⟩)
    (c19 : PySem.W.codeIn K cd19 "Program.__init__" = true)
    (k19 : PySem.W.keepIn K (.ref f19) = true)
    (a20 : PySem.W.findIn K (.ref X1) "__init__" = some (some (.ref f20)))
    (i20 : PySem.W.typeIn K (.ref f20) = some (.type "function"))
    (l20 : K.lookup f20 = some ⟨oc20, od20, .func (PySem.W.fnOf "__init__" "BadProgram.__init__" (defArgs s_BadProgram_init) (defBody s_BadProgram_init) (defScope s_BadProgram_init) .none kV20 dc20 pm20 an20 cd20 ct20), sl20⟩)
    (c20 : PySem.W.codeIn K cd20 "BadProgram.__init__" = true)
    (k20 : PySem.W.keepIn K (.ref f20) = true)
    (a21 : PySem.W.nsIn K mainGlobals "_law_bag" = some (some (.ref f21)))
    (l21 : K.lookup f21 = some ⟨oc21, od21, .func (PySem.W.fnOf "_law_bag" "_law_bag" (defArgs s_l_bag) (defBody s_l_bag) (defScope s_l_bag) .none kV21 dc21 pm21 an21 cd21 ct21), sl21⟩)
    (c21 : PySem.W.codeIn K cd21 "_law_bag" = true)
    (k21 : PySem.W.keepIn K (.ref f21) = true)
    (a22 : PySem.W.nsIn K mainGlobals "_law_take" = some (some (.ref f22)))
    (l22 : K.lookup f22 = some ⟨oc22, od22, .func (PySem.W.fnOf "_law_take" "_law_take" (defArgs s_l_take) (defBody s_l_take) (defScope s_l_take) .none kV22 dc22 pm22 an22 cd22 ct22), sl22⟩)
    (c22 : PySem.W.codeIn K cd22 "_law_take" = true)
    (k22 : PySem.W.keepIn K (.ref f22) = true)
    (a23 : PySem.W.nsIn K mainGlobals "_law_names" = some (some (.ref f23)))
    (l23 : K.lookup f23 = some ⟨oc23, od23, .func (PySem.W.fnOf "_law_names" "_law_names" (defArgs s_l_names) (defBody s_l_names) (defScope s_l_names) .none kV23 dc23 pm23 an23 cd23 ct23), sl23⟩)
    (c23 : PySem.W.codeIn K cd23 "_law_names" = true)
    (k23 : PySem.W.keepIn K (.ref f23) = true)
    (a24 : PySem.W.nsIn K mainGlobals "_law_at" = some (some (.ref f24)))
    (l24 : K.lookup f24 = some ⟨oc24, od24, .func (PySem.W.fnOf "_law_at" "_law_at" (defArgs s_l_at) (defBody s_l_at) (defScope s_l_at) .none kV24 dc24 pm24 an24 cd24 ct24), sl24⟩)
    (c24 : PySem.W.codeIn K cd24 "_law_at" = true)
    (k24 : PySem.W.keepIn K (.ref f24) = true)
    (a25 : PySem.W.nsIn K mainGlobals "_law_kind" = some (some (.ref f25)))
    (l25 : K.lookup f25 = some ⟨oc25, od25, .func (PySem.W.fnOf "_law_kind" "_law_kind" (defArgs s_l_kind) (defBody s_l_kind) (defScope s_l_kind) .none kV25 dc25 pm25 an25 cd25 ct25), sl25⟩)
    (c25 : PySem.W.codeIn K cd25 "_law_kind" = true)
    (k25 : PySem.W.keepIn K (.ref f25) = true)
    (a26 : PySem.W.nsIn K mainGlobals "_law_line" = some (some (.ref f26)))
    (l26 : K.lookup f26 = some ⟨oc26, od26, .func (PySem.W.fnOf "_law_line" "_law_line" (defArgs s_l_line) (defBody s_l_line) (defScope s_l_line) .none kV26 dc26 pm26 an26 cd26 ct26), sl26⟩)
    (c26 : PySem.W.codeIn K cd26 "_law_line" = true)
    (k26 : PySem.W.keepIn K (.ref f26) = true)
    (a27 : PySem.W.nsIn K mainGlobals "_law_right" = some (some (.ref f27)))
    (l27 : K.lookup f27 = some ⟨oc27, od27, .func (PySem.W.fnOf "_law_right" "_law_right" (defArgs s_l_right) (defBody s_l_right) (defScope s_l_right) .none kV27 dc27 pm27 an27 cd27 ct27), sl27⟩)
    (c27 : PySem.W.codeIn K cd27 "_law_right" = true)
    (k27 : PySem.W.keepIn K (.ref f27) = true)
    (a28 : PySem.W.nsIn K mainGlobals "_law_step" = some (some (.ref f28)))
    (l28 : K.lookup f28 = some ⟨oc28, od28, .func (PySem.W.fnOf "_law_step" "_law_step" (defArgs s_l_step) (defBody s_l_step) (defScope s_l_step) .none kV28 dc28 pm28 an28 cd28 ct28), sl28⟩)
    (c28 : PySem.W.codeIn K cd28 "_law_step" = true)
    (k28 : PySem.W.keepIn K (.ref f28) = true)
    (a29 : PySem.W.nsIn K mainGlobals "law" = some (some (.ref f29)))
    (l29 : K.lookup f29 = some ⟨oc29, od29, .func (PySem.W.fnOf "law" "law" (defArgs s_law) (defBody s_law) (defScope s_law) .none kV29 dc29 pm29 an29 cd29 ct29), sl29⟩)
    (c29 : PySem.W.codeIn K cd29 "law" = true)
    (k29 : PySem.W.keepIn K (.ref f29) = true)
    (pg0 : PySem.W.plainGet K C0 Str.empty = true)
    (hd0 : PySem.W.hasDictIn K C0 = true)
    (po0 : PySem.W.plainOver K C0 = true)
    (sa0 : PySem.W.findIn K (.ref C0) "__setattr__" = some (some (.builtin "object.__setattr__")))
    (mk0 : PySem.W.makesIn K C0 = true)
    (kc0 : PySem.W.keepIn K (.ref C0) = true)
    (n0_0 : PySem.W.findIn K (.ref C0) "manner" = some none)
    (n0_1 : PySem.W.findIn K (.ref C0) "options" = some none)
    (n0_2 : PySem.W.findIn K (.ref C0) "lists" = some none)
    (n0_3 : PySem.W.findIn K (.ref C0) "stage" = some none)
    (n0_4 : PySem.W.findIn K (.ref C0) "scopes" = some none)
    (n0_5 : PySem.W.findIn K (.ref C0) "blocks" = some none)
    (n0_6 : PySem.W.findIn K (.ref C0) "jumps" = some none)
    (n0_7 : PySem.W.findIn K (.ref C0) "loop" = some none)
    (n0_8 : PySem.W.findIn K (.ref C0) "adds" = some none)
    (n0_9 : PySem.W.findIn K (.ref C0) "shifts" = some none)
    (n0_10 : PySem.W.findIn K (.ref C0) "sizes" = some none)
    (n0_11 : PySem.W.findIn K (.ref C0) "size" = some none)
    (pg1 : PySem.W.plainGet K C1 Str.empty = true)
    (hd1 : PySem.W.hasDictIn K C1 = true)
    (po1 : PySem.W.plainOver K C1 = true)
    (sa1 : PySem.W.findIn K (.ref C1) "__setattr__" = some (some (.builtin "object.__setattr__")))
    (mk1 : PySem.W.makesIn K C1 = true)
    (kc1 : PySem.W.keepIn K (.ref C1) = true)
    (rd1 : PySem.W.readsIn K C1 (.type "type") = true)
    (rg1 : PySem.W.specialIn K (.ref C1) "__getattribute__" = some (some (.builtin "type.__getattribute__")))
    (n1_0 : PySem.W.findIn K (.ref C1) "manner" = some none)
    (n1_1 : PySem.W.findIn K (.ref C1) "options" = some none)
    (n1_2 : PySem.W.findIn K (.ref C1) "lists" = some none)
    (n1_3 : PySem.W.findIn K (.ref C1) "lines" = some none)
    (n1_4 : PySem.W.findIn K (.ref C1) "size" = some none)
    (n1_5 : PySem.W.findIn K (.ref C1) "rows" = some none)
    (n1_6 : PySem.W.findIn K (.ref C1) "jumps" = some none)
    (lv1_0 : PySem.W.findCls K (.ref C1) (.type "type") "LINES" = some (.val (.int 60 ltk1_0)))
    (xL0 : K.lookup X0 = some (excClassObj nmx0 qx0 X0 Nx0 bsx0 [.type "ValueError", .type "Exception", .type "BaseException", .type "object"] true snx0 subx0 abx0 colx0 ddx0 m0x0 m1x0 m2x0 m3x0 m5x0 "ValueError.__new__"))
    (sax0 : PySem.W.findIn K (.ref X0) "__setattr__" = some (some (.builtin "object.__setattr__")))
    (gax0 : PySem.W.findIn K (.ref X0) "__getattribute__" = some (some (.builtin "BaseException.__getattribute__")))
    (ggx0 : PySem.W.findIn K (.ref X0) "__getattr__" = some none)
    (eCx0 : PySem.W.subIn K (.ref X0) (.type "BaseException") = some true)
    (tCx0 : PySem.W.typeIn K (.ref X0) = some (.type "type"))
    (hCx0 : PySem.W.hasDictIn K X0 = true)
    (kXx0 : PySem.W.keepIn K (.ref X0) = true)
    (hax0 : PySem.W.findIn K (.ref X0) "__class__" = some (some (.builtin "object.__class__")))
    (hmx0 : PySem.W.mroIn K X0 (.type "object") = some true)
    (sx0_0 : PySem.W.subIn K (.ref X0) (.ref X0) = some true)
    (sx0_1 : PySem.W.subIn K (.ref X0) (.ref X1) = some false)
    (xL1 : K.lookup X1 = some (excClassObj nmx1 qx1 X1 Nx1 bsx1 [.ref X0, .type "ValueError", .type "Exception", .type "BaseException", .type "object"] true snx1 subx1 abx1 colx1 ddx1 m0x1 m1x1 m2x1 m3x1 m5x1 "ValueError.__new__"))
    (sax1 : PySem.W.findIn K (.ref X1) "__setattr__" = some (some (.builtin "object.__setattr__")))
    (gax1 : PySem.W.findIn K (.ref X1) "__getattribute__" = some (some (.builtin "BaseException.__getattribute__")))
    (ggx1 : PySem.W.findIn K (.ref X1) "__getattr__" = some none)
    (eCx1 : PySem.W.subIn K (.ref X1) (.type "BaseException") = some true)
    (tCx1 : PySem.W.typeIn K (.ref X1) = some (.type "type"))
    (hCx1 : PySem.W.hasDictIn K X1 = true)
    (kXx1 : PySem.W.keepIn K (.ref X1) = true)
    (hax1 : PySem.W.findIn K (.ref X1) "__class__" = some (some (.builtin "object.__class__")))
    (hmx1 : PySem.W.mroIn K X1 (.type "object") = some true)
    (nx1_0 : PySem.W.findIn K (.ref X1) "at" = some none)
    (sx1_0 : PySem.W.subIn K (.ref X1) (.ref X0) = some true)
    (sx1_1 : PySem.W.subIn K (.ref X1) (.ref X1) = some true)
    (y0 : PySem.W.specialIn K (.builtin "object.__class__") "__get__" = some (some (.builtin "getset_descriptor.__get__")))
    (y1 : PySem.W.takesIn K (.builtin "object.__class__") = some true)
    (kst_LETTERS : PySem.W.nsIn K mainGlobals "LETTERS" = some (some (.str "abcdefghijklmnopqrstuvwxyz" tk_LETTERS)))
    (kst_MOST_ADDS : PySem.W.nsIn K mainGlobals "MOST_ADDS" = some (some (.int 4 tk_MOST_ADDS)))
    (kst_MOST_COUNT : PySem.W.nsIn K mainGlobals "MOST_COUNT" = some (some (.int 20 tk_MOST_COUNT)))
    (kst_MOST_DEPTH : PySem.W.nsIn K mainGlobals "MOST_DEPTH" = some (some (.int 4 tk_MOST_DEPTH)))
    (kst_MOST_NAMES : PySem.W.nsIn K mainGlobals "MOST_NAMES" = some (some (.int 3 tk_MOST_NAMES)))
    (kst_MOST_SHIFTS : PySem.W.nsIn K mainGlobals "MOST_SHIFTS" = some (some (.int 4 tk_MOST_SHIFTS)))
    (kst_SIGNS : PySem.W.nsIn K mainGlobals "SIGNS" = some (some (.str "(),=<>+-." tk_SIGNS)))
    (kst_MANNERS : PySem.W.nsIn K mainGlobals "MANNERS" = some (some (.ref TT_MANNERS)))
    (ktu_MANNERS : K.lookup TT_MANNERS = some ⟨.type "tuple", ttd_MANNERS, .seq #[.str "order" ttk_MANNERS_0, .str "number" ttk_MANNERS_1, .str "name" ttk_MANNERS_2] ttn_MANNERS, tts_MANNERS⟩)
    (kst_RESERVED : PySem.W.nsIn K mainGlobals "RESERVED" = some (some (.ref TT_RESERVED)))
    (ktu_RESERVED : K.lookup TT_RESERVED = some ⟨.type "tuple", ttd_RESERVED, .seq #[.str "by" ttk_RESERVED_0, .str "order" ttk_RESERVED_1, .str "number" ttk_RESERVED_2, .str "name" ttk_RESERVED_3, .str "options" ttk_RESERVED_4, .str "lists" ttk_RESERVED_5, .str "text" ttk_RESERVED_6, .str "row" ttk_RESERVED_7, .str "say" ttk_RESERVED_8, .str "hole" ttk_RESERVED_9, .str "front" ttk_RESERVED_10, .str "back" ttk_RESERVED_11, .str "put" ttk_RESERVED_12, .str "bind" ttk_RESERVED_13, .str "add" ttk_RESERVED_14, .str "turn" ttk_RESERVED_15, .str "clear" ttk_RESERVED_16, .str "shift" ttk_RESERVED_17, .str "count" ttk_RESERVED_18, .str "each" ttk_RESERVED_19, .str "of" ttk_RESERVED_20, .str "down" ttk_RESERVED_21, .str "when" ttk_RESERVED_22, .str "else" ttk_RESERVED_23, .str "end" ttk_RESERVED_24, .str "ask" ttk_RESERVED_25] ttn_RESERVED, tts_RESERVED⟩)
    (kst_SIDES : PySem.W.nsIn K mainGlobals "SIDES" = some (some (.ref TT_SIDES)))
    (ktu_SIDES : K.lookup TT_SIDES = some ⟨.type "tuple", ttd_SIDES, .seq #[.str "front" ttk_SIDES_0, .str "back" ttk_SIDES_1] ttn_SIDES, tts_SIDES⟩)
    (z0 : PySem.W.nsIn K mainGlobals "all" = some none)
    (z1 : PySem.W.nsIn K mainGlobals "any" = some none)
    (z2 : PySem.W.nsIn K mainGlobals "bool" = some none)
    (z3 : PySem.W.nsIn K mainGlobals "enumerate" = some none)
    (z4 : PySem.W.nsIn K mainGlobals "int" = some none)
    (z5 : PySem.W.nsIn K mainGlobals "isinstance" = some none)
    (z6 : PySem.W.nsIn K mainGlobals "len" = some none)
    (z7 : PySem.W.nsIn K mainGlobals "max" = some none)
    (z8 : PySem.W.nsIn K mainGlobals "range" = some none)
    (z9 : PySem.W.nsIn K mainGlobals "str" = some none)
    (z10 : PySem.W.nsIn K mainGlobals "tuple" = some none) :
    ∃ fd : FuncData, (∀ (s : Shared) (v : Value), BindsTo s fd ⟨[v], []⟩ [("_law_script", v)]) ∧ ∀ base : Heap, K.In base → base.Ns mainGlobals mg → FnOk l.prog w K mg base CX0 10 fa fd ["_law_script"] (sp_law K) := by
  have e := hfa.symm.trans (PySem.W.mg_of X G a29)
  cases e
  have F0 := fun_mk (st := s_is_name) l0 c0 k0
  have F1 := fun_mk (st := s_is_literal) l1 c1 k1
  have F2 := fun_mk (st := s_is_numeral) l2 c2 k2
  have F3 := fun_mk (st := s_Reader_init) l3 c3 k3
  have F4 := fun_mk (st := s_Reader_kind_of) l4 c4 k4
  have F5 := fun_mk (st := s_Reader_declare) l5 c5 k5
  have F6 := fun_mk (st := s_Reader_is_local) l6 c6 k6
  have F7 : Co.FunP K "grow" "Reader.grow" s_Reader_grow ["self", "name", "many"] [.int 1] f7 _ := ⟨⟨oc7, od7, .ref dT7, kV7, dc7, pm7, an7, cd7, ct7, sl7, rfl, l7, c7, .inr ⟨(fun z => nomatch z), dT7, _, [.int 1 tkp7_0], tn7, rfl, lT7, rfl, (.cons ⟨_, rfl⟩ .nil)⟩, .inl rfl⟩, k7⟩
  have F8 := fun_mk (st := s_Reader_accept) l8 c8 k8
  have F9 := fun_mk (st := s_Reader_accept_manner) l9 c9 k9
  have F10 := fun_mk (st := s_Reader_declare_all) l10 c10 k10
  have F11 := fun_mk (st := s_Reader_accept_block) l11 c11 k11
  have F12 := fun_mk (st := s_Reader_open_block) l12 c12 k12
  have F13 := fun_mk (st := s_Reader_accept_each) l13 c13 k13
  have F14 := fun_mk (st := s_Reader_accept_other) l14 c14 k14
  have F15 := fun_mk (st := s_Reader_accept_writing) l15 c15 k15
  have F16 := fun_mk (st := s_Reader_is_value) l16 c16 k16
  have F17 := fun_mk (st := s_Reader_accept_bind) l17 c17 k17
  have F18 := fun_mk (st := s_Reader_accept_add) l18 c18 k18
  have F19 := fun_mk (st := s_Program_init) l19 c19 k19
  have F20 := fun_mk (st := s_BadProgram_init) l20 c20 k20
  have F21 := fun_mk (st := s_l_bag) l21 c21 k21
  have F22 := fun_mk (st := s_l_take) l22 c22 k22
  have F23 := fun_mk (st := s_l_names) l23 c23 k23
  have F24 := fun_mk (st := s_l_at) l24 c24 k24
  have F25 := fun_mk (st := s_l_kind) l25 c25 k25
  have F26 := fun_mk (st := s_l_line) l26 c26 k26
  have F27 := fun_mk (st := s_l_right) l27 c27 k27
  have F28 := fun_mk (st := s_l_step) l28 c28 k28
  have F29 := fun_mk (st := s_law) l29 c29 k29
  have b0 := F0.binds (ps := ["part"]) fun _ _ _ _ _ _ us hl => match us, hl with | [_], _ => rfl
  have b1 := F1.binds (ps := ["part"]) fun _ _ _ _ _ _ us hl => match us, hl with | [_], _ => rfl
  have b2 := F2.binds (ps := ["part"]) fun _ _ _ _ _ _ us hl => match us, hl with | [_], _ => rfl
  have b3 := F3.binds (ps := ["self"]) fun _ _ _ _ _ _ us hl => match us, hl with | [_], _ => rfl
  have b4 := F4.binds (ps := ["self", "name"]) fun _ _ _ _ _ _ us hl => match us, hl with | [_, _], _ => rfl
  have b5 := F5.binds (ps := ["self", "name", "kind"]) fun _ _ _ _ _ _ us hl => match us, hl with | [_, _, _], _ => rfl
  have b6 := F6.binds (ps := ["self", "name"]) fun _ _ _ _ _ _ us hl => match us, hl with | [_, _], _ => rfl
  have bp7_0 := F7.fD.binds1 (ps := ["self", "name", "many"]) 2 0 (fun z => nomatch z) rfl fun T kV doc pm an cdv ct us its h1 h2 => match us, its, h1, h2 with | [_, _], [_], _, _ => ⟨_, rfl, rfl⟩
  have bp7_1 := F7.fD.binds1 (ps := ["self", "name", "many"]) 3 1 (fun z => nomatch z) rfl fun T kV doc pm an cdv ct us its h1 h2 => match us, its, h1, h2 with | [_, _, _], [_], _, _ => ⟨_, rfl, rfl⟩
  have b8 := F8.binds (ps := ["self", "at", "parts"]) fun _ _ _ _ _ _ us hl => match us, hl with | [_, _, _], _ => rfl
  have b9 := F9.binds (ps := ["self", "parts"]) fun _ _ _ _ _ _ us hl => match us, hl with | [_, _], _ => rfl
  have b10 := F10.binds (ps := ["self", "names", "kind"]) fun _ _ _ _ _ _ us hl => match us, hl with | [_, _, _], _ => rfl
  have b11 := F11.binds (ps := ["self", "at", "parts"]) fun _ _ _ _ _ _ us hl => match us, hl with | [_, _, _], _ => rfl
  have b12 := F12.binds (ps := ["self", "at", "kind"]) fun _ _ _ _ _ _ us hl => match us, hl with | [_, _, _], _ => rfl
  have b13 := F13.binds (ps := ["self", "at", "parts"]) fun _ _ _ _ _ _ us hl => match us, hl with | [_, _, _], _ => rfl
  have b14 := F14.binds (ps := ["self", "parts"]) fun _ _ _ _ _ _ us hl => match us, hl with | [_, _], _ => rfl
  have b15 := F15.binds (ps := ["self", "parts"]) fun _ _ _ _ _ _ us hl => match us, hl with | [_, _], _ => rfl
  have b16 := F16.binds (ps := ["self", "name"]) fun _ _ _ _ _ _ us hl => match us, hl with | [_, _], _ => rfl
  have b17 := F17.binds (ps := ["self", "parts"]) fun _ _ _ _ _ _ us hl => match us, hl with | [_, _], _ => rfl
  have b18 := F18.binds (ps := ["self", "kind", "parts"]) fun _ _ _ _ _ _ us hl => match us, hl with | [_, _, _], _ => rfl
  have b19 := F19.binds (ps := ["self", "text"]) fun _ _ _ _ _ _ us hl => match us, hl with | [_, _], _ => rfl
  have b20 := F20.binds (ps := ["self", "at"]) fun _ _ _ _ _ _ us hl => match us, hl with | [_, _], _ => rfl
  have b21 := F21.binds (ps := ["_law_script", "_law_k"]) fun _ _ _ _ _ _ us hl => match us, hl with | [_, _], _ => rfl
  have b22 := F22.binds (ps := ["_law_bag_here", "_law_many"]) fun _ _ _ _ _ _ us hl => match us, hl with | [_, _], _ => rfl
  have b23 := F23.binds (ps := ["_law_bag_here", "_law_many"]) fun _ _ _ _ _ _ us hl => match us, hl with | [_, _], _ => rfl
  have b24 := F24.binds (ps := ["_law_text"]) fun _ _ _ _ _ _ us hl => match us, hl with | [_], _ => rfl
  have b25 := F25.binds (ps := ["_law_scopes", "_law_name"]) fun _ _ _ _ _ _ us hl => match us, hl with | [_, _], _ => rfl
  have b26 := F26.binds (ps := ["_law_bag_here", "_law_names_here", "_law_blocks"]) fun _ _ _ _ _ _ us hl => match us, hl with | [_, _, _], _ => rfl
  have b27 := F27.binds (ps := ["_law_scopes", "_law_parts"]) fun _ _ _ _ _ _ us hl => match us, hl with | [_, _], _ => rfl
  have b28 := F28.binds (ps := ["_law_scopes", "_law_blocks", "_law_parts"]) fun _ _ _ _ _ _ us hl => match us, hl with | [_, _, _], _ => rfl
  have b29 := F29.binds (ps := ["_law_script"]) fun _ _ _ _ _ _ us hl => match us, hl with | [_], _ => rfl
  have T : Txt K mg ⟨f0, PySem.W.fnOf "is_name" "is_name" (defArgs s_is_name) (defBody s_is_name) (defScope s_is_name) .none kV0 dc0 pm0 an0 cd0 ct0, f1, PySem.W.fnOf "is_literal" "is_literal" (defArgs s_is_literal) (defBody s_is_literal) (defScope s_is_literal) .none kV1 dc1 pm1 an1 cd1 ct1, f2, PySem.W.fnOf "is_numeral" "is_numeral" (defArgs s_is_numeral) (defBody s_is_numeral) (defScope s_is_numeral) .none kV2 dc2 pm2 an2 cd2 ct2, f3, PySem.W.fnOf "__init__" "Reader.__init__" (defArgs s_Reader_init) (defBody s_Reader_init) (defScope s_Reader_init) .none kV3 dc3 pm3 an3 cd3 ct3, f4, PySem.W.fnOf "kind_of" "Reader.kind_of" (defArgs s_Reader_kind_of) (defBody s_Reader_kind_of) (defScope s_Reader_kind_of) .none kV4 dc4 pm4 an4 cd4 ct4, f5, PySem.W.fnOf "declare" "Reader.declare" (defArgs s_Reader_declare) (defBody s_Reader_declare) (defScope s_Reader_declare) .none kV5 dc5 pm5 an5 cd5 ct5, f6, PySem.W.fnOf "is_local" "Reader.is_local" (defArgs s_Reader_is_local) (defBody s_Reader_is_local) (defScope s_Reader_is_local) .none kV6 dc6 pm6 an6 cd6 ct6, f7, PySem.W.fnOf "grow" "Reader.grow" (defArgs s_Reader_grow) (defBody s_Reader_grow) (defScope s_Reader_grow) (.ref dT7) kV7 dc7 pm7 an7 cd7 ct7, f8, PySem.W.fnOf "accept" "Reader.accept" (defArgs s_Reader_accept) (defBody s_Reader_accept) (defScope s_Reader_accept) .none kV8 dc8 pm8 an8 cd8 ct8, f9, PySem.W.fnOf "accept_manner" "Reader.accept_manner" (defArgs s_Reader_accept_manner) (defBody s_Reader_accept_manner) (defScope s_Reader_accept_manner) .none kV9 dc9 pm9 an9 cd9 ct9, f10, PySem.W.fnOf "declare_all" "Reader.declare_all" (defArgs s_Reader_declare_all) (defBody s_Reader_declare_all) (defScope s_Reader_declare_all) .none kV10 dc10 pm10 an10 cd10 ct10, f11, PySem.W.fnOf "accept_block" "Reader.accept_block" (defArgs s_Reader_accept_block) (defBody s_Reader_accept_block) (defScope s_Reader_accept_block) .none kV11 dc11 pm11 an11 cd11 ct11, f12, PySem.W.fnOf "open_block" "Reader.open_block" (defArgs s_Reader_open_block) (defBody s_Reader_open_block) (defScope s_Reader_open_block) .none kV12 dc12 pm12 an12 cd12 ct12, f13, PySem.W.fnOf "accept_each" "Reader.accept_each" (defArgs s_Reader_accept_each) (defBody s_Reader_accept_each) (defScope s_Reader_accept_each) .none kV13 dc13 pm13 an13 cd13 ct13, f14, PySem.W.fnOf "accept_other" "Reader.accept_other" (defArgs s_Reader_accept_other) (defBody s_Reader_accept_other) (defScope s_Reader_accept_other) .none kV14 dc14 pm14 an14 cd14 ct14, f15, PySem.W.fnOf "accept_writing" "Reader.accept_writing" (defArgs s_Reader_accept_writing) (defBody s_Reader_accept_writing) (defScope s_Reader_accept_writing) .none kV15 dc15 pm15 an15 cd15 ct15, f16, PySem.W.fnOf "is_value" "Reader.is_value" (defArgs s_Reader_is_value) (defBody s_Reader_is_value) (defScope s_Reader_is_value) .none kV16 dc16 pm16 an16 cd16 ct16, f17, PySem.W.fnOf "accept_bind" "Reader.accept_bind" (defArgs s_Reader_accept_bind) (defBody s_Reader_accept_bind) (defScope s_Reader_accept_bind) .none kV17 dc17 pm17 an17 cd17 ct17, f18, PySem.W.fnOf "accept_add" "Reader.accept_add" (defArgs s_Reader_accept_add) (defBody s_Reader_accept_add) (defScope s_Reader_accept_add) .none kV18 dc18 pm18 an18 cd18 ct18, f19, PySem.W.fnOf "__init__" "Program.__init__" (defArgs s_Program_init) (defBody s_Program_init) (defScope s_Program_init) .none kV19 dc19 pm19 an19 cd19 ct19, f20, PySem.W.fnOf "__init__" "BadProgram.__init__" (defArgs s_BadProgram_init) (defBody s_BadProgram_init) (defScope s_BadProgram_init) .none kV20 dc20 pm20 an20 cd20 ct20, f21, PySem.W.fnOf "_law_bag" "_law_bag" (defArgs s_l_bag) (defBody s_l_bag) (defScope s_l_bag) .none kV21 dc21 pm21 an21 cd21 ct21, f22, PySem.W.fnOf "_law_take" "_law_take" (defArgs s_l_take) (defBody s_l_take) (defScope s_l_take) .none kV22 dc22 pm22 an22 cd22 ct22, f23, PySem.W.fnOf "_law_names" "_law_names" (defArgs s_l_names) (defBody s_l_names) (defScope s_l_names) .none kV23 dc23 pm23 an23 cd23 ct23, f24, PySem.W.fnOf "_law_at" "_law_at" (defArgs s_l_at) (defBody s_l_at) (defScope s_l_at) .none kV24 dc24 pm24 an24 cd24 ct24, f25, PySem.W.fnOf "_law_kind" "_law_kind" (defArgs s_l_kind) (defBody s_l_kind) (defScope s_l_kind) .none kV25 dc25 pm25 an25 cd25 ct25, f26, PySem.W.fnOf "_law_line" "_law_line" (defArgs s_l_line) (defBody s_l_line) (defScope s_l_line) .none kV26 dc26 pm26 an26 cd26 ct26, f27, PySem.W.fnOf "_law_right" "_law_right" (defArgs s_l_right) (defBody s_l_right) (defScope s_l_right) .none kV27 dc27 pm27 an27 cd27 ct27, f28, PySem.W.fnOf "_law_step" "_law_step" (defArgs s_l_step) (defBody s_l_step) (defScope s_l_step) .none kV28 dc28 pm28 an28 cd28 ct28, fa, PySem.W.fnOf "law" "law" (defArgs s_law) (defBody s_law) (defScope s_law) .none kV29 dc29 pm29 an29 cd29 ct29, C0, C1, X0, X1⟩ := {
    F_is_name := F0,
    b_is_name := b0,
    g_is_name := PySem.W.mg_of X G a0,
    F_is_literal := F1,
    b_is_literal := b1,
    g_is_literal := PySem.W.mg_of X G a1,
    F_is_numeral := F2,
    b_is_numeral := b2,
    g_is_numeral := PySem.W.mg_of X G a2,
    F_Reader_init := F3,
    b_Reader_init := b3,
    m_Reader_init := ⟨a3, i3, k3⟩,
    F_Reader_kind_of := F4,
    b_Reader_kind_of := b4,
    m_Reader_kind_of := ⟨a4, i4, k4⟩,
    F_Reader_declare := F5,
    b_Reader_declare := b5,
    m_Reader_declare := ⟨a5, i5, k5⟩,
    F_Reader_is_local := F6,
    b_Reader_is_local := b6,
    m_Reader_is_local := ⟨a6, i6, k6⟩,
    F_Reader_grow := F7,
    bp_Reader_grow_1 := bp7_0,
    bp_Reader_grow_2 := bp7_1,
    m_Reader_grow := ⟨a7, i7, k7⟩,
    F_Reader_accept := F8,
    b_Reader_accept := b8,
    m_Reader_accept := ⟨a8, i8, k8⟩,
    F_Reader_accept_manner := F9,
    b_Reader_accept_manner := b9,
    m_Reader_accept_manner := ⟨a9, i9, k9⟩,
    F_Reader_declare_all := F10,
    b_Reader_declare_all := b10,
    m_Reader_declare_all := ⟨a10, i10, k10⟩,
    F_Reader_accept_block := F11,
    b_Reader_accept_block := b11,
    m_Reader_accept_block := ⟨a11, i11, k11⟩,
    F_Reader_open_block := F12,
    b_Reader_open_block := b12,
    m_Reader_open_block := ⟨a12, i12, k12⟩,
    F_Reader_accept_each := F13,
    b_Reader_accept_each := b13,
    m_Reader_accept_each := ⟨a13, i13, k13⟩,
    F_Reader_accept_other := F14,
    b_Reader_accept_other := b14,
    m_Reader_accept_other := ⟨a14, i14, k14⟩,
    F_Reader_accept_writing := F15,
    b_Reader_accept_writing := b15,
    m_Reader_accept_writing := ⟨a15, i15, k15⟩,
    F_Reader_is_value := F16,
    b_Reader_is_value := b16,
    m_Reader_is_value := ⟨a16, i16, k16⟩,
    F_Reader_accept_bind := F17,
    b_Reader_accept_bind := b17,
    m_Reader_accept_bind := ⟨a17, i17, k17⟩,
    F_Reader_accept_add := F18,
    b_Reader_accept_add := b18,
    m_Reader_accept_add := ⟨a18, i18, k18⟩,
    F_Program_init := F19,
    b_Program_init := b19,
    m_Program_init := ⟨a19, i19, k19⟩,
    F_BadProgram_init := F20,
    b_BadProgram_init := b20,
    F_l_bag := F21,
    b_l_bag := b21,
    g_l_bag := PySem.W.mg_of X G a21,
    F_l_take := F22,
    b_l_take := b22,
    g_l_take := PySem.W.mg_of X G a22,
    F_l_names := F23,
    b_l_names := b23,
    g_l_names := PySem.W.mg_of X G a23,
    F_l_at := F24,
    b_l_at := b24,
    g_l_at := PySem.W.mg_of X G a24,
    F_l_kind := F25,
    b_l_kind := b25,
    g_l_kind := PySem.W.mg_of X G a25,
    F_l_line := F26,
    b_l_line := b26,
    g_l_line := PySem.W.mg_of X G a26,
    F_l_right := F27,
    b_l_right := b27,
    g_l_right := PySem.W.mg_of X G a27,
    F_l_step := F28,
    b_l_step := b28,
    g_l_step := PySem.W.mg_of X G a28,
    F_law := F29,
    b_law := b29,
    g_law := PySem.W.mg_of X G a29,
    cl_Reader := ⟨pg0, hd0, po0, sa0⟩,
    g_Reader := PySem.W.mg_of X G aC0,
    mk_Reader := ⟨mk0, a3, i3, kc0⟩,
    n_Reader_manner := n0_0,
    n_Reader_options := n0_1,
    n_Reader_lists := n0_2,
    n_Reader_stage := n0_3,
    n_Reader_scopes := n0_4,
    n_Reader_blocks := n0_5,
    n_Reader_jumps := n0_6,
    n_Reader_loop := n0_7,
    n_Reader_adds := n0_8,
    n_Reader_shifts := n0_9,
    n_Reader_sizes := n0_10,
    n_Reader_size := n0_11,
    cl_Program := ⟨pg1, hd1, po1, sa1⟩,
    g_Program := PySem.W.mg_of X G aC1,
    mk_Program := ⟨mk1, a19, i19, kc1⟩,
    cr_Program := ⟨rd1, rg1⟩,
    n_Program_manner := n1_0,
    n_Program_options := n1_1,
    n_Program_lists := n1_2,
    n_Program_lines := n1_3,
    n_Program_size := n1_4,
    n_Program_rows := n1_5,
    n_Program_jumps := n1_6,
    v_Program_LINES := ⟨_, ⟨lv1_0, ⟨_, rfl⟩⟩⟩,
    g_OwnholesError := PySem.W.mg_of X G ax0,
    xn_OwnholesError := ⟨eCx0, hCx0, tCx0⟩,
    s_OwnholesError_OwnholesError := sx0_0,
    s_OwnholesError_BadProgram := sx0_1,
    g_BadProgram := PySem.W.mg_of X G ax1,
    xn_BadProgram := ⟨eCx1, hCx1, tCx1⟩,
    x_BadProgram := ⟨⟨⟨nmx1, qx1, Nx1, bsx1, _, snx1, subx1, abx1, colx1, ddx1, m0x1, m1x1, m2x1, m3x1, m5x1, xL1, rfl⟩, sax1, eCx1, tCx1, kXx1⟩, a20, i20, ⟨gax1, ggx1, eCx1, hCx1, hax1, y0, y1, hmx1⟩⟩,
    no_BadProgram_at := nx1_0,
    s_BadProgram_OwnholesError := sx1_0,
    s_BadProgram_BadProgram := sx1_1,
    u_all := PySem.W.mg_none_of X G z0,
    u_any := PySem.W.mg_none_of X G z1,
    u_bool := PySem.W.mg_none_of X G z2,
    u_enumerate := PySem.W.mg_none_of X G z3,
    u_int := PySem.W.mg_none_of X G z4,
    u_isinstance := PySem.W.mg_none_of X G z5,
    u_len := PySem.W.mg_none_of X G z6,
    u_max := PySem.W.mg_none_of X G z7,
    u_range := PySem.W.mg_none_of X G z8,
    u_str := PySem.W.mg_none_of X G z9,
    u_tuple := PySem.W.mg_none_of X G z10,
    g_MANNERS := ⟨TT_MANNERS, PySem.W.mg_of X G kst_MANNERS, fun H => .inr ⟨_, _, _, ktu_MANNERS, rfl, rfl, Nat.le_of_ble_eq_true rfl, (.cons ⟨_, rfl⟩ (.cons ⟨_, rfl⟩ (.cons ⟨_, rfl⟩ .nil)))⟩⟩,
    g_RESERVED := ⟨TT_RESERVED, PySem.W.mg_of X G kst_RESERVED, fun H => .inr ⟨_, _, _, ktu_RESERVED, rfl, rfl, Nat.le_of_ble_eq_true rfl, (.cons ⟨_, rfl⟩ (.cons ⟨_, rfl⟩ (.cons ⟨_, rfl⟩ (.cons ⟨_, rfl⟩ (.cons ⟨_, rfl⟩ (.cons ⟨_, rfl⟩ (.cons ⟨_, rfl⟩ (.cons ⟨_, rfl⟩ (.cons ⟨_, rfl⟩ (.cons ⟨_, rfl⟩ (.cons ⟨_, rfl⟩ (.cons ⟨_, rfl⟩ (.cons ⟨_, rfl⟩ (.cons ⟨_, rfl⟩ (.cons ⟨_, rfl⟩ (.cons ⟨_, rfl⟩ (.cons ⟨_, rfl⟩ (.cons ⟨_, rfl⟩ (.cons ⟨_, rfl⟩ (.cons ⟨_, rfl⟩ (.cons ⟨_, rfl⟩ (.cons ⟨_, rfl⟩ (.cons ⟨_, rfl⟩ (.cons ⟨_, rfl⟩ (.cons ⟨_, rfl⟩ (.cons ⟨_, rfl⟩ .nil))))))))))))))))))))))))))⟩⟩,
    g_SIDES := ⟨TT_SIDES, PySem.W.mg_of X G kst_SIDES, fun H => .inr ⟨_, _, _, ktu_SIDES, rfl, rfl, Nat.le_of_ble_eq_true rfl, (.cons ⟨_, rfl⟩ (.cons ⟨_, rfl⟩ .nil))⟩⟩,
    g_LETTERS := ⟨_, PySem.W.mg_of X G kst_LETTERS, _, rfl⟩,
    g_MOST_ADDS := ⟨_, PySem.W.mg_of X G kst_MOST_ADDS, _, rfl⟩,
    g_MOST_COUNT := ⟨_, PySem.W.mg_of X G kst_MOST_COUNT, _, rfl⟩,
    g_MOST_DEPTH := ⟨_, PySem.W.mg_of X G kst_MOST_DEPTH, _, rfl⟩,
    g_MOST_NAMES := ⟨_, PySem.W.mg_of X G kst_MOST_NAMES, _, rfl⟩,
    g_MOST_SHIFTS := ⟨_, PySem.W.mg_of X G kst_MOST_SHIFTS, _, rfl⟩,
    g_SIGNS := ⟨_, PySem.W.mg_of X G kst_SIGNS, _, rfl⟩ }
  exact ⟨PySem.W.fnOf "law" "law" (defArgs s_law) (defBody s_law) (defScope s_law) .none kV29 dc29 pm29 an29 cd29 ct29, fun s v => .of_eq rfl, fun base _ _ => ok_law T⟩
theorem walk {l : PySem.W.OpenLaw} {q : Program} {loose : List Str} {XP : (Str → Option Value) → Heap → Prop} {YP : World → Heap → Prop} {d : DefRec} {K : Params → PySem.W.Frag} (hn : l.most = some 63) (hdf : d.params.defaults = [])
    (hY : ∀ (w : World) (h : Heap), YP w h → (K w.params).In h)
    (F : ∀ (w : World) (mg : Str → Option Value) (fa : Addr) (h : Heap), (K w.params).In h → h.Ns mainGlobals mg → mg d.name = some (.ref fa) →
      ∃ fd : FuncData, (∀ (s : Shared) (u : Value), BindsTo s fd ⟨[u], []⟩ [("_law_script", u)]) ∧ ∀ base : Heap, (K w.params).In base → base.Ns mainGlobals mg → FnOk l.prog w (K w.params) mg base CX0 10 fa fd ["_law_script"] (sp_law (K w.params))) :
    PySem.W.WalkO q loose XP YP l.row.toRowW d [] (fun f vs => PySem.call f vs) :=
  L2.walk_of (n := 63) (k := 10) (x := "_law_script") (CX := fun _ => CX0) (sp := fun w => sp_law (K w.params)) hn (by decide) hdf ⟨rfl, by decide, by decide⟩ hY F (fun _ _ a ns hl _ hS => ⟨a, ns, rfl, hS, hl, fun _ => rfl⟩) fun _ _ _ _ _ z => z
end LW
open PySem PySem.W PyProof.Rows
theorem PySem.Challenge.cw_ownholes_k23_scopes_holds : PySem.Challenge.rw_ownholes_k23_scopes.Holds := by
  refine LW.run_top fun hdf hnm hY F => LW.walk (l := PySem.Challenge.rw_ownholes_k23_scopes) rfl hdf hY fun w mg fa h KX G hmg => F w _ fun ax0 ax1 aC0 aC1 a0 l0 c0 k0 a1 l1 c1 k1 a2 l2 c2 k2 a3 i3 l3 c3 k3 a4 i4 l4 c4 k4 a5 i5 l5 c5 k5 a6 i6 l6 c6 k6 a7 i7 l7 lT7 c7 k7 a8 i8 l8 c8 k8 a9 i9 l9 c9 k9 a10 i10 l10 c10 k10 a11 i11 l11 c11 k11 a12 i12 l12 c12 k12 a13 i13 l13 c13 k13 a14 i14 l14 c14 k14 a15 i15 l15 c15 k15 a16 i16 l16 c16 k16 a17 i17 l17 c17 k17 a18 i18 l18 c18 k18 a19 i19 l19 c19 k19 a20 i20 l20 c20 k20 a21 l21 c21 k21 a22 l22 c22 k22 a23 l23 c23 k23 a24 l24 c24 k24 a25 l25 c25 k25 a26 l26 c26 k26 a27 l27 c27 k27 a28 l28 c28 k28 a29 l29 c29 k29 pg0 hd0 po0 sa0 mk0 kc0 n0_0 n0_1 n0_2 n0_3 n0_4 n0_5 n0_6 n0_7 n0_8 n0_9 n0_10 n0_11 pg1 hd1 po1 sa1 mk1 kc1 rd1 rg1 n1_0 n1_1 n1_2 n1_3 n1_4 n1_5 n1_6 lv1_0 xL0 sax0 gax0 ggx0 eCx0 tCx0 hCx0 kXx0 hax0 hmx0 sx0_0 sx0_1 xL1 sax1 gax1 ggx1 eCx1 tCx1 hCx1 kXx1 hax1 hmx1 nx1_0 sx1_0 sx1_1 y0 y1 kst_LETTERS kst_MOST_ADDS kst_MOST_COUNT kst_MOST_DEPTH kst_MOST_NAMES kst_MOST_SHIFTS kst_SIGNS kst_MANNERS ktu_MANNERS kst_RESERVED ktu_RESERVED kst_SIDES ktu_SIDES z0 z1 z2 z3 z4 z5 z6 z7 z8 z9 z10 => ?_
  exact LW.all_mk KX G (by rw [← hnm]; exact hmg) ax0 ax1 aC0 aC1 a0 l0 c0 k0 a1 l1 c1 k1 a2 l2 c2 k2 a3 i3 l3 c3 k3 a4 i4 l4 c4 k4 a5 i5 l5 c5 k5 a6 i6 l6 c6 k6 a7 i7 l7 lT7 c7 k7 a8 i8 l8 c8 k8 a9 i9 l9 c9 k9 a10 i10 l10 c10 k10 a11 i11 l11 c11 k11 a12 i12 l12 c12 k12 a13 i13 l13 c13 k13 a14 i14 l14 c14 k14 a15 i15 l15 c15 k15 a16 i16 l16 c16 k16 a17 i17 l17 c17 k17 a18 i18 l18 c18 k18 a19 i19 l19 c19 k19 a20 i20 l20 c20 k20 a21 l21 c21 k21 a22 l22 c22 k22 a23 l23 c23 k23 a24 l24 c24 k24 a25 l25 c25 k25 a26 l26 c26 k26 a27 l27 c27 k27 a28 l28 c28 k28 a29 l29 c29 k29 pg0 hd0 po0 sa0 mk0 kc0 n0_0 n0_1 n0_2 n0_3 n0_4 n0_5 n0_6 n0_7 n0_8 n0_9 n0_10 n0_11 pg1 hd1 po1 sa1 mk1 kc1 rd1 rg1 n1_0 n1_1 n1_2 n1_3 n1_4 n1_5 n1_6 lv1_0 xL0 sax0 gax0 ggx0 eCx0 tCx0 hCx0 kXx0 hax0 hmx0 sx0_0 sx0_1 xL1 sax1 gax1 ggx1 eCx1 tCx1 hCx1 kXx1 hax1 hmx1 nx1_0 sx1_0 sx1_1 y0 y1 kst_LETTERS kst_MOST_ADDS kst_MOST_COUNT kst_MOST_DEPTH kst_MOST_NAMES kst_MOST_SHIFTS kst_SIGNS kst_MANNERS ktu_MANNERS kst_RESERVED ktu_RESERVED kst_SIDES ktu_SIDES z0 z1 z2 z3 z4 z5 z6 z7 z8 z9 z10
