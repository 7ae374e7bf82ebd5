import PyProof.Rows.All
import Wide.All
import OpenK.AllK
import Wide.FinOn
import HandS.Comp
import HandS.Iter
import HandS.HotCalls
import HandS.SuiteRaise
import HandS.Words
import HandS.ForMost
import HandS.Zip
import HandS.Walk
import HandS.Wide
import HandS.IsInst
import HandS.TupAny
import KE.GoesEnum
import KE.GoesZip
import KE.GoesMore
import HandS.ExcInitHot
import HandS.Text
import HandS.StrMore
import HandS.Call
import HandS.ExcOwn
import HandS.WordsExc
import HandS.TryOnly
import HandS.ExcInit
import HandS.ExcField
import HandS.ExcCtx
import HandS.ExcIs
import KE.KExcIs
import KE.KIsAll
import PyProof.Rows.StrMul
import KE.KStateDown
import HandS.Head2
import HandS.EndBits
import PySem.Challenge.RW_surebook_k49_texts_refused
set_option Elab.async false
set_option linter.all false
set_option maxRecDepth 100000
set_option maxHeartbeats 8000000
set_option autoImplicit false
set_option exponentiation.threshold 100000000
namespace SB
open PySem PySem.Spec PyProof.Rows L2
def topS (i : Nat) : Stmt := PySem.Challenge.pw_surebook_k49_texts_refused.main.body.getD i (.Pass ⟨0, 0, 0, 0⟩)
section
open PySem.W PySem.Calls
def topNames0 : List Str := [Str.ofString "SureError", Str.ofString "NoRatio", Str.ofString "NoFair", Str.ofString "NoChance", Str.ofString "NoText", Str.ofString "NoRow", Str.ofString "NoName", Str.ofString "common", Str.ofString "ratio", Str.ofString "LETTERS", Str.ofString "FIGURES", Str.ofString "MOST_LETTERS", Str.ofString "MOST_FIGURES", Str.ofString "is_name", Str.ofString "is_whole_word", Str.ofString "read_ratio", Str.ofString "MOST_OFFERS", Str.ofString "MOST_WORLDS", Str.ofString "Row", Str.ofString "read_names", Str.ofString "read_offer", Str.ofString "read", Str.ofString "_law_cell", Str.ofString "_law_whole", Str.ofString "_law_ratio", Str.ofString "_law_is", Str.ofString "_law_bag", Str.ofString "_law_take", Str.ofString "_law_letters", Str.ofString "_law_names"]
def topNames1 : List Str := [Str.ofString "_law_part", Str.ofString "_law_any_offer", Str.ofString "_law_show", Str.ofString "_law_line", Str.ofString "_law_lines", Str.ofString "_law_bad_words", Str.ofString "_law_bad_line", Str.ofString "_law_bad_heads", Str.ofString "_law_refusal", Str.ofString "_law_refused", Str.ofString "_law_spoilt_good"]
def looseN : List Str := topNames0 ++ topNames1
/-- the head by one run of the top in the kernel -/
theorem head_K {r : PySem.W.OpenRow} {q : Program} (K : Params → PySem.W.Frag) (as : List Addr) (e : ∀ P, as = (K P).map (·.1)) {M : Nat} {loose : List Str} {d : DefRec} {kwd : List (Str × Expr)}
    (e1 : opening r.prog = plainProg r.prog.main.scope.names) (f : ∀ s, fenceModules? r.prog s = some s) (run : ∀ w, HandSHeadRun.RunEq r q (PySem.W.kHook K as e) (fun s => as.map (HandSHeadRun.getT s)) M loose w)
    (hdef : PySem.W.defOf q r.name = some (d, kwd)) (hp : r.prog.theDef r.name = some (d.params, d.body, d.scope)) (hk : kwWritten? d.params.kwonlyargs d.params.kw_defaults = some kwd)
    (hwr : (!r.writes || r.records.isEmpty) = true) (k1 : r.wellSaid = true) (ok : (PySem.W.chainsOk q && PySem.W.opensWell r.prog && (PySem.W.frees r.toRowW && r.within.isEmpty)) = true) (hb : r.prog.bare) (hw : r.toRowW.promised)
    (call : PySem.W.WalkO q loose (PySem.W.XL q []) (PySem.W.kHook K as e).says r.toRowW d kwd fun f vs => PySem.call f vs) : r.Holds :=
  HandSHeadRun.head_any (H := PySem.W.kHook K as e) (ob := fun s => as.map (HandSHeadRun.getT s)) (fun s => List.map_congr_left fun a _ => HandSHeadRun.getT_eq s a) e1 f run hdef hp hk hwr k1 ok hb hw call
local macro_rules | `(tactic| o_head ($_:ident $k $a $e)) => `(tactic| refine SB.head_K (q := PySem.W.view (PySem.W.OpenLaw.row PySem.Challenge.rw_surebook_k49_texts_refused).prog [46]) (M := 20000) (loose := SB.looseN) (d := HandSHeadRun.topDef (PySem.W.OpenLaw.row PySem.Challenge.rw_surebook_k49_texts_refused).prog 46) (kwd := []) $k $a $e
    (by kernel_rfl) (fun s => by kernel_rfl) (fun w os => by kernel_rfl) (by kernel_rfl) (by kernel_rfl) (by kernel_rfl) (by rfl) (by first | assumption | decide +kernel) (by decide +kernel) ⟨rfl, rfl, rfl, rfl, rfl, by decide +kernel⟩ ?_ ?_)
set_option maxHeartbeats 0 in
theorem early (sp : PySem.W.Frag → Sp)
    (hsp : ∀ (K : PySem.W.Frag) (H : Hp) (a : Addr) (ns : List Int), ns.length ≤ 63 → (∀ z ∈ ns, Builtin.Int.intBits z ≤ 1048576) → Only H → SqL K H a (ns.map V.int) → sp K [.ref a] H (fun v _ => v = .bl true) fun _ _ _ => False)
    (amk : ∀ {l : PySem.W.OpenLaw} {w : World} {K : PySem.W.Frag} {h : Heap} {mg : Str → Option Value} {fa : Addr} (X : K.In h) (G : h.Ns mainGlobals mg) (hfa : mg "law" = some (.ref fa))
    {X_SureError : Addr}
    {X_NoChance : Addr}
    {X_NoFair : Addr}
    {X_NoName : Addr}
    {X_NoRatio : Addr}
    {X_NoRow : Addr}
    {X_NoText : Addr}
    {nm_NoText qq_NoText : Str} {N_NoText : Addr} {bs_NoText : List Value} {sn_NoText : List Str} {sub_NoText : List Value} {ab_NoText : Bool} {col_NoText : Option Bool} {dd_NoText : Option Addr} {m0_NoText m1_NoText m2_NoText m3_NoText m5_NoText : Option Value} {fI_NoText : Addr} {odI_NoText anI_NoText : Option Addr} {slI_NoText : Array (Option Value)} {ocI_NoText kVI_NoText dcI_NoText pmI_NoText cdI_NoText ctI_NoText : Value}
    {C_Row : Addr}
    {f0 : Addr} {od0 an0 : Option Addr} {sl0 : Array (Option Value)} {oc0 kV0 dc0 pm0 cd0 ct0 : Value}
    {f1 : Addr} {od1 an1 : Option Addr} {sl1 : Array (Option Value)} {oc1 kV1 dc1 pm1 cd1 ct1 : Value}
    {f2 : Addr} {od2 an2 : Option Addr} {sl2 : Array (Option Value)} {oc2 kV2 dc2 pm2 cd2 ct2 : Value}
    {f3 : Addr} {od3 an3 : Option Addr} {sl3 : Array (Option Value)} {oc3 kV3 dc3 pm3 cd3 ct3 : Value}
    {f4 : Addr} {od4 an4 : Option Addr} {sl4 : Array (Option Value)} {oc4 kV4 dc4 pm4 cd4 ct4 : Value}
    {f5 : Addr} {od5 an5 : Option Addr} {sl5 : Array (Option Value)} {oc5 kV5 dc5 pm5 cd5 ct5 : Value}
    {f6 : Addr} {od6 an6 : Option Addr} {sl6 : Array (Option Value)} {oc6 kV6 dc6 pm6 cd6 ct6 : Value}
    {f7 : Addr} {od7 an7 : Option Addr} {sl7 : Array (Option Value)} {oc7 kV7 dc7 pm7 cd7 ct7 : Value}
    {f8 : Addr} {od8 an8 : Option Addr} {sl8 : Array (Option Value)} {oc8 kV8 dc8 pm8 cd8 ct8 : Value}
    {f9 : Addr} {od9 an9 : Option Addr} {sl9 : Array (Option Value)} {oc9 kV9 dc9 pm9 cd9 ct9 : Value}
    {f10 : Addr} {od10 an10 : Option Addr} {sl10 : Array (Option Value)} {oc10 kV10 dc10 pm10 cd10 ct10 : Value}
    {f11 : Addr} {od11 an11 : Option Addr} {sl11 : Array (Option Value)} {oc11 kV11 dc11 pm11 cd11 ct11 : Value}
    {f12 : Addr} {od12 an12 : Option Addr} {sl12 : Array (Option Value)} {oc12 kV12 dc12 pm12 cd12 ct12 : Value}
    {f13 : Addr} {od13 an13 : Option Addr} {sl13 : Array (Option Value)} {oc13 kV13 dc13 pm13 cd13 ct13 : Value}
    {f14 : Addr} {od14 an14 : Option Addr} {sl14 : Array (Option Value)} {oc14 kV14 dc14 pm14 cd14 ct14 : Value}
    {f15 : Addr} {od15 an15 : Option Addr} {sl15 : Array (Option Value)} {oc15 kV15 dc15 pm15 cd15 ct15 : Value}
    {f16 : Addr} {od16 an16 : Option Addr} {sl16 : Array (Option Value)} {oc16 kV16 dc16 pm16 cd16 ct16 : Value}
    {f17 : Addr} {od17 an17 : Option Addr} {sl17 : Array (Option Value)} {oc17 kV17 dc17 pm17 cd17 ct17 : Value}
    {f18 : Addr} {od18 an18 : Option Addr} {sl18 : Array (Option Value)} {oc18 kV18 dc18 pm18 cd18 ct18 : Value}
    {f19 : Addr} {od19 an19 : Option Addr} {sl19 : Array (Option Value)} {oc19 kV19 dc19 pm19 cd19 ct19 : Value}
    {f20 : Addr} {od20 an20 : Option Addr} {sl20 : Array (Option Value)} {oc20 kV20 dc20 pm20 cd20 ct20 : Value}
    {f21 : Addr} {od21 an21 : Option Addr} {sl21 : Array (Option Value)} {oc21 kV21 dc21 pm21 cd21 ct21 : Value}
    {f22 : Addr} {od22 an22 : Option Addr} {sl22 : Array (Option Value)} {oc22 kV22 dc22 pm22 cd22 ct22 : Value}
    {f23 : Addr} {od23 an23 : Option Addr} {sl23 : Array (Option Value)} {oc23 kV23 dc23 pm23 cd23 ct23 : Value}
    {f24 : Addr} {od24 an24 : Option Addr} {sl24 : Array (Option Value)} {oc24 kV24 dc24 pm24 cd24 ct24 : Value}
    {f25 : Addr} {od25 an25 : Option Addr} {sl25 : Array (Option Value)} {oc25 kV25 dc25 pm25 cd25 ct25 : Value}
    {f26 : Addr} {od26 an26 : Option Addr} {sl26 : Array (Option Value)} {oc26 kV26 dc26 pm26 cd26 ct26 : Value}
    {f27 : Addr} {od27 an27 : Option Addr} {sl27 : Array (Option Value)} {oc27 kV27 dc27 pm27 cd27 ct27 : Value}
    {f28 : Addr} {od28 an28 : Option Addr} {sl28 : Array (Option Value)} {oc28 kV28 dc28 pm28 cd28 ct28 : Value}
    {f29 : Addr} {od29 an29 : Option Addr} {sl29 : Array (Option Value)} {oc29 kV29 dc29 pm29 cd29 ct29 : Value}
    {f30 : Addr} {od30 an30 : Option Addr} {sl30 : Array (Option Value)} {oc30 kV30 dc30 pm30 cd30 ct30 : Value}
    {f31 : Addr} {od31 an31 : Option Addr} {sl31 : Array (Option Value)} {oc31 kV31 dc31 pm31 cd31 ct31 : Value}
    {f32 : Addr} {od32 an32 : Option Addr} {sl32 : Array (Option Value)} {oc32 kV32 dc32 pm32 cd32 ct32 : Value}
    {tk_FIGURES : Tok}
    {tk_LETTERS : Tok}
    {tk_MOST_FIGURES : Tok}
    {tk_MOST_LETTERS : Tok}
    {tk_MOST_OFFERS : Tok}
    {tk_MOST_WORLDS : Tok}
    (aX_SureError : PySem.W.nsIn K mainGlobals "SureError" = some (some (.ref X_SureError)))
    (rd_SureError : PySem.W.readsIn K X_SureError (.type "type") = true) (ga_SureError : PySem.W.specialIn K (.ref X_SureError) "__getattribute__" = some (some (.builtin "type.__getattribute__"))) (vi_SureError : PySem.W.findCls K (.ref X_SureError) (.type "type") "__init__" = some (.val (.builtin "ValueError.__init__")))
    (kX_SureError : PySem.W.keepIn K (.ref X_SureError) = true) (bX_SureError : PySem.W.subIn K (.ref X_SureError) (.type "BaseException") = some true) (tX_SureError : PySem.W.typeIn K (.ref X_SureError) = some (.type "type")) (iX_SureError : PySem.W.isClsIn K X_SureError = true)
    (aX_NoChance : PySem.W.nsIn K mainGlobals "NoChance" = some (some (.ref X_NoChance)))
    (kX_NoChance : PySem.W.keepIn K (.ref X_NoChance) = true) (bX_NoChance : PySem.W.subIn K (.ref X_NoChance) (.type "BaseException") = some true) (tX_NoChance : PySem.W.typeIn K (.ref X_NoChance) = some (.type "type")) (iX_NoChance : PySem.W.isClsIn K X_NoChance = true)
    (aX_NoFair : PySem.W.nsIn K mainGlobals "NoFair" = some (some (.ref X_NoFair)))
    (kX_NoFair : PySem.W.keepIn K (.ref X_NoFair) = true) (bX_NoFair : PySem.W.subIn K (.ref X_NoFair) (.type "BaseException") = some true) (tX_NoFair : PySem.W.typeIn K (.ref X_NoFair) = some (.type "type")) (iX_NoFair : PySem.W.isClsIn K X_NoFair = true)
    (aX_NoName : PySem.W.nsIn K mainGlobals "NoName" = some (some (.ref X_NoName)))
    (kX_NoName : PySem.W.keepIn K (.ref X_NoName) = true) (bX_NoName : PySem.W.subIn K (.ref X_NoName) (.type "BaseException") = some true) (tX_NoName : PySem.W.typeIn K (.ref X_NoName) = some (.type "type")) (iX_NoName : PySem.W.isClsIn K X_NoName = true)
    (aX_NoRatio : PySem.W.nsIn K mainGlobals "NoRatio" = some (some (.ref X_NoRatio)))
    (kX_NoRatio : PySem.W.keepIn K (.ref X_NoRatio) = true) (bX_NoRatio : PySem.W.subIn K (.ref X_NoRatio) (.type "BaseException") = some true) (tX_NoRatio : PySem.W.typeIn K (.ref X_NoRatio) = some (.type "type")) (iX_NoRatio : PySem.W.isClsIn K X_NoRatio = true)
    (aX_NoRow : PySem.W.nsIn K mainGlobals "NoRow" = some (some (.ref X_NoRow)))
    (kX_NoRow : PySem.W.keepIn K (.ref X_NoRow) = true) (bX_NoRow : PySem.W.subIn K (.ref X_NoRow) (.type "BaseException") = some true) (tX_NoRow : PySem.W.typeIn K (.ref X_NoRow) = some (.type "type")) (iX_NoRow : PySem.W.isClsIn K X_NoRow = true)
    (aX_NoText : PySem.W.nsIn K mainGlobals "NoText" = some (some (.ref X_NoText)))
    (kX_NoText : PySem.W.keepIn K (.ref X_NoText) = true) (bX_NoText : PySem.W.subIn K (.ref X_NoText) (.type "BaseException") = some true) (tX_NoText : PySem.W.typeIn K (.ref X_NoText) = some (.type "type")) (iX_NoText : PySem.W.isClsIn K X_NoText = true)
    (eha_NoText : PySem.W.findIn K (.ref X_NoText) "__class__" = some (some (.builtin "object.__class__"))) (ehm_NoText : PySem.W.mroIn K X_NoText (.type "object") = some true)
    (fga_NoText : PySem.W.findIn K (.ref X_NoText) "__getattribute__" = some (some (.builtin "BaseException.__getattribute__"))) (fgg_NoText : PySem.W.findIn K (.ref X_NoText) "__getattr__" = some none) (fhd_NoText : PySem.W.hasDictIn K X_NoText = true)
    (lX_NoText : K.lookup X_NoText = some (excClassObj nm_NoText qq_NoText X_NoText N_NoText bs_NoText [.ref X_SureError, .type "ValueError", .type "Exception", .type "BaseException", .type "object"] true sn_NoText sub_NoText ab_NoText col_NoText dd_NoText m0_NoText m1_NoText m2_NoText m3_NoText m5_NoText "ValueError.__new__")) (saX_NoText : PySem.W.findIn K (.ref X_NoText) "__setattr__" = some (some (.builtin "object.__setattr__"))) (nX_NoText : PySem.W.findIn K (.ref X_NoText) "at" = some none) (aI_NoText : PySem.W.findIn K (.ref X_NoText) "__init__" = some (some (.ref fI_NoText))) (tI_NoText : PySem.W.typeIn K (.ref fI_NoText) = some (.type "function")) (lI_NoText : K.lookup fI_NoText = some ⟨ocI_NoText, odI_NoText, .func (PySem.W.fnOf "__init__" "NoText.__init__" (defArgs (inClass (topS 5) 0)) (defBody (inClass (topS 5) 0)) (defScope (inClass (topS 5) 0)) .none kVI_NoText dcI_NoText pmI_NoText anI_NoText cdI_NoText ctI_NoText), slI_NoText⟩) (cI_NoText : PySem.W.codeIn K cdI_NoText "NoText.__init__" = true) (kI_NoText : PySem.W.keepIn K (.ref fI_NoText) = true)
    (ehn : PySem.W.specialIn K (.builtin "object.__class__") "__get__" = some (some (.builtin "getset_descriptor.__get__"))) (eht : PySem.W.takesIn K (.builtin "object.__class__") = some true)
    (essX_NoText : PySem.W.subIn K (.ref X_NoText) (.ref X_NoText) = some true)
    (esX_NoText_NoChance : PySem.W.subIn K (.ref X_NoText) (.ref X_NoChance) = some false)
    (esX_NoText_NoFair : PySem.W.subIn K (.ref X_NoText) (.ref X_NoFair) = some false)
    (esX_NoText_NoName : PySem.W.subIn K (.ref X_NoText) (.ref X_NoName) = some false)
    (esX_NoText_NoRatio : PySem.W.subIn K (.ref X_NoText) (.ref X_NoRatio) = some false)
    (esX_NoText_NoRow : PySem.W.subIn K (.ref X_NoText) (.ref X_NoRow) = some false)
    (esX_NoText_NoText : PySem.W.subIn K (.ref X_NoText) (.ref X_NoText) = some true)
    (ebX_NoText_ValueError : PySem.W.subIn K (.ref X_NoText) (.type "ValueError") = some true)
    (sX_NoText_SureError : PySem.W.subIn K (.ref X_NoText) (.ref X_SureError) = some true)
    (aC_Row : PySem.W.nsIn K mainGlobals "Row" = some (some (.ref C_Row))) (pg_Row : PySem.W.plainGet K C_Row Str.empty = true) (hd_Row : PySem.W.hasDictIn K C_Row = true) (po_Row : PySem.W.plainOver K C_Row = true) (sa_Row : PySem.W.findIn K (.ref C_Row) "__setattr__" = some (some (.builtin "object.__setattr__"))) (mk_Row : PySem.W.makesIn K C_Row = true) (kc_Row : PySem.W.keepIn K (.ref C_Row) = true) (n_Row_rest : PySem.W.findIn K (.ref C_Row) "rest" = some none) (n_Row_at : PySem.W.findIn K (.ref C_Row) "at" = some none)
    (a0 : PySem.W.nsIn K mainGlobals "common" = some (some (.ref f0))) (l0 : K.lookup f0 = some ⟨oc0, od0, .func (PySem.W.fnOf "common" "common" (defArgs (topS 9)) (defBody (topS 9)) (defScope (topS 9)) .none kV0 dc0 pm0 an0 cd0 ct0), sl0⟩) (c0 : PySem.W.codeIn K cd0 "common" = true) (k0 : PySem.W.keepIn K (.ref f0) = true)
    (a1 : PySem.W.nsIn K mainGlobals "ratio" = some (some (.ref f1))) (l1 : K.lookup f1 = some ⟨oc1, od1, .func (PySem.W.fnOf "ratio" "ratio" (defArgs (topS 10)) (defBody (topS 10)) (defScope (topS 10)) .none kV1 dc1 pm1 an1 cd1 ct1), sl1⟩) (c1 : PySem.W.codeIn K cd1 "ratio" = true) (k1 : PySem.W.keepIn K (.ref f1) = true)
    (a2 : PySem.W.nsIn K mainGlobals "is_name" = some (some (.ref f2))) (l2 : K.lookup f2 = some ⟨oc2, od2, .func (PySem.W.fnOf "is_name" "is_name" (defArgs (topS 16)) (defBody (topS 16)) (defScope (topS 16)) .none kV2 dc2 pm2 an2 cd2 ct2), sl2⟩) (c2 : PySem.W.codeIn K cd2 "is_name" = true) (k2 : PySem.W.keepIn K (.ref f2) = true)
    (a3 : PySem.W.nsIn K mainGlobals "is_whole_word" = some (some (.ref f3))) (l3 : K.lookup f3 = some ⟨oc3, od3, .func (PySem.W.fnOf "is_whole_word" "is_whole_word" (defArgs (topS 17)) (defBody (topS 17)) (defScope (topS 17)) .none kV3 dc3 pm3 an3 cd3 ct3), sl3⟩) (c3 : PySem.W.codeIn K cd3 "is_whole_word" = true) (k3 : PySem.W.keepIn K (.ref f3) = true)
    (a4 : PySem.W.nsIn K mainGlobals "read_ratio" = some (some (.ref f4))) (l4 : K.lookup f4 = some ⟨oc4, od4, .func (PySem.W.fnOf "read_ratio" "read_ratio" (defArgs (topS 18)) (defBody (topS 18)) (defScope (topS 18)) .none kV4 dc4 pm4 an4 cd4 ct4), sl4⟩) (c4 : PySem.W.codeIn K cd4 "read_ratio" = true) (k4 : PySem.W.keepIn K (.ref f4) = true)
    (a5 : PySem.W.findIn K (.ref C_Row) "__init__" = some (some (.ref f5))) (i5 : PySem.W.isFn K (.ref f5) = true) (l5 : K.lookup f5 = some ⟨oc5, od5, .func (PySem.W.fnOf "__init__" "Row.__init__" (defArgs (inClass (topS 22) 0)) (defBody (inClass (topS 22) 0)) (defScope (inClass (topS 22) 0)) .none kV5 dc5 pm5 an5 cd5 ct5), sl5⟩) (c5 : PySem.W.codeIn K cd5 "Row.__init__" = true) (k5 : PySem.W.keepIn K (.ref f5) = true)
    (a6 : PySem.W.findIn K (.ref C_Row) "refuse" = some (some (.ref f6))) (i6 : PySem.W.isFn K (.ref f6) = true) (l6 : K.lookup f6 = some ⟨oc6, od6, .func (PySem.W.fnOf "refuse" "Row.refuse" (defArgs (inClass (topS 22) 1)) (defBody (inClass (topS 22) 1)) (defScope (inClass (topS 22) 1)) .none kV6 dc6 pm6 an6 cd6 ct6), sl6⟩) (c6 : PySem.W.codeIn K cd6 "Row.refuse" = true) (k6 : PySem.W.keepIn K (.ref f6) = true)
    (a7 : PySem.W.findIn K (.ref C_Row) "next_word" = some (some (.ref f7))) (i7 : PySem.W.isFn K (.ref f7) = true) (l7 : K.lookup f7 = some ⟨oc7, od7, .func (PySem.W.fnOf "next_word" "Row.next_word" (defArgs (inClass (topS 22) 2)) (defBody (inClass (topS 22) 2)) (defScope (inClass (topS 22) 2)) .none kV7 dc7 pm7 an7 cd7 ct7), sl7⟩) (c7 : PySem.W.codeIn K cd7 "Row.next_word" = true) (k7 : PySem.W.keepIn K (.ref f7) = true)
    (a8 : PySem.W.findIn K (.ref C_Row) "next_ratio" = some (some (.ref f8))) (i8 : PySem.W.isFn K (.ref f8) = true) (l8 : K.lookup f8 = some ⟨oc8, od8, .func (PySem.W.fnOf "next_ratio" "Row.next_ratio" (defArgs (inClass (topS 22) 3)) (defBody (inClass (topS 22) 3)) (defScope (inClass (topS 22) 3)) .none kV8 dc8 pm8 an8 cd8 ct8), sl8⟩) (c8 : PySem.W.codeIn K cd8 "Row.next_ratio" = true) (k8 : PySem.W.keepIn K (.ref f8) = true)
    (a9 : PySem.W.findIn K (.ref C_Row) "price_behind" = some (some (.ref f9))) (i9 : PySem.W.isFn K (.ref f9) = true) (l9 : K.lookup f9 = some ⟨oc9, od9, .func (PySem.W.fnOf "price_behind" "Row.price_behind" (defArgs (inClass (topS 22) 4)) (defBody (inClass (topS 22) 4)) (defScope (inClass (topS 22) 4)) .none kV9 dc9 pm9 an9 cd9 ct9), sl9⟩) (c9 : PySem.W.codeIn K cd9 "Row.price_behind" = true) (k9 : PySem.W.keepIn K (.ref f9) = true)
    (a10 : PySem.W.findIn K (.ref C_Row) "event_behind" = some (some (.ref f10))) (i10 : PySem.W.isFn K (.ref f10) = true) (l10 : K.lookup f10 = some ⟨oc10, od10, .func (PySem.W.fnOf "event_behind" "Row.event_behind" (defArgs (inClass (topS 22) 5)) (defBody (inClass (topS 22) 5)) (defScope (inClass (topS 22) 5)) .none kV10 dc10 pm10 an10 cd10 ct10), sl10⟩) (c10 : PySem.W.codeIn K cd10 "Row.event_behind" = true) (k10 : PySem.W.keepIn K (.ref f10) = true)
    (a11 : PySem.W.nsIn K mainGlobals "read_names" = some (some (.ref f11))) (l11 : K.lookup f11 = some ⟨oc11, od11, .func (PySem.W.fnOf "read_names" "read_names" (defArgs (topS 23)) (defBody (topS 23)) (defScope (topS 23)) .none kV11 dc11 pm11 an11 cd11 ct11), sl11⟩) (c11 : PySem.W.codeIn K cd11 "read_names" = true) (k11 : PySem.W.keepIn K (.ref f11) = true)
    (a12 : PySem.W.nsIn K mainGlobals "read_offer" = some (some (.ref f12))) (l12 : K.lookup f12 = some ⟨oc12, od12, .func (PySem.W.fnOf "read_offer" "read_offer" (defArgs (topS 24)) (defBody (topS 24)) (defScope (topS 24)) .none kV12 dc12 pm12 an12 cd12 ct12), sl12⟩) (c12 : PySem.W.codeIn K cd12 "read_offer" = true) (k12 : PySem.W.keepIn K (.ref f12) = true)
    (a13 : PySem.W.nsIn K mainGlobals "read" = some (some (.ref f13))) (l13 : K.lookup f13 = some ⟨oc13, od13, .func (PySem.W.fnOf "read" "read" (defArgs (topS 25)) (defBody (topS 25)) (defScope (topS 25)) .none kV13 dc13 pm13 an13 cd13 ct13), sl13⟩) (c13 : PySem.W.codeIn K cd13 "read" = true) (k13 : PySem.W.keepIn K (.ref f13) = true)
    (a14 : PySem.W.nsIn K mainGlobals "_law_cell" = some (some (.ref f14))) (l14 : K.lookup f14 = some ⟨oc14, od14, .func (PySem.W.fnOf "_law_cell" "_law_cell" (defArgs (topS 27)) (defBody (topS 27)) (defScope (topS 27)) .none kV14 dc14 pm14 an14 cd14 ct14), sl14⟩) (c14 : PySem.W.codeIn K cd14 "_law_cell" = true) (k14 : PySem.W.keepIn K (.ref f14) = true)
    (a15 : PySem.W.nsIn K mainGlobals "_law_whole" = some (some (.ref f15))) (l15 : K.lookup f15 = some ⟨oc15, od15, .func (PySem.W.fnOf "_law_whole" "_law_whole" (defArgs (topS 28)) (defBody (topS 28)) (defScope (topS 28)) .none kV15 dc15 pm15 an15 cd15 ct15), sl15⟩) (c15 : PySem.W.codeIn K cd15 "_law_whole" = true) (k15 : PySem.W.keepIn K (.ref f15) = true)
    (a16 : PySem.W.nsIn K mainGlobals "_law_ratio" = some (some (.ref f16))) (l16 : K.lookup f16 = some ⟨oc16, od16, .func (PySem.W.fnOf "_law_ratio" "_law_ratio" (defArgs (topS 29)) (defBody (topS 29)) (defScope (topS 29)) .none kV16 dc16 pm16 an16 cd16 ct16), sl16⟩) (c16 : PySem.W.codeIn K cd16 "_law_ratio" = true) (k16 : PySem.W.keepIn K (.ref f16) = true)
    (a17 : PySem.W.nsIn K mainGlobals "_law_bag" = some (some (.ref f17))) (l17 : K.lookup f17 = some ⟨oc17, od17, .func (PySem.W.fnOf "_law_bag" "_law_bag" (defArgs (topS 31)) (defBody (topS 31)) (defScope (topS 31)) .none kV17 dc17 pm17 an17 cd17 ct17), sl17⟩) (c17 : PySem.W.codeIn K cd17 "_law_bag" = true) (k17 : PySem.W.keepIn K (.ref f17) = true)
    (a18 : PySem.W.nsIn K mainGlobals "_law_take" = some (some (.ref f18))) (l18 : K.lookup f18 = some ⟨oc18, od18, .func (PySem.W.fnOf "_law_take" "_law_take" (defArgs (topS 32)) (defBody (topS 32)) (defScope (topS 32)) .none kV18 dc18 pm18 an18 cd18 ct18), sl18⟩) (c18 : PySem.W.codeIn K cd18 "_law_take" = true) (k18 : PySem.W.keepIn K (.ref f18) = true)
    (a19 : PySem.W.nsIn K mainGlobals "_law_letters" = some (some (.ref f19))) (l19 : K.lookup f19 = some ⟨oc19, od19, .func (PySem.W.fnOf "_law_letters" "_law_letters" (defArgs (topS 33)) (defBody (topS 33)) (defScope (topS 33)) .none kV19 dc19 pm19 an19 cd19 ct19), sl19⟩) (c19 : PySem.W.codeIn K cd19 "_law_letters" = true) (k19 : PySem.W.keepIn K (.ref f19) = true)
    (a20 : PySem.W.nsIn K mainGlobals "_law_names" = some (some (.ref f20))) (l20 : K.lookup f20 = some ⟨oc20, od20, .func (PySem.W.fnOf "_law_names" "_law_names" (defArgs (topS 34)) (defBody (topS 34)) (defScope (topS 34)) .none kV20 dc20 pm20 an20 cd20 ct20), sl20⟩) (c20 : PySem.W.codeIn K cd20 "_law_names" = true) (k20 : PySem.W.keepIn K (.ref f20) = true)
    (a21 : PySem.W.nsIn K mainGlobals "_law_part" = some (some (.ref f21))) (l21 : K.lookup f21 = some ⟨oc21, od21, .func (PySem.W.fnOf "_law_part" "_law_part" (defArgs (topS 35)) (defBody (topS 35)) (defScope (topS 35)) .none kV21 dc21 pm21 an21 cd21 ct21), sl21⟩) (c21 : PySem.W.codeIn K cd21 "_law_part" = true) (k21 : PySem.W.keepIn K (.ref f21) = true)
    (a22 : PySem.W.nsIn K mainGlobals "_law_any_offer" = some (some (.ref f22))) (l22 : K.lookup f22 = some ⟨oc22, od22, .func (PySem.W.fnOf "_law_any_offer" "_law_any_offer" (defArgs (topS 36)) (defBody (topS 36)) (defScope (topS 36)) .none kV22 dc22 pm22 an22 cd22 ct22), sl22⟩) (c22 : PySem.W.codeIn K cd22 "_law_any_offer" = true) (k22 : PySem.W.keepIn K (.ref f22) = true)
    (a23 : PySem.W.nsIn K mainGlobals "_law_show" = some (some (.ref f23))) (l23 : K.lookup f23 = some ⟨oc23, od23, .func (PySem.W.fnOf "_law_show" "_law_show" (defArgs (topS 37)) (defBody (topS 37)) (defScope (topS 37)) .none kV23 dc23 pm23 an23 cd23 ct23), sl23⟩) (c23 : PySem.W.codeIn K cd23 "_law_show" = true) (k23 : PySem.W.keepIn K (.ref f23) = true)
    (a24 : PySem.W.nsIn K mainGlobals "_law_line" = some (some (.ref f24))) (l24 : K.lookup f24 = some ⟨oc24, od24, .func (PySem.W.fnOf "_law_line" "_law_line" (defArgs (topS 38)) (defBody (topS 38)) (defScope (topS 38)) .none kV24 dc24 pm24 an24 cd24 ct24), sl24⟩) (c24 : PySem.W.codeIn K cd24 "_law_line" = true) (k24 : PySem.W.keepIn K (.ref f24) = true)
    (a25 : PySem.W.nsIn K mainGlobals "_law_lines" = some (some (.ref f25))) (l25 : K.lookup f25 = some ⟨oc25, od25, .func (PySem.W.fnOf "_law_lines" "_law_lines" (defArgs (topS 39)) (defBody (topS 39)) (defScope (topS 39)) .none kV25 dc25 pm25 an25 cd25 ct25), sl25⟩) (c25 : PySem.W.codeIn K cd25 "_law_lines" = true) (k25 : PySem.W.keepIn K (.ref f25) = true)
    (a26 : PySem.W.nsIn K mainGlobals "_law_bad_words" = some (some (.ref f26))) (l26 : K.lookup f26 = some ⟨oc26, od26, .func (PySem.W.fnOf "_law_bad_words" "_law_bad_words" (defArgs (topS 40)) (defBody (topS 40)) (defScope (topS 40)) .none kV26 dc26 pm26 an26 cd26 ct26), sl26⟩) (c26 : PySem.W.codeIn K cd26 "_law_bad_words" = true) (k26 : PySem.W.keepIn K (.ref f26) = true)
    (a27 : PySem.W.nsIn K mainGlobals "_law_bad_line" = some (some (.ref f27))) (l27 : K.lookup f27 = some ⟨oc27, od27, .func (PySem.W.fnOf "_law_bad_line" "_law_bad_line" (defArgs (topS 41)) (defBody (topS 41)) (defScope (topS 41)) .none kV27 dc27 pm27 an27 cd27 ct27), sl27⟩) (c27 : PySem.W.codeIn K cd27 "_law_bad_line" = true) (k27 : PySem.W.keepIn K (.ref f27) = true)
    (a28 : PySem.W.nsIn K mainGlobals "_law_bad_heads" = some (some (.ref f28))) (l28 : K.lookup f28 = some ⟨oc28, od28, .func (PySem.W.fnOf "_law_bad_heads" "_law_bad_heads" (defArgs (topS 42)) (defBody (topS 42)) (defScope (topS 42)) .none kV28 dc28 pm28 an28 cd28 ct28), sl28⟩) (c28 : PySem.W.codeIn K cd28 "_law_bad_heads" = true) (k28 : PySem.W.keepIn K (.ref f28) = true)
    (a29 : PySem.W.nsIn K mainGlobals "_law_refusal" = some (some (.ref f29))) (l29 : K.lookup f29 = some ⟨oc29, od29, .func (PySem.W.fnOf "_law_refusal" "_law_refusal" (defArgs (topS 43)) (defBody (topS 43)) (defScope (topS 43)) .none kV29 dc29 pm29 an29 cd29 ct29), sl29⟩) (c29 : PySem.W.codeIn K cd29 "_law_refusal" = true) (k29 : PySem.W.keepIn K (.ref f29) = true)
    (a30 : PySem.W.nsIn K mainGlobals "_law_refused" = some (some (.ref f30))) (l30 : K.lookup f30 = some ⟨oc30, od30, .func (PySem.W.fnOf "_law_refused" "_law_refused" (defArgs (topS 44)) (defBody (topS 44)) (defScope (topS 44)) .none kV30 dc30 pm30 an30 cd30 ct30), sl30⟩) (c30 : PySem.W.codeIn K cd30 "_law_refused" = true) (k30 : PySem.W.keepIn K (.ref f30) = true)
    (a31 : PySem.W.nsIn K mainGlobals "_law_spoilt_good" = some (some (.ref f31))) (l31 : K.lookup f31 = some ⟨oc31, od31, .func (PySem.W.fnOf "_law_spoilt_good" "_law_spoilt_good" (defArgs (topS 45)) (defBody (topS 45)) (defScope (topS 45)) .none kV31 dc31 pm31 an31 cd31 ct31), sl31⟩) (c31 : PySem.W.codeIn K cd31 "_law_spoilt_good" = true) (k31 : PySem.W.keepIn K (.ref f31) = true)
    (a32 : PySem.W.nsIn K mainGlobals "law" = some (some (.ref f32))) (l32 : K.lookup f32 = some ⟨oc32, od32, .func (PySem.W.fnOf "law" "law" (defArgs (topS 46)) (defBody (topS 46)) (defScope (topS 46)) .none kV32 dc32 pm32 an32 cd32 ct32), sl32⟩) (c32 : PySem.W.codeIn K cd32 "law" = true) (k32 : PySem.W.keepIn K (.ref f32) = true)
    (z_ValueError : PySem.W.nsIn K mainGlobals "ValueError" = some none)
    (z_abs : PySem.W.nsIn K mainGlobals "abs" = some none)
    (z_bool : PySem.W.nsIn K mainGlobals "bool" = some none)
    (z_int : PySem.W.nsIn K mainGlobals "int" = some none)
    (z_isinstance : PySem.W.nsIn K mainGlobals "isinstance" = some none)
    (z_len : PySem.W.nsIn K mainGlobals "len" = some none)
    (z_range : PySem.W.nsIn K mainGlobals "range" = some none)
    (z_str : PySem.W.nsIn K mainGlobals "str" = some none)
    (z_tuple : PySem.W.nsIn K mainGlobals "tuple" = some none)
    (ak_FIGURES : PySem.W.nsIn K mainGlobals "FIGURES" = some (some (.str (Str.ofString "0123456789") tk_FIGURES)))
    (ak_LETTERS : PySem.W.nsIn K mainGlobals "LETTERS" = some (some (.str (Str.ofString "abcdefghijklmnopqrstuvwxyz") tk_LETTERS)))
    (ak_MOST_FIGURES : PySem.W.nsIn K mainGlobals "MOST_FIGURES" = some (some (.int 30 tk_MOST_FIGURES)))
    (ak_MOST_LETTERS : PySem.W.nsIn K mainGlobals "MOST_LETTERS" = some (some (.int 8 tk_MOST_LETTERS)))
    (ak_MOST_OFFERS : PySem.W.nsIn K mainGlobals "MOST_OFFERS" = some (some (.int 12 tk_MOST_OFFERS)))
    (ak_MOST_WORLDS : PySem.W.nsIn K mainGlobals "MOST_WORLDS" = some (some (.int 12 tk_MOST_WORLDS))),
    ∃ fd : FuncData, (∀ (s : Shared) (v : Value), BindsTo s fd ⟨[v], []⟩ [("_law_script", v)]) ∧ ∀ base : Heap, K.In base → base.Ns mainGlobals mg → FnOk l.prog w K mg base CX0 12 fa fd ["_law_script"] (sp K)) : PySem.Challenge.rw_surebook_k49_texts_refused.Holds := by
  w_on; o_law; k_head
  · w_witness2
  k_fill
  refine L2.walk_ofB (l := PySem.Challenge.rw_surebook_k49_texts_refused) (n := 63) (k := 12) (x := "_law_script") (CX := fun _ => L2.CX0) (sp := fun w => sp _) rfl (by decide) rfl ⟨rfl, by decide, by decide⟩ (fun w h Y => PySem.W.kIn_of Y) ?F (fun w H a ns hl hb ho hS => hsp _ H a ns hl hb ho hS) (fun _ _ _ _ _ h => h)
  case F =>
    intro w mg fa h KX G hmg
    refine' amk KX G hmg ?aX_SureError ?rd_SureError ?ga_SureError ?vi_SureError ?kX_SureError ?bX_SureError ?tX_SureError ?iX_SureError ?aX_NoChance ?kX_NoChance ?bX_NoChance ?tX_NoChance ?iX_NoChance ?aX_NoFair ?kX_NoFair ?bX_NoFair ?tX_NoFair ?iX_NoFair ?aX_NoName ?kX_NoName ?bX_NoName ?tX_NoName ?iX_NoName ?aX_NoRatio ?kX_NoRatio ?bX_NoRatio ?tX_NoRatio ?iX_NoRatio ?aX_NoRow ?kX_NoRow ?bX_NoRow ?tX_NoRow ?iX_NoRow ?aX_NoText ?kX_NoText ?bX_NoText ?tX_NoText ?iX_NoText ?eha_NoText ?ehm_NoText ?fga_NoText ?fgg_NoText ?fhd_NoText ?lX_NoText ?saX_NoText ?nX_NoText ?aI_NoText ?tI_NoText ?lI_NoText ?cI_NoText ?kI_NoText ?ehn ?eht ?essX_NoText ?esX_NoText_NoChance ?esX_NoText_NoFair ?esX_NoText_NoName ?esX_NoText_NoRatio ?esX_NoText_NoRow ?esX_NoText_NoText ?ebX_NoText_ValueError ?sX_NoText_SureError ?aC_Row ?pg_Row ?hd_Row ?po_Row ?sa_Row ?mk_Row ?kc_Row ?n_Row_rest ?n_Row_at ?a0 ?l0 ?c0 ?k0 ?a1 ?l1 ?c1 ?k1 ?a2 ?l2 ?c2 ?k2 ?a3 ?l3 ?c3 ?k3 ?a4 ?l4 ?c4 ?k4 ?a5 ?i5 ?l5 ?c5 ?k5 ?a6 ?i6 ?l6 ?c6 ?k6 ?a7 ?i7 ?l7 ?c7 ?k7 ?a8 ?i8 ?l8 ?c8 ?k8 ?a9 ?i9 ?l9 ?c9 ?k9 ?a10 ?i10 ?l10 ?c10 ?k10 ?a11 ?l11 ?c11 ?k11 ?a12 ?l12 ?c12 ?k12 ?a13 ?l13 ?c13 ?k13 ?a14 ?l14 ?c14 ?k14 ?a15 ?l15 ?c15 ?k15 ?a16 ?l16 ?c16 ?k16 ?a17 ?l17 ?c17 ?k17 ?a18 ?l18 ?c18 ?k18 ?a19 ?l19 ?c19 ?k19 ?a20 ?l20 ?c20 ?k20 ?a21 ?l21 ?c21 ?k21 ?a22 ?l22 ?c22 ?k22 ?a23 ?l23 ?c23 ?k23 ?a24 ?l24 ?c24 ?k24 ?a25 ?l25 ?c25 ?k25 ?a26 ?l26 ?c26 ?k26 ?a27 ?l27 ?c27 ?k27 ?a28 ?l28 ?c28 ?k28 ?a29 ?l29 ?c29 ?k29 ?a30 ?l30 ?c30 ?k30 ?a31 ?l31 ?c31 ?k31 ?a32 ?l32 ?c32 ?k32 ?z_ValueError ?z_abs ?z_bool ?z_int ?z_isinstance ?z_len ?z_range ?z_str ?z_tuple ?ak_FIGURES ?ak_LETTERS ?ak_MOST_FIGURES ?ak_MOST_LETTERS ?ak_MOST_OFFERS ?ak_MOST_WORLDS
    (case aX_SureError => k_is); (case rd_SureError => k_is); (case ga_SureError => k_is); (case vi_SureError => k_is); (case kX_SureError => k_is); (case bX_SureError => k_is); (case tX_SureError => k_is); (case iX_SureError => k_is); (case aX_NoChance => k_is); (case kX_NoChance => k_is); (case bX_NoChance => k_is); (case tX_NoChance => k_is); (case iX_NoChance => k_is); (case aX_NoFair => k_is); (case kX_NoFair => k_is); (case bX_NoFair => k_is); (case tX_NoFair => k_is); (case iX_NoFair => k_is); (case aX_NoName => k_is); (case kX_NoName => k_is); (case bX_NoName => k_is); (case tX_NoName => k_is); (case iX_NoName => k_is); (case aX_NoRatio => k_is); (case kX_NoRatio => k_is); (case bX_NoRatio => k_is); (case tX_NoRatio => k_is); (case iX_NoRatio => k_is); (case aX_NoRow => k_is); (case kX_NoRow => k_is); (case bX_NoRow => k_is); (case tX_NoRow => k_is); (case iX_NoRow => k_is); (case aX_NoText => k_is); (case kX_NoText => k_is); (case bX_NoText => k_is); (case tX_NoText => k_is); (case iX_NoText => k_is); (case eha_NoText => k_is); (case ehm_NoText => k_is); (case fga_NoText => k_is); (case fgg_NoText => k_is); (case fhd_NoText => k_is); (case lX_NoText => k_is); (case saX_NoText => k_is); (case nX_NoText => k_is); (case aI_NoText => k_is); (case tI_NoText => k_is); (case lI_NoText => k_is); (case cI_NoText => k_is); (case kI_NoText => k_is); (case ehn => k_is); (case eht => k_is); (case essX_NoText => first | rfl | k_is); (case esX_NoText_NoChance => first | rfl | k_is); (case esX_NoText_NoFair => first | rfl | k_is); (case esX_NoText_NoName => first | rfl | k_is); (case esX_NoText_NoRatio => first | rfl | k_is); (case esX_NoText_NoRow => first | rfl | k_is); (case esX_NoText_NoText => first | rfl | k_is); (case ebX_NoText_ValueError => first | rfl | k_is); (case sX_NoText_SureError => first | rfl | k_is); (case aC_Row => k_is); (case pg_Row => k_is); (case hd_Row => k_is); (case po_Row => k_is); (case sa_Row => k_is); (case mk_Row => k_is); (case kc_Row => k_is); (case n_Row_rest => k_is); (case n_Row_at => k_is); (case a0 => k_is); (case l0 => k_is); (case c0 => k_is); (case k0 => k_is); (case a1 => k_is); (case l1 => k_is); (case c1 => k_is); (case k1 => k_is); (case a2 => k_is); (case l2 => k_is); (case c2 => k_is); (case k2 => k_is); (case a3 => k_is); (case l3 => k_is); (case c3 => k_is); (case k3 => k_is); (case a4 => k_is); (case l4 => k_is); (case c4 => k_is); (case k4 => k_is); (case a5 => k_is); (case i5 => k_is); (case l5 => k_is); (case c5 => k_is); (case k5 => k_is); (case a6 => k_is); (case i6 => k_is); (case l6 => k_is); (case c6 => k_is); (case k6 => k_is); (case a7 => k_is); (case i7 => k_is); (case l7 => k_is); (case c7 => k_is); (case k7 => k_is); (case a8 => k_is); (case i8 => k_is); (case l8 => k_is); (case c8 => k_is); (case k8 => k_is); (case a9 => k_is); (case i9 => k_is); (case l9 => k_is); (case c9 => k_is); (case k9 => k_is); (case a10 => k_is); (case i10 => k_is); (case l10 => k_is); (case c10 => k_is); (case k10 => k_is); (case a11 => k_is); (case l11 => k_is); (case c11 => k_is); (case k11 => k_is); (case a12 => k_is); (case l12 => k_is); (case c12 => k_is); (case k12 => k_is); (case a13 => k_is); (case l13 => k_is); (case c13 => k_is); (case k13 => k_is); (case a14 => k_is); (case l14 => k_is); (case c14 => k_is); (case k14 => k_is); (case a15 => k_is); (case l15 => k_is); (case c15 => k_is); (case k15 => k_is); (case a16 => k_is); (case l16 => k_is); (case c16 => k_is); (case k16 => k_is); (case a17 => k_is); (case l17 => k_is); (case c17 => k_is); (case k17 => k_is); (case a18 => k_is); (case l18 => k_is); (case c18 => k_is); (case k18 => k_is); (case a19 => k_is); (case l19 => k_is); (case c19 => k_is); (case k19 => k_is); (case a20 => k_is); (case l20 => k_is); (case c20 => k_is); (case k20 => k_is); (case a21 => k_is); (case l21 => k_is); (case c21 => k_is); (case k21 => k_is); (case a22 => k_is); (case l22 => k_is); (case c22 => k_is); (case k22 => k_is); (case a23 => k_is); (case l23 => k_is); (case c23 => k_is); (case k23 => k_is); (case a24 => k_is); (case l24 => k_is); (case c24 => k_is); (case k24 => k_is); (case a25 => k_is); (case l25 => k_is); (case c25 => k_is); (case k25 => k_is); (case a26 => k_is); (case l26 => k_is); (case c26 => k_is); (case k26 => k_is); (case a27 => k_is); (case l27 => k_is); (case c27 => k_is); (case k27 => k_is); (case a28 => k_is); (case l28 => k_is); (case c28 => k_is); (case k28 => k_is); (case a29 => k_is); (case l29 => k_is); (case c29 => k_is); (case k29 => k_is); (case a30 => k_is); (case l30 => k_is); (case c30 => k_is); (case k30 => k_is); (case a31 => k_is); (case l31 => k_is); (case c31 => k_is); (case k31 => k_is); (case a32 => k_is); (case l32 => k_is); (case c32 => k_is); (case k32 => k_is); (case z_ValueError => k_is); (case z_abs => k_is); (case z_bool => k_is); (case z_int => k_is); (case z_isinstance => k_is); (case z_len => k_is); (case z_range => k_is); (case z_str => k_is); (case z_tuple => k_is); (case ak_FIGURES => k_is); (case ak_LETTERS => k_is); (case ak_MOST_FIGURES => k_is); (case ak_MOST_LETTERS => k_is); (case ak_MOST_OFFERS => k_is); (case ak_MOST_WORLDS => k_is)
end
end SB
namespace SB
open PySem PySem.Spec PyProof.Rows L2 HotX L2H
section
variable {prog : Program} {w : World} {A : Around} {E : Value → Shared → Prop} {s : Shared}
theorem stop_hot {α : Type} {x1 : Addr} {Q : α → Shared → Prop} (hot : HotAt A x1 s.heap)
    (q : ∀ h' e, (∀ b o, s.heap.get? b = some o → h'.get? b = some o) → (∃ o, h'.get? e = some o ∧ o.cls = .type "StopIteration") → E (.ref e) { s with heap := h' }) :
    wpAny (model prog w) A (Builtin.SmallTypes.stopIteration : Sem α) Q E s := by
  obtain ⟨hh, o1, vs1, h1, d1, c1⟩ := hot
  unfold Builtin.SmallTypes.stopIteration
  refine wpAny_bind ?_
  simp only [newExc, newTuple]
  refine wpAny_bind (wpAny_newObj_type ?_ (by size_fits))
  refine wpAny_bind (m := firstArgMember _ _) (wpAny_of_eq (a := Value.none) (by first | rfl | (simp only [firstArgMember]; rfl)) ?_)
  refine wpAny_newObj_type ?_ (by size_fits)
  have k1 := Heap.get?_push_of_some { cls := .type "tuple", data := .seq ([] : List Value).toArray } h1
  refine raiseNew_hot ⟨hh, o1, vs1, Heap.get?_push_of_some _ k1, d1, c1⟩ (Nat.ne_of_lt (Heap.lt_size k1)) (Heap.get?_push_size _ rfl) rfl
    (by first | (simp; done) | (simp; omega) | (simp only [Array.size_append]; simp; omega)) ?_
  refine q _ _ (fun b o e => ?_) ⟨_, Heap.get?_update_self _ (Heap.get?_push_size _ rfl) rfl, rfl⟩
  have e1 := Heap.get?_push_of_some (h := s.heap) { cls := .type "tuple", data := .seq ([] : List Value).toArray } e
  rw [Heap.get?_update_other _ _ (Nat.ne_of_gt (Heap.lt_size e1))]
  exact Heap.get?_push_of_some _ e1
/-- the context's handled exception stands behind a change elsewhere -/
theorem hot_but {h h' : Heap} {x1 it : Addr} {o : Obj} (hot : HotAt A x1 h) (ho : h.get? it = some o) (hne : x1 ≠ it) (k : ∀ b u, b ≠ it → h.get? b = some u → h'.get? b = some u) : HotAt A x1 h' := by
  obtain ⟨hh, o1, vs1, h1, d1, c1⟩ := hot
  exact ⟨hh, o1, vs1, k _ _ hne h1, d1, c1⟩
theorem list_end_hot {it l x1 : Addr} {i : Nat} {items : Array Value} {Q : Option Value → Shared → Prop} (hot : HotAt A x1 s.heap) (hne : x1 ≠ it)
    (hit : s.heap.IsListIter it l i) (hl : s.heap.IsList l items) (hx : items[i]? = none)
    (hQ : ∀ h', Heap.ExtBut it s.heap h' → Q none { s with heap := h' }) : wpAny (model prog w) A (pyNext (.ref it)) Q E s := by
  obtain ⟨oi, hoi, hci, hdi⟩ := id hit
  obtain ⟨ol, hol, _, nl, hdl⟩ := hl
  unfold pyNext
  refine wpAny_bind (wpAny_attempt (wpAny_callSpecial?_slot (name := Str.ofString "__next__") hit.typeIs slot_listiter_next
    (wpAny_call_entry slot_listiter_next hit.typeIs entry_listiter_next ?_ (args_listiter_next _))))
  show wpAny _ _ (field (.ref it) 0 >>= _) _ _ s
  refine wpAny_bind (wpAny_field hoi hdi (x := .ref l) rfl ?_)
  show wpAny _ _ (if (Value.ref l == Value.none) = true then _ else _) _ _ s
  rw [if_neg (show ¬ ((Value.ref l == Value.none) = true) from Bool.false_ne_true)]
  show wpAny _ _ (field (.ref it) 1 >>= _) _ _ s
  refine wpAny_bind (wpAny_field hoi hdi (x := .int i 0) rfl ?_)
  show wpAny _ _ (seqItems? (.ref l) >>= _) _ _ s
  refine wpAny_bind (wpAny_seqItems hol hdl ?_)
  simp only [Int.toNat_natCast, hx]
  refine wpAny_bind (wpAny_rule (wpAny_bind (wpAny_setField hoi hdi (by simp) ?_)))
  show wpAny _ _ Builtin.SmallTypes.stopIteration _ _ _
  have sb : Heap.SameBut it s.heap (s.heap.update it (Obj.mapFields (·.setIfInBounds 0 Value.none))) := Heap.SameBut.update ..
  refine stop_hot (x1 := x1) (hot_but hot hoi hne fun b u hb e => (sb.2 b hb).trans e) fun h' e k ⟨o, ho, hc⟩ => ?_
  refine wpAny_bind (wpAny_isInstance (T := "StopIteration") (b := true) ⟨_, ho, hc⟩ isSubtype_stop ?_)
  exact wpAny_pure (hQ _ fun b u hb q => k b u ((sb.2 b hb).trans q))
theorem tuple_end_hot {it t x1 : Addr} {i : Nat} {items : Array Value} {Q : Option Value → Shared → Prop} (hot : HotAt A x1 s.heap) (hne : x1 ≠ it)
    (hit : s.heap.IsTupleIter it t i) (ht : s.heap.IsTuple t items) (hx : items[i]? = none)
    (hQ : ∀ h', Heap.ExtBut it s.heap h' → Q none { s with heap := h' }) : wpAny (model prog w) A (pyNext (.ref it)) Q E s := by
  obtain ⟨oi, hoi, hci, hdi⟩ := id hit
  obtain ⟨ol, hol, _, nl, hdl⟩ := ht
  unfold pyNext
  refine wpAny_bind (wpAny_attempt (wpAny_callSpecial?_slot (name := Str.ofString "__next__") hit.typeIs F.slot_tuple_iterator_next
    (wpAny_call_entry F.slot_tuple_iterator_next hit.typeIs F.entry_tuple_iterator_next ?_ (F.args_tuple_iterator_next_1 _))))
  show wpAny _ _ (field (.ref it) 0 >>= _) _ _ s
  refine wpAny_bind (wpAny_field hoi hdi (x := .ref t) rfl ?_)
  show wpAny _ _ (if (Value.ref t == Value.none) = true then _ else _) _ _ s
  rw [if_neg (show ¬ ((Value.ref t == Value.none) = true) from Bool.false_ne_true)]
  show wpAny _ _ (field (.ref it) 1 >>= _) _ _ s
  refine wpAny_bind (wpAny_field hoi hdi (x := .int i 0) rfl ?_)
  show wpAny _ _ (seqItems? (.ref t) >>= _) _ _ s
  refine wpAny_bind (wpAny_seqItems hol hdl ?_)
  simp only [Int.toNat_natCast, hx]
  refine wpAny_bind (wpAny_rule (wpAny_bind (wpAny_setField hoi hdi (by simp) ?_)))
  show wpAny _ _ Builtin.SmallTypes.stopIteration _ _ _
  have sb : Heap.SameBut it s.heap (s.heap.update it (Obj.mapFields (·.setIfInBounds 0 Value.none))) := Heap.SameBut.update ..
  refine stop_hot (x1 := x1) (hot_but hot hoi hne fun b u hb e => (sb.2 b hb).trans e) fun h' e k ⟨o, ho, hc⟩ => ?_
  refine wpAny_bind (wpAny_isInstance (T := "StopIteration") (b := true) ⟨_, ho, hc⟩ isSubtype_stop ?_)
  exact wpAny_pure (hQ _ fun b u hb q => k b u ((sb.2 b hb).trans q))
end
/-- the pinned exception, apart from what is walked -/
theorem hot_at {X : Cx} {pins : List (Addr × Obj)} {σ : L2.St} {H : Hp} {s : Shared} (c : HotC X) (I : Inv X pins σ H s) : ∃ x1, HotAt X.A x1 s.heap ∧ ∀ b, FpOk X pins H b → x1 ≠ b := by
  obtain ⟨p, ⟨hh, v1, e1, c1⟩, hp⟩ := c
  exact ⟨p.1, ⟨hh, p.2, v1, (I.pin p (List.mem_append_left _ hp)).1, e1, c1⟩, fun b f => f.2.2.2.2.2 p (List.mem_append_left _ hp)⟩
section
variable {P : Program} {w : World} {K : PySem.W.Frag} {tg : Expr}
theorem turn_listH (a it : Addr) : TurnH P w K tg (Itl K a) [it] it (fun i h => h.IsListIter it a i) where
  mem := List.mem_singleton.mpr rfl
  obj := (turn_list (P := P) (w := w) (K := K) (tg := tg) a it).obj
  keep := (turn_list (P := P) (w := w) (K := K) (tg := tg) a it).keep
  self := (turn_list (P := P) (w := w) (K := K) (tg := tg) a it).self
  item := by
    rintro X rfl rfl rfl - i pins s σ H E I hf st ⟨xs, x, hq, hx⟩
    obtain ⟨its, rv, pl, -⟩ := I.list hq
    obtain ⟨u, hu, ru⟩ := rv.get hx
    have hft := hf it (List.mem_singleton.mpr rfl)
    refine wpAny_pyNext_list_item st pl.isList (x := u) (by simpa using hu) fun h' st' sb => ⟨u, rfl, ?_⟩
    obtain ⟨o, e, c, d⟩ := id st'
    refine go_of (s := { s with heap := h' }) e c d (by decide) ⟨x, H, ?_, ru, ⟨rfl, fun ys hy => ?_⟩, st', fun b hb => (hf b hb).1⟩
    · exact I.turned (t' := s.toks) (fun b o hb e => (sb.2 b hb).trans e) hft.1 hft.2.1 hft.2.2.2.1 hft.2.2.2.2.1 hft.2.2.2.2.2
    · rw [I.list_inj hy hq]
      exact hx
  done := by
    rintro X rfl rfl rfl hc i pins s σ H E I hf st ⟨xs, hq, hx⟩
    obtain ⟨its, rv, pl, -⟩ := I.list hq
    have hft := hf it (List.mem_singleton.mpr rfl)
    have hl := rv.length
    obtain ⟨x1, hot, ne⟩ := hot_at hc I
    exact list_end_hot hot (ne it hft) st pl.isList (by simp; omega) fun h' eb => ⟨rfl, I.turned (t' := s.toks) (fun b o hb e => eb b o hb e) hft.1 hft.2.1 hft.2.2.2.1 hft.2.2.2.2.1 hft.2.2.2.2.2⟩
theorem turn_tupleH (a it : Addr) : TurnH P w K tg (Itt K a) [it] it (fun i h => h.IsTupleIter it a i) where
  mem := List.mem_singleton.mpr rfl
  obj := (turn_tuple (P := P) (w := w) (K := K) (tg := tg) a it).obj
  keep := (turn_tuple (P := P) (w := w) (K := K) (tg := tg) a it).keep
  self := (turn_tuple (P := P) (w := w) (K := K) (tg := tg) a it).self
  item := by
    rintro X rfl rfl rfl - i pins s σ H E I hf st ⟨xs, x, hq, hx⟩
    obtain ⟨its, rv, pl, -⟩ := I.tuple hq
    obtain ⟨u, hu, ru⟩ := rv.get hx
    have hft := hf it (List.mem_singleton.mpr rfl)
    refine wpAny_pyNext_tuple_item st (show s.heap.IsTuple a its.toArray from pl) (x := u) (by simpa using hu) fun h' st' sb => ⟨u, rfl, ?_⟩
    obtain ⟨o, e, c, d⟩ := id st'
    refine go_of (s := { s with heap := h' }) e c d (by decide) ⟨x, H, ?_, ru, ⟨rfl, fun ys hy => ?_⟩, st', fun b hb => (hf b hb).1⟩
    · exact I.turned (t' := s.toks) (fun b o hb e => (sb.2 b hb).trans e) hft.1 hft.2.1 hft.2.2.2.1 hft.2.2.2.2.1 hft.2.2.2.2.2
    · rw [I.tuple_inj hy hq]
      exact hx
  done := by
    rintro X rfl rfl rfl hc i pins s σ H E I hf st ⟨xs, hq, hx⟩
    obtain ⟨its, rv, pl, -⟩ := I.tuple hq
    have hft := hf it (List.mem_singleton.mpr rfl)
    have hl := rv.length
    obtain ⟨x1, hot, ne⟩ := hot_at hc I
    exact tuple_end_hot hot (ne it hft) st (show s.heap.IsTuple a its.toArray from pl) (by simp; omega) fun h' eb => ⟨rfl, I.turned (t' := s.toks) (fun b o hb e => eb b o hb e) hft.1 hft.2.1 hft.2.2.2.1 hft.2.2.2.2.1 hft.2.2.2.2.2⟩
end
section
variable {X : Cx} {tg : Expr}
/-- a list or a tuple, by what its value is -/
def iSeq (K : PySem.W.Frag) (tl : TE) : TI := fun σ H R => tl σ H fun x H1 => ∃ a, x = .ref a ∧ (((∃ xs, SqL K H1 a xs) ∧ R (Itl K a) H1) ∨ ((∃ xs, SqT K H1 a xs) ∧ R (Itt K a) H1))
theorem pi_seqH {l : Expr} {tl : TE} (hl : PE X l tl) : PIH X tg l (iSeq X.K tl) := by
  refine ⟨fun pins s σ H R I h => thn (hl.run pins s σ H _ I h) ?_⟩
  rintro v s1 ⟨x, H1, I1, r1, a, rfl, q1⟩
  cases r1
  have new : ∀ b ∈ [s1.heap.objs.size], FpOk X pins H1 b := fun b hb => by
    obtain rfl := List.mem_singleton.mp hb
    exact I1.fpOk (Nat.le_refl _) (I1.hok.fresh (Nat.le_refl _))
  rcases q1 with ⟨⟨xs, hq⟩, q⟩ | ⟨⟨xs, hq⟩, q⟩
  · obtain ⟨its, rv, pl, -⟩ := I1.list hq
    exact wpAny_pyIter_list pl.isList ⟨s1.heap.objs.size, [s1.heap.objs.size], _, _, H1, rfl, I1.kept (t' := s1.toks) fun b o e => Heap.get?_push_of_some _ e, turn_listH a _, ⟨_, Heap.get?_push_size _ rfl, rfl, rfl⟩, new, q⟩
  · obtain ⟨its, rv, pl, -⟩ := I1.tuple hq
    exact wpAny_pyIter_tuple (show s1.heap.IsTuple a its.toArray from pl) ⟨s1.heap.objs.size, [s1.heap.objs.size], _, _, H1, rfl, I1.kept (t' := s1.toks) fun b o e => Heap.get?_push_of_some _ e, turn_tupleH a _, ⟨_, Heap.get?_push_size _ rfl, rfl, rfl⟩, new, q⟩
theorem pi_range2H {a b : Expr} {ta : TA} {p pos : Pos} (hg : Gl X "range") (hm : X.mg "range" = none) (ha : PA X [a, b] ta) (hs : starEach [a, b] X.env = [(false, eval a X.env), (false, eval b X.env)]) (hs2 : starEach [b] X.env = [(false, eval b X.env)]) :
    PIH X tg (.Call (.Name "range" p) [a, b] [] pos) (iRng2 ta) := by
  refine ⟨fun pins s σ H R I h => Call_ (ld_blt I hg hm boot_range (PyProof.Rows.callWith_type1 (thn (ha.run pos pins s σ H _ I h) ?_) (by rw [hs, hs2]) (by rw [hs2]; rfl)))⟩
  rintro us s1 ⟨vs, H1, I1, r1, i, j, rfl, ⟨q1, q2, q3, q4⟩, q⟩
  cases r1 with
  | cons r rr =>
    cases rr with
    | cons r' rr =>
      cases rr
      obtain ⟨t, rfl⟩ := r
      obtain ⟨t', rfl⟩ := r'
      exact call_range_2 (range_itH I1 q1 q2 q3 q4 q)
end
abbrev blkP (X : Cx) (s : Shared) (H : Hp) (scope : Scope) (cenv : Env) (fp : List Addr) (pn : List (Addr × Obj)) : Cx := { X.blk s H scope cenv fp with pn := pn }
section
variable {X : Cx}
theorem blkP_start {pins : List (Addr × Obj)} {σ : L2.St} {H : Hp} {s : Shared} {scope : Scope} {own : List (Str × Nat)} {fp : List Addr} (I : Inv X pins σ H s) (ok : BlkOk X.N X.env.scope scope own) (hN : X.N.Nodup) (hfp : ∀ b ∈ fp, FpOk X pins H b ∧ b < s.heap.objs.size) :
    Inv (blkP X s H scope (compEnvC scope (cellsFrom (s.heap.objs.size + 1) scope.names (cloFrom X.env.cells scope.names [])) s.heap.objs.size X.env) fp X.pn) [] (L2.wipe σ (own.map (·.2))) H { s with heap := pushCells (s.heap.push { cls := .type "dict", data := .dict #[] }) scope.names } := by
  have J := block_start I ok hN hfp
  have k := J.ok
  refine ⟨⟨k.mod, k.kind, k.glob, k.blt, k.above, k.inj, k.has, k.cab, k.hd, k.frames, k.stk, k.exf, k.bs, k.bsz, k.noex, k.exfs, k.funs, k.frf⟩, J.os, J.bare, J.base, J.loc, J.cell, J.free, J.freeC, fun p hp => ?_, J.hok, J.len⟩
  have hp : p ∈ X.pn := by
    have hp' : p ∈ X.pn ++ [] := hp
    rwa [List.append_nil] at hp'
  obtain ⟨g1, g2, g3, g4, g5⟩ := I.pin p (List.mem_append_left _ hp)
  exact ⟨pushCells_keeps _ _ _ _ (Heap.get?_push_of_some _ g1), g2, Nat.ne_of_lt (Heap.lt_size g1), fun z => (List.mem_cons.mp (I.stkSub p.1 z)).elim g3 g4, g5⟩
theorem lc_hot {pins : List (Addr × Obj)} {s : Shared} {σ : L2.St} {H : Hp} {Q : VK} {elt tg iter : Expr} {ifs : List Expr} {scope : Scope} {own : List (Str × Nat)} {pos pos' : Pos} {wi : TI} {g : TG} {tt : TT} {te : TE} {use : Option (Value → Sem Unit)} {Qf : Value → Shared → Prop}
    (hc : HotC X) (hN : X.N.Nodup) (I : Inv X pins σ H s) (hi : PIH X tg iter wi) (ok : BlkOk X.N X.env.scope scope own) (hs : ∀ x, foldedSetIterable iter X.env x = pure x)
    (hb : ∀ (s : Shared) (H : Hp) (C : Addr) (cl : List (Str × Addr)) (fp : List Addr), PG (blkP X s H scope (compEnvC scope cl C X.env) fp X.pn) tg g ∧ PTs (blkP X s H scope (compEnvC scope cl C X.env) fp X.pn) ifs tt ∧ PE (blkP X s H scope (compEnvC scope cl C X.env) fp X.pn) elt te)
    (h : tLc wi g tt te (own.map (·.2)) σ H Q)
    (fin : ∀ D C s' m H', Inv X pins σ H' s' → Q (.ref D) H' → s'.heap.Ns C m → FpOk X pins H' C → compPost (model X.prog X.w) X.A X.xe use Qf (.ref D) C (.ok .next) s') :
    wpAny (model X.prog X.w) X.A (comprehension (.ListComp elt [⟨tg, iter, ifs, 0⟩] scope pos) scope X.env pos' (newList []) false (eval iter X.env) use) Qf X.xe s := by
  have caught : ∀ y ∈ scope.names, y.2 = .free → ∃ c, X.env.cells.lookup y.1 = some c := fun y hy e => (ok.free y hy e).elim (fun k => I.ok.has _ (.inl k)) fun k => I.ok.has _ (.inr k)
  refine wpAny_comprehension_free (use := use) rfl hs (closure_ok caught) ok.kind (fun y hy e => by rw [ok.uniq y hy, e]) (thn (hi.run pins s σ H _ I h) fun xv s1 hx => thn hx ?_)
  rintro itv s2 ⟨it, fp, tn, J, H2, rfl, I2, T, st2, f2, q⟩
  refine wpAny_newObj_type (newEnv_comp ?_) (by show 0 ≤ sizeLine; decide)
  -- the new list at D
  obtain ⟨D, hD⟩ : ∃ D, D = s2.heap.objs.size := ⟨_, rfl⟩
  have new : H2 D = none := I2.hok.fresh (Nat.le_of_eq hD.symm)
  obtain ⟨W, ⟨m0, w0⟩, turn⟩ := q D new
  obtain ⟨s3, hs3⟩ : ∃ s3 : Shared, s3 = { s2 with heap := s2.heap.push { cls := .type "list", data := .seq ([] : List Value).toArray } } := ⟨_, rfl⟩
  have h3 : s3.heap = s2.heap.push { cls := .type "list", data := .seq ([] : List Value).toArray } := by rw [hs3]
  have k3 : ∀ b o, s2.heap.get? b = some o → s3.heap.get? b = some o := fun b o e => by rw [h3]; exact Heap.get?_push_of_some _ e
  obtain ⟨H3, hH3⟩ : ∃ H3, H3 = upd H2 D (.lst []) := ⟨_, rfl⟩
  have I3 : Inv X pins σ H3 s3 := by
    subst hs3 hH3
    refine I2.laid (t' := s2.toks) (fun b o e => Heap.get?_push_of_some _ e) (Nat.le_of_eq hD.symm) ⟨Nat.zero_le _, [], 0, .nil, ?_⟩
    subst hD
    exact Heap.get?_push_size _ rfl
  have f3 : ∀ b ∈ fp, FpOk X pins H3 b ∧ b < s3.heap.objs.size := fun b hb => by
    obtain ⟨o, e, _⟩ := T.obj _ _ st2 b hb
    have lt := Heap.lt_size e
    refine ⟨⟨?_, (f2 b hb).2⟩, by rw [h3, Heap.size_push]; exact Nat.lt_succ_of_lt lt⟩
    rw [hH3, upd_ne (by rw [hD]; exact Nat.ne_of_lt lt)]
    exact (f2 b hb).1
  rw [← hH3] at w0
  have I4 := blkP_start I3 ok hN f3
  obtain ⟨pg, pt, pe⟩ := hb s3 H3 s3.heap.objs.size (cellsFrom (s3.heap.objs.size + 1) scope.names (cloFrom X.env.cells scope.names [])) fp
  show codeAny _ _ (.compStart (.ListComp elt [⟨tg, iter, ifs, 0⟩] scope pos) 0 (.ref it) (.ref s2.heap.objs.size) _) (compPost (model X.prog X.w) X.A X.xe use Qf (.ref s2.heap.objs.size) _) _
  rw [← hs3, ← hD]
  show codeAny _ _ (.compStart (.ListComp elt [⟨tg, iter, ifs, 0⟩] scope pos) 0 (.ref it) (.ref D) (compEnvC scope (cellsFrom (s3.heap.objs.size + 1) scope.names (cloFrom X.env.cells scope.names [])) s3.heap.objs.size X.env)) (compPost (model X.prog X.w) X.A X.xe use Qf (.ref D) s3.heap.objs.size) { s3 with heap := pushCells (s3.heap.push { cls := .type "dict", data := .dict #[] }) scope.names }
  obtain ⟨ce, hce⟩ : ∃ ce, ce = compEnvC scope (cellsFrom (s3.heap.objs.size + 1) scope.names (cloFrom X.env.cells scope.names [])) s3.heap.objs.size X.env := ⟨_, rfl⟩
  have cL : ce.locals = s3.heap.objs.size := by rw [hce]; rfl
  rw [← hce] at I4 pg pt pe ⊢
  obtain ⟨s4, hs4⟩ : ∃ s4 : Shared, s4 = { s3 with heap := pushCells (s3.heap.push { cls := .type "dict", data := .dict #[] }) scope.names } := ⟨_, rfl⟩
  rw [← hs4] at I4 ⊢
  have st4 : tn 0 s4.heap := T.keep _ _ _ st2 fun b _ o e => by rw [hs4]; exact pushCells_keeps _ _ _ _ (Heap.get?_push_of_some _ (k3 b o e))
  -- the block
  have B0 : HotC (blkP X s3 H3 scope ce fp X.pn) := hc
  have fpk : ∀ {σ' : L2.St} {H' : Hp} {s' : Shared}, Inv (blkP X s3 H3 scope ce fp X.pn) [] σ' H' s' → (∀ b ∈ fp, H' b = none) → ∀ b ∈ fp, FpOk (blkP X s3 H3 scope ce fp X.pn) [] H' b := fun {σ' H' s'} I' hn b hb =>
    ⟨hn b hb, (I'.ok.exf b hb).1, I'.ok.exfs b hb, .inl hb, fun x c e => (I'.ok.exf b hb).2 x c e, fun p hp => (f3 b hb).1.2.2.2.2.2 p (List.mem_append_left _ (by
      have hp' : p ∈ X.pn ++ [] := hp
      rwa [List.append_nil] at hp'))⟩
  have loop : codeAny (model X.prog X.w) X.A (.compLoop (.ListComp elt [⟨tg, iter, ifs, 0⟩] scope pos) 0 (.ref it) (.ref D) ce) (compPost (model X.prog X.w) X.A X.xe use Qf (.ref D) s3.heap.objs.size) s4 := by
    refine compLoop_any (fun n s' => ∃ i H', Inv (blkP X s3 H3 scope ce fp X.pn) [] (L2.wipe σ (own.map (·.2))) H' s' ∧ tn i s'.heap ∧ (∀ b ∈ fp, H' b = none) ∧ W i n H') ?_ m0 ⟨0, H3, I4, st4, fun b hb => (f3 b hb).1.1, w0⟩
    rintro n s5 ⟨i, H5, I5, st5, n5, w5⟩
    rcases turn i n H5 w5 with ⟨stop, qq⟩ | ⟨go, Nx, hNx, step⟩
    · -- no item is left
      refine thnF (T.done (blkP X s3 H3 scope ce fp X.pn) rfl rfl rfl B0 i [] s5 _ H5 (fun _ _ => False) I5 (fpk I5 n5) st5 stop) ?_
      rintro r s6 ⟨rfl, I6⟩
      have nC : H5 s3.heap.objs.size = none := cL ▸ (show H5 ce.locals = none from I6.free)
      obtain ⟨m, hn, -⟩ := I6.loc
      have hn : s6.heap.Ns s3.heap.objs.size m := cL ▸ (show s6.heap.Ns ce.locals m from hn)
      refine fin D s3.heap.objs.size s6 m H5 (I3.call' (ch := fp) I6.os I6.base I6.hok I6.bare fun b hb => ?_) qq hn (I3.fpOk (Nat.le_refl _) nC)
      obtain ⟨⟨_, p1, _, p3, p4, p5⟩, _⟩ := f3 b hb
      exact ⟨p3, p1, p4, p5⟩
    · -- a turn
      refine thnF (T.item (blkP X s3 H3 scope ce fp X.pn) rfl rfl rfl B0 i [] s5 _ H5 (fun _ _ => False) I5 (fpk I5 n5) st5 go) ?_
      rintro r s6 ⟨u, rfl, h6⟩
      refine thnF h6 ?_
      rintro - s7 ⟨x, H7, I7, r7, y7, st7, n7⟩
      refine thnF (pg.run _ s7 _ H7 x u _ (I7.pinned (fpk I7 n7) (T.obj _ _ st7)) r7 (step x H7 y7)) ?_
      rintro - s8 ⟨σ8, H8, I8, hw8, q8⟩
      refine thnF (pt.run _ s8 σ8 H8 _ I8 q8) ?_
      rintro b s9 ⟨H9, I9, q9⟩
      have back : ∀ {s' : Shared} {H' : Hp}, Inv (blkP X s3 H3 scope ce fp X.pn) ([] ++ pinsAt fp s7.heap) σ8 H' s' → Nx H' →
          ∃ m, m < n ∧ ∃ i H', Inv (blkP X s3 H3 scope ce fp X.pn) [] (L2.wipe σ (own.map (·.2))) H' s' ∧ tn i s'.heap ∧ (∀ b ∈ fp, H' b = none) ∧ W i m H' := by
        intro s' H' I' nx
        obtain ⟨m', hm, w'⟩ := hNx H' nx
        have at_ : ∀ b ∈ fp, ∀ o, s7.heap.get? b = some o → s'.heap.get? b = some o ∧ H' b = none := fun b hb o e =>
          (I'.pin (b, o) (List.mem_append_right _ (List.mem_append_right _ (mem_pinsAt hb e)))).imp_right And.left
        refine ⟨m', hm, i + 1, H', (I'.unpinned (pins := [])).weak (by rw [← hw8, L2.wipe_length]) fun j v e => ?_, T.keep _ _ _ st7 fun b hb o e => (at_ b hb o e).1, fun b hb => ?_, w'⟩
        · rw [← hw8] at e
          exact (L2.wipe_some e).1
        · obtain ⟨o, e, -⟩ := T.obj _ _ st7 b hb
          exact (at_ b hb o e).2
      cases b with
      | false =>
        simp only [Bool.false_eq_true, if_false] at q9 ⊢
        exact back I9 q9
      | true =>
        simp only [if_true] at q9 ⊢
        refine thnF (pe.run _ s9 σ8 H9 _ I9 q9) ?_
        rintro z s10 ⟨yv, H10, I10, r10, acc, hD10, hz10, nx⟩
        exact app_ok (X := blkP X s3 H3 scope ce fp X.pn) I10 hD10 hz10 r10 fun s11 I11 => back I11 nx
  exact codeAny_compStart_list loop (T.self X.A 0 _ _ _ st4 loop)
variable {elt tg iter : Expr} {ifs : List Expr} {scope : Scope} {own : List (Str × Nat)} {pos : Pos} {wi : TI} {g : TG} {tt : TT} {te : TE}
theorem pe_lcH (hc : HotC X) (hN : X.N.Nodup) (hi : PIH X tg iter wi) (ok : BlkOk X.N X.env.scope scope own) (hs : ∀ x, foldedSetIterable iter X.env x = pure x)
    (hb : ∀ (s : Shared) (H : Hp) (C : Addr) (cl : List (Str × Addr)) (fp : List Addr), PG (blkP X s H scope (compEnvC scope cl C X.env) fp X.pn) tg g ∧ PTs (blkP X s H scope (compEnvC scope cl C X.env) fp X.pn) ifs tt ∧ PE (blkP X s H scope (compEnvC scope cl C X.env) fp X.pn) elt te) :
    PE X (.ListComp elt [⟨tg, iter, ifs, 0⟩] scope pos) (tLc wi g tt te (own.map (·.2))) := by
  refine ⟨fun pins s σ H Q I h => ?_⟩
  rw [eval_ListComp]
  refine lc_hot hc hN I hi ok hs hb h fun D C s' m H' I' q hn f => ⟨m, hn, fun h'' sb => ⟨.ref D, H', ?_, rfl, q⟩⟩
  obtain ⟨f0, f1, f2, f3, f4, f5⟩ := f
  exact I'.turned (t' := s'.toks) (fun b o hb e => (sb.2 b hb).trans e) f0 f1 f3 f4 f5
theorem ps_setLcH {i : Nat} {y : Str} {py spos : Pos} (hc : HotC X) (hN : X.N.Nodup) (hy : X.N[i]? = some y) (hyl : X.env.scope.names.lookup y = some .local)
    (hsw : swapsWith (.ListComp elt [⟨tg, iter, ifs, 0⟩] scope pos) (some (.Name y py)) spos.line X.env = pure true) (hi : PIH X tg iter wi) (ok : BlkOk X.N X.env.scope scope own) (hs : ∀ x, foldedSetIterable iter X.env x = pure x)
    (hb : ∀ (s : Shared) (H : Hp) (C : Addr) (cl : List (Str × Addr)) (fp : List Addr), PG (blkP X s H scope (compEnvC scope cl C X.env) fp X.pn) tg g ∧ PTs (blkP X s H scope (compEnvC scope cl C X.env) fp X.pn) ifs tt ∧ PE (blkP X s H scope (compEnvC scope cl C X.env) fp X.pn) elt te) :
    PS X (.Assign [.Name y py] (.ListComp elt [⟨tg, iter, ifs, 0⟩] scope pos) spos) (tAsg (tLc wi g tt te (own.map (·.2))) (gName i)) := by
  refine ⟨fun pins s σ H D I h => ?_⟩
  rw [exec_Assign_Name_used _ _ _ _ hsw]
  refine wpAny_bind (wpAny_standAt (wpAny_bind ?_))
  show wpAny _ X.A (do let _ ← comprehension (.ListComp elt [⟨tg, iter, ifs, 0⟩] scope pos) scope X.env (firstIterPos [⟨tg, iter, ifs, 0⟩] pos) (newList []) false (eval iter X.env) (some (assign (.Name y py) X.env))) _ _ s
  have h' : tLc wi g tt te (own.map (·.2)) σ H (fun x H1 => gName i x σ H1 D.nx) := h
  refine wpAny_bind (thn (lc_hot (Qf := fun _ s' => SP X pins D .next s') hc hN I hi ok hs hb h' fun L C s' m H' I' q hn f => ?_) fun _ s' hq => wpAny_pure (wpAny_pure hq))
  obtain ⟨f0, f1, f2, f3, f4, f5⟩ := f
  show wpAny _ _ (assign (.Name y py) X.env (.ref L)) _ _ _
  refine wpAny_assign_Name (store_ok2 (v := V.ref L) I' hN hy (.inl hyl) rfl (fun s2 I2 ⟨a, sb, ha⟩ => ⟨m, hn.sameBut sb ?_, fun h3 sb3 => ⟨_, H', ?_, q⟩⟩) (.inr hyl))
  · rcases ha with z | z
    · rw [z]; exact f1
    · exact fun e => f4 y a z e.symm
  · exact I2.turned (t' := s2.toks) (fun b o hb e => (sb3.2 b hb).trans e) f0 f1 f3 f4 f5
end
def Rm (k : Nat) (X : Cx) : Prop := (X.calm = true ∧ Room k X.A) ∨ (X.calm = false ∧ RoomH k X.A ∧ HotC X)
def Rdy (X : Cx) : Prop := X.calm = true ∨ (X.calm = false ∧ HotC X)
theorem Rm.mono {j k : Nat} {X : Cx} (h : Rm k X) (l : j ≤ k) : Rm j X := h.imp (fun ⟨c, r⟩ => ⟨c, r.mono l⟩) fun ⟨c, r, hc⟩ => ⟨c, r.mono l, hc⟩
theorem Rm.rdy {k : Nat} {X : Cx} (h : Rm k X) : Rdy X := h.imp (fun ⟨c, _⟩ => c) fun ⟨c, _, hc⟩ => ⟨c, hc⟩
theorem Rm.units {k : Nat} {X : Cx} (h : Rm k X) : X.A.units + 64 < cLine := by
  rcases h with ⟨_, r⟩ | ⟨_, r, _⟩ <;> (have := r.un; omega)
theorem Rm.room {k : Nat} {X : Cx} (h : Rm k X) (c : X.calm = true) : Room k X.A := by
  rcases h with ⟨_, r⟩ | ⟨c', _⟩
  · exact r
  · rw [c] at c'; cases c'
theorem Rm.hot {k : Nat} {X : Cx} (h : Rm k X) (c : X.calm = false) : RoomH k X.A ∧ HotC X := by
  rcases h with ⟨c', _⟩ | ⟨_, r⟩
  · rw [c] at c'; cases c'
  · exact r
/-- what is ready in X is ready in Y -/
def Up (X Y : Cx) : Prop := ∀ k, Rm k X → Rm k Y
theorem up_blk {X : Cx} {s : Shared} {H : Hp} {scope : Scope} {cenv : Env} {fp : List Addr} : Up X (blkP X s H scope cenv fp X.pn) := fun _ h => h.imp (fun ⟨c, r⟩ => ⟨c, r⟩) fun ⟨c, r, hc⟩ => ⟨c, r, hc⟩
theorem up_cold {X : Cx} {s : Shared} {H : Hp} {scope : Scope} {cenv : Env} {fp : List Addr} {pn : List (Addr × Obj)} (hc : X.calm = true) : Up X (blkP X s H scope cenv fp pn) := fun _ h => .inl ⟨hc, h.room hc⟩
theorem up_tr {X : Cx} {pn : List (Addr × Obj)} {xe : Value → Shared → Prop} (hc : X.calm = true) : Up X (X.tr pn xe) := fun _ h => .inl ⟨hc, h.room hc⟩
/-- a def's promise, called where nothing is handled, and (b) where an exception is -/
structure FnB (P : Program) (w : World) (K : PySem.W.Frag) (mg : Str → Option Value) (base : Heap) (b : Bool) (k : Nat) (f : Addr) (fd : FuncData) (ps : List Str) (sp : Sp) : Prop where
  ok : FnOk P w K mg base CX0 k f fd ps sp
  hot : b = true → FnH P w K mg base CX0 k f fd ps sp
/-- the context of a body -/
abbrev bodyX (P : Program) (w : World) (K : PySem.W.Frag) (mg : Str → Option Value) (base : Heap) (N : List Str) (qual : Str) (sc : Scope) (f : Addr) (cdv : Value) (A : Around) (outer : List Env) (s : Shared) (H : Hp) (E : XK) (c : Bool) (pn : List (Addr × Obj)) : Cx :=
  { (cxOf CX0 P w K mg base N qual sc f cdv A outer s H E).nox with calm := c, pn := pn }
theorem fun_okB {P : Program} {w : World} {K : PySem.W.Frag} {mg : Str → Option Value} {base : Heap} {x qual : Str} {st : Stmt} {f : Addr} {fd : FuncData} {N ps : List Str} {k : Nat} {b : Bool} {sp : Sp} (F : Fun K x qual st f fd) (S : FnScope N ps (defScope st)) (len : ∀ vs H Q E, sp vs H Q E → vs.length = ps.length)
    (hbody : ∀ (cdv : Value) (A : Around) (outer : List Env) (s : Shared) (H : Hp) (vs : List V) (Q : VK) (E : XK) (c : Bool) (pn : List (Addr × Obj)), (c = true ∨ b = true) → Rm k (bodyX P w K mg base N qual (defScope st) f cdv A outer s H E c pn) → sp vs H Q E →
      ∃ t, PSs (bodyX P w K mg base N qual (defScope st) f cdv A outer s H E c pn) (defBody st) t ∧ t { nx := fun _ H' => Q .non H', rt := Q } (L2.start N vs) H) : FnB P w K mg base b (k + 1) f fd ps sp := by
  refine ⟨F.ok S len fun cdv A outer s H vs Q E hr hsp => hbody cdv A outer s H vs Q E true [] (.inl rfl) (.inl ⟨rfl, hr⟩) hsp, fun hb => ?_⟩
  obtain ⟨oc, od, kV, doc, pm, an, cdv, ct, osl, rfl, lk, hcd⟩ := F.ex
  refine fn_ofH lk hcd S len fun A outer s H vs Q E p hot hr hsp => ?_
  obtain ⟨t, h, q⟩ := hbody cdv A outer s H vs Q E false [p] (.inr hb) (.inr ⟨rfl, hr, p, hot, List.mem_singleton.mpr rfl⟩) hsp
  exact ⟨t, PSs.nox (X := cxH CX0 P w K mg base N qual (defScope st) f cdv A outer s H E p) h, q⟩
theorem cold_of {c : Bool} (h : c = true ∨ false = true) : c = true := h.elim id fun z => nomatch z
end SB
namespace SB
open PySem PySem.Spec PyProof.Rows L2
inductive D where
  | non | bl (b : Bool) | int (i : Int) | str (s : Str) | tup (l : List D) | lst (l : List D) | ref (a : Addr) | ty (n : String)
section
variable (K : PySem.W.Frag) (G : Hp)
mutual
def Rep : D → V → Prop
  | .non, v => v = .non
  | .bl b, v => v = .bl b
  | .int i, v => v = .int i
  | .str s, v => v = .str s
  | .tup l, v => ∃ a vs, v = .ref a ∧ SqT K G a vs ∧ Reps l vs
  | .lst l, v => ∃ a vs, v = .ref a ∧ SqL K G a vs ∧ Reps l vs
  | .ref a, v => v = .ref a
  | .ty n, v => v = .ty n
def Reps : List D → List V → Prop
  | [], vs => vs = []
  | d :: l, vs => ∃ v r, vs = v :: r ∧ Rep d v ∧ Reps l r
end
end
theorem Same.seqT {K : PySem.W.Frag} {H H' : Hp} {a : Addr} {xs : List V} (e : Same H H') (h : SqT K H a xs) : SqT K H' a xs := by
  rcases h with (h | ⟨o, h⟩) | h
  · exact .inl (.inl (e _ _ h))
  · exact .inl (.inr ⟨o, e _ _ h⟩)
  · exact .inr h
section
variable {K : PySem.W.Frag} {G G' : Hp}
mutual
theorem Rep.mono (s : Same G G') : ∀ {d : D} {v : V}, Rep K G d v → Rep K G' d v
  | .non, _, h => by simpa only [Rep] using h
  | .bl _, _, h => by simpa only [Rep] using h
  | .int _, _, h => by simpa only [Rep] using h
  | .str _, _, h => by simpa only [Rep] using h
  | .ref _, _, h => by simpa only [Rep] using h
  | .ty _, _, h => by simpa only [Rep] using h
  | .tup l, v, h => by
    simp only [Rep] at h ⊢
    obtain ⟨a, vs, e, q, r⟩ := h
    exact ⟨a, vs, e, Same.seqT s q, Reps.mono s r⟩
  | .lst l, v, h => by
    simp only [Rep] at h ⊢
    obtain ⟨a, vs, e, q, r⟩ := h
    exact ⟨a, vs, e, s.seq q, Reps.mono s r⟩
theorem Reps.mono (s : Same G G') : ∀ {l : List D} {vs : List V}, Reps K G l vs → Reps K G' l vs
  | [], _, h => by simpa only [Reps] using h
  | d :: l, vs, h => by
    simp only [Reps] at h ⊢
    obtain ⟨v, r, e, h1, h2⟩ := h
    exact ⟨v, r, e, Rep.mono s h1, Reps.mono s h2⟩
end
theorem Reps.nil : Reps K G [] [] := by simp only [Reps]
theorem Reps.cons {d : D} {v : V} {l : List D} {vs : List V} (h : Rep K G d v) (t : Reps K G l vs) : Reps K G (d :: l) (v :: vs) := by
  simp only [Reps]; exact ⟨v, vs, rfl, h, t⟩
theorem Reps.length : ∀ {l : List D} {vs : List V}, Reps K G l vs → l.length = vs.length
  | [], _, h => by simp only [Reps] at h; subst h; rfl
  | d :: l, vs, h => by
    simp only [Reps] at h
    obtain ⟨v, r, e, _, h2⟩ := h
    subst e
    simp [h2.length]
theorem Reps.get : ∀ {l : List D} {vs : List V} {i : Nat} {d : D}, Reps K G l vs → l[i]? = some d → ∃ v, vs[i]? = some v ∧ Rep K G d v
  | [], _, _, _, _, e => by simp at e
  | x :: l, vs, 0, d, h, e => by
    simp only [Reps] at h
    obtain ⟨v, r, e1, h1, _⟩ := h
    subst e1
    simp at e; subst e
    exact ⟨v, rfl, h1⟩
  | x :: l, vs, i + 1, d, h, e => by
    simp only [Reps] at h
    obtain ⟨v, r, e1, _, h2⟩ := h
    subst e1
    obtain ⟨u, q1, q2⟩ := Reps.get (i := i) (d := d) h2 (by simpa using e)
    exact ⟨u, by simpa using q1, q2⟩
theorem Reps.get' {l : List D} {vs : List V} {i : Nat} {v : V} (h : Reps K G l vs) (e : vs[i]? = some v) : ∃ d, l[i]? = some d ∧ Rep K G d v := by
  have hl := h.length
  have hi : i < vs.length := (List.getElem?_eq_some_iff.mp e).1
  have e2 : l[i]? = some (l[i]'(by omega)) := List.getElem?_eq_getElem (by omega)
  obtain ⟨u, q1, q2⟩ := h.get e2
  rw [e] at q1; cases q1
  exact ⟨_, e2, q2⟩
theorem Reps.append : ∀ {l m : List D} {vs us : List V}, Reps K G l vs → Reps K G m us → Reps K G (l ++ m) (vs ++ us)
  | [], _, _, _, h, t => by simp only [Reps] at h; subst h; exact t
  | d :: l, m, vs, us, h, t => by
    simp only [Reps] at h
    obtain ⟨v, r, e, h1, h2⟩ := h
    subst e
    exact .cons h1 (Reps.append h2 t)
theorem Reps.set {d : D} {v : V} (q : Rep K G d v) : ∀ {l : List D} {vs : List V} (i : Nat), Reps K G l vs → Reps K G (l.set i d) (vs.set i v)
  | [], _, _, h => by simp only [Reps] at h; subst h; simp only [List.set, Reps]
  | x :: l, vs, 0, h => by
    simp only [Reps] at h
    obtain ⟨u, r, e, _, h2⟩ := h
    subst e
    exact .cons q h2
  | x :: l, vs, i + 1, h => by
    simp only [Reps] at h
    obtain ⟨u, r, e, h1, h2⟩ := h
    subst e
    exact .cons h1 (Reps.set q i h2)
theorem Reps.take : ∀ {l : List D} {vs : List V} (n : Nat), Reps K G l vs → Reps K G (l.take n) (vs.take n)
  | [], _, n, h => by simp only [Reps] at h; subst h; cases n <;> exact .nil
  | x :: l, vs, 0, h => .nil
  | x :: l, vs, n + 1, h => by
    simp only [Reps] at h
    obtain ⟨u, r, e, h1, h2⟩ := h
    subst e
    exact .cons h1 (Reps.take n h2)
theorem Reps.drop : ∀ {l : List D} {vs : List V} (n : Nat), Reps K G l vs → Reps K G (l.drop n) (vs.drop n)
  | l, vs, 0, h => h
  | [], _, n + 1, h => by simp only [Reps] at h; subst h; exact .nil
  | x :: l, vs, n + 1, h => by
    simp only [Reps] at h
    obtain ⟨u, r, e, h1, h2⟩ := h
    subst e
    exact Reps.drop n h2
theorem Reps.reverse : ∀ {l : List D} {vs : List V}, Reps K G l vs → Reps K G l.reverse vs.reverse
  | [], _, h => by simp only [Reps] at h; subst h; exact .nil
  | x :: l, vs, h => by
    simp only [Reps] at h
    obtain ⟨u, r, e, h1, h2⟩ := h
    subst e
    rw [List.reverse_cons, List.reverse_cons]
    exact (Reps.reverse h2).append (.cons h1 .nil)
theorem Reps.two {l : List D} {x y : V} (h : Reps K G l [x, y]) : ∃ d e, l = [d, e] ∧ Rep K G d x ∧ Rep K G e y := by
  match l, h with
  | [], h => simp [Reps] at h
  | [d], h => simp [Reps] at h
  | [d, e], h =>
    simp only [Reps] at h
    obtain ⟨v, r, e1, h1, v2, r2, e2, h2, e3⟩ := h
    subst e3 e2
    cases e1
    exact ⟨d, e, rfl, h1, h2⟩
  | d :: e :: f :: l, h =>
    have := h.length
    simp at this
theorem Rep.int_of {i : Int} {v : V} (h : Rep K G (.int i) v) : v = .int i := by simpa only [Rep] using h
theorem Rep.bl_of {i : Bool} {v : V} (h : Rep K G (.bl i) v) : v = .bl i := by simpa only [Rep] using h
theorem Rep.str_of {i : Str} {v : V} (h : Rep K G (.str i) v) : v = .str i := by simpa only [Rep] using h
theorem Rep.ref_of {i : Addr} {v : V} (h : Rep K G (.ref i) v) : v = .ref i := by simpa only [Rep] using h
theorem Rep.ty_of {i : String} {v : V} (h : Rep K G (.ty i) v) : v = .ty i := by simpa only [Rep] using h
theorem Rep.ty (i : String) : Rep K G (.ty i) (.ty i) := by simp only [Rep]
theorem Rep.non_of {v : V} (h : Rep K G .non v) : v = .non := by simpa only [Rep] using h
theorem Rep.int (i : Int) : Rep K G (.int i) (.int i) := by simp only [Rep]
theorem Rep.bl (i : Bool) : Rep K G (.bl i) (.bl i) := by simp only [Rep]
theorem Rep.str (i : Str) : Rep K G (.str i) (.str i) := by simp only [Rep]
theorem Rep.non : Rep K G .non .non := by simp only [Rep]
theorem Rep.ref (i : Addr) : Rep K G (.ref i) (.ref i) := by simp only [Rep]
theorem Rep.tup_of {l : List D} {v : V} (h : Rep K G (.tup l) v) : ∃ a vs, v = .ref a ∧ SqT K G a vs ∧ Reps K G l vs := by simpa only [Rep] using h
theorem Rep.lst_of {l : List D} {v : V} (h : Rep K G (.lst l) v) : ∃ a vs, v = .ref a ∧ SqL K G a vs ∧ Reps K G l vs := by simpa only [Rep] using h
theorem Rep.tup {l : List D} {a : Addr} {vs : List V} (q : SqT K G a vs) (r : Reps K G l vs) : Rep K G (.tup l) (.ref a) := by
  simp only [Rep]; exact ⟨a, vs, rfl, q, r⟩
theorem Rep.lst {l : List D} {a : Addr} {vs : List V} (q : SqL K G a vs) (r : Reps K G l vs) : Rep K G (.lst l) (.ref a) := by
  simp only [Rep]; exact ⟨a, vs, rfl, q, r⟩
theorem Rep.non_iff {d : D} {v : V} (h : Rep K G d v) : v = .non ↔ d = .non := by
  cases d with
  | non => simp [h.non_of]
  | bl b => rw [h.bl_of]; simp
  | int i => rw [h.int_of]; simp
  | str s => rw [h.str_of]; simp
  | ref a => rw [h.ref_of]; simp
  | ty a => rw [h.ty_of]; simp
  | tup l => obtain ⟨a, vs, e, _⟩ := h.tup_of; rw [e]; simp
  | lst l => obtain ⟨a, vs, e, _⟩ := h.lst_of; rw [e]; simp
end
inductive OO where
  | lst (l : List D)
  | ins (n : Str) (fs : List (Str × D))
  /-- the dict of an exception -/
  | xd (fs : List (Str × D))
  /-- an exception that was caught, at a, of the class n, its dict's place -/
  | exc (a : Addr) (n : Str) (d : Option Addr)
  /-- a dict by texts; one by tuples of ints and texts -/
  | dic (kvs : List (Str × D))
  | dit (kvs : List (List Key × D))
abbrev Ow := Addr → Option OO
def Ow.set (O : Ow) (p : Addr) (o : OO) : Ow := fun q => if q = p then some o else O q
def Ow.del (O : Ow) (p : Addr) : Ow := fun q => if q = p then none else O q
def Ow.le (O O' : Ow) : Prop := ∀ p o, O p = some o → O' p = some o
theorem Ow.le.refl (O : Ow) : O.le O := fun _ _ h => h
theorem Ow.le.trans {O O' O'' : Ow} (a : O.le O') (b : O'.le O'') : O.le O'' := fun p o h => b p o (a p o h)
theorem Ow.set_same {O : Ow} {p : Addr} {o : OO} : (O.set p o) p = some o := by unfold Ow.set; rw [if_pos rfl]
theorem Ow.set_ne {O : Ow} {p q : Addr} {o : OO} (h : q ≠ p) : (O.set p o) q = O q := by unfold Ow.set; rw [if_neg h]
theorem Ow.set_set {O : Ow} {p : Addr} {o o' : OO} : (O.set p o).set p o' = O.set p o' := by
  funext q; unfold Ow.set; split <;> rfl
theorem Ow.le_set {O : Ow} {p : Addr} {o : OO} (h : O p = none) : O.le (O.set p o) := fun q u e => by
  rw [Ow.set_ne]; exact e
  intro z; rw [z, h] at e; cases e
theorem Ow.del_set {O : Ow} {p : Addr} {o : OO} (h : O p = none) : (O.set p o).del p = O := by
  funext q; unfold Ow.set Ow.del
  by_cases e : q = p
  · simp [e, h]
  · simp [e]
theorem Ow.del_le {O : Ow} {p : Addr} : (O.del p).le O := fun q u e => by
  unfold Ow.del at e; split at e
  · cases e
  · exact e
theorem Ow.set_id {O : Ow} {p : Addr} {o : OO} (h : O p = some o) : O.set p o = O := by
  funext q; unfold Ow.set; split
  · rename_i e; rw [e, h]
  · rfl
def RepF (K : PySem.W.Frag) (G : Hp) : List (Str × D) → List (Str × V) → Prop := Paired fun p q => p.1 = q.1 ∧ Rep K G p.2 q.2
/-- the class that stands by a name of the text -/
def ClsAt (K : PySem.W.Frag) (n : Str) (C : Addr) : Prop := PySem.W.nsIn K mainGlobals n = some (some (.ref C))
/-- a caught exception that is kept -/
def excO (a C : Addr) (d : Option Addr) : HO := .ext fun h => ∃ (oe : Obj) (vs : Array Value), h.get? a = some oe ∧ oe.cls = .ref C ∧ oe.dict = d ∧ oe.data = .fields vs
def RepO (K : PySem.W.Frag) (G : Hp) : OO → HO → Prop
  | .lst l, h => ∃ vs, h = .lst vs ∧ Reps K G l vs
  | .ins n fs, h => ∃ C dx gs, ClsAt K n C ∧ h = .ins C dx gs ∧ RepF K G fs gs
  | .xd fs, h => ∃ gs, h = .xd gs ∧ RepF K G fs gs
  | .exc a n d, h => ∃ C, ClsAt K n C ∧ h = excO a C d
  | .dic kvs, h => ∃ gs : List (Key × V), h = .dK gs ∧ Paired (fun p q => q.1 = .inr p.1 ∧ Rep K G p.2 q.2) kvs gs
  | .dit kvs, h => ∃ gs : List (List Key × V), h = .dT gs ∧ Paired (fun p q => q.1 = p.1 ∧ Rep K G p.2 q.2) kvs gs
theorem RepO.mono {K : PySem.W.Frag} {G G' : Hp} (s : Same G G') {o : OO} {h : HO} (r : RepO K G o h) : RepO K G' o h := by
  cases o with
  | lst l => obtain ⟨vs, e, q⟩ := r; exact ⟨vs, e, q.mono s⟩
  | ins n fs => obtain ⟨C, dx, gs, c, e, q⟩ := r; exact ⟨C, dx, gs, c, e, Paired.mapP q fun p z y => ⟨y.1, y.2.mono s⟩⟩
  | xd fs => obtain ⟨gs, e, q⟩ := r; exact ⟨gs, e, Paired.mapP q fun p z y => ⟨y.1, y.2.mono s⟩⟩
  | exc a n d => exact r
  | dic kvs => obtain ⟨gs, e, q⟩ := r; exact ⟨gs, e, Paired.mapP q fun p z y => ⟨y.1, y.2.mono s⟩⟩
  | dit kvs => obtain ⟨gs, e, q⟩ := r; exact ⟨gs, e, Paired.mapP q fun p z y => ⟨y.1, y.2.mono s⟩⟩
/-- G: what stands still; O: what is owned; H: all -/
structure Wd where
  G : Hp
  O : Ow
  H : Hp
structure Own (K : PySem.W.Frag) (w : Wd) : Prop where
  sub : Same w.G w.H
  own : ∀ p o, w.O p = some o → w.G p = none ∧ ∃ h, w.H p = some h ∧ RepO K w.G o h
structure Fr (w w' : Wd) : Prop where
  gsub : Same w.G w'.G
  keep : ∀ b x, w.H b = some x → w.O b = none → w'.H b = some x
  gnew : ∀ b x, w'.G b = some x → w.H b ≠ none → w.G b = some x ∨ w.O b ≠ none
  onew : ∀ b, w'.O b ≠ none → w.H b = none ∨ w.O b ≠ none
  dom : ∀ b, w.H b ≠ none → w'.H b ≠ none
theorem Fr.refl (w : Wd) : Fr w w := ⟨Same.refl _, fun _ _ h _ => h, fun _ _ h _ => .inl h, fun _ h => .inr h, fun _ h => h⟩
theorem Fr.trans {w w' w'' : Wd} (a : Fr w w') (b : Fr w' w'') : Fr w w'' where
  gsub := a.gsub.trans b.gsub
  keep := fun c x h1 h2 => b.keep c x (a.keep c x h1 h2) (by
    cases e : w'.O c with
    | none => rfl
    | some o =>
      rcases a.onew c (by rw [e]; simp) with q | q
      · rw [q] at h1; cases h1
      · exact absurd h2 q)
  gnew := fun c x h1 h2 => by
    rcases b.gnew c x h1 (a.dom c h2) with q | q
    · exact a.gnew c x q h2
    · rcases a.onew c q with z | z
      · exact absurd z h2
      · exact .inr z
  onew := fun c h => by
    rcases b.onew c h with q | q
    · cases e : w.H c with
      | none => exact .inl rfl
      | some x => exact absurd q (a.dom c (by rw [e]; simp))
    · exact a.onew c q
  dom := fun c h => b.dom c (a.dom c h)
section
variable {K : PySem.W.Frag} {w : Wd}
theorem Own.none_of (h : Own K w) {p : Addr} (e : w.H p = none) : w.G p = none ∧ w.O p = none := by
  refine ⟨h.sub.free e, ?_⟩
  cases q : w.O p with
  | none => rfl
  | some o =>
    obtain ⟨_, z, z1, _⟩ := h.own p o q
    rw [e] at z1; cases z1
/-- a new still object -/
def Wd.still (w : Wd) (p : Addr) (o : HO) : Wd := ⟨upd w.G p o, w.O, upd w.H p o⟩
theorem Same.upd2 {G H : Hp} {p : Addr} {o : HO} (s : Same G H) : Same (upd G p o) (upd H p o) := fun b x e => by
  by_cases q : b = p
  · subst q; rw [upd_same] at e ⊢; exact e
  · rw [upd_ne q] at e ⊢; exact s b x e
theorem Same.upd_new {H : Hp} {p : Addr} {o : HO} (h : H p = none) : Same H (upd H p o) := fun b x e => by
  rw [upd_ne (ne_of_none e h)]; exact e
theorem Own.still (h : Own K w) {p : Addr} {o : HO} (e : w.H p = none) : Own K (w.still p o) where
  sub := Same.upd2 h.sub
  own := fun q u z => by
    have hq : q ≠ p := fun y => by
      have z' : w.O q = some u := z
      rw [y, (h.none_of e).2] at z'; cases z'
    obtain ⟨z1, x, z2, z3⟩ := h.own q u z
    refine ⟨?_, x, ?_, z3.mono (Same.upd_new (h.none_of e).1)⟩
    · show upd w.G p o q = none
      rw [upd_ne hq]; exact z1
    · show upd w.H p o q = some x
      rw [upd_ne hq]; exact z2
theorem Fr.still {p : Addr} {o : HO} (h : Own K w) (e : w.H p = none) : Fr w (w.still p o) where
  gsub := Same.upd_new (h.none_of e).1
  keep := fun b x h1 h2 => by
    show upd w.H p o b = some x
    rw [upd_ne (ne_of_none h1 e)]; exact h1
  gnew := fun b x h1 h2 => by
    have hb : b ≠ p := fun y => h2 (by rw [y]; exact e)
    have h1' : upd w.G p o b = some x := h1
    rw [upd_ne hb] at h1'; exact .inl h1'
  onew := fun b hb => .inr hb
  dom := fun b hb => by
    show upd w.H p o b ≠ none
    by_cases y : b = p
    · rw [y, upd_same]; simp
    · rw [upd_ne y]; exact hb
/-- a new owned object -/
def Wd.give (w : Wd) (p : Addr) (o : OO) (x : HO) : Wd := ⟨w.G, w.O.set p o, upd w.H p x⟩
theorem Own.give (h : Own K w) {p : Addr} {o : OO} {x : HO} (e : w.H p = none) (r : RepO K w.G o x) : Own K (w.give p o x) where
  sub := fun b u z => by
    show upd w.H p x b = some u
    have z' : w.G b = some u := z
    rw [upd_ne (ne_of_none z' (h.none_of e).1)]; exact h.sub b u z'
  own := fun q u z => by
    have z' : (w.O.set p o) q = some u := z
    by_cases y : q = p
    · subst y
      rw [Ow.set_same] at z'; cases z'
      exact ⟨(h.none_of e).1, x, upd_same, r⟩
    · rw [Ow.set_ne y] at z'
      obtain ⟨z1, x', z2, z3⟩ := h.own q u z'
      exact ⟨z1, x', (upd_ne y).trans z2, z3⟩
theorem Fr.give {p : Addr} {o : OO} {x : HO} (h : Own K w) (e : w.H p = none) : Fr w (w.give p o x) where
  gsub := Same.refl _
  keep := fun b u h1 h2 => by
    show upd w.H p x b = some u
    rw [upd_ne (ne_of_none h1 e)]; exact h1
  gnew := fun b u h1 h2 => .inl h1
  onew := fun b hb => by
    by_cases y : b = p
    · subst y; exact .inl e
    · refine .inr ?_
      have hb' : (w.O.set p o) b ≠ none := hb
      rw [Ow.set_ne y] at hb'; exact hb'
  dom := fun b hb => by
    show upd w.H p x b ≠ none
    by_cases y : b = p
    · rw [y, upd_same]; simp
    · rw [upd_ne y]; exact hb
/-- an owned object is written -/
theorem Own.write (h : Own K w) {p : Addr} {o o' : OO} {x : HO} (e : w.O p = some o') (r : RepO K w.G o x) : Own K (w.give p o x) where
  sub := fun b u z => by
    show upd w.H p x b = some u
    have z' : w.G b = some u := z
    rw [upd_ne (ne_of_none z' (h.own p _ e).1)]; exact h.sub b u z'
  own := fun q u z => by
    have z' : (w.O.set p o) q = some u := z
    by_cases y : q = p
    · subst y
      rw [Ow.set_same] at z'; cases z'
      exact ⟨(h.own q _ e).1, x, upd_same, r⟩
    · rw [Ow.set_ne y] at z'
      obtain ⟨z1, x', z2, z3⟩ := h.own q u z'
      exact ⟨z1, x', (upd_ne y).trans z2, z3⟩
theorem Fr.write {p : Addr} {o o' : OO} {x : HO} (h : Own K w) (e : w.O p = some o') : Fr w (w.give p o x) where
  gsub := Same.refl _
  keep := fun b u h1 h2 => by
    show upd w.H p x b = some u
    have y : b ≠ p := fun z => by rw [z, e] at h2; cases h2
    rw [upd_ne y]; exact h1
  gnew := fun b u h1 h2 => .inl h1
  onew := fun b hb => by
    by_cases y : b = p
    · subst y; exact .inr (by rw [e]; simp)
    · refine .inr ?_
      have hb' : (w.O.set p o) b ≠ none := hb
      rw [Ow.set_ne y] at hb'; exact hb'
  dom := fun b hb => by
    show upd w.H p x b ≠ none
    by_cases y : b = p
    · rw [y, upd_same]; simp
    · rw [upd_ne y]; exact hb
/-- less is owned -/
def Wd.drop (w : Wd) (O : Ow) : Wd := ⟨w.G, O, w.H⟩
theorem Own.drop (h : Own K w) {O : Ow} (l : O.le w.O) : Own K (w.drop O) := ⟨h.sub, fun p o e => h.own p o (l p o e)⟩
theorem Fr.drop {O : Ow} (l : O.le w.O) : Fr w (w.drop O) where
  gsub := Same.refl _
  keep := fun _ _ h _ => h
  gnew := fun _ _ h _ => .inl h
  onew := fun b h => .inr fun z => by
    have h' : O b ≠ none := h
    cases e : O b with
    | none => exact h' e
    | some o => rw [l b o e] at z; cases z
  dom := fun _ h => h
/-- an owned object stands still from now on -/
def Wd.freeze (w : Wd) (p : Addr) (x : HO) : Wd := ⟨upd w.G p x, w.O.del p, w.H⟩
theorem Own.freeze (h : Own K w) {p : Addr} {o : OO} {x : HO} (e : w.O p = some o) (ex : w.H p = some x) : Own K (w.freeze p x) where
  sub := fun b u z => by
    have z' : upd w.G p x b = some u := z
    by_cases y : b = p
    · subst y; rw [upd_same] at z'; cases z'; exact ex
    · rw [upd_ne y] at z'; exact h.sub b u z'
  own := fun q u z => by
    have z' : (w.O.del p) q = some u := z
    have y : q ≠ p := fun y => by
      rw [y] at z'; unfold Ow.del at z'; simp at z'
    have z2 : w.O q = some u := Ow.del_le q u z'
    obtain ⟨z1, x', z3, z4⟩ := h.own q u z2
    exact ⟨(upd_ne y).trans z1, x', z3, z4.mono (Same.upd_new (h.own p o e).1)⟩
theorem Fr.freeze {p : Addr} {o : OO} {x : HO} (h : Own K w) (e : w.O p = some o) : Fr w (w.freeze p x) where
  gsub := Same.upd_new (h.own p o e).1
  keep := fun b u h1 h2 => h1
  gnew := fun b u h1 h2 => by
    have h1' : upd w.G p x b = some u := h1
    by_cases y : b = p
    · subst y; exact .inr (by rw [e]; simp)
    · rw [upd_ne y] at h1'; exact .inl h1'
  onew := fun b hb => .inr fun z => hb (by
    show w.O.del p b = none
    unfold Ow.del; split
    · rfl
    · exact z)
  dom := fun b hb => hb
end
abbrev DEnv := List (Option D)
structure RepE (K : PySem.W.Frag) (G : Hp) (ρ : DEnv) (σ : L2.St) : Prop where
  len : ρ.length = σ.length
  get : ∀ (i : Nat) (d : D), ρ[i]? = some (some d) → ∃ v, σ[i]? = some (some v) ∧ Rep K G d v
section
variable {K : PySem.W.Frag} {G G' : Hp} {ρ : DEnv} {σ : L2.St}
theorem RepE.mono (s : Same G G') (h : RepE K G ρ σ) : RepE K G' ρ σ := ⟨h.len, fun i d e => let ⟨v, a, b⟩ := h.get i d e; ⟨v, a, b.mono s⟩⟩
theorem RepE.set (h : RepE K G ρ σ) {i : Nat} {d : D} {v : V} (r : Rep K G d v) : RepE K G (ρ.set i (some d)) (σ.set i (some v)) := by
  refine ⟨by simp [h.len], fun j e q => ?_⟩
  by_cases y : i = j
  · subst y
    have hi : i < ρ.length := by
      have := (List.getElem?_eq_some_iff.mp q).1
      simpa using this
    rw [List.getElem?_set_self hi] at q
    cases q
    exact ⟨v, List.getElem?_set_self (by rw [← h.len]; exact hi), r⟩
  · rw [List.getElem?_set_ne y] at q
    obtain ⟨u, a, b⟩ := h.get j e q
    exact ⟨u, (List.getElem?_set_ne y).trans a, b⟩
/-- names whose values are forgotten -/
def forget (ρ : DEnv) : List Nat → DEnv
  | [] => ρ
  | i :: r => forget (ρ.set i none) r
theorem RepE.non1 (h : RepE K G ρ σ) (i : Nat) : RepE K G (ρ.set i none) σ := by
  refine ⟨by simp [h.len], fun j e q => ?_⟩
  by_cases y : i = j
  · subst y
    have hi : i < ρ.length := by
      have := (List.getElem?_eq_some_iff.mp q).1
      simpa using this
    rw [List.getElem?_set_self hi] at q
    cases q
  · rw [List.getElem?_set_ne y] at q
    exact h.get j e q
theorem RepE.forget : ∀ (l : List Nat) {ρ : DEnv} (h : RepE K G ρ σ), RepE K G (forget ρ l) σ
  | [], _, h => h
  | i :: r, _, h => RepE.forget r (h.non1 i)
theorem RepE.none2 (h : RepE K G ρ σ) (i : Nat) : RepE K G (ρ.set i none) (σ.set i none) := by
  refine ⟨by simp [h.len], fun j e q => ?_⟩
  by_cases y : i = j
  · subst y
    have hi : i < ρ.length := by
      have := (List.getElem?_eq_some_iff.mp q).1
      simpa using this
    rw [List.getElem?_set_self hi] at q
    cases q
  · rw [List.getElem?_set_ne y] at q
    obtain ⟨u, a, b⟩ := h.get j e q
    exact ⟨u, (List.getElem?_set_ne y).trans a, b⟩
def wipeD (ρ : DEnv) : List Nat → DEnv
  | [] => ρ
  | v :: vs => (wipeD ρ vs).set v none
theorem RepE.wipe : ∀ (vs : List Nat), RepE K G ρ σ → RepE K G (wipeD ρ vs) (L2.wipe σ vs)
  | [], h => h
  | v :: vs, h => (RepE.wipe vs h).none2 v
end
/-- the slots vs are as wiped -/
theorem wipe_get (σ : L2.St) (vs : List Nat) (j : Nat) : (L2.wipe σ vs)[j]? = if j ∈ vs then (if j < σ.length then some none else none) else σ[j]? := by
  induction vs with
  | nil => simp [L2.wipe]
  | cons v vs ih =>
    show ((L2.wipe σ vs).set v none)[j]? = _
    rw [List.getElem?_set]
    by_cases y : v = j
    · subst y
      rw [if_pos rfl, wipe_length]
      simp
    · rw [if_neg y, ih]
      have : j ≠ v := fun z => y z.symm
      simp [this]
theorem wipe_eq {σ σ' : L2.St} {vs : List Nat} (hl : σ'.length = σ.length) (h : ∀ j, j ∉ vs → σ'[j]? = σ[j]?) : L2.wipe σ' vs = L2.wipe σ vs := by
  apply List.ext_getElem?
  intro j
  rw [wipe_get, wipe_get, hl]
  by_cases y : j ∈ vs
  · simp [y]
  · simp [y, h j y]
end SB
namespace SB
open PySem PySem.Spec PyProof.Rows L2
abbrev DQ := D → Ow → Prop
abbrev DT := DEnv → Ow → DQ → Prop
abbrev DTt := DEnv → Ow → (Bool → Ow → Prop) → Prop
abbrev DTa := DEnv → Ow → (List D → Ow → Prop) → Prop
def Lk (K : PySem.W.Frag) (w : Wd) (Q' : DQ) (Q : VK) : Prop := ∀ d v w', Own K w' → Fr w w' → Rep K w'.G d v → Q' d w'.O → Q v w'.H
def LkB (K : PySem.W.Frag) (w : Wd) (Q' : Bool → Ow → Prop) (Q : Bool → Hp → Prop) : Prop := ∀ b w', Own K w' → Fr w w' → Q' b w'.O → Q b w'.H
def LkA (K : PySem.W.Frag) (w : Wd) (Q' : List D → Ow → Prop) (Q : List V → Hp → Prop) : Prop := ∀ ds vs w', Own K w' → Fr w w' → Reps K w'.G ds vs → Q' ds w'.O → Q vs w'.H
theorem Lk.after {K : PySem.W.Frag} {w w1 : Wd} {Q' : DQ} {Q : VK} (h : Lk K w Q' Q) (f : Fr w w1) : Lk K w1 Q' Q := fun d v w' o f' => h d v w' o (f.trans f')
theorem LkB.after {K : PySem.W.Frag} {w w1 : Wd} {Q' : Bool → Ow → Prop} {Q : Bool → Hp → Prop} (h : LkB K w Q' Q) (f : Fr w w1) : LkB K w1 Q' Q := fun b w' o f' => h b w' o (f.trans f')
theorem LkA.after {K : PySem.W.Frag} {w w1 : Wd} {Q' : List D → Ow → Prop} {Q : List V → Hp → Prop} (h : LkA K w Q' Q) (f : Fr w w1) : LkA K w1 Q' Q := fun b v w' o f' => h b v w' o (f.trans f')
def Sem1 (K : PySem.W.Frag) (t : TE) (dt : DT) : Prop := ∀ ρ σ w Q' Q, Own K w → RepE K w.G ρ σ → Lk K w Q' Q → dt ρ w.O Q' → t σ w.H Q
def SemB (K : PySem.W.Frag) (t : TT) (dt : DTt) : Prop := ∀ ρ σ w Q' Q, Own K w → RepE K w.G ρ σ → LkB K w Q' Q → dt ρ w.O Q' → t σ w.H Q
def SemA (K : PySem.W.Frag) (t : TA) (dt : DTa) : Prop := ∀ ρ σ w Q' Q, Own K w → RepE K w.G ρ σ → LkA K w Q' Q → dt ρ w.O Q' → t σ w.H Q
def DE (X : Cx) (e : Expr) (dt : DT) : Prop := ∃ t, PE X e t ∧ Sem1 X.K t dt
def DB (X : Cx) (e : Expr) (dt : DTt) : Prop := ∃ t, PT X e t ∧ SemB X.K t dt
def DW (X : Cx) (e : Expr) (dt : DTt) : Prop := ∃ t, PW X e t ∧ SemB X.K t dt
def DA (X : Cx) (es : List Expr) (dt : DTa) : Prop := ∃ t, PA X es t ∧ SemA X.K t dt
abbrev D1 := D → Ow → DQ → Prop
abbrev D2 := D → D → Ow → DQ → Prop
abbrev DL := List D → Ow → DQ → Prop
def Op1 (K : PySem.W.Frag) (r : V → Hp → VK → Prop) (dr : D1) : Prop := ∀ w x vx Q' Q, Own K w → Rep K w.G x vx → Lk K w Q' Q → dr x w.O Q' → r vx w.H Q
def Op2 (K : PySem.W.Frag) (r : R2) (dr : D2) : Prop := ∀ w x y vx vy Q' Q, Own K w → Rep K w.G x vx → Rep K w.G y vy → Lk K w Q' Q → dr x y w.O Q' → r vx vy w.H Q
def OpL (K : PySem.W.Frag) (r : List V → Hp → VK → Prop) (dr : DL) : Prop := ∀ w xs vs Q' Q, Own K w → Reps K w.G xs vs → Lk K w Q' Q → dr xs w.O Q' → r vs w.H Q
def OpM (K : PySem.W.Frag) (T : String) (r : V → List V → Hp → VK → Prop) (dr : D → List D → Ow → DQ → Prop) : Prop := ∀ w x xs vx vs Q' Q, Own K w → Rep K w.G x vx → Reps K w.G xs vs → Lk K w Q' Q → dr x xs w.O Q' → r vx vs w.H Q
/-- the items of a list, owned or still -/
def lv (O : Ow) : D → Option (List D)
  | .lst l => some l
  | .ref p => match O p with
    | some (.lst l) => some l
    | _ => none
  | _ => none
/-- .. of a list or a tuple -/
def qv (O : Ow) : D → Option (List D)
  | .tup l => some l
  | d => lv O d
section
variable {K : PySem.W.Frag} {w : Wd} {d : D} {v : V} {l : List D}
theorem lv_rep (h : Own K w) (r : Rep K w.G d v) (e : lv w.O d = some l) : ∃ a vs, v = .ref a ∧ SqL K w.H a vs ∧ Reps K w.G l vs := by
  cases d with
  | lst m =>
    obtain ⟨a, vs, e1, q, rs⟩ := r.lst_of
    simp only [lv, Option.some.injEq] at e
    subst e
    exact ⟨a, vs, e1, h.sub.seq q, rs⟩
  | ref p =>
    simp only [lv] at e
    split at e
    · rename_i m hm
      simp only [Option.some.injEq] at e
      subst e
      obtain ⟨_, x, hx, vs, e2, rs⟩ := h.own p _ hm
      subst e2
      exact ⟨p, vs, r.ref_of, SqL.of hx, rs⟩
    · cases e
  | _ => simp [lv] at e
theorem qv_rep (h : Own K w) (r : Rep K w.G d v) (e : qv w.O d = some l) : ∃ a vs, v = .ref a ∧ (SqL K w.H a vs ∨ SqT K w.H a vs) ∧ Reps K w.G l vs := by
  cases d with
  | tup m =>
    obtain ⟨a, vs, e1, q, rs⟩ := r.tup_of
    simp only [qv, Option.some.injEq] at e
    subst e
    exact ⟨a, vs, e1, .inr (Same.seqT h.sub q), rs⟩
  | lst m =>
    obtain ⟨a, vs, e1, q, rs⟩ := lv_rep h r (show lv w.O (.lst m) = some l from e)
    exact ⟨a, vs, e1, .inl q, rs⟩
  | ref m =>
    obtain ⟨a, vs, e1, q, rs⟩ := lv_rep h r (show lv w.O (.ref m) = some l from e)
    exact ⟨a, vs, e1, .inl q, rs⟩
  | _ => simp [qv, lv] at e
end
def mkO : List D → Ow → DQ → Prop := fun l O Q => ∀ p, O p = none → Q (.ref p) (O.set p (.lst l))
def mkF : List D → Ow → DQ → Prop := fun l O Q => Q (.lst l) O
def MkOk (mk : List D → Ow → DQ → Prop) : Prop := ∀ (K : PySem.W.Frag) (w : Wd) (l : List D) (vs : List V) (Q' : DQ) (Q : VK) (p : Addr), Own K w → w.H p = none → Reps K w.G l vs → Lk K w Q' Q → mk l w.O Q' → Q (.ref p) (upd w.H p (.lst vs))
theorem mk_O : MkOk mkO := fun K w l vs Q' Q p h e r lk q =>
  lk (.ref p) (.ref p) (w.give p (.lst l) (.lst vs)) (h.give e ⟨vs, rfl, r⟩) (Fr.give h e) (.ref p) (q p (h.none_of e).2)
theorem mk_F : MkOk mkF := fun K w l vs Q' Q p h e r lk q =>
  lk (.lst l) (.ref p) (w.still p (.lst vs)) (h.still e) (Fr.still h e) (Rep.lst (SqL.of upd_same) (r.mono (Same.upd_new (h.none_of e).1))) q
theorem tup_still {K : PySem.W.Frag} {w : Wd} {l : List D} {vs : List V} {Q' : DQ} {Q : VK} {p : Addr} (h : Own K w) (e : w.H p = none) (r : Reps K w.G l vs) (lk : Lk K w Q' Q) (q : Q' (.tup l) w.O) : Q (.ref p) (upd w.H p (.tup vs)) :=
  lk (.tup l) (.ref p) (w.still p (.tup vs)) (h.still e) (Fr.still h e) (Rep.tup (SqT.of upd_same) (r.mono (Same.upd_new (h.none_of e).1))) q
section
variable {X : Cx} {a b c e : Expr} {es : List Expr} {da db dc : DT} {dA dB : DTt} {dl : DTa} {pos : Pos}
def dVar (i : Nat) : DT := fun ρ O Q => ∃ d, ρ[i]? = some (some d) ∧ Q d O
def dC (d : D) : DT := fun _ O Q => Q d O
theorem de_pe {t : TE} {d : D} {v : V} (h : PE X e t) (ht : t = tC v) (r : ∀ G, Rep X.K G d v) : DE X e (dC d) := by
  subst ht
  exact ⟨_, h, fun ρ σ w Q' Q hw he lk q => lk d v w hw (Fr.refl w) (r _) q⟩
theorem de_var (i : Nat) {x : Str} {pos : Pos} (hN : X.N[i]? = some x := by rfl) (hv : Vis X.env.scope x := by first | exact Or.inl rfl | exact Or.inr (Or.inl rfl) | exact Or.inr (Or.inr rfl)) (hd : (x == ("__debug__" : Str)) = false := by decide)
    (hcd : (x == ("__classdict__" : Str)) = false := by decide) : DE X (.Name x pos) (dVar i) :=
  ⟨_, pe_var hN hv hd hcd, fun ρ σ w Q' Q hw he lk ⟨d, e1, q⟩ => let ⟨v, e2, r⟩ := he.get i d e1; ⟨v, e2, lk d v w hw (Fr.refl w) r q⟩⟩
theorem de_int {i j pos} : DE X (.Constant (.int i) j pos) (dC (.int i)) := de_pe pe_int rfl fun _ => .int i
theorem de_bl {i j pos} : DE X (.Constant (.bool i) j pos) (dC (.bl i)) := de_pe pe_bl rfl fun _ => .bl i
theorem de_non {j pos} : DE X (.Constant .none j pos) (dC .non) := de_pe pe_non rfl fun _ => .non
theorem de_str {x j pos} : DE X (.Constant (.str x) j pos) (dC (.str x)) := de_pe pe_str rfl fun _ => .str x
theorem de_glob {x : Str} {d : D} {v : V} {u : Value} {pos : Pos} (hg : Gl X x) (hm : X.mg x = some u) (r : RelV v u) (rp : ∀ G, Rep X.K G d v) (hd : (x == ("__debug__" : Str)) = false := by decide) : DE X (.Name x pos) (dC d) :=
  de_pe (pe_glob hg hm r hd) rfl rp
def dOp (dr : D2) (da db : DT) : DT := fun ρ O Q => da ρ O fun x O1 => db ρ O1 fun y O2 => dr x y O2 Q
theorem sem_op {r : R2} {dr : D2} {ta tb : TE} (hr : Op2 X.K r dr) (fa : Sem1 X.K ta da) (fb : Sem1 X.K tb db) : Sem1 X.K (tOp r ta tb) (dOp dr da db) := by
  intro ρ σ w Q' Q hw he lk h
  refine fa ρ σ w _ _ hw he (fun x vx w1 hw1 f1 rx h1 => ?_) h
  refine fb ρ σ w1 _ _ hw1 (he.mono f1.gsub) (fun y vy w2 hw2 f2 ry h2 => ?_) h1
  exact hr w2 x y vx vy _ Q hw2 (rx.mono f2.gsub) ry (lk.after (f1.trans f2)) h2
theorem de_op {op : Operator} {r : R2} {dr : D2} (ho : OpR X (binaryOp op) r) (hr : Op2 X.K r dr) (ha : DE X a da) (hb : DE X b db) : DE X (.BinOp a op b pos) (dOp dr da db) := by
  obtain ⟨ta, pa, fa⟩ := ha
  obtain ⟨tb, pb, fb⟩ := hb
  exact ⟨_, pe_op ho pa pb, sem_op hr fa fb⟩
theorem de_cmp {op : CmpOp} {r : R2} {dr : D2} (ho : OpR X (compareOp op) r) (hr : Op2 X.K r dr) (ha : DE X a da) (hb : DE X b db) (hm : behindInMarks op b = false) : DE X (.Compare a [op] [b] pos) (dOp dr da db) := by
  obtain ⟨ta, pa, fa⟩ := ha
  obtain ⟨tb, pb, fb⟩ := hb
  exact ⟨_, pe_cmpR ho pa pb hm, sem_op hr fa fb⟩
def dUn (dr : D1) (da : DT) : DT := fun ρ O Q => da ρ O fun x O1 => dr x O1 Q
theorem de_un {op : UnaryOp} {r : V → Hp → VK → Prop} {dr : D1} (ho : UnR X (unaryOp op) r) (hr : Op1 X.K r dr) (ha : DE X a da) : DE X (.UnaryOp op a pos) (dUn dr da) := by
  obtain ⟨ta, pa, fa⟩ := ha
  refine ⟨_, pe_un ho pa, fun ρ σ w Q' Q hw he lk h => ?_⟩
  refine fa ρ σ w _ _ hw he (fun x vx w1 hw1 f1 rx h1 => ?_) h
  exact hr w1 x vx _ Q hw1 rx (lk.after f1) h1
def asB (Q : Bool → Ow → Prop) : DQ := fun d O => match d with
  | .bl k => Q k O
  | _ => False
def dTest (da : DT) : DTt := fun ρ O Q => da ρ O (asB Q)
theorem sem_test {t : TE} (fa : Sem1 X.K t da) : SemB X.K (tTest t) (dTest da) := by
  intro ρ σ w Q' Q hw he lk h
  refine fa ρ σ w _ _ hw he (fun x vx w1 hw1 f1 rx h1 => ?_) h
  cases x with
  | bl k => exact ⟨k, rx.bl_of, lk k w1 hw1 f1 h1⟩
  | _ => exact h1.elim
theorem db_cmp {op : CmpOp} {r : R2} {dr : D2} (ho : OpR X (compareOp op) r) (hr : Op2 X.K r dr) (ha : DE X a da) (hb : DE X b db) (hm : behindInMarks op b = false) : DB X (.Compare a [op] [b] pos) (dTest (dOp dr da db)) := by
  obtain ⟨ta, pa, fa⟩ := ha
  obtain ⟨tb, pb, fb⟩ := hb
  exact ⟨_, pt_cmpR ho pa pb hm, sem_test (sem_op hr fa fb)⟩
theorem db_val (ha : DE X e da) (he : ∀ whole, isTrue e X.env whole = (do let v ← whole; standAt e.pos; holding [v] (truthy v)) := by intro _; rfl) : DB X e (dTest da) := by
  obtain ⟨ta, pa, fa⟩ := ha
  exact ⟨_, pt_val pa he, sem_test fa⟩
def dAnd (x y : DTt) : DTt := fun ρ O Q => x ρ O fun k O1 => if k = true then y ρ O1 Q else Q false O1
def dOr (x y : DTt) : DTt := fun ρ O Q => x ρ O fun k O1 => if k = true then Q true O1 else y ρ O1 Q
def dNot (x : DTt) : DTt := fun ρ O Q => x ρ O fun k O1 => Q (!k) O1
theorem dw_and1 (ha : DB X a dA) : DW X (.BoolOp .And [a] pos) dA := let ⟨t, p, f⟩ := ha; ⟨t, pw_and1 p, f⟩
theorem dw_or1 (ha : DB X a dA) : DW X (.BoolOp .Or [a] pos) dA := let ⟨t, p, f⟩ := ha; ⟨t, pw_or1 p, f⟩
theorem sem_and {t u : TT} (fa : SemB X.K t dA) (fb : SemB X.K u dB) : SemB X.K (tAnd t u) (dAnd dA dB) := by
  intro ρ σ w Q' Q hw he lk h
  refine fa ρ σ w _ _ hw he (fun k w1 hw1 f1 h1 => ?_) h
  cases k with
  | true => exact fb ρ σ w1 Q' Q hw1 (he.mono f1.gsub) (lk.after f1) h1
  | false => exact lk false w1 hw1 f1 h1
theorem sem_or {t u : TT} (fa : SemB X.K t dA) (fb : SemB X.K u dB) : SemB X.K (tOr t u) (dOr dA dB) := by
  intro ρ σ w Q' Q hw he lk h
  refine fa ρ σ w _ _ hw he (fun k w1 hw1 f1 h1 => ?_) h
  cases k with
  | false => exact fb ρ σ w1 Q' Q hw1 (he.mono f1.gsub) (lk.after f1) h1
  | true => exact lk true w1 hw1 f1 h1
variable {rest : List Expr}
theorem dw_and (ha : DB X a dA) (hb : DW X (.BoolOp .And (b :: rest) pos) dB) : DW X (.BoolOp .And (a :: b :: rest) pos) (dAnd dA dB) :=
  let ⟨_, p, f⟩ := ha; let ⟨_, q, g⟩ := hb; ⟨_, pw_and p q, sem_and f g⟩
theorem dw_or (ha : DB X a dA) (hb : DW X (.BoolOp .Or (b :: rest) pos) dB) : DW X (.BoolOp .Or (a :: b :: rest) pos) (dOr dA dB) :=
  let ⟨_, p, f⟩ := ha; let ⟨_, q, g⟩ := hb; ⟨_, pw_or p q, sem_or f g⟩
theorem db_w (h : DW X e dA) : DB X e dA := let ⟨t, p, f⟩ := h; ⟨t, p.pt, f⟩
theorem db_not (ha : DB X a dA) : DB X (.UnaryOp .Not a pos) (dNot dA) := by
  obtain ⟨t, p, f⟩ := ha
  refine ⟨_, pt_not p, fun ρ σ w Q' Q hw he lk h => ?_⟩
  exact f ρ σ w _ _ hw he (fun k w1 hw1 f1 h1 => lk (!k) w1 hw1 f1 h1) h
/-- and, or, not as values (all but the last True or False) -/
def dAndV (x y : DT) : DT := fun ρ O Q => x ρ O (asB fun k O1 => if k = true then y ρ O1 Q else Q (.bl false) O1)
def dOrV (x y : DT) : DT := fun ρ O Q => x ρ O (asB fun k O1 => if k = true then Q (.bl true) O1 else y ρ O1 Q)
def dNotV (x : DT) : DT := fun ρ O Q => x ρ O (asB fun k O1 => Q (.bl (!k)) O1)
theorem de_one {op} (h : DE X a da) : DE X (.BoolOp op [a] pos) da := let ⟨t, p, f⟩ := h; ⟨t, pe_one p, f⟩
theorem de_and (ha : DE X a da) (hb : DE X (.BoolOp .And (b :: rest) pos) db) : DE X (.BoolOp .And (a :: b :: rest) pos) (dAndV da db) := by
  obtain ⟨ta, p, f⟩ := ha
  obtain ⟨tb, q, g⟩ := hb
  refine ⟨_, pe_and p q, fun ρ σ w Q' Q hw he lk h => ?_⟩
  refine f ρ σ w _ _ hw he (fun x vx w1 hw1 f1 rx h1 => ?_) h
  cases x with
  | bl k =>
    refine ⟨k, rx.bl_of, ?_⟩
    cases k with
    | true => exact g ρ σ w1 Q' Q hw1 (he.mono f1.gsub) (lk.after f1) h1
    | false => exact lk _ _ w1 hw1 f1 (.bl false) h1
  | _ => exact h1.elim
theorem de_or (ha : DE X a da) (hb : DE X (.BoolOp .Or (b :: rest) pos) db) : DE X (.BoolOp .Or (a :: b :: rest) pos) (dOrV da db) := by
  obtain ⟨ta, p, f⟩ := ha
  obtain ⟨tb, q, g⟩ := hb
  refine ⟨_, pe_or p q, fun ρ σ w Q' Q hw he lk h => ?_⟩
  refine f ρ σ w _ _ hw he (fun x vx w1 hw1 f1 rx h1 => ?_) h
  cases x with
  | bl k =>
    refine ⟨k, rx.bl_of, ?_⟩
    cases k with
    | false => exact g ρ σ w1 Q' Q hw1 (he.mono f1.gsub) (lk.after f1) h1
    | true => exact lk _ _ w1 hw1 f1 (.bl true) h1
  | _ => exact h1.elim
theorem de_not (ha : DE X a da) : DE X (.UnaryOp .Not a pos) (dNotV da) := by
  obtain ⟨ta, p, f⟩ := ha
  refine ⟨_, pe_not p, fun ρ σ w Q' Q hw he lk h => ?_⟩
  refine f ρ σ w _ _ hw he (fun x vx w1 hw1 f1 rx h1 => ?_) h
  cases x with
  | bl k => exact ⟨k, rx.bl_of, lk _ _ w1 hw1 f1 (.bl _) h1⟩
  | _ => exact h1.elim
def dIf (t : DTt) (x y : DT) : DT := fun ρ O Q => t ρ O fun k O1 => if k = true then x ρ O1 Q else y ρ O1 Q
def dNil : DTa := fun _ O Q => Q [] O
def dCons (da : DT) (dr : DTa) : DTa := fun ρ O Q => da ρ O fun x O1 => dr ρ O1 fun xs O2 => Q (x :: xs) O2
theorem da_nil : DA X [] dNil := ⟨_, pa_nil, fun ρ σ w Q' Q hw he lk h => lk [] [] w hw (Fr.refl w) .nil h⟩
theorem da_cons (ha : DE X e da) (hr : DA X es dl) (hs : starEach (e :: es) X.env = (false, eval e X.env) :: starEach es X.env := by rfl) : DA X (e :: es) (dCons da dl) := by
  obtain ⟨ta, p, f⟩ := ha
  obtain ⟨tb, q, g⟩ := hr
  refine ⟨_, pa_cons p q hs, fun ρ σ w Q' Q hw he lk h => ?_⟩
  refine f ρ σ w _ _ hw he (fun x vx w1 hw1 f1 rx h1 => ?_) h
  refine g ρ σ w1 _ _ hw1 (he.mono f1.gsub) (fun xs vs w2 hw2 f2 rs h2 => ?_) h1
  exact lk _ _ w2 hw2 (f1.trans f2) (.cons (rx.mono f2.gsub) rs) h2
def dTup (dl : DTa) : DT := fun ρ O Q => dl ρ O fun xs O1 => xs.length ≤ 1000 ∧ Q (.tup xs) O1
theorem line1000 : (1000 : Nat) ≤ sizeLine := by decide
theorem de_tup {x1} (h : DA X es dl) : DE X (.Tuple es x1 pos) (dTup dl) := by
  obtain ⟨t, p, f⟩ := h
  refine ⟨_, pe_tup p, fun ρ σ w Q' Q hw he lk h => ?_⟩
  refine f ρ σ w _ _ hw he (fun xs vs w1 hw1 f1 rs ⟨hl, h1⟩ => ⟨?_, fun q hq => ?_⟩) h
  · rw [← rs.length]; exact Nat.le_trans hl line1000
  · exact tup_still hw1 hq rs (lk.after f1) h1
def dLst (mk : List D → Ow → DQ → Prop) (dl : DTa) : DT := fun ρ O Q => dl ρ O fun xs O1 => xs.length ≤ 1000 ∧ mk xs O1 Q
theorem de_lst {mk : List D → Ow → DQ → Prop} (hm : MkOk mk) (h : DA X es dl) : DE X (.List es pos) (dLst mk dl) := by
  obtain ⟨t, p, f⟩ := h
  refine ⟨_, pe_lst p, fun ρ σ w Q' Q hw he lk h => ?_⟩
  refine f ρ σ w _ _ hw he (fun xs vs w1 hw1 f1 rs ⟨hl, h1⟩ => ⟨?_, fun q hq => ?_⟩) h
  · rw [← rs.length]; exact Nat.le_trans hl line1000
  · exact hm X.K w1 xs vs _ Q q hw1 hq rs (lk.after f1) h1
/-- a def's promise, over data -/
def Prom (K : PySem.W.Frag) (s : DL) : Sp := fun vs H Q _ => ∃ ds w Q', w.H = H ∧ Own K w ∧ Reps K w.G ds vs ∧ Lk K w Q' Q ∧ s ds w.O Q'
def dCall (s : DL) (dl : DTa) : DT := fun ρ O Q => dl ρ O fun ds O1 => s ds O1 Q
theorem sem_call {s : DL} {t : TA} (f : SemA X.K t dl) : Sem1 X.K (tCall (Prom X.K s) [] E0 t) (dCall s dl) := by
  intro ρ σ w Q' Q hw he lk h
  refine f ρ σ w _ _ hw he (fun xs vs w1 hw1 f1 rs h1 => ?_) h
  rw [List.append_nil]
  exact ⟨xs, w1, Q', rfl, hw1, rs, lk.after f1, h1⟩
variable {k : Nat} {f : Addr} {fd : FuncData} {ps : List Str} {s : DL} {x : Str} {p : Pos}
variable {b : Bool}
theorem sem_callS {s : DL} {t : TA} (f : SemA X.K t dl) : Sem1 X.K (tCallS (Prom X.K s) (fun _ => E0) t) (dCall s dl) := by
  intro ρ σ w Q' Q hw he lk h
  exact f ρ σ w _ _ hw he (fun xs vs w1 hw1 f1 rs h1 => ⟨xs, w1, Q', rfl, hw1, rs, lk.after f1, h1⟩) h
theorem pass0S {σ : L2.St} : PassesAt CX0 X σ E0 := fun _ _ _ _ _ _ c => c.elim
theorem de_call (F : FnB X.prog X.w X.K X.mg X.base b k f fd ps (Prom X.K s)) (hr : Rm k X) (hg : Gl X x) (hm : X.mg x = some (.ref f)) (hk : PySem.W.keepIn X.K (.ref f) = true) (hb : Binds X.K fd ps [])
    (ha : DA X (e :: es) dl) (hdb : (x == ("__debug__" : Str)) = false := by decide) (he : starEach (e :: es) X.env = (false, eval e X.env) :: starEach es X.env := by rfl) (hpl : (backTo pos (starEach es X.env)).any (·.1) = false := by rfl) (hb2 : X.calm = true ∨ b = true := by first | exact .inr rfl | exact .inl rfl) :
    DE X (.Call (.Name x p) (e :: es) [] pos) (dCall s dl) := by
  obtain ⟨t, pa, fa⟩ := ha
  cases c : X.calm with
  | true => exact ⟨_, pe_call F.ok (hr.room c) hg hm hk hb .nil pass0 pa hdb he hpl, sem_call fa⟩
  | false =>
    obtain ⟨r, hc⟩ := hr.hot c
    exact ⟨_, L2H.pe_callH (F.hot (hb2.resolve_left (by rw [c]; exact Bool.false_ne_true))) r hc hg hm hk hb (fun _ => pass0S) pa hdb he hpl, sem_callS fa⟩
def dBu (dr : DL) (dl : DTa) : DT := fun ρ O Q => dl ρ O fun ds O1 => dr ds O1 Q
theorem sem_bu {r : List V → Hp → VK → Prop} {dr : DL} {t : TA} (hr : OpL X.K r dr) (f : SemA X.K t dl) : Sem1 X.K (tCB r t) (dBu dr dl) := by
  intro ρ σ w Q' Q hw he lk h
  refine f ρ σ w _ _ hw he (fun xs vs w1 hw1 f1 rs h1 => ?_) h
  exact hr w1 xs vs _ Q hw1 rs (lk.after f1) h1
theorem de_callB {id : String} {r : List V → Hp → VK → Prop} {dr : DL} (hc : CallR X (.builtin id) r) (hr : OpL X.K r dr) (hg : Gl X x) (hm : X.mg x = none) (hv : bootBuiltins x = some (.builtin id)) (ha : DA X (e :: es) dl) (hn : x ≠ "__name__" := by decide) (hdb : (x == ("__debug__" : Str)) = false := by decide)
    (he : starEach (e :: es) X.env = (false, eval e X.env) :: starEach es X.env := by rfl) (hpl : (backTo pos (starEach es X.env)).any (·.1) = false := by rfl) : DE X (.Call (.Name x p) (e :: es) [] pos) (dBu dr dl) := by
  obtain ⟨t, pa, fa⟩ := ha
  exact ⟨_, pe_callB hc hg hm hv pa hn hdb he hpl, sem_bu hr fa⟩
theorem de_callTy {T : String} {r : List V → Hp → VK → Prop} {dr : DL} (hc : CallR X (.type T) r) (hr : OpL X.K r dr) (hg : Gl X x) (hm : X.mg x = none) (hv : bootBuiltins x = some (.type T)) (ha : DA X (e :: es) dl) (hn : x ≠ "__name__" := by decide) (hdb : (x == ("__debug__" : Str)) = false := by decide)
    (he : starEach (e :: es) X.env = (false, eval e X.env) :: starEach es X.env := by rfl) (hpl : (backTo pos (starEach es X.env)).any (·.1) = false := by rfl) : DE X (.Call (.Name x p) (e :: es) [] pos) (dBu dr dl) := by
  obtain ⟨t, pa, fa⟩ := ha
  exact ⟨_, pe_callTy hc hg hm hv pa hn hdb he hpl, sem_bu hr fa⟩
end
end SB
namespace SB
open PySem PySem.Spec PyProof.Rows L2
section
variable {K : PySem.W.Frag} {X : Cx}
/-- two ints -/
def dII (C : Int → Int → Prop) (g : Int → Int → D) : D2 := fun x y O Q => match x, y with
  | .int i, .int j => C i j ∧ Q (g i j) O
  | _, _ => False
theorem op2_II {C : Int → Int → Prop} {g : Int → Int → V} {g' : Int → Int → D} (hg : ∀ G i j, Rep K G (g' i j) (g i j)) : Op2 K (rI C g) (dII C g') := by
  intro w x y vx vy Q' Q hw rx ry lk h
  cases x with
  | int i =>
    cases y with
    | int j => exact ⟨i, j, rx.int_of, ry.int_of, h.1, lk _ _ w hw (Fr.refl w) (hg _ i j) h.2⟩
    | _ => exact h.elim
  | _ => exact h.elim
def dI0 (g : Int → Int → D) : D2 := fun x y O Q => match x, y with
  | .int i, .int j => Q (g i j) O
  | _, _ => False
theorem op2_I0 {g : Int → Int → V} {g' : Int → Int → D} (hg : ∀ G i j, Rep K G (g' i j) (g i j)) : Op2 K (rI0 g) (dI0 g') := by
  intro w x y vx vy Q' Q hw rx ry lk h
  cases x with
  | int i =>
    cases y with
    | int j => exact ⟨i, j, rx.int_of, ry.int_of, lk _ _ w hw (Fr.refl w) (hg _ i j) h⟩
    | _ => exact h.elim
  | _ => exact h.elim
abbrev dSub : D2 := dI0 fun i j => .int (i - j)
theorem o_sub : Op2 K (rI0 fun i j => .int (i - j)) dSub := op2_I0 fun _ _ _ => .int _
/-- the product of two ints of together less than a hundred million bits -/
def Mok (i j : Int) : Prop := i.natAbs.log2 + j.natAbs.log2 < 100000000
theorem Mok.ok {i j : Int} (h : Mok i j) : IntMulOk i j := by
  have b : ∀ x : Int, Builtin.Int.intBits x ≤ x.natAbs.log2 + 1 := fun x => by
    unfold Builtin.Int.intBits; split <;> omega
  have h1 := b i
  have h2 := b j
  have h3 : i.natAbs.log2 + j.natAbs.log2 < 100000000 := h
  have e : bitsLine = 134217728 := by decide
  intro z
  rw [Bool.and_eq_true] at z
  have z2 := z.2
  unfold Builtin.Int.intTooBig at z2
  have z3 := of_decide_eq_true z2
  rw [e] at z3; omega
theorem op_mulX : OpR X (binaryOp .Mult) (rI Mok fun i j => .int (i * j)) := opI fun _ _ _ _ _ _ _ hc q => mul_int q hc.ok
abbrev dMul : D2 := dII Mok fun i j => .int (i * j)
theorem o_mul : Op2 K (rI Mok fun i j => .int (i * j)) dMul := op2_II fun _ _ _ => .int _
/-- a division that needs no more than the C code -/
def Dok (i j : Int) : Prop := j ≠ 0 ∧ Builtin.divisionGoesByPylong i j = false
theorem op_fdivX : OpR X (binaryOp .FloorDiv) (rI Dok fun i j => .int (i.fdiv j)) := opI fun i j _ _ _ _ _ hc q => floordiv_int hc.1 q (.inl hc.2)
abbrev dFdiv : D2 := dII Dok fun i j => .int (i.fdiv j)
theorem o_fdiv : Op2 K (rI Dok fun i j => .int (i.fdiv j)) dFdiv := op2_II fun _ _ _ => .int _
abbrev dMod : D2 := dII (fun _ j => j ≠ 0) fun i j => .int (i.fmod j)
theorem o_mod : Op2 K (rI (fun _ j => j ≠ 0) fun i j => .int (i.fmod j)) dMod := op2_II fun _ _ _ => .int _
abbrev dPow : D2 := dII CPow fun i j => .int (i ^ j.toNat)
theorem o_pow : Op2 K (rI CPow fun i j => .int (i ^ j.toNat)) dPow := op2_II fun _ _ _ => .int _
abbrev dLt : D2 := dI0 fun i j => .bl (decide (i < j))
abbrev dLe : D2 := dI0 fun i j => .bl (decide (i ≤ j))
abbrev dGt : D2 := dI0 fun i j => .bl (decide (j < i))
abbrev dGe : D2 := dI0 fun i j => .bl (decide (j ≤ i))
theorem o_lt : Op2 K (rI0 fun i j => .bl (decide (i < j))) dLt := op2_I0 fun _ _ _ => .bl _
theorem o_le : Op2 K (rI0 fun i j => .bl (decide (i ≤ j))) dLe := op2_I0 fun _ _ _ => .bl _
theorem o_gt : Op2 K (rI0 fun i j => .bl (decide (j < i))) dGt := op2_I0 fun _ _ _ => .bl _
def dNeg : D1 := fun x O Q => match x with
  | .int i => Q (.int (-i)) O
  | _ => False
theorem o_neg : Op1 K (rU fun i => .int (-i)) dNeg := by
  intro w x vx Q' Q hw rx lk h
  cases x with
  | int i => exact ⟨i, rx.int_of, lk _ _ w hw (Fr.refl w) (.int _) h⟩
  | _ => exact h.elim
def rCatL (K : PySem.W.Frag) : R2 := fun x y H Q => ∃ l b xs zs, x = .ref l ∧ y = .ref b ∧ SqL K H l xs ∧ SqL K H b zs ∧ xs.length + zs.length ≤ sizeLine ∧ ∀ p, H p = none → Q (.ref p) (upd H p (.lst (xs ++ zs)))
theorem op_catL : OpR X (binaryOp .Add) (rCatL X.K) := by
  intro pins s σ H x y v u Q I rx ry h
  obtain ⟨l, b, xs, zs, rfl, rfl, hH, hB, hz, q⟩ := h
  cases rx
  cases ry
  obtain ⟨its, r, p1, _⟩ := I.list hH
  obtain ⟨its2, r2, p2, _⟩ := I.list hB
  obtain ⟨⟨cls, dd, data, sl⟩, ho, hc, n, hd⟩ := p1.isList
  obtain ⟨⟨cls2, dd2, data2, sl2⟩, ho2, hc2, n2, hd2⟩ := p2.isList
  simp only at hc hd hc2 hd2
  subst hc hd hc2 hd2
  have e : its.toArray ++ its2.toArray = (its ++ its2).toArray := by simp
  refine concat_meets ⟨_, ho, rfl⟩ ⟨_, ho2, rfl⟩ noFill_list_add seq_list_add PySem.F.slot_list_add PySem.F.entry_list_add (PySem.F.args_list_add_2 _ _) (list_addW l b its.toArray its2.toArray n n2 dd dd2 sl sl2 (by rw [List.size_toArray, List.size_toArray, ← r.length, ← r2.length]; exact hz)) ⟨ho, ho2, ?_⟩
  rw [e]
  exact ⟨.ref _, _, I.lnew (t' := s.toks) (r.append r2) (by rw [List.length_append]; omega), rfl, q _ I.fresh⟩
def rAddA (K : PySem.W.Frag) : R2 := fun x y H Q => ((rI0 (fun i j => .int (i + j)) x y H Q ∨ (∃ i j, x = .str i ∧ y = .str j ∧ i.length + j.length ≤ sizeLine ∧ Q (.str (i ++ j)) H)) ∨ rCatL K x y H Q) ∨ rCatA K x y H Q
theorem op_addA : OpR X (binaryOp .Add) (rAddA X.K) := ((op_add.or op_add_str).or op_catL).or op_catA
def dAdd (mk : List D → Ow → DQ → Prop) : D2 := fun x y O Q => match x, y with
  | .int i, .int j => Q (.int (i + j)) O
  | .str a, .str b => a.length + b.length ≤ sizeLine ∧ Q (.str (a ++ b)) O
  | .tup l, .tup m => l.length + m.length ≤ 100000 ∧ Q (.tup (l ++ m)) O
  | x, y => ∃ l, lv O x = some l ∧ ∃ m, lv O y = some m ∧ l.length + m.length ≤ 100000 ∧ mk (l ++ m) O Q
theorem line100000 : (100000 : Nat) ≤ sizeLine := by decide
theorem o_addl {mk : List D → Ow → DQ → Prop} (hm : MkOk mk) {w : Wd} {x y : D} {vx vy : V} {Q' : DQ} {Q : VK} (hw : Own K w) (rx : Rep K w.G x vx) (ry : Rep K w.G y vy) (lk : Lk K w Q' Q)
    (h : ∃ l, lv w.O x = some l ∧ ∃ m, lv w.O y = some m ∧ l.length + m.length ≤ 100000 ∧ mk (l ++ m) w.O Q') : rCatL K vx vy w.H Q := by
  obtain ⟨l, e1, m, e2, hl, q⟩ := h
  obtain ⟨a, vs, z1, q1, r1⟩ := lv_rep hw rx e1
  obtain ⟨b, us, z2, q2, r2⟩ := lv_rep hw ry e2
  refine ⟨a, b, vs, us, z1, z2, q1, q2, ?_, fun p hp => ?_⟩
  · rw [← r1.length, ← r2.length]; exact Nat.le_trans hl line100000
  · exact hm K w _ _ Q' Q p hw hp (r1.append r2) lk q
theorem o_add {mk : List D → Ow → DQ → Prop} (hm : MkOk mk) : Op2 K (rAddA K) (dAdd mk) := by
  intro w x y vx vy Q' Q hw rx ry lk h
  unfold dAdd at h
  split at h
  · exact .inl (.inl (.inl ⟨_, _, rx.int_of, ry.int_of, lk _ _ w hw (Fr.refl w) (.int _) h⟩))
  · exact .inl (.inl (.inr ⟨_, _, rx.str_of, ry.str_of, h.1, lk _ _ w hw (Fr.refl w) (.str _) h.2⟩))
  · rename_i l m
    obtain ⟨a, vs, z1, q1, r1⟩ := rx.tup_of
    obtain ⟨b, us, z2, q2, r2⟩ := ry.tup_of
    refine .inr ⟨a, b, vs, us, z1, z2, Same.seqT hw.sub q1, Same.seqT hw.sub q2, ?_, fun e => ?_, fun _ e => ?_, fun _ _ p hp => tup_still hw hp (r1.append r2) lk h.2⟩
    · rw [← r1.length, ← r2.length]; exact Nat.le_trans h.1 line100000
    · have e' : l = [] := List.eq_nil_of_length_eq_zero (by rw [r1.length, e]; rfl)
      subst e'
      exact lk _ _ w hw (Fr.refl w) (Rep.tup q2 r2) h.2
    · have e' : m = [] := List.eq_nil_of_length_eq_zero (by rw [r2.length, e]; rfl)
      subst e'
      rw [List.append_nil] at h
      exact lk _ _ w hw (Fr.refl w) (Rep.tup q1 r1) h.2
  · exact .inl (.inr (o_addl hm hw rx ry lk h))
mutual
def eqv : D → D → Bool
  | .non, .non => true
  | .bl a, .bl b => a == b
  | .bl a, .int j => (if a then 1 else 0) == j
  | .int i, .bl b => i == (if b then 1 else 0)
  | .int i, .int j => i == j
  | .str x, .str y => x == y
  | .lst xs, .lst ys => eqvs xs ys
  | .tup xs, .tup ys => eqvs xs ys
  | _, _ => false
def eqvs : List D → List D → Bool
  | [], [] => true
  | x :: xs, y :: ys => eqv x y && eqvs xs ys
  | _, _ => false
end
mutual
/-- data that == reads: no owned thing within, not too deep -/
def okE : Nat → D → Bool
  | _, .non => true
  | _, .bl _ => true
  | _, .int _ => true
  | _, .str x => x.cps.all (· < 0x110000)
  | 0, _ => false
  | n + 1, .lst l => okEs n l
  | n + 1, .tup l => okEs n l
  | _ + 1, _ => false
def okEs : Nat → List D → Bool
  | _, [] => true
  | n, x :: l => okE n x && okEs n l
end
mutual
def toP : D → PyData
  | .non => .none
  | .bl b => .bool b
  | .int i => .int i
  | .str s => .str s
  | .tup l => .tuple (toPs l)
  | .lst l => .list (toPs l)
  | _ => .none
def toPs : List D → List PyData
  | [] => []
  | x :: l => toP x :: toPs l
end
mutual
theorem okE_lay : ∀ (n : Nat) (d : D), okE n d = true → (toP d).canLay0 = true ∧ (toP d).depth ≤ n
  | n, .non, _ => by simp [toP, PyData.canLay0, PyData.depth]
  | n, .bl _, _ => by simp [toP, PyData.canLay0, PyData.depth]
  | n, .int _, _ => by simp [toP, PyData.canLay0, PyData.depth]
  | n, .str x, h => by
    simp only [okE] at h
    simp only [toP, PyData.canLay0, PyData.depth]
    exact ⟨h, Nat.zero_le _⟩
  | 0, .lst _, h => by simp [okE] at h
  | 0, .tup _, h => by simp [okE] at h
  | n + 1, .lst l, h => by
    simp only [okE] at h
    have := okEs_lay n l h
    simp only [toP, PyData.canLay0, PyData.depth]
    exact ⟨this.1, by omega⟩
  | n + 1, .tup l, h => by
    simp only [okE] at h
    have := okEs_lay n l h
    simp only [toP, PyData.canLay0, PyData.depth]
    exact ⟨this.1, by omega⟩
  | 0, .ref _, h => by simp [okE] at h
  | n + 1, .ref _, h => by simp [okE] at h
  | 0, .ty _, h => by simp [okE] at h
  | n + 1, .ty _, h => by simp [okE] at h
theorem okEs_lay : ∀ (n : Nat) (l : List D), okEs n l = true → PyData.canLayAll0 (toPs l) = true ∧ PyData.depthAll (toPs l) ≤ n
  | n, [], _ => by simp [toPs, PyData.canLayAll0, PyData.depthAll]
  | n, x :: l, h => by
    simp only [okEs, Bool.and_eq_true] at h
    have h1 := okE_lay n x h.1
    have h2 := okEs_lay n l h.2
    simp only [toPs, PyData.canLayAll0, PyData.depthAll, Bool.and_eq_true]
    exact ⟨⟨h1.1, h2.1⟩, by omega⟩
end
theorem okE_shaped {d : D} (h : okE 60 d = true) : SeqAt.shaped (toP d) = true := by
  obtain ⟨h1, h2⟩ := okE_lay 60 d h
  unfold SeqAt.shaped
  rw [h1, decide_eq_true (by omega)]
  rfl
mutual
theorem dp_of {G H : Hp} (sub : Same G H) : ∀ (n : Nat) (d : D) (v : V), okE n d = true → Rep K G d v → Dp K H v (toP d)
  | n, .non, v, _, r => by rw [r.non_of]; simp only [toP]; exact .non
  | n, .bl b, v, _, r => by rw [r.bl_of]; simp only [toP]; exact .bl b
  | n, .int b, v, _, r => by rw [r.int_of]; simp only [toP]; exact .int b
  | n, .str b, v, _, r => by rw [r.str_of]; simp only [toP]; exact .str b
  | 0, .lst _, v, h, r => by simp [okE] at h
  | 0, .tup _, v, h, r => by simp [okE] at h
  | n + 1, .lst l, v, h, r => by
    obtain ⟨a, vs, e, q, rs⟩ := r.lst_of
    subst e
    simp only [okE] at h
    simp only [toP]
    exact .lst (sub.seq q) (dps_of sub n l vs h rs)
  | n + 1, .tup l, v, h, r => by
    obtain ⟨a, vs, e, q, rs⟩ := r.tup_of
    subst e
    simp only [okE] at h
    simp only [toP]
    exact .tup (Same.seqT sub q) (dps_of sub n l vs h rs)
  | 0, .ref _, v, h, r => by simp [okE] at h
  | n + 1, .ref _, v, h, r => by simp [okE] at h
  | 0, .ty _, v, h, r => by simp [okE] at h
  | n + 1, .ty _, v, h, r => by simp [okE] at h
theorem dps_of {G H : Hp} (sub : Same G H) : ∀ (n : Nat) (l : List D) (vs : List V), okEs n l = true → Reps K G l vs → DpAll K H vs (toPs l)
  | n, [], vs, _, r => by simp only [Reps] at r; subst r; simp only [toPs]; exact .nil
  | n, x :: l, vs, h, r => by
    simp only [okEs, Bool.and_eq_true] at h
    simp only [Reps] at r
    obtain ⟨v, us, e, r1, r2⟩ := r
    subst e
    simp only [toPs]
    exact .cons (dp_of sub n x v h.1 r1) (dps_of sub n l us h.2 r2)
end
mutual
theorem eqv_P : ∀ (n : Nat) (x y : D), okE n x = true → okE n y = true → PyData.eqv (toP x) (toP y) = eqv x y
  | n, .lst l, y, hx, hy => by
    cases n with
    | zero => simp [okE] at hx
    | succ n =>
      cases y with
      | lst m => simp only [okE] at hx hy; simp only [toP, PyData.eqv, eqv]; exact eqvs_P n l m hx hy
      | ref _ => simp [okE] at hy
      | ty _ => simp [okE] at hy
      | _ => simp [toP, PyData.eqv, eqv]
  | n, .tup l, y, hx, hy => by
    cases n with
    | zero => simp [okE] at hx
    | succ n =>
      cases y with
      | tup m => simp only [okE] at hx hy; simp only [toP, PyData.eqv, eqv]; exact eqvs_P n l m hx hy
      | ref _ => simp [okE] at hy
      | ty _ => simp [okE] at hy
      | _ => simp [toP, PyData.eqv, eqv]
  | n, .ref _, y, hx, hy => by cases n <;> simp [okE] at hx
  | n, .ty _, y, hx, hy => by cases n <;> simp [okE] at hx
  | n, .non, y, hx, hy => by cases y <;> first | (exfalso; cases n <;> simp [okE] at hy; done) | simp [toP, PyData.eqv, eqv]
  | n, .bl _, y, hx, hy => by cases y <;> first | (exfalso; cases n <;> simp [okE] at hy; done) | simp [toP, PyData.eqv, eqv]
  | n, .int _, y, hx, hy => by cases y <;> first | (exfalso; cases n <;> simp [okE] at hy; done) | simp [toP, PyData.eqv, eqv]
  | n, .str _, y, hx, hy => by cases y <;> first | (exfalso; cases n <;> simp [okE] at hy; done) | simp [toP, PyData.eqv, eqv]
theorem eqvs_P : ∀ (n : Nat) (x y : List D), okEs n x = true → okEs n y = true → PyData.eqvAll (toPs x) (toPs y) = eqvs x y
  | n, [], [], _, _ => by simp [toPs, PyData.eqvAll, eqvs]
  | n, [], y :: m, _, _ => by simp [toPs, PyData.eqvAll, eqvs]
  | n, x :: l, [], _, _ => by simp [toPs, PyData.eqvAll, eqvs]
  | n, x :: l, y :: m, hx, hy => by
    simp only [okEs, Bool.and_eq_true] at hx hy
    simp only [toPs, PyData.eqvAll, eqvs]
    rw [eqv_P n x y hx.1 hy.1, eqvs_P n l m hx.2 hy.2]
end
/-- by value -/
def vw (O : Ow) (d : D) : D := match d with
  | .ref p => match O p with
    | some (.lst l) => .lst l
    | _ => d
  | _ => d
theorem dp_vw {w : Wd} {d : D} {v : V} (hw : Own K w) (r : Rep K w.G d v) (h : okE 60 (vw w.O d) = true) : Dp K w.H v (toP (vw w.O d)) := by
  cases d with
  | ref p =>
    unfold vw at h ⊢
    simp only at h ⊢
    split at h
    · rename_i l hl
      obtain ⟨_, x, hx, vs, e2, rs⟩ := hw.own p _ hl
      subst e2
      rw [r.ref_of]
      simp only [okE] at h
      simp only [toP]
      exact .lst (SqL.of hx) (dps_of hw.sub 59 l vs h rs)
    · simp [okE] at h
  | _ => exact dp_of hw.sub 60 _ v h r
def dEq : D2 := fun x y O Q => okE 60 (vw O x) = true ∧ okE 60 (vw O y) = true ∧ Q (.bl (eqv (vw O x) (vw O y))) O
def dNe : D2 := fun x y O Q => okE 60 (vw O x) = true ∧ okE 60 (vw O y) = true ∧ Q (.bl (!eqv (vw O x) (vw O y))) O
theorem o_eq : Op2 K (rEqD K) dEq := by
  intro w x y vx vy Q' Q hw rx ry lk ⟨h1, h2, h⟩
  refine ⟨_, _, dp_vw hw rx h1, dp_vw hw ry h2, okE_shaped h1, okE_shaped h2, ?_⟩
  rw [eqv_P 60 _ _ h1 h2]
  exact lk _ _ w hw (Fr.refl w) (.bl _) h
theorem o_ne : Op2 K (rNeD K) dNe := by
  intro w x y vx vy Q' Q hw rx ry lk ⟨h1, h2, h⟩
  refine ⟨_, _, dp_vw hw rx h1, dp_vw hw ry h2, okE_shaped h1, okE_shaped h2, ?_⟩
  rw [eqv_P 60 _ _ h1 h2]
  exact lk _ _ w hw (Fr.refl w) (.bl _) h
def isNon : D → Bool
  | .non => true
  | _ => false
def dIsN : D2 := fun x y O Q => isNon y = true ∧ Q (.bl (isNon x)) O
def dNotN : D2 := fun x y O Q => isNon y = true ∧ Q (.bl (!isNon x)) O
theorem isNon_rep {G : Hp} {d : D} {v : V} (r : Rep K G d v) : decide (v = .non) = isNon d := by
  have := r.non_iff
  cases d <;> simp_all [isNon]
theorem o_isN : Op2 K (fun x y H Q => y = .non ∧ Q (.bl (decide (x = .non))) H) dIsN := by
  intro w x y vx vy Q' Q hw rx ry lk ⟨h1, h⟩
  have e : y = .non := by cases y <;> simp_all [isNon]
  subst e
  refine ⟨ry.non_of, ?_⟩
  rw [isNon_rep rx]
  exact lk _ _ w hw (Fr.refl w) (.bl _) h
theorem o_notN : Op2 K (fun x y H Q => y = .non ∧ Q (.bl (!decide (x = .non))) H) dNotN := by
  intro w x y vx vy Q' Q hw rx ry lk ⟨h1, h⟩
  have e : y = .non := by cases y <;> simp_all [isNon]
  subst e
  refine ⟨ry.non_of, ?_⟩
  rw [isNon_rep rx]
  exact lk _ _ w hw (Fr.refl w) (.bl _) h
def flatD : D → Bool
  | .non => true
  | .bl _ => true
  | .int _ => true
  | .str _ => true
  | _ => false
theorem flat_rep {G : Hp} {d : D} {v : V} (r : Rep K G d v) (h : flatD d = true) : flatV v = true := by
  cases d with
  | non => rw [r.non_of]; rfl
  | bl _ => rw [r.bl_of]; rfl
  | int _ => rw [r.int_of]; rfl
  | str _ => rw [r.str_of]; rfl
  | _ => simp [flatD] at h
theorem flats_rep {G : Hp} : ∀ {l : List D} {vs : List V}, Reps K G l vs → l.all flatD = true → vs.all flatV = true
  | [], _, r, _ => by simp only [Reps] at r; subst r; rfl
  | x :: l, _, r, h => by
    simp only [Reps] at r
    obtain ⟨v, us, e, r1, r2⟩ := r
    subst e
    simp only [List.all_cons, Bool.and_eq_true] at h ⊢
    exact ⟨flat_rep r1 h.1, flats_rep r2 h.2⟩
theorem eqV_rep {G : Hp} {x y : D} {u v : V} (rx : Rep K G x u) (ry : Rep K G y v) (hx : flatD x = true) (hy : flatD y = true) : eqV u v = eqv x y := by
  cases x with
  | non => rw [rx.non_of]; cases y with
    | non => rw [ry.non_of]; simp [eqV, eqv]
    | bl _ => rw [ry.bl_of]; simp [eqV, eqv]
    | int _ => rw [ry.int_of]; simp [eqV, eqv]
    | str _ => rw [ry.str_of]; simp [eqV, eqv]
    | _ => simp [flatD] at hy
  | bl _ => rw [rx.bl_of]; cases y with
    | non => rw [ry.non_of]; simp [eqV, eqv]
    | bl _ => rw [ry.bl_of]; simp [eqV, eqv]
    | int _ => rw [ry.int_of]; simp [eqV, eqv]
    | str _ => rw [ry.str_of]; simp [eqV, eqv]
    | _ => simp [flatD] at hy
  | int _ => rw [rx.int_of]; cases y with
    | non => rw [ry.non_of]; simp [eqV, eqv]
    | bl _ => rw [ry.bl_of]; simp [eqV, eqv]
    | int _ => rw [ry.int_of]; simp [eqV, eqv]
    | str _ => rw [ry.str_of]; simp [eqV, eqv]
    | _ => simp [flatD] at hy
  | str _ => rw [rx.str_of]; cases y with
    | non => rw [ry.non_of]; simp [eqV, eqv]
    | bl _ => rw [ry.bl_of]; simp [eqV, eqv]
    | int _ => rw [ry.int_of]; simp [eqV, eqv]
    | str _ => rw [ry.str_of]; simp [eqV, eqv]
    | _ => simp [flatD] at hy
  | _ => simp [flatD] at hx
def inD (x : D) (l : List D) : Bool := l.any fun y => eqv y x
theorem inV_rep {G : Hp} {x : D} {u : V} (rx : Rep K G x u) (hx : flatD x = true) : ∀ {l : List D} {vs : List V}, Reps K G l vs → l.all flatD = true → inV u vs = inD x l
  | [], _, r, _ => by simp only [Reps] at r; subst r; rfl
  | y :: l, _, r, h => by
    simp only [Reps] at r
    obtain ⟨v, us, e, r1, r2⟩ := r
    subst e
    simp only [List.all_cons, Bool.and_eq_true] at h
    have ih := inV_rep rx hx r2 h.2
    unfold inV inD at ih ⊢
    rw [List.any_cons, List.any_cons, ih, eqV_rep r1 rx h.1 hx]
def dInN (neg : Bool) : D2 := fun x y O Q => ∃ l, qv O y = some l ∧ flatD x = true ∧ l.all flatD = true ∧ Q (.bl (if neg then !inD x l else inD x l)) O
theorem o_in {neg : Bool} : Op2 K (rIn K neg) (dInN neg) := by
  intro w x y vx vy Q' Q hw rx ry lk ⟨l, e, h1, h2, h⟩
  obtain ⟨a, vs, z, q, rs⟩ := qv_rep hw ry e
  refine ⟨a, vs, z, q, flat_rep rx h1, flats_rep rs h2, ?_⟩
  rw [inV_rep rx h1 rs h2]
  exact lk _ _ w hw (Fr.refl w) (.bl _) h
def dIx : D2 := fun x y O Q => match y with
  | .int i => match x with
    | .str z => z.length ≤ sizeLine ∧ ∃ c, atI z.cps.toList i = some c ∧ Q (.str ⟨#[c]⟩) O
    | x => ∃ l, qv O x = some l ∧ ∃ d, atI l i = some d ∧ Q d O
  | _ => False
theorem atI_rep {G : Hp} {l : List D} {vs : List V} {i : Int} {d : D} (r : Reps K G l vs) (h : atI l i = some d) : ∃ v, atI vs i = some v ∧ Rep K G d v := by
  unfold atI at h ⊢
  rw [← r.length]
  cases e : ixN l.length i with
  | none => rw [e] at h; cases h
  | some j =>
    rw [e] at h
    exact r.get h
theorem o_ix : Op2 K (rIx K) dIx := by
  intro w x y vx vy Q' Q hw rx ry lk h
  cases y with
  | int i =>
    have key : (∃ l, qv w.O x = some l ∧ ∃ d, atI l i = some d ∧ Q' d w.O) → rIx K vx vy w.H Q := by
      intro ⟨l, e1, d, e2, q⟩
      obtain ⟨a, vs, z, q1, rs⟩ := qv_rep hw rx e1
      obtain ⟨v, e3, rd⟩ := atI_rep rs e2
      rcases q1 with q1 | q1
      · exact .inl ⟨a, vs, i, v, z, ry.int_of, q1, e3, lk _ _ w hw (Fr.refl w) rd q⟩
      · exact .inr (.inl ⟨a, vs, i, v, z, ry.int_of, q1, e3, lk _ _ w hw (Fr.refl w) rd q⟩)
    cases x with
    | str z =>
      obtain ⟨h1, c, h2, q⟩ := h
      exact .inr (.inr ⟨z, i, c, rx.str_of, ry.int_of, h1, h2, lk _ _ w hw (Fr.refl w) (.str _) q⟩)
    | _ => exact key h
  | _ => exact h.elim
theorem de_ix {a b : Expr} {da db : DT} {pos : Pos} (ha : DE X a da) (hb : DE X b db) (hs : PlainIx b) : DE X (.Subscript a b pos) (dOp dIx da db) := by
  obtain ⟨ta, pa, fa⟩ := ha
  obtain ⟨tb, pb, fb⟩ := hb
  exact ⟨_, pe_ix ix_seq pa pb hs, sem_op o_ix fa fb⟩
end
end SB
namespace SB
open PySem PySem.Spec PyProof.Rows L2
section
theorem pi_seq {X : Cx} {tg l : Expr} {tl : TE} (hl : PE X l tl) : PI X tg l (iSeq X.K tl) := by
  refine ⟨fun pins s σ H R I h => ?_⟩
  refine thn (hl.run pins s σ H _ I h) fun v s1 ⟨x, H1, I1, r1, q1⟩ => ?_
  obtain ⟨a, e, q1⟩ := q1
  subst e
  cases r1
  rcases q1 with ⟨⟨xs, hq⟩, q⟩ | ⟨⟨xs, hq⟩, q⟩
  · obtain ⟨its, rv, p, hz⟩ := I1.list hq
    refine wpAny_pyIter_list p.isList ?_
    refine ⟨s1.heap.objs.size, [s1.heap.objs.size], _, _, H1, rfl, I1.kept (t' := s1.toks) fun b o e => Heap.get?_push_of_some _ e, turn_list a _,
      ⟨_, Heap.get?_push_size _ rfl, rfl, rfl⟩, fun b hb => ?_, q⟩
    have e : b = s1.heap.objs.size := by simpa using hb
    rw [e]
    exact I1.fpOk (Nat.le_refl _) (I1.hok.fresh (Nat.le_refl _))
  · obtain ⟨its, rv, p, hz⟩ := I1.tuple hq
    refine wpAny_pyIter_tuple (show s1.heap.IsTuple a its.toArray from p) ?_
    refine ⟨s1.heap.objs.size, [s1.heap.objs.size], _, _, H1, rfl, I1.kept (t' := s1.toks) fun b o e => Heap.get?_push_of_some _ e, turn_tuple a _,
      ⟨_, Heap.get?_push_size _ rfl, rfl, rfl⟩, fun b hb => ?_, q⟩
    have e : b = s1.heap.objs.size := by simpa using hb
    rw [e]
    exact I1.fpOk (Nat.le_refl _) (I1.hok.fresh (Nat.le_refl _))
end
end SB
namespace SB
open PySem PySem.Spec PyProof.Rows L2 HotX L2H
section
variable {X : Cx} {CX : CXT} {k : Nat} {f C : Addr} {fd : FuncData} {ps : List Str} {sp : Sp} {E : XK} {x : Str} {p pos : Pos} {e : Expr} {es : List Expr} {t : TA}
theorem run_makeH {pins : List (Addr × Obj)} {σ : L2.St} {H : Hp} {s : Shared} {Q : VK} {us : List Value} {vs : List V} (M : Mk X.K C f) (F : FnH X.prog X.w X.K X.mg X.base CX k f fd ps sp) (hr : RoomH (k + 1) X.A) (hc : HotC X) (hb : Binds X.K fd ps [])
    (hx : Passes CX X E) (I : Inv X pins σ H s) (r : Vals vs us)
    (h : ∀ x dx, H x = none → H dx = none → dx ≠ x → sp (.ref x :: vs) (upd (upd H dx (.own x)) x (.ins C dx [])) (fun v H2 => v = .non ∧ Q (.ref x) H2) E) :
    wpAny (model X.prog X.w) X.A (call (.ref C) us) (EP X pins σ Q) X.xe s := by
  obtain ⟨q, hot, hq'⟩ := hc
  have hq := h (s.heap.objs.size + 1) s.heap.objs.size (I.hok.fresh (Nat.le_succ _)) (I.hok.fresh (Nat.le_refl _)) (Nat.ne_of_lt (Nat.lt_succ_self _))
  have I2 := Inv.made (C := C) I
  have P1 := I2.pin q (List.mem_append_left _ hq')
  have hpin := (PinOk.mk (outer := X.stack) P1.1 P1.2.1 (fun hm => (List.mem_cons.mp (I2.stkSub q.1 hm)).elim P1.2.2.1 P1.2.2.2.1) P1.2.2.2.2)
  have r2 : Vals (V.ref (s.heap.objs.size + 1) :: vs) (Value.ref (s.heap.objs.size + 1) :: us) := .cons rfl r
  have hl : (Value.ref (s.heap.objs.size + 1) :: us).length = ps.length := by
    rw [← r2.length]; exact F.len _ _ _ _ hq
  have b := hb _ (Value.ref (s.heap.objs.size + 1) :: us) I2.kIn (by rw [List.append_nil]; exact hl)
  rw [List.append_nil] at b
  refine wpAny_call (make_map (f := f) I.kIn M.makes M.init (beq_iff_eq.mp M.fn) (codeAny_mono (F.run _ X.stack _ _ ⟨Value.ref (s.heap.objs.size + 1) :: us, []⟩ (Value.ref (s.heap.objs.size + 1) :: us) _ _ E q (hr.make C us []) ⟨hot.1, hot.2⟩ hpin (I2.env0.make C us []) b r2 hq) fun r s' hz => ?_))
  cases r with
  | error e => exact hx pins σ _ _ e s' I2 hz
  | ok fl =>
    cases fl with
    | ret u =>
      obtain ⟨v, H', I3, rv, ev, q3⟩ := I2.after hz
      subst ev
      exact ⟨rv, ⟨V.ref (s.heap.objs.size + 1), H', I3, rfl, q3⟩⟩
    | next => exact False.elim hz
    | brk => exact False.elim hz
    | cont => exact False.elim hz
theorem pe_makeH (M : Mk X.K C f) (F : FnH X.prog X.w X.K X.mg X.base CX k f fd ps sp) (hr : RoomH (k + 1) X.A) (hc : HotC X) (hg : Gl X x) (hm : X.mg x = some (.ref C)) (hb : Binds X.K fd ps []) (hx : Passes CX X E)
    (ha : PA X (e :: es) t) (hdb : (x == ("__debug__" : Str)) = false := by decide) (he : starEach (e :: es) X.env = (false, eval e X.env) :: starEach es X.env := by rfl) (hpl : (backTo pos (starEach es X.env)).any (·.1) = false := by rfl) :
    PE X (.Call (.Name x p) (e :: es) [] pos) (tMake C sp [] E t) := by
  refine ⟨fun pins s σ H Q I h => ?_⟩
  refine wpAny_Call_Name_kw (ld_glob I hg hm ?_ hdb)
  refine PySem.W.callWith_K (h₀ := X.base) I.ok.mod.kin M.kp (thn (ha.run pos pins s σ H _ I h) fun us s1 ⟨vs, H1, I1, r, q⟩ => ⟨I1.kIn, ?_⟩) he hpl
  exact run_makeH M F hr hc hb hx I1 r fun x dx a b c => by have := q x dx a b c; rwa [List.append_nil] at this
end
end SB
namespace SB
open PySem PySem.Spec PyProof.Rows L2
structure WalkD (K : PySem.W.Frag) (w0 : Wd) (J : It) (items : List D) (stay : Ow → Prop) : Prop where
  go : ∀ i w, Own K w → Fr w0 w → stay w.O → i < items.length → J.go i w.H
  stop : ∀ w, Own K w → Fr w0 w → stay w.O → J.stop items.length w.H
  yld : ∀ i w x H', Own K w → Fr w0 w → stay w.O → J.yld i w.H x H' → ∀ d, items[i]? = some d → ∃ w', w'.H = H' ∧ w'.O = w.O ∧ Own K w' ∧ Fr w w' ∧ Rep K w'.G d x
abbrev DIt := DEnv → Ow → (List D → (Ow → Prop) → Ow → Prop) → Prop
def SemI (K : PySem.W.Frag) (wi : TI) (di : DIt) : Prop := ∀ ρ σ w R' R, Own K w → RepE K w.G ρ σ → (∀ items stay J w', Own K w' → Fr w w' → WalkD K w' J items stay → R' items stay w'.O → R J w'.H) → di ρ w.O R' → wi σ w.H R
/-- what is walked, whether or not an exception is handled -/
structure DI (X : Cx) (tg iter : Expr) (di : DIt) : Prop where
  cold : X.calm = true → ∃ wi, PI X tg iter wi ∧ SemI X.K wi di
  hot : X.calm = false → L2H.HotC X → ∃ wi, L2H.PIH X tg iter wi ∧ SemI X.K wi di
theorem di_cold {X : Cx} {tg iter : Expr} {di : DIt} (hc : X.calm = true) (h : ∃ wi, PI X tg iter wi ∧ SemI X.K wi di) : DI X tg iter di := ⟨fun _ => h, fun c => by rw [hc] at c; cases c⟩
/-- a list or tuple stays as it is -/
def stays (d : D) (l : List D) : Ow → Prop := fun O => qv O d = some l
def dSeq (da : DT) : DIt := fun ρ O R => da ρ O fun x O1 => ∃ l, qv O1 x = some l ∧ R l (stays x l) O1
section
variable {K : PySem.W.Frag} {X : Cx}
theorem walk_tupD {w : Wd} {a : Addr} {vs : List V} {l : List D} (hw : Own K w) (q : SqT K w.G a vs) (rs : Reps K w.G l vs) : WalkD K w (Itt K a) l (stays (.tup l) l) := by
  have at2 : ∀ {w2}, Own K w2 → Fr w w2 → SqT K w2.H a vs := fun h2 f2 => Same.seqT h2.sub (Same.seqT f2.gsub q)
  refine ⟨fun i w2 h2 f2 _ hi => ?_, fun w2 h2 f2 _ => ⟨vs, at2 h2 f2, by rw [rs.length]; exact Nat.le_refl _⟩, fun i w2 x H' h2 f2 _ y d hd => ?_⟩
  · have hi' : i < vs.length := by rw [← rs.length]; exact hi
    exact ⟨vs, vs[i], at2 h2 f2, List.getElem?_eq_getElem hi'⟩
  · obtain ⟨e, y⟩ := y
    subst e
    have hx := y vs (at2 h2 f2)
    obtain ⟨v, e1, r1⟩ := (rs.mono f2.gsub).get hd
    rw [hx] at e1; cases e1
    exact ⟨w2, rfl, rfl, h2, Fr.refl w2, r1⟩
theorem walk_lstD {w : Wd} {a : Addr} {x : D} {l : List D} (hw : Own K w) (rx : Rep K w.G x (.ref a)) : WalkD K w (Itl K a) l (fun O => lv O x = some l) := by
  have at2 : ∀ {w2}, Own K w2 → Fr w w2 → lv w2.O x = some l → ∃ vs, SqL K w2.H a vs ∧ Reps K w2.G l vs := fun h2 f2 st => by
    obtain ⟨b, vs, e, q, rs⟩ := lv_rep h2 (rx.mono f2.gsub) st
    cases e
    exact ⟨vs, q, rs⟩
  refine ⟨fun i w2 h2 f2 st hi => ?_, fun w2 h2 f2 st => ?_, fun i w2 y H' h2 f2 st z d hd => ?_⟩
  · obtain ⟨vs, q, rs⟩ := at2 h2 f2 st
    have hi' : i < vs.length := by rw [← rs.length]; exact hi
    exact ⟨vs, vs[i], q, List.getElem?_eq_getElem hi'⟩
  · obtain ⟨vs, q, rs⟩ := at2 h2 f2 st
    exact ⟨vs, q, by rw [rs.length]; exact Nat.le_refl _⟩
  · obtain ⟨vs, q, rs⟩ := at2 h2 f2 st
    obtain ⟨e, z⟩ := z
    subst e
    obtain ⟨v, e1, r1⟩ := rs.get hd
    rw [z vs q] at e1; cases e1
    exact ⟨w2, rfl, rfl, h2, Fr.refl w2, r1⟩
theorem qv_lv {O : Ow} {x : D} {l : List D} (h : ∀ m, x ≠ .tup m) : qv O x = lv O x := by
  cases x <;> first | rfl | exact absurd rfl (h _)
theorem WalkD.stay' {w : Wd} {J : It} {l : List D} {p q : Ow → Prop} (h : WalkD K w J l p) (e : ∀ O, q O → p O) : WalkD K w J l q :=
  ⟨fun i w2 a b c d => h.go i w2 a b (e _ c) d, fun w2 a b c => h.stop w2 a b (e _ c), fun i w2 x H' a b c d => h.yld i w2 x H' a b (e _ c) d⟩
theorem sem_seq {tl : TE} {da : DT} (f : Sem1 K tl da) : SemI K (iSeq K tl) (dSeq da) := by
  intro ρ σ w R' R hw he lk h
  refine f ρ σ w _ _ hw he (fun x vx w1 hw1 f1 rx ⟨l, e, h1⟩ => ?_) h
  by_cases ht : ∃ m, x = .tup m
  · obtain ⟨m, em⟩ := ht
    subst em
    have e' : m = l := by simpa [qv] using e
    subst e'
    obtain ⟨a, vs, z, q, rs⟩ := rx.tup_of
    exact ⟨a, z, .inr ⟨⟨vs, Same.seqT hw1.sub q⟩, lk m _ _ w1 hw1 f1 (walk_tupD hw1 q rs) h1⟩⟩
  · have hn : ∀ m, x ≠ .tup m := fun m y => ht ⟨m, y⟩
    have e' : lv w1.O x = some l := by rw [← qv_lv hn (l := l)]; exact e
    obtain ⟨a, vs, z, q, rs⟩ := lv_rep hw1 rx e'
    subst z
    exact ⟨a, rfl, .inl ⟨⟨vs, q⟩, lk l _ _ w1 hw1 f1 ((walk_lstD (l := l) hw1 rx).stay' fun O y => by rw [← qv_lv hn (l := l)]; exact y) h1⟩⟩
theorem di_seq {tg e : Expr} {da : DT} (h : DE X e da) : DI X tg e (dSeq da) := by
  obtain ⟨t, p, f⟩ := h
  exact ⟨fun _ => ⟨_, pi_seq p, sem_seq f⟩, fun _ _ => ⟨_, pi_seqH p, sem_seq f⟩⟩
/-- range(n), range(a, b) -/
def rangeD (lo : Int) (n : Nat) : List D := (List.range n).map fun i => .int (lo + (i : Nat))
theorem rangeD_get {lo : Int} {n i : Nat} {d : D} (h : (rangeD lo n)[i]? = some d) : i < n ∧ d = .int (lo + (i : Nat)) := by
  unfold rangeD at h
  rw [List.getElem?_map] at h
  obtain ⟨j, hj, e⟩ := Option.map_eq_some_iff.mp h
  obtain ⟨h1, h2⟩ := List.getElem?_eq_some_iff.mp hj
  rw [List.getElem_range] at h2
  rw [List.length_range] at h1
  subst h2
  exact ⟨h1, e.symm⟩
theorem walk_rngD {w : Wd} {lo : Int} {n : Nat} : WalkD K w (Itr lo n) (rangeD lo n) (fun _ => True) := by
  refine ⟨fun i w2 _ _ _ hi => ?_, fun w2 _ _ _ => ?_, fun i w2 x H' h2 f2 _ y d hd => ?_⟩
  · show i < n
    simpa [rangeD] using hi
  · show n ≤ (rangeD lo n).length
    simp [rangeD]
  · obtain ⟨e1, e2⟩ := y
    obtain ⟨_, e3⟩ := rangeD_get hd
    subst e1 e2 e3
    exact ⟨w2, rfl, rfl, h2, Fr.refl w2, .int _⟩
def dRng1 (dl : DTa) : DIt := fun ρ O R => dl ρ O fun xs O1 => match xs with
  | [.int n] => -(2 ^ 62) ≤ n ∧ n < 2 ^ 62 ∧ R (rangeD 0 n.toNat) (fun _ => True) O1
  | _ => False
def dRng2 (dl : DTa) : DIt := fun ρ O R => dl ρ O fun xs O1 => match xs with
  | [.int a, .int b] => (-(2 ^ 62) ≤ a ∧ a < 2 ^ 62 ∧ -(2 ^ 62) ≤ b ∧ b < 2 ^ 62) ∧ R (rangeD a (b - a).toNat) (fun _ => True) O1
  | _ => False
theorem Reps.int1 {G : Hp} {i : Int} {vs : List V} (h : Reps K G [.int i] vs) : vs = [.int i] := by
  simp only [Reps] at h
  obtain ⟨v, r, e, h1, h2⟩ := h
  rw [e, h1.int_of, h2]
theorem Reps.int2 {G : Hp} {i j : Int} {vs : List V} (h : Reps K G [.int i, .int j] vs) : vs = [.int i, .int j] := by
  simp only [Reps] at h
  obtain ⟨v, r, e, h1, v2, r2, e2, h2, h3⟩ := h
  rw [e, h1.int_of, e2, h2.int_of, h3]
theorem sem_range1 {t : TA} {dl : DTa} (f : SemA K t dl) : SemI K (iRng1 t) (dRng1 dl) := by
  refine fun ρ σ w R' R hw he lk h => ?_
  refine f ρ σ w _ _ hw he (fun xs vs w1 hw1 f1 rs h1 => ?_) h
  unfold dRng1 at h1
  split at h1
  · obtain ⟨q1, q2, q⟩ := h1
    exact ⟨_, rs.int1, q1, q2, lk _ _ _ w1 hw1 f1 walk_rngD q⟩
  · exact h1.elim
theorem sem_range2 {t : TA} {dl : DTa} (f : SemA K t dl) : SemI K (iRng2 t) (dRng2 dl) := by
  refine fun ρ σ w R' R hw he lk h => ?_
  refine f ρ σ w _ _ hw he (fun xs vs w1 hw1 f1 rs h1 => ?_) h
  unfold dRng2 at h1
  split at h1
  · obtain ⟨q1, q⟩ := h1
    exact ⟨_, _, rs.int2, q1, lk _ _ _ w1 hw1 f1 walk_rngD q⟩
  · exact h1.elim
theorem di_range1 {tg a : Expr} {dl : DTa} {p pos : Pos} (hg : Gl X "range") (hm : X.mg "range" = none) (ha : DA X [a] dl) (hs : starEach [a] X.env = [(false, eval a X.env)] := by rfl) : DI X tg (.Call (.Name "range" p) [a] [] pos) (dRng1 dl) := by
  obtain ⟨t, pa, f⟩ := ha
  exact ⟨fun _ => ⟨_, L2.pi_range1 hg hm pa hs, sem_range1 f⟩, fun _ _ => ⟨_, L2H.pi_range1H hg hm pa hs, sem_range1 f⟩⟩
theorem di_range2 {tg a b : Expr} {dl : DTa} {p pos : Pos} (hg : Gl X "range") (hm : X.mg "range" = none) (ha : DA X [a, b] dl) (hs : starEach [a, b] X.env = [(false, eval a X.env), (false, eval b X.env)] := by rfl) (hs2 : starEach [b] X.env = [(false, eval b X.env)] := by rfl) : DI X tg (.Call (.Name "range" p) [a, b] [] pos) (dRng2 dl) := by
  obtain ⟨t, pa, f⟩ := ha
  exact ⟨fun _ => ⟨_, pi_range2 hg hm pa hs hs2, sem_range2 f⟩, fun _ _ => ⟨_, pi_range2H hg hm pa hs hs2, sem_range2 f⟩⟩
/-- enumerate -/
def enumD (l : List D) : List D := l.zipIdx.map fun p => .tup [.int (p.2 : Nat), p.1]
def dEnum (dl : DTa) : DIt := fun ρ O R => dl ρ O fun xs O1 => match xs with
  | [x] => ∃ l, qv O1 x = some l ∧ R (enumD l) (stays x l) O1
  | _ => False
theorem Reps.one1 {G : Hp} {d : D} {vs : List V} (h : Reps K G [d] vs) : ∃ v, vs = [v] ∧ Rep K G d v := by
  simp only [Reps] at h
  obtain ⟨v, r, e, h1, h2⟩ := h
  exact ⟨v, by rw [e, h2], h1⟩
theorem Reps.two2 {G : Hp} {d e : D} {vs : List V} (h : Reps K G [d, e] vs) : ∃ v u, vs = [v, u] ∧ Rep K G d v ∧ Rep K G e u := by
  simp only [Reps] at h
  obtain ⟨v, r, z, h1, u, r2, z2, h2, h3⟩ := h
  exact ⟨v, u, by rw [z, z2, h3], h1, h2⟩
/-- zip of two lists, of two tuples -/
def zipD (l m : List D) : List D := List.zipWith (fun x y => .tup [x, y]) l m
def isTup : D → Bool
  | .tup _ => true
  | _ => false
def dZip (dl : DTa) : DIt := fun ρ O R => dl ρ O fun xs O1 => match xs with
  | [x, y] => ∃ l, qv O1 x = some l ∧ ∃ m, qv O1 y = some m ∧ isTup x = isTup y ∧ R (zipD l m) (fun O2 => stays x l O2 ∧ stays y m O2) O1
  | _ => False
end
end SB
namespace SB
open PySem PySem.Spec PyProof.Rows L2
def tgN (i : Nat) : D → DEnv → Option DEnv := fun d ρ => some (ρ.set i (some d))
def setAll : List Nat → List D → DEnv → Option DEnv
  | [], [], ρ => some ρ
  | i :: is, d :: ds, ρ => setAll is ds (ρ.set i (some d))
  | _, _, _ => none
def tgT (is : List Nat) : D → DEnv → Option DEnv := fun d ρ => match d with
  | .tup l => setAll is l ρ
  | _ => none
structure SemG (K : PySem.W.Frag) (g : TG) (gd : D → DEnv → Option DEnv) (slots : List Nat) : Prop where
  run : ∀ (w : Wd) (d : D) (v : V) (ρ ρ' : DEnv) (σ : L2.St) (Q : L2.St → Hp → Prop), Own K w → RepE K w.G ρ σ → Rep K w.G d v → gd d ρ = some ρ' →
    (∀ σ', RepE K w.G ρ' σ' → σ'.length = σ.length → (∀ j, j ∉ slots → σ'[j]? = σ[j]?) → Q σ' w.H) → g v σ w.H Q
def DG (X : Cx) (tg : Expr) (gd : D → DEnv → Option DEnv) (slots : List Nat) : Prop := ∃ g, PG X tg g ∧ SemG X.K g gd slots
section
variable {X : Cx} {K : PySem.W.Frag} {pos : Pos}
theorem sem_gName {i : Nat} : SemG K (gName i) (tgN i) [i] := ⟨fun w d v ρ ρ' σ Q hw he r e q => by
  cases e
  refine q _ (he.set r) (by simp) fun j hj => ?_
  exact List.getElem?_set_ne (fun z => hj (by simp [z]))⟩
theorem dg_name {i : Nat} {x : Str} (hN : X.N.Nodup) (hi : X.N[i]? = some x) (hx : Loc X.env.scope x) (hf : X.fn x = true ∨ X.env.scope.names.lookup x = some .local := by first | exact .inl rfl | exact .inr rfl | assumption) : DG X (.Name x pos) (tgN i) [i] :=
  ⟨_, pg_name hN hi hx hf, sem_gName⟩
end
def dYes : DTt := fun _ O Q => Q true O
def DTs (X : Cx) (ifs : List Expr) (dt : DTt) : Prop := ∃ t, PTs X ifs t ∧ SemB X.K t dt
theorem dts_nil {X : Cx} : DTs X [] dYes := ⟨_, pts_nil, fun ρ σ w Q' Q hw he lk h => lk true w hw (Fr.refl w) h⟩
theorem dts_one {X : Cx} {c : Expr} {dt : DTt} (h : DB X c dt) : DTs X [c] dt := let ⟨_, p, f⟩ := h; ⟨_, pts_one p, f⟩
/-- the items one by one, what is made so far, what is owned -/
def lcLoop (gd : D → DEnv → Option DEnv) (tt : DTt) (te : DT) (stay : Ow → Prop) (ρ : DEnv) : List D → List D → Ow → (List D → Ow → Prop) → Prop
  | [], acc, O, Q => Q acc O
  | d :: r, acc, O, Q => ∃ ρ', gd d ρ = some ρ' ∧ tt ρ' O fun b O1 => if b = true then te ρ' O1 fun y O2 => stay O2 ∧ lcLoop gd tt te stay ρ r (acc ++ [y]) O2 Q else stay O1 ∧ lcLoop gd tt te stay ρ r acc O1 Q
def dLc (mk : List D → Ow → DQ → Prop) (di : DIt) (gd : D → DEnv → Option DEnv) (tt : DTt) (te : DT) (vs : List Nat) : DT := fun ρ O Q =>
  di ρ O fun items stay O1 => items.length ≤ 100000 ∧ stay O1 ∧ lcLoop gd tt te stay (wipeD ρ vs) items [] O1 fun acc O2 => mk acc O2 Q
section
variable {X : Cx} {K : PySem.W.Frag}
theorem sem_lc {mk : List D → Ow → DQ → Prop} (hm : MkOk mk) {wi : TI} {g : TG} {tt : TT} {te : TE} {di : DIt} {gd : D → DEnv → Option DEnv} {dtt : DTt} {dte : DT} {vs slots : List Nat}
    (fi : SemI K wi di) (fg : SemG K g gd slots) (ft : SemB K tt dtt) (fe : Sem1 K te dte) (hv : ∀ i ∈ slots, i ∈ vs) : Sem1 K (tLc wi g tt te vs) (dLc mk di gd dtt dte vs) := by
  intro ρ σ w Q' Q hw he lk h
  refine fi ρ σ w _ _ hw he (fun items stay J w1 hw1 f1 W ⟨hlen, hst, h1⟩ => ?_) h
  intro p hp
  -- the new list stands at p, told by nobody
  have hwp : Own K ⟨w1.G, w1.O, upd w1.H p (.lst [])⟩ := ⟨fun b x e => (upd_ne (ne_of_none (hw1.sub b x e) hp)).trans (hw1.sub b x e),
    fun q o e => by
      obtain ⟨z1, x, z2, z3⟩ := hw1.own q o e
      exact ⟨z1, x, (upd_ne (ne_of_none z2 hp)).trans z2, z3⟩⟩
  have frp : Fr w1 ⟨w1.G, w1.O, upd w1.H p (.lst [])⟩ := ⟨Same.refl _, fun b x e _ => (upd_ne (ne_of_none e hp)).trans e, fun b x e _ => .inl e, fun b e => .inr e, fun b e => by
    by_cases y : b = p
    · show upd w1.H p _ b ≠ none
      rw [y, upd_same]; simp
    · show upd w1.H p _ b ≠ none
      rw [upd_ne y]; exact e⟩
  let Rest : Nat → Hp → Prop := fun i H => ∃ (w2 : Wd) (acc : List D) (us : List V), w2.H = H ∧ Own K w2 ∧ Fr w1 w2 ∧ w2.G p = none ∧ w2.O p = none ∧ H p = some (.lst us) ∧ Reps K w2.G acc us ∧ acc.length ≤ i ∧ stay w2.O ∧ lcLoop gd dtt dte stay (wipeD ρ vs) (items.drop i) acc w2.O fun acc O2 => mk acc O2 Q'
  refine ⟨fun i m H => m = items.length - i ∧ i ≤ items.length ∧ Rest i H, ⟨items.length, by simp, Nat.zero_le _, ?_⟩, ?_⟩
  · exact ⟨_, [], [], rfl, hwp, frp, (hw1.none_of hp).1, (hw1.none_of hp).2, upd_same, .nil, Nat.zero_le _, hst, by simpa using h1⟩
  rintro i m H ⟨rfl, hi, w2, acc, us, rfl, hw2, f2, gp, op, hpu, rs, hal, hst2, hl⟩
  by_cases hlt : i < items.length
  · refine .inr ⟨W.go i w2 hw2 f2 hst2 hlt, Rest (i + 1), fun H' p' => ⟨items.length - (i + 1), by omega, rfl, hlt, p'⟩, fun x H' y => ?_⟩
    have ed : items.drop i = items[i] :: items.drop (i + 1) := List.drop_eq_getElem_cons hlt
    rw [ed] at hl
    obtain ⟨ρ', eg, hl⟩ := hl
    obtain ⟨w3, eH, eO, hw3, f3, r3⟩ := W.yld i w2 x H' hw2 f2 hst2 y items[i] (List.getElem?_eq_getElem hlt)
    subst eH
    have he3 : RepE K w3.G (wipeD ρ vs) (L2.wipe σ vs) := (RepE.wipe vs he).mono (f1.gsub.trans (f2.gsub.trans f3.gsub))
    refine fg.run w3 _ x _ ρ' _ _ hw3 he3 r3 eg fun σ4 he4 hl4 hj4 => ⟨?_, ?_⟩
    · have e1 : L2.wipe (L2.wipe σ vs) vs = L2.wipe σ vs := wipe_eq (wipe_length σ vs) fun j hj => by rw [wipe_get, if_neg hj]
      rw [← e1]
      exact wipe_eq hl4 fun j hj => hj4 j fun z => hj (hv j z)
    rw [← eO] at hl
    refine ft ρ' σ4 w3 _ _ hw3 he4 (fun b w4 hw4 f4 h4 => ?_) hl
    have out4 : w4.G p = none ∧ w4.O p = none ∧ w4.H p = some (.lst us) := by
      have f24 := f3.trans f4
      have k4 := f24.keep p _ hpu op
      refine ⟨?_, ?_, k4⟩
      · cases q : w4.G p with
        | none => rfl
        | some z =>
          rcases f24.gnew p z q (by rw [hpu]; simp) with t | t
          · rw [gp] at t; cases t
          · exact absurd op t
      · cases q : w4.O p with
        | none => rfl
        | some z =>
          rcases f24.onew p (by rw [q]; simp) with t | t
          · rw [hpu] at t; cases t
          · exact absurd op t
    cases b with
    | true =>
      rw [if_pos rfl] at h4 ⊢
      refine fe ρ' σ4 w4 _ _ hw4 (he4.mono f4.gsub) (fun y vy w5 hw5 f5 r5 h5 => ?_) h4
      have k5 := f5.keep p _ out4.2.2 out4.2.1
      have g5 : w5.G p = none := by
        cases q : w5.G p with
        | none => rfl
        | some z =>
          rcases f5.gnew p z q (by rw [out4.2.2]; simp) with t | t
          · rw [out4.1] at t; cases t
          · exact absurd out4.2.1 t
      have o5 : w5.O p = none := by
        cases q : w5.O p with
        | none => rfl
        | some z =>
          rcases f5.onew p (by rw [q]; simp) with t | t
          · rw [out4.2.2] at t; cases t
          · exact absurd out4.2.1 t
      have rs5 : Reps K w5.G acc us := rs.mono (f3.gsub.trans (f4.gsub.trans f5.gsub))
      have hz : us.length < sizeLine := by
        rw [← rs.length]
        have := line100000
        omega
      have hw6 : Own K ⟨w5.G, w5.O, upd w5.H p (.lst (us ++ [vy]))⟩ := ⟨fun b x e => by
          have hb : b ≠ p := fun z => by
            have e' : w5.G b = some x := e
            rw [z, g5] at e'; cases e'
          exact (upd_ne hb).trans (hw5.sub b x e),
        fun q o e => by
          have hq : q ≠ p := fun z => by
            have e' : w5.O q = some o := e
            rw [z, o5] at e'; cases e'
          obtain ⟨z1, x, z2, z3⟩ := hw5.own q o e
          exact ⟨z1, x, (upd_ne hq).trans z2, z3⟩⟩
      have f15 : Fr w1 w5 := f2.trans (f3.trans (f4.trans f5))
      have fr6 : Fr w1 ⟨w5.G, w5.O, upd w5.H p (.lst (us ++ [vy]))⟩ := ⟨f15.gsub, fun b x e n => by
          have hb : b ≠ p := ne_of_none e hp
          exact (upd_ne hb).trans (f15.keep b x e n), f15.gnew, f15.onew, fun b e => by
          by_cases y : b = p
          · show upd w5.H p _ b ≠ none
            rw [y, upd_same]; simp
          · show upd w5.H p _ b ≠ none
            rw [upd_ne y]; exact f15.dom b e⟩
      exact ⟨us, k5, hz, _, acc ++ [y], us ++ [vy], rfl, hw6, fr6, g5, o5, upd_same, rs5.append (.cons r5 .nil), by rw [List.length_append]; simp; omega, h5.1, h5.2⟩
    | false =>
      rw [if_neg Bool.false_ne_true] at h4 ⊢
      exact ⟨w4, acc, us, rfl, hw4, f2.trans (f3.trans f4), out4.1, out4.2.1, out4.2.2, rs.mono (f3.gsub.trans f4.gsub), by omega, h4.1, h4.2⟩
  · have e : i = items.length := by omega
    subst e
    refine .inl ⟨W.stop w2 hw2 f2 hst2, ?_⟩
    rw [List.drop_length] at hl
    -- the list is given
    have base : Own K ⟨w2.G, w2.O, fun b => if b = p then none else w2.H b⟩ := ⟨fun b x e => by
        have hb : b ≠ p := fun z => by
          have e' : w2.G b = some x := e
          rw [z, gp] at e'; cases e'
        show (if b = p then none else w2.H b) = some x
        rw [if_neg hb]; exact hw2.sub b x e,
      fun q o e => by
        have hq : q ≠ p := fun z => by
          have e' : w2.O q = some o := e
          rw [z, op] at e'; cases e'
        obtain ⟨z1, x, z2, z3⟩ := hw2.own q o e
        refine ⟨z1, x, ?_, z3⟩
        show (if q = p then none else w2.H q) = some x
        rw [if_neg hq]; exact z2⟩
    have eH : upd (fun b => if b = p then none else w2.H b) p (.lst us) = w2.H := by
      funext b
      by_cases y : b = p
      · rw [y, upd_same]; exact hpu.symm
      · rw [upd_ne y, if_neg y]
    have f12 := f1.trans f2
    have frb : Fr w ⟨w2.G, w2.O, fun b => if b = p then none else w2.H b⟩ := ⟨f12.gsub, fun b x e n => by
        have hb : b ≠ p := fun z => by
          have k1 := f1.keep b x e n
          rw [z, hp] at k1; cases k1
        show (if b = p then none else w2.H b) = some x
        rw [if_neg hb]; exact f12.keep b x e n, f12.gnew, f12.onew, fun b e => by
        have hb : b ≠ p := fun z => f1.dom b e (by rw [z]; exact hp)
        show (if b = p then none else w2.H b) ≠ none
        rw [if_neg hb]; exact f12.dom b e⟩
    have fin := hm K ⟨w2.G, w2.O, fun b => if b = p then none else w2.H b⟩ acc us Q' Q p base (by simp) rs (lk.after frb) hl
    rw [show upd (fun b => if b = p then none else w2.H b) p (.lst us) = w2.H from eH] at fin
    exact fin
def tOf (K : PySem.W.Frag) (dt : DT) : TE := fun σ H Q => ∃ ρ w Q', w.H = H ∧ Own K w ∧ RepE K w.G ρ σ ∧ Lk K w Q' Q ∧ dt ρ w.O Q'
def tOfB (K : PySem.W.Frag) (dt : DTt) : TT := fun σ H Q => ∃ ρ w Q', w.H = H ∧ Own K w ∧ RepE K w.G ρ σ ∧ LkB K w Q' Q ∧ dt ρ w.O Q'
def gOf (K : PySem.W.Frag) (gd : D → DEnv → Option DEnv) (slots : List Nat) : TG := fun v σ H Q => ∃ w d ρ ρ', w.H = H ∧ Own K w ∧ RepE K w.G ρ σ ∧ Rep K w.G d v ∧ gd d ρ = some ρ' ∧
  ∀ σ', RepE K w.G ρ' σ' → σ'.length = σ.length → (∀ j, j ∉ slots → σ'[j]? = σ[j]?) → Q σ' H
theorem sem_tOf {dt : DT} : Sem1 K (tOf K dt) dt := fun ρ σ w Q' Q hw he lk h => ⟨ρ, w, Q', rfl, hw, he, lk, h⟩
theorem sem_tOfB {dt : DTt} : SemB K (tOfB K dt) dt := fun ρ σ w Q' Q hw he lk h => ⟨ρ, w, Q', rfl, hw, he, lk, h⟩
theorem sem_gOf {gd : D → DEnv → Option DEnv} {slots : List Nat} : SemG K (gOf K gd slots) gd slots := ⟨fun w d v ρ ρ' σ Q hw he r e q => ⟨w, d, ρ, ρ', rfl, hw, he, r, e, q⟩⟩
theorem DE.canon {e : Expr} {dt : DT} (h : DE X e dt) : PE X e (tOf X.K dt) := by
  obtain ⟨t, p, f⟩ := h
  refine ⟨fun pins s σ H Q I ⟨ρ, w, Q', eH, hw, he, lk, q⟩ => p.run pins s σ H Q I ?_⟩
  subst eH
  exact f ρ σ w Q' Q hw he lk q
theorem DTs.canon {es : List Expr} {dt : DTt} (h : DTs X es dt) : PTs X es (tOfB X.K dt) := by
  obtain ⟨t, p, f⟩ := h
  refine ⟨fun pins s σ H Q I ⟨ρ, w, Q', eH, hw, he, lk, q⟩ => p.run pins s σ H Q I ?_⟩
  subst eH
  exact f ρ σ w Q' Q hw he lk q
theorem DG.canon {e : Expr} {gd : D → DEnv → Option DEnv} {slots : List Nat} (h : DG X e gd slots) : PG X e (gOf X.K gd slots) := by
  obtain ⟨t, p, f⟩ := h
  refine ⟨fun pins s σ H v u Q I r ⟨w, d, ρ, ρ', eH, hw, he, rd, e, q⟩ => p.run pins s σ H v u Q I r ?_⟩
  subst eH
  exact f.run w d v ρ ρ' σ Q hw he rd e q
variable {elt tg iter : Expr} {ifs : List Expr} {scope : Scope} {own : List (Str × Nat)} {pos : Pos} {di : DIt} {gd : D → DEnv → Option DEnv} {slots : List Nat} {dtt : DTt} {dte : DT}
/-- a comprehension's block -/
structure BlkD (B : Cx) (tg : Expr) (ifs : List Expr) (elt : Expr) (gd : D → DEnv → Option DEnv) (slots : List Nat) (dtt : DTt) (dte : DT) : Prop where
  g : DG B tg gd slots
  t : DTs B ifs dtt
  e : DE B elt dte
theorem de_lc {mk : List D → Ow → DQ → Prop} (hm : MkOk mk) (hc : Rdy X) (hN : X.N.Nodup) (hi : DI X tg iter di) (ok : BlkOk X.N X.env.scope scope own)
    (hb : ∀ (s : Shared) (H : Hp) (C : Addr) (cl : List (Str × Addr)) (fp : List Addr) (pn : List (Addr × Obj)), Up X (blkP X s H scope (compEnvC scope cl C X.env) fp pn) → BlkD (blkP X s H scope (compEnvC scope cl C X.env) fp pn) tg ifs elt gd slots dtt dte)
    (hv : ∀ i ∈ slots, i ∈ own.map (·.2) := by decide) (hs : ∀ x, foldedSetIterable iter X.env x = pure x := by intro _; rfl) :
    DE X (.ListComp elt [⟨tg, iter, ifs, 0⟩] scope pos) (dLc mk di gd dtt dte (own.map (·.2))) := by
  rcases hc with c | ⟨c, hot⟩
  · obtain ⟨wi, pi, fi⟩ := hi.cold c
    exact ⟨_, pe_lc c hN pi ok (fun s H C cl fp => (hb s H C cl fp [] (up_cold c)).g.canon) (fun s H C cl fp => (hb s H C cl fp [] (up_cold c)).t.canon) (fun s H C cl fp => (hb s H C cl fp [] (up_cold c)).e.canon) hs, sem_lc hm fi sem_gOf sem_tOfB sem_tOf hv⟩
  · obtain ⟨wi, pi, fi⟩ := hi.hot c hot
    exact ⟨_, pe_lcH hot hN pi ok hs (fun s H C cl fp => let b := hb s H C cl fp X.pn up_blk; ⟨b.g.canon, b.t.canon, b.e.canon⟩), sem_lc hm fi sem_gOf sem_tOfB sem_tOf hv⟩
end
structure DEnds where
  nx : DEnv → Ow → Prop
  rt : D → Ow → Prop
  bk : DEnv → Ow → Prop := fun _ _ => False
  ct : DEnv → Ow → Prop := fun _ _ => False
abbrev DS' := DEnds → DEnv → Ow → Prop
structure LkS (K : PySem.W.Frag) (w : Wd) (E : DEnds) (T : Ends) : Prop where
  nx : ∀ ρ σ w', Own K w' → Fr w w' → RepE K w'.G ρ σ → E.nx ρ w'.O → T.nx σ w'.H
  rt : ∀ d v w', Own K w' → Fr w w' → Rep K w'.G d v → E.rt d w'.O → T.rt v w'.H
  bk : ∀ ρ σ w', Own K w' → Fr w w' → RepE K w'.G ρ σ → E.bk ρ w'.O → T.bk σ w'.H
  ct : ∀ ρ σ w', Own K w' → Fr w w' → RepE K w'.G ρ σ → E.ct ρ w'.O → T.ct σ w'.H
theorem LkS.after {K : PySem.W.Frag} {w w1 : Wd} {E : DEnds} {T : Ends} (h : LkS K w E T) (f : Fr w w1) : LkS K w1 E T :=
  ⟨fun ρ σ w' a b => h.nx ρ σ w' a (f.trans b), fun d v w' a b => h.rt d v w' a (f.trans b), fun ρ σ w' a b => h.bk ρ σ w' a (f.trans b), fun ρ σ w' a b => h.ct ρ σ w' a (f.trans b)⟩
def SemS (K : PySem.W.Frag) (t : TS) (ds : DS') : Prop := ∀ ρ σ w E T, Own K w → RepE K w.G ρ σ → LkS K w E T → ds E ρ w.O → t T σ w.H
def DS (X : Cx) (st : Stmt) (ds : DS') : Prop := ∃ t, PS X st t ∧ SemS X.K t ds
def DSs (X : Cx) (st : List Stmt) (ds : DS') : Prop := ∃ t, PSs X st t ∧ SemS X.K t ds
section
variable {X : Cx} {K : PySem.W.Frag} {st : Stmt} {rest body els : List Stmt} {ds dr : DS'} {e a b c : Expr} {da db dc : DT} {dt : DTt} {pos : Pos}
def dNext : DS' := fun E ρ O => E.nx ρ O
def dThen (s r : DS') : DS' := fun E ρ O => s { E with nx := r E } ρ O
theorem dss_nil : DSs X [] dNext := ⟨_, pss_nil, fun ρ σ w E T hw he lk h => lk.nx ρ σ w hw (Fr.refl w) he h⟩
theorem dss_cons (h1 : DS X st ds) (h2 : DSs X rest dr) : DSs X (st :: rest) (dThen ds dr) := by
  obtain ⟨t, p, f⟩ := h1
  obtain ⟨u, q, g⟩ := h2
  refine ⟨_, pss_cons p q, fun ρ σ w E T hw he lk h => ?_⟩
  refine f ρ σ w { E with nx := dr E } { T with nx := u T } hw he ⟨fun ρ' σ' w' hw' f' he' h' => ?_, lk.rt, lk.bk, lk.ct⟩ h
  exact g ρ' σ' w' E T hw' he' (lk.after f') h'
theorem dss_one (h1 : DS X st ds) : DSs X [st] ds := let ⟨_, p, f⟩ := h1; ⟨_, pss_one p, f⟩
/-- an owned list of the slot i stands still from here on -/
def dFreeze (i : Nat) (r : DS') : DS' := fun E ρ O => ∃ p l, ρ[i]? = some (some (.ref p)) ∧ O p = some (.lst l) ∧ r E (ρ.set i (some (.lst l))) (O.del p)
theorem dss_freeze (i : Nat) (h : DSs X rest dr) : DSs X rest (dFreeze i dr) := by
  obtain ⟨t, p, f⟩ := h
  refine ⟨t, p, fun ρ σ w E T hw he lk ⟨q, l, e1, e2, h⟩ => ?_⟩
  obtain ⟨z1, x, z2, vs, z3, z4⟩ := hw.own q _ e2
  subst z3
  obtain ⟨v, e3, r⟩ := he.get i _ e1
  have fz := Fr.freeze (x := .lst vs) hw e2
  refine f _ σ (w.freeze q (.lst vs)) E T (hw.freeze e2 z2) ?_ (lk.after fz) h
  have he2 := (he.mono fz.gsub).set (i := i) (d := .lst l) (v := v) (by rw [r.ref_of]; exact Rep.lst (SqL.of upd_same) (z4.mono fz.gsub))
  have es : σ.set i (some v) = σ := by
    apply List.ext_getElem?
    intro j
    by_cases y : i = j
    · subst y
      rw [e3]
      exact List.getElem?_set_self (List.getElem?_eq_some_iff.mp e3).1
    · exact List.getElem?_set_ne y
  rw [es] at he2
  exact he2
def dBreak : DS' := fun E ρ O => E.bk ρ O
def dCont : DS' := fun E ρ O => E.ct ρ O
def dNever : DS' := fun _ _ _ => False
theorem ds_never : DS X st dNever := ⟨_, ps_never, fun ρ σ w E T hw he lk h => h.elim⟩
def dDrop (da : DT) : DS' := fun E ρ O => da ρ O fun _ O1 => E.nx ρ O1
theorem ds_expr (h : DE X e da) (hs : swapsWith e none pos.line X.env = pure false := by rfl) : DS X (.Expr e pos) (dDrop da) := by
  obtain ⟨t, p, f⟩ := h
  refine ⟨_, ps_expr p hs, fun ρ σ w E T hw he lk h => ?_⟩
  exact f ρ σ w _ _ hw he (fun d v w' hw' f' r h' => lk.nx ρ σ w' hw' f' (he.mono f'.gsub) h') h
def dRet (da : DT) : DS' := fun E ρ O => da ρ O E.rt
theorem ds_ret (h : DE X e da) : DS X (.Return (some e) pos) (dRet da) := by
  obtain ⟨t, p, f⟩ := h
  refine ⟨_, ps_ret p, fun ρ σ w E T hw he lk h => ?_⟩
  exact f ρ σ w _ _ hw he (fun d v w' hw' f' r h' => lk.rt d v w' hw' f' r h') h
def dRetN : DS' := fun E _ O => E.rt .non O
def dIfS (c : DTt) (s r : DS') : DS' := fun E ρ O => c ρ O fun b O1 => if b = true then s E ρ O1 else r E ρ O1
theorem ds_if (hc : DB X c dt) (ha : DSs X body ds) (hb : DSs X els dr) : DS X (.If c body els pos) (dIfS dt ds dr) := by
  obtain ⟨tc, p, f⟩ := hc
  obtain ⟨ta, q, g⟩ := ha
  obtain ⟨tb, q2, g2⟩ := hb
  refine ⟨_, ps_if p q q2, fun ρ σ w E T hw he lk h => ?_⟩
  refine f ρ σ w _ _ hw he (fun k w' hw' f' h' => ?_) h
  cases k with
  | true => exact g ρ σ w' E T hw' (he.mono f'.gsub) (lk.after f') h'
  | false => exact g2 ρ σ w' E T hw' (he.mono f'.gsub) (lk.after f') h'
def dAsg (da : DT) (gd : D → DEnv → Option DEnv) : DS' := fun E ρ O => da ρ O fun d O1 => ∃ ρ', gd d ρ = some ρ' ∧ E.nx ρ' O1
theorem sem_asg {te : TE} {g : TG} {gd : D → DEnv → Option DEnv} {slots : List Nat} (f : Sem1 K te da) (fg : SemG K g gd slots) : SemS K (tAsg te g) (dAsg da gd) := by
  intro ρ σ w E T hw he lk h
  refine f ρ σ w _ _ hw he (fun d v w' hw' f' r ⟨ρ', e, h'⟩ => ?_) h
  exact fg.run w' d v ρ ρ' σ _ hw' (he.mono f'.gsub) r e fun σ' he' _ _ => lk.nx ρ' σ' w' hw' f' he' h'
theorem ds_set {i : Nat} {x : Str} {pos' : Pos} (hN : X.N.Nodup) (hi : X.N[i]? = some x) (hx : Loc X.env.scope x) (h : DE X e da) (hs : swapsWith e (some (.Name x pos')) pos.line X.env = pure false := by rfl) (hf : X.fn x = true ∨ X.env.scope.names.lookup x = some .local := by first | exact .inl rfl | exact .inr rfl | assumption) :
    DS X (.Assign [.Name x pos'] e pos) (dAsg da (tgN i)) := by
  obtain ⟨t, p, f⟩ := h
  exact ⟨_, ps_set hN hi hx p hs hf, sem_asg f sem_gName⟩
/-- name = [..] on one line -/
theorem ds_setLc {i : Nat} {y : Str} {py spos : Pos} {elt tg iter : Expr} {ifs : List Expr} {scope : Scope} {own : List (Str × Nat)} {di : DIt} {gd : D → DEnv → Option DEnv} {slots : List Nat} {dtt : DTt} {dte : DT}
    {mk : List D → Ow → DQ → Prop} (hm : MkOk mk) (hc : Rdy X) (hN : X.N.Nodup) (hy : X.N[i]? = some y) (hyl : X.env.scope.names.lookup y = some .local)
    (hsw : swapsWith (.ListComp elt [⟨tg, iter, ifs, 0⟩] scope pos) (some (.Name y py)) spos.line X.env = pure true) (hi : DI X tg iter di) (ok : BlkOk X.N X.env.scope scope own)
    (hb : ∀ (s : Shared) (H : Hp) (C : Addr) (cl : List (Str × Addr)) (fp : List Addr) (pn : List (Addr × Obj)), Up X (blkP X s H scope (compEnvC scope cl C X.env) fp pn) → BlkD (blkP X s H scope (compEnvC scope cl C X.env) fp pn) tg ifs elt gd slots dtt dte)
    (hv : ∀ i ∈ slots, i ∈ own.map (·.2) := by decide) (hs : ∀ x, foldedSetIterable iter X.env x = pure x := by intro _; rfl) :
    DS X (.Assign [.Name y py] (.ListComp elt [⟨tg, iter, ifs, 0⟩] scope pos) spos) (dAsg (dLc mk di gd dtt dte (own.map (·.2))) (tgN i)) := by
  rcases hc with c | ⟨c, hot⟩
  · obtain ⟨wi, pi, fi⟩ := hi.cold c
    exact ⟨_, ps_setLc c hN hy hyl hsw pi ok (fun s H C cl fp => (hb s H C cl fp [] (up_cold c)).g.canon) (fun s H C cl fp => (hb s H C cl fp [] (up_cold c)).t.canon) (fun s H C cl fp => (hb s H C cl fp [] (up_cold c)).e.canon) hs, sem_asg (sem_lc hm fi sem_gOf sem_tOfB sem_tOf hv) sem_gName⟩
  · obtain ⟨wi, pi, fi⟩ := hi.hot c hot
    exact ⟨_, ps_setLcH hot hN hy hyl hsw pi ok hs (fun s H C cl fp => let b := hb s H C cl fp X.pn up_blk; ⟨b.g.canon, b.t.canon, b.e.canon⟩), sem_asg (sem_lc hm fi sem_gOf sem_tOfB sem_tOf hv) sem_gName⟩
/-- o[i] = e -/
def dSetI (da doo di : DT) : DS' := fun E ρ O => da ρ O fun d O1 => doo ρ O1 fun o O2 => di ρ O2 fun k O3 => match o, k with
  | .ref p, .int n => ∃ l, O3 p = some (.lst l) ∧ ∃ j, ixN l.length n = some j ∧ E.nx ρ (O3.set p (.lst (l.set j d)))
  | _, _ => False
theorem set_owned {w : Wd} {p : Addr} {l l' : List D} {vs : List V} (hw : Own K w) (e : w.O p = some (.lst l)) (r : Reps K w.G l' vs) : Own K (w.give p (.lst l') (.lst vs)) ∧ Fr w (w.give p (.lst l') (.lst vs)) :=
  ⟨hw.write e ⟨vs, rfl, r⟩, Fr.write hw e⟩
theorem ds_setI {o i : Expr} {doo di : DT} {pos' : Pos} (h : DE X e da) (ho : DE X o doo) (hi : DE X i di)
    (ha : ∀ v, assign (.Subscript o i pos') X.env v = (do
      let ov ← holding [v] (eval o X.env)
      let iv ← holding [v, ov] (eval i X.env)
      standAt pos'
      holding [v, ov, iv] (setItem ov iv v)
      release [v, ov, iv] []) := by intro _; rfl)
    (hs : swapsWithSole [.Subscript o i pos'] e pos.line X.env = pure false := by rfl) (hw : swappedStores [.Subscript o i pos'] e X.env = pure none := by rfl)
    (h1 : (assignEach [.Subscript o i pos'] X.env).map (·.2) = [assign (.Subscript o i pos') X.env] := by rfl) : DS X (.Assign [.Subscript o i pos'] e pos) (dSetI da doo di) := by
  obtain ⟨t, p, f⟩ := h
  obtain ⟨to, po, fo⟩ := ho
  obtain ⟨ti, pi, fi⟩ := hi
  refine ⟨_, ps_asg p (pg_sub po pi set_list ha) hs hw h1, fun ρ σ w E T hw0 he lk h => ?_⟩
  refine f ρ σ w _ _ hw0 he (fun d v w1 hw1 f1 r1 h1 => ?_) h
  refine fo ρ σ w1 _ _ hw1 (he.mono f1.gsub) (fun x vx w2 hw2 f2 r2 h2 => ?_) h1
  refine fi ρ σ w2 _ _ hw2 (he.mono (f1.gsub.trans f2.gsub)) (fun k vk w3 hw3 f3 r3 h3 => ?_) h2
  cases x with
  | ref q =>
    cases k with
    | int n =>
      obtain ⟨l, e1, j, e2, h3⟩ := h3
      obtain ⟨z1, x, z2, vs, z3, z4⟩ := hw3.own q _ e1
      subst z3
      refine ⟨q, vs, n, j, r2.ref_of, r3.int_of, z2, by rw [← z4.length]; exact e2, ?_⟩
      have rd : Rep X.K w3.G d v := r1.mono (f2.gsub.trans f3.gsub)
      obtain ⟨o1, o2⟩ := set_owned hw3 e1 (Reps.set rd j z4)
      exact lk.nx ρ σ _ o1 (f1.trans (f2.trans (f3.trans o2))) ((he.mono (f1.gsub.trans (f2.gsub.trans f3.gsub))).mono o2.gsub) h3
    | _ => exact h3.elim
  | _ => exact h3.elim
def dAug (i : Nat) (g : Int → Int → Int) (da : DT) : DS' := fun E ρ O => ∃ x, ρ[i]? = some (some (.int x)) ∧ da ρ O fun d O1 => match d with
  | .int y => E.nx (ρ.set i (some (.int (g x y)))) O1
  | _ => False
def dAugI (g : Int → Int → Int) (doo di da : DT) : DS' := fun E ρ O => doo ρ O fun o O1 => di ρ O1 fun k O2 => match o, k with
  | .ref p, .int n => ∃ l, O2 p = some (.lst l) ∧ ∃ x, atI l n = some (.int x) ∧ da ρ O2 fun d O3 => match d with
    | .int y => ∃ l2, O3 p = some (.lst l2) ∧ ∃ j, ixN l2.length n = some j ∧ E.nx ρ (O3.set p (.lst (l2.set j (.int (g x y)))))
    | _ => False
  | _, _ => False
def forLoop (gd : D → DEnv → Option DEnv) (body : DS') (fs : List Nat) (stay : Ow → Prop) (E : DEnds) : List D → DEnv → Ow → Prop
  | [], ρ, O => E.nx ρ O
  | d :: r, ρ, O => ∃ ρ', gd d ρ = some ρ' ∧ body { E with
      nx := fun ρ2 O2 => ∃ O3, Ow.le O3 O2 ∧ stay O3 ∧ forLoop gd body fs stay E r (forget ρ2 fs) O3
      ct := fun ρ2 O2 => ∃ O3, Ow.le O3 O2 ∧ stay O3 ∧ forLoop gd body fs stay E r (forget ρ2 fs) O3
      bk := E.nx } ρ' O
/-- fs: the names that are forgotten at a turn's end -/
def dFor (di : DIt) (gd : D → DEnv → Option DEnv) (body : DS') (fs : List Nat) : DS' := fun E ρ O => di ρ O fun items stay O1 => stay O1 ∧ forLoop gd body fs stay E items (forget ρ fs) O1
theorem sem_for {wi : TI} {g : TG} {tb : TS} {di : DIt} {gd : D → DEnv → Option DEnv} {slots : List Nat} {ds : DS'} (fs : List Nat) (fi : SemI X.K wi di) (fg : SemG X.K g gd slots) (fb : SemS X.K tb ds) : SemS X.K (tFor wi g tb) (dFor di gd ds fs) := by
  refine fun ρ σ w E T hw he lk h => ?_
  refine fi ρ σ w _ _ hw he (fun items stay J w1 hw1 f1 W ⟨hst, h1⟩ => ?_) h
  let P : Nat → L2.St → Hp → Prop := fun i σ H => ∃ ρ w2, w2.H = H ∧ Own X.K w2 ∧ Fr w1 w2 ∧ RepE X.K w2.G ρ σ ∧ stay w2.O ∧ forLoop gd ds fs stay E (items.drop i) ρ w2.O
  refine ⟨fun i m σ H => m = items.length - i ∧ i ≤ items.length ∧ P i σ H, ⟨items.length, by simp, Nat.zero_le _, forget ρ fs, w1, rfl, hw1, Fr.refl w1, RepE.forget fs (he.mono f1.gsub), hst, by simpa using h1⟩, ?_⟩
  rintro i m σ' H ⟨rfl, hi, ρ2, w2, rfl, hw2, f2, he2, st2, hl⟩
  by_cases hlt : i < items.length
  · refine .inr ⟨W.go i w2 hw2 f2 st2 hlt, P (i + 1), fun σ'' H' p' => ⟨items.length - (i + 1), by omega, rfl, hlt, p'⟩, fun x H' y => ?_⟩
    rw [List.drop_eq_getElem_cons hlt] at hl
    obtain ⟨ρ', eg, hl⟩ := hl
    obtain ⟨w3, eH, eO, hw3, f3, r3⟩ := W.yld i w2 x H' hw2 f2 st2 y items[i] (List.getElem?_eq_getElem hlt)
    subst eH
    refine fg.run w3 _ x ρ2 ρ' σ' _ hw3 (he2.mono f3.gsub) r3 eg fun σ4 he4 _ _ => ?_
    rw [← eO] at hl
    have fr3 : Fr w w3 := f1.trans (f2.trans f3)
    have next : ∀ ρ5 σ5 w5, Own X.K w5 → Fr w3 w5 → RepE X.K w5.G ρ5 σ5 → (∃ O3, Ow.le O3 w5.O ∧ stay O3 ∧ forLoop gd ds fs stay E (items.drop (i + 1)) (forget ρ5 fs) O3) → P (i + 1) σ5 w5.H :=
      fun ρ5 σ5 w5 hw5 f5 he5 ⟨O3, l3, s3, h5⟩ => ⟨forget ρ5 fs, w5.drop O3, rfl, hw5.drop l3, f2.trans (f3.trans (f5.trans (Fr.drop l3))), RepE.forget fs he5, s3, h5⟩
    refine fb ρ' σ4 w3 _ { T with nx := P (i + 1), ct := P (i + 1), bk := T.nx } hw3 he4 ?_ hl
    exact ⟨next, fun d v w5 a b => lk.rt d v w5 a (fr3.trans b), fun ρ5 σ5 w5 a b => lk.nx ρ5 σ5 w5 a (fr3.trans b), next⟩
  · have e : i = items.length := by omega
    subst e
    rw [List.drop_length] at hl
    exact .inl ⟨W.stop w2 hw2 f2 st2, lk.nx ρ2 σ' w2 hw2 (f1.trans f2) he2 hl⟩
theorem ds_for {tg iter : Expr} {di : DIt} {gd : D → DEnv → Option DEnv} {slots : List Nat} (fs : List Nat) (hp : PassesOwn (model X.prog X.w) X.A X.env X.xe) (hc : Rdy X) (hi : DI X tg iter di) (hg : DG X tg gd slots) (hb : DSs X body ds)
    (hs : ∀ x, foldedSetIterable iter X.env x = pure x := by intro _; rfl) : DS X (.For tg iter body [] pos) (dFor di gd ds fs) := by
  obtain ⟨g, pg, fg⟩ := hg
  obtain ⟨tb, pb, fb⟩ := hb
  rcases hc with c | ⟨c, hot⟩
  · obtain ⟨wi, pi, fi⟩ := hi.cold c
    exact ⟨_, L2.ps_for hp c pi pg pb hs, sem_for fs fi fg fb⟩
  · obtain ⟨wi, pi, fi⟩ := hi.hot c hot
    exact ⟨_, L2H.ps_forH hp hot pi pg pb hs, sem_for fs fi fg fb⟩
def dWhile (c : DTt) (body : DS') (fs : List Nat) : DS' := fun E ρ O => ∃ W : Nat → DEnv → Ow → Prop, (∃ m, W m (forget ρ fs) O) ∧ ∀ m ρ O, W m ρ O →
  c ρ O fun b O1 => if b = true then body { E with
      nx := fun ρ2 O2 => ∃ O3 m', Ow.le O3 O2 ∧ m' < m ∧ W m' (forget ρ2 fs) O3
      ct := fun ρ2 O2 => ∃ O3 m', Ow.le O3 O2 ∧ m' < m ∧ W m' (forget ρ2 fs) O3
      bk := E.nx } ρ O1 else E.nx ρ O1
theorem ds_while (fs : List Nat) (hp : PassesOwn (model X.prog X.w) X.A X.env X.xe) (hc : DB X c dt) (hb : DSs X body ds) : DS X (.While c body [] pos) (dWhile dt ds fs) := by
  obtain ⟨tc, p, f⟩ := hc
  obtain ⟨tb, q, g⟩ := hb
  refine ⟨_, ps_while hp p q, fun ρ σ w E T hw he lk ⟨W, ⟨m0, w0⟩, turn⟩ => ?_⟩
  refine ⟨fun m σ H => ∃ ρ w2, w2.H = H ∧ Own X.K w2 ∧ Fr w w2 ∧ RepE X.K w2.G ρ σ ∧ W m ρ w2.O, ⟨m0, _, w, rfl, hw, Fr.refl w, RepE.forget fs he, w0⟩, ?_⟩
  rintro m σ2 H ⟨ρ2, w2, rfl, hw2, f2, he2, h2⟩
  refine f ρ2 σ2 w2 _ _ hw2 he2 (fun b w3 hw3 f3 h3 => ?_) (turn m ρ2 w2.O h2)
  cases b with
  | false => exact lk.nx ρ2 σ2 w3 hw3 (f2.trans f3) (he2.mono f3.gsub) h3
  | true =>
    rw [if_pos rfl] at h3 ⊢
    let N : L2.St → Hp → Prop := fun σ5 H5 => ∃ m', m' < m ∧ ∃ ρ5 w5, w5.H = H5 ∧ Own X.K w5 ∧ Fr w w5 ∧ RepE X.K w5.G ρ5 σ5 ∧ W m' ρ5 w5.O
    refine ⟨N, fun σ' H' h => h, ?_⟩
    have next : ∀ ρ5 σ5 w5, Own X.K w5 → Fr w3 w5 → RepE X.K w5.G ρ5 σ5 → (∃ O3 m', Ow.le O3 w5.O ∧ m' < m ∧ W m' (forget ρ5 fs) O3) → N σ5 w5.H :=
      fun ρ5 σ5 w5 hw5 f5 he5 ⟨O3, m', l3, lm, h5⟩ => ⟨m', lm, forget ρ5 fs, w5.drop O3, rfl, hw5.drop l3, f2.trans (f3.trans (f5.trans (Fr.drop l3))), RepE.forget fs he5, h5⟩
    refine g ρ2 σ2 w3 _ { T with nx := N, ct := N, bk := T.nx } hw3 (he2.mono f3.gsub) ?_ h3
    exact ⟨next, fun d v w5 a b => lk.rt d v w5 a (f2.trans (f3.trans b)), fun ρ5 σ5 w5 a b => lk.nx ρ5 σ5 w5 a (f2.trans (f3.trans b)), next⟩
end
theorem Reps.begun {K : PySem.W.Frag} {G : Hp} {N : List Str} {ds : List D} {vs : List V} (h : Reps K G ds vs) : RepE K G (ds.map some ++ List.replicate (N.length - ds.length) none) (L2.start N vs) := by
  unfold L2.start
  rw [h.length]
  refine ⟨by simp [h.length], fun i d e => ?_⟩
  by_cases hi : i < ds.length
  · rw [List.getElem?_append_left (by simpa using hi), List.getElem?_map] at e
    cases q : ds[i]? with
    | none => rw [q] at e; cases e
    | some d' =>
      rw [q] at e
      cases e
      obtain ⟨v, e1, r⟩ := h.get q
      refine ⟨v, ?_, r⟩
      rw [List.getElem?_append_left (by rw [List.length_map, ← h.length]; exact hi), List.getElem?_map, e1]
      rfl
  · rw [List.getElem?_append_right (by simpa using hi)] at e
    have := List.getElem?_eq_some_iff.mp e
    obtain ⟨hh, e2⟩ := this
    rw [List.getElem_replicate] at e2
    cases e2
def startD (n : Nat) (ds : List D) : DEnv := ds.map some ++ List.replicate (n - ds.length) none
/-- what is handed back, less owned if wished -/
def rtEnds (Q : DQ) : DEnds := { nx := fun _ O => ∃ O', Ow.le O' O ∧ Q .non O', rt := fun d O => ∃ O', Ow.le O' O ∧ Q d O' }
section
variable {P : Program} {w : World} {K : PySem.W.Frag} {mg : Str → Option Value} {base : Heap}
theorem fn_ok {x qual : Str} {st : Stmt} {f : Addr} {fd : FuncData} {N ps : List Str} {k : Nat} {b : Bool} {s : DL} (F : Fun K x qual st f fd) (S : FnScope N ps (defScope st))
    (len : ∀ ds O Q, s ds O Q → ds.length = ps.length)
    (hbody : ∀ (cdv : Value) (A : Around) (outer : List Env) (s' : Shared) (H : Hp) (E : XK) (c : Bool) (pn : List (Addr × Obj)), (c = true ∨ b = true) → Rm k (bodyX P w K mg base N qual (defScope st) f cdv A outer s' H E c pn) →
      ∃ d, DSs (bodyX P w K mg base N qual (defScope st) f cdv A outer s' H E c pn) (defBody st) d ∧ ∀ ds O Q, s ds O Q → d (rtEnds Q) (startD N.length ds) O) :
    FnB P w K mg base b (k + 1) f fd ps (Prom K s) := by
  refine fun_okB F S (fun vs H Q E ⟨ds, w1, Q', _, _, r, _, h⟩ => ?_) (fun cdv A outer s' H vs Q E c pn hc hr ⟨ds, w1, Q', eH, hw, r, lk, h⟩ => ?_)
  · rw [← r.length]; exact len _ _ _ h
  obtain ⟨d, ⟨t, p, f⟩, hd⟩ := hbody cdv A outer s' H E c pn hc hr
  refine ⟨t, p, ?_⟩
  subst eH
  refine f _ _ w1 (rtEnds Q') { nx := fun _ H' => Q .non H', rt := Q } hw r.begun ⟨?_, ?_, fun _ _ _ _ _ _ z => z.elim, fun _ _ _ _ _ _ z => z.elim⟩ (hd ds w1.O Q' h)
  · exact fun ρ σ w' hw' f' _ ⟨O', l, q⟩ => lk .non .non (w'.drop O') (hw'.drop l) (f'.trans (Fr.drop l)) .non q
  · exact fun d v w' hw' f' rd ⟨O', l, q⟩ => lk d v (w'.drop O') (hw'.drop l) (f'.trans (Fr.drop l)) rd q
end
end SB
namespace SB
open PySem PySem.Spec PyProof.Rows L2
section
variable {K : PySem.W.Frag} {X : Cx}
def dAbs : DL := fun xs O Q => match xs with
  | [.int i] => Q (.int i.natAbs) O
  | _ => False
theorem o_abs : OpL K (fun xs H Q => ∃ i, xs = [.int i] ∧ Q (.int (if i < 0 then -i else i)) H) dAbs := by
  intro w xs vs Q' Q hw rs lk h
  unfold dAbs at h
  split at h
  · rename_i i
    refine ⟨i, rs.int1, ?_⟩
    rw [show (if i < 0 then -i else i) = ((i.natAbs : Nat) : Int) by split <;> omega]
    exact lk _ _ w hw (Fr.refl w) (.int _) h
  · exact h.elim
def dInt1 : DL := fun xs O Q => match xs with
  | [.int i] => Q (.int i) O
  | [.bl k] => Q (.int (if k then 1 else 0)) O
  | _ => False
theorem Reps.str1 {G : Hp} {i : Str} {vs : List V} (h : Reps K G [.str i] vs) : vs = [.str i] := by
  obtain ⟨v, e, r⟩ := h.one1
  rw [e, r.str_of]
def dLen : DL := fun xs O Q => match xs with
  | [.str z] => z.length ≤ sizeLine ∧ Q (.int z.length) O
  | [x] => ∃ l, qv O x = some l ∧ Q (.int l.length) O
  | _ => False
theorem call_lenA : CallR X (.builtin "len") (fun xs H Q => (∃ p ys, xs = [.ref p] ∧ (SqL X.K H p ys ∨ SqT X.K H p ys) ∧ Q (.int ys.length) H) ∨ ∃ z, xs = [.str z] ∧ z.length ≤ sizeLine ∧ Q (.int z.length) H) := call_len_seq.or call_len_str
theorem o_len : OpL K (fun xs H Q => (∃ p ys, xs = [.ref p] ∧ (SqL K H p ys ∨ SqT K H p ys) ∧ Q (.int ys.length) H) ∨ ∃ z, xs = [.str z] ∧ z.length ≤ sizeLine ∧ Q (.int z.length) H) dLen := by
  intro w xs vs Q' Q hw rs lk h
  unfold dLen at h
  split at h
  · exact .inr ⟨_, rs.str1, h.1, lk _ _ w hw (Fr.refl w) (.int _) h.2⟩
  · obtain ⟨l, e, q⟩ := h
    obtain ⟨v, ev, r⟩ := rs.one1
    obtain ⟨a, us, z, sq, r2⟩ := qv_rep hw r e
    refine .inl ⟨a, us, by rw [ev, z], sq, ?_⟩
    rw [← r2.length]
    exact lk _ _ w hw (Fr.refl w) (.int _) q
  · exact h.elim
def dTuple : DL := fun xs O Q => match xs with
  | [x] => ∃ l, qv O x = some l ∧ Q (.tup l) O
  | _ => False
theorem o_tuple : OpL K (fun xs H Q => ∃ p ys, xs = [.ref p] ∧ ((SqL K H p ys ∧ ∀ l, H l = none → Q (.ref l) (upd H l (.tup ys))) ∨ (SqT K H p ys ∧ Q (.ref p) H))) dTuple := by
  intro w xs vs Q' Q hw rs lk h
  unfold dTuple at h
  split at h
  rotate_left
  · exact h.elim
  rename_i x
  obtain ⟨l, e, q⟩ := h
  obtain ⟨v, ev, r⟩ := rs.one1
  by_cases ht : ∃ m, x = .tup m
  · obtain ⟨m, em⟩ := ht
    subst em
    have e' : m = l := by simpa [qv] using e
    subst e'
    obtain ⟨a, us, z, sq, r2⟩ := r.tup_of
    exact ⟨a, us, by rw [ev, z], .inr ⟨Same.seqT hw.sub sq, lk _ _ w hw (Fr.refl w) (Rep.tup sq r2) q⟩⟩
  · have hn : ∀ m, x ≠ .tup m := fun m y => ht ⟨m, y⟩
    obtain ⟨a, us, z, sq, r2⟩ := lv_rep hw r (by rw [← qv_lv hn (l := l)]; exact e)
    exact ⟨a, us, by rw [ev, z], .inl ⟨sq, fun p hp => tup_still hw hp r2 lk q⟩⟩
def dList (mk : List D → Ow → DQ → Prop) : DL := fun xs O Q => match xs with
  | [x] => ∃ l, qv O x = some l ∧ mk l O Q
  | _ => False
def dSum : DL := fun xs O Q => match xs with
  | [x] => ∃ ns : List Int, lv O x = some (ns.map D.int) ∧ Q (.int ns.sum) O
  | _ => False
def dAll : DL := fun xs O Q => match xs with
  | [x] => ∃ ns : List Bool, lv O x = some (ns.map D.bl) ∧ Q (.bl (ns.all id)) O
  | _ => False
def tyN (O : Ow) : D → Option String
  | .non => some "NoneType"
  | .bl _ => some "bool"
  | .int _ => some "int"
  | .str _ => some "str"
  | .tup _ => some "tuple"
  | .lst _ => some "list"
  | .ref p => match O p with
    | some (.lst _) => some "list"
    | _ => none
  | .ty _ => none
theorem tyN_rep {w : Wd} {x : D} {v : V} {n : String} (hw : Own K w) (r : Rep K w.G x v) (e : tyN w.O x = some n) : TyX K w.H v (.type n) := by
  cases x with
  | non => cases e; rw [r.non_of]; exact .base .non
  | bl b => cases e; rw [r.bl_of]; exact .base (.bl b)
  | int b => cases e; rw [r.int_of]; exact .base (.int b)
  | str b => cases e; rw [r.str_of]; exact .base (.str b)
  | tup l =>
    cases e
    obtain ⟨a, us, z, sq, r2⟩ := r.tup_of
    rw [z]
    rcases Same.seqT hw.sub sq with (h | ⟨o, h⟩) | ⟨o, its, k, h1, h2, _⟩
    · exact .base (.tup h)
    · exact .fTuple h
    · exact .kTuple h1 h2
  | lst l =>
    cases e
    obtain ⟨a, us, z, sq, r2⟩ := r.lst_of
    rw [z]
    rcases hw.sub.seq sq with (h | ⟨o, h⟩) | ⟨o, its, k, h1, h2, _⟩
    · exact .base (.lst h)
    · exact .base (.frz h)
    · exact .kList h1 h2
  | ref p =>
    simp only [tyN] at e
    split at e
    · rename_i l hl
      cases e
      obtain ⟨_, y, hy, us, e2, _⟩ := hw.own p _ hl
      subst e2
      rw [r.ref_of]
      exact .base (.lst hy)
    · cases e
  | ty _ => cases e
def dIsi : DL := fun xs O Q => match xs with
  | [x, .ty T] => match tyN O x with
    | some n => match kitB n T with
      | some b => Q (.bl b) O
      | none => False
    | none => False
  | _ => False
theorem o_isi : OpL K (rIsi K) dIsi := by
  intro w xs vs Q' Q hw rs lk h
  unfold dIsi at h
  split at h
  rotate_left
  · exact h.elim
  rename_i x T
  obtain ⟨v, u, ev, r1, r2⟩ := rs.two2
  cases e1 : tyN w.O x with
  | none => rw [e1] at h; exact h.elim
  | some n =>
    rw [e1] at h
    simp only at h
    cases e2 : kitB n T with
    | none => rw [e2] at h; exact h.elim
    | some b =>
      rw [e2] at h
      exact ⟨v, .ty T, .type n, .type T, b, by rw [ev, r2.ty_of], .ty T, tyN_rep hw r1 e1, kit_ty e2, lk _ _ w hw (Fr.refl w) (.bl _) h⟩
theorem de_bty {x : Str} {T : String} {pos : Pos} (hg : Gl X x) (hm : X.mg x = none) (hv : bootBuiltins x = some (.type T)) (hn : x ≠ "__name__" := by decide) (hd : (x == ("__debug__" : Str)) = false := by decide) : DE X (.Name x pos) (dC (.ty T)) :=
  de_pe (pe_bltn (v := .ty T) hg hm hv rfl hn hd) rfl fun _ => .ty T
abbrev DM := D → List D → Ow → DQ → Prop
def dMt (T : String) (doo : DT) (dl : DTa) (m : DM) : DT := fun ρ O Q => doo ρ O fun x O1 => tyN O1 x = some T ∧ dl ρ O1 fun xs O2 => m x xs O2 Q
def dMt0 (T : String) (doo : DT) (m : DM) : DT := fun ρ O Q => doo ρ O fun x O1 => tyN O1 x = some T ∧ m x [] O1 Q
theorem tyV_list {w : Wd} {x : D} {v : V} (hw : Own K w) (r : Rep K w.G x v) (e : tyN w.O x = some "list") : tyV K "list" v w.H := by
  cases x with
  | lst l =>
    obtain ⟨a, us, z, sq, r2⟩ := r.lst_of
    rw [z]
    exact .inl ⟨rfl, _, hw.sub.seq sq⟩
  | ref p =>
    simp only [tyN] at e
    split at e
    · rename_i l hl
      obtain ⟨_, y, hy, us, e2, _⟩ := hw.own p _ hl
      subst e2
      rw [r.ref_of]
      exact .inl ⟨rfl, _, SqL.of hy⟩
    · cases e
  | _ => simp [tyN] at e
theorem tyV_str {w : Wd} {x : D} {v : V} (hw : Own K w) (r : Rep K w.G x v) (e : tyN w.O x = some "str") : tyV K "str" v w.H := by
  cases x with
  | str l => rw [r.str_of]; rfl
  | ref p =>
    simp only [tyN] at e
    split at e <;> simp at e
  | _ => simp [tyN] at e
variable {o e : Expr} {es : List Expr} {doo : DT} {dl : DTa} {name : Str} {apos cpos : Pos} {T id : String} {r : V → List V → Hp → VK → Prop} {m : DM}
theorem de_bm (pa : PlainAttrs T) (slot : Slot T name id) (hty : typeOf (.builtin id) = pure (.type "method_descriptor")) (hm : MtR X id r)
    (hT : ∀ w x v, Own X.K w → Rep X.K w.G x v → tyN w.O x = some T → tyV X.K T v w.H) (hr : OpM X.K T r m) (ho : DE X o doo) (ha : DA X (e :: es) dl)
    (hbase : attributeBase o name X.env (eval o X.env) = eval o X.env := by rfl)
    (hfew : ((backTo cpos (starEach (e :: es) X.env)).all (fun x => !x.1) && (backToKw cpos (keywordEach [] X.env)).all (fun x => x.1.isSome)
      && decide ((e :: es).length + ([] : List Keyword).length + (if ([] : List Keyword).isEmpty then 0 else 1) < 30)) = true := by rfl)
    (hline : (apos.endLine == cpos.line) = true := by rfl) (hs : starEach (e :: es) X.env = (false, eval e X.env) :: starEach es X.env := by rfl) (hplain : (backTo cpos (starEach es X.env)).any (·.1) = false := by rfl) :
    DE X (.Call (.Attribute o name apos) (e :: es) [] cpos) (dMt T doo dl m) := by
  obtain ⟨to, po, fo⟩ := ho
  obtain ⟨tl, pl, fl⟩ := ha
  refine ⟨_, pe_bm pa slot hty hm po pl hbase hfew hline hs hplain, fun ρ σ w Q' Q hw he lk h => ?_⟩
  refine fo ρ σ w _ _ hw he (fun x vx w1 hw1 f1 r1 ⟨h1, h2⟩ => ⟨hT w1 x vx hw1 r1 h1, ?_⟩) h
  refine fl ρ σ w1 _ _ hw1 (he.mono f1.gsub) (fun xs vs w2 hw2 f2 r2 h3 => ?_) h2
  exact hr w2 x xs vx vs Q' Q hw2 (r1.mono f2.gsub) r2 (lk.after (f1.trans f2)) h3
def dAppend : DM := fun x xs O Q => match x, xs with
  | .ref p, [y] => ∃ l, O p = some (.lst l) ∧ l.length < 100000 ∧ Q .non (O.set p (.lst (l ++ [y])))
  | _, _ => False
theorem lk_set {w : Wd} {p : Addr} {l l' : List D} {vs : List V} {Q' : DQ} {Q : VK} {d : D} {v : V} (hw : Own K w) (e : w.O p = some (.lst l)) (r : Reps K w.G l' vs) (rd : Rep K w.G d v) (lk : Lk K w Q' Q) (q : Q' d (w.O.set p (.lst l'))) : Q v (upd w.H p (.lst vs)) :=
  let ⟨o1, o2⟩ := set_owned hw e r
  lk d v _ o1 o2 rd q
theorem o_append : OpM K "list" rAppend dAppend := by
  intro w x xs vx vs Q' Q hw rx rs lk h
  unfold dAppend at h
  split at h
  rotate_left
  · exact h.elim
  obtain ⟨l, e, hl, q⟩ := h
  obtain ⟨z1, y, z2, us, z3, z4⟩ := hw.own _ _ e
  subst z3
  obtain ⟨v, ev, r⟩ := rs.one1
  refine ⟨_, us, v, rx.ref_of, ev, z2, ?_, lk_set hw e (z4.append (.cons r .nil)) .non lk q⟩
  rw [← z4.length]
  have := line100000
  omega
def dClear : DM := fun x xs O Q => match x, xs with
  | .ref p, [] => ∃ l, O p = some (.lst l) ∧ Q .non (O.set p (.lst []))
  | _, _ => False
def dReverse : DM := fun x xs O Q => match x, xs with
  | .ref p, [] => ∃ l, O p = some (.lst l) ∧ Q .non (O.set p (.lst l.reverse))
  | _, _ => False
def cutD (xs : List D) (lo hi : Option Int) : List D := (xs.drop (HT.sIx xs.length 0 lo)).take (HT.sIx xs.length xs.length hi - HT.sIx xs.length 0 lo)
abbrev DTo := DEnv → Ow → (Option Int → Ow → Prop) → Prop
def DPo (X : Cx) (e : Option Expr) (dt : DTo) : Prop := ∃ t, PO X e t ∧ ∀ ρ σ w (Q' : Option Int → Ow → Prop) (Q : Option Int → Hp → Prop), Own X.K w → RepE X.K w.G ρ σ → (∀ b w', Own X.K w' → Fr w w' → Q' b w'.O → Q b w'.H) → dt ρ w.O Q' → t σ w.H Q
def dNoP : DTo := fun _ O Q => Q none O
def dPart (da : DT) : DTo := fun ρ O Q => da ρ O fun d O1 => match d with
  | .int i => Q (some i) O1
  | _ => False
theorem dpo_none : DPo X none dNoP := ⟨_, po_none, fun ρ σ w Q' Q hw he lk h => lk none w hw (Fr.refl w) h⟩
theorem dpo_some {e : Expr} {da : DT} (h : DE X e da) : DPo X (some e) (dPart da) := by
  obtain ⟨t, p, f⟩ := h
  refine ⟨_, po_some p, fun ρ σ w Q' Q hw he lk h => ?_⟩
  refine f ρ σ w _ _ hw he (fun d v w1 hw1 f1 r1 h1 => ?_) h
  cases d with
  | int i => exact ⟨i, r1.int_of, lk _ w1 hw1 f1 h1⟩
  | _ => exact h1.elim
def drSlice (mk : List D → Ow → DQ → Prop) (x : D) (lo hi : Option Int) : Ow → DQ → Prop := fun O Q => match x with
  | .tup l => Q (.tup (cutD l lo hi)) O
  | x => ∃ l, lv O x = some l ∧ mk (cutD l lo hi) O Q
def dSlice (mk : List D → Ow → DQ → Prop) (da : DT) (dlo dhi : DTo) : DT := fun ρ O Q => da ρ O fun x O1 => dlo ρ O1 fun lo O2 => dhi ρ O2 fun hi O3 => drSlice mk x lo hi O3 Q
theorem Reps.cut {G : Hp} {l : List D} {vs : List V} (r : Reps K G l vs) (lo hi : Option Int) : Reps K G (cutD l lo hi) (cutV vs lo hi) := by
  unfold cutD cutV
  rw [r.length]
  exact (r.drop _).take _
theorem sIx_zero {n : Nat} {lo : Option Int} {hi : Option Int} (l : List D) (h : HT.sIx l.length 0 lo = 0 ∧ HT.sIx l.length l.length hi = l.length) : cutD l lo hi = l := by
  unfold cutD
  rw [h.1, h.2, List.drop_zero, Nat.sub_zero, List.take_length]
theorem de_slice {mk : List D → Ow → DQ → Prop} (hm : MkOk mk) {e : Expr} {lo hi : Option Expr} {da : DT} {dlo dhi : DTo} {pos p2 : Pos} (h : DE X e da) (hl : DPo X lo dlo) (hu : DPo X hi dhi) : DE X (.Subscript e (.Slice lo hi none p2) pos) (dSlice mk da dlo dhi) := by
  obtain ⟨t, p, f⟩ := h
  obtain ⟨tl, pl, fl⟩ := hl
  obtain ⟨tu, pu, fu⟩ := hu
  refine ⟨_, pe_slice (sl_list.or sl_tupA) p pl pu, fun ρ σ w Q' Q hw he lk h => ?_⟩
  refine f ρ σ w _ _ hw he (fun x v w1 hw1 f1 r1 h1 => ?_) h
  refine fl ρ σ w1 _ _ hw1 (he.mono f1.gsub) (fun lo w2 hw2 f2 h2 => ?_) h1
  refine fu ρ σ w2 _ _ hw2 (he.mono (f1.gsub.trans f2.gsub)) (fun hi w3 hw3 f3 h3 => ?_) h2
  have r3 := r1.mono (f2.gsub.trans f3.gsub)
  have lk3 := lk.after (f1.trans (f2.trans f3))
  unfold drSlice at h3
  split at h3
  · rename_i l
    obtain ⟨a, us, z, sq, r2⟩ := r3.tup_of
    refine .inr ⟨a, us, z, Same.seqT hw3.sub sq, fun hh => ?_, fun _ p hp => tup_still hw3 hp (r2.cut lo hi) lk3 h3⟩
    rw [← r2.length] at hh
    rw [sIx_zero (n := 0) l hh] at h3
    exact lk3 _ _ w3 hw3 (Fr.refl w3) (Rep.tup sq r2) h3
  · obtain ⟨l, e, q⟩ := h3
    obtain ⟨a, us, z, sq, r2⟩ := lv_rep hw3 r3 e
    exact .inl ⟨a, us, z, sq, fun p hp => hm X.K w3 (cutD l lo hi) _ Q' Q p hw3 hp (r2.cut lo hi) lk3 q⟩
end
end SB
namespace SB
open PySem PySem.Spec PyProof.Rows L2
/-- below 2 ^ n -/
def Sz (n : Nat) (x : Int) : Prop := x.natAbs < 2 ^ n
instance {i j : Int} : Decidable (Mok i j) := inferInstanceAs (Decidable (_ < _))
instance {i j : Int} : Decidable (CPow i j) := inferInstanceAs (Decidable (_ ∧ _))
instance {n : Nat} {x : Int} : Decidable (Sz n x) := inferInstanceAs (Decidable (_ < _))
theorem Sz.mono {n m : Nat} {x : Int} (h : Sz n x) (l : n ≤ m) : Sz m x := Nat.lt_of_lt_of_le h (Nat.pow_le_pow_right (by decide) l)
theorem Sz.mul {n m : Nat} {x y : Int} (h : Sz n x) (k : Sz m y) : Sz (n + m) (x * y) := by
  unfold Sz at *
  rw [Int.natAbs_mul, Nat.pow_add]
  exact Nat.mul_lt_mul'' h k
theorem Sz.add {n m : Nat} {x y : Int} (h : Sz n x) (k : Sz m y) : Sz (max n m + 1) (x + y) := by
  have h1 := h.mono (Nat.le_max_left n m)
  have k1 := k.mono (Nat.le_max_right n m)
  unfold Sz at *
  rw [Nat.pow_succ]
  omega
theorem Sz.neg {n : Nat} {x : Int} (h : Sz n x) : Sz n (-x) := by unfold Sz at *; omega
theorem Sz.sub {n m : Nat} {x y : Int} (h : Sz n x) (k : Sz m y) : Sz (max n m + 1) (x - y) := by
  rw [Int.sub_eq_add_neg]; exact h.add k.neg
theorem Sz.log {n : Nat} {x : Int} (h : Sz n x) : x.natAbs.log2 ≤ n := by
  by_cases h0 : x.natAbs = 0
  · rw [h0]; simp
  · exact Nat.le_of_lt ((Nat.log2_lt h0).mpr h)
theorem Mok.of {n m : Nat} {x y : Int} (h : Sz n x) (k : Sz m y) (l : n + m < 100000000) : Mok x y := by
  have := h.log
  have := k.log
  unfold Mok
  omega
theorem Sz.fdiv {n : Nat} {x y : Int} (h : Sz n x) (hy : y ≠ 0) : Sz (n + 1) (x.fdiv y) := by
  have e := Int.mul_fdiv_add_fmod x y
  have h1 : (x.fdiv y).natAbs ≤ x.natAbs + 1 := by
    rcases Int.lt_or_gt_of_ne hy with hn | hp
    · have e1 := Int.fdiv_eq_ediv (a := x) (b := y)
      have e2 : (x / y).natAbs ≤ x.natAbs := Int.natAbs_ediv_le_natAbs x y
      rw [e1]
      split <;> omega
    · rw [Int.fdiv_eq_ediv_of_nonneg x (by omega)]
      have e2 : (x / y).natAbs ≤ x.natAbs := Int.natAbs_ediv_le_natAbs x y
      omega
  unfold Sz at *
  rw [Nat.pow_succ]
  have : 0 < 2 ^ n := Nat.two_pow_pos n
  omega
theorem Dok.small {x y : Int} (h0 : y ≠ 0) (h : y.natAbs < 1073741824) : Dok x y := ⟨h0, PyProof.noPylong_small h⟩
theorem Dok.sz {x y : Int} (h0 : y ≠ 0) (h : Sz 8999 y) : Dok x y := ⟨h0, PyProof.noPylong_of_log2 (by have := h.log; omega)⟩
theorem Dok.szx {x y : Int} (h0 : y ≠ 0) (h : Sz 13000 x) : Dok x y := by
  refine ⟨h0, ?_⟩
  have hl := h.log
  have key : (if x == 0 then 0 else x.natAbs.log2 / 30 + 1) ≤ 434 := by
    by_cases hx : (x == 0) = true
    · rw [if_pos hx]; exact Nat.zero_le _
    · rw [if_neg hx]; omega
  show (decide ((if y == 0 then 0 else y.natAbs.log2 / 30 + 1) > 300) && decide ((if x == 0 then 0 else x.natAbs.log2 / 30 + 1) > (if y == 0 then 0 else y.natAbs.log2 / 30 + 1) + 150)) = false
  by_cases hy : (if y == 0 then 0 else y.natAbs.log2 / 30 + 1) > 300
  · rw [decide_eq_true hy, decide_eq_false (by omega)]; rfl
  · rw [decide_eq_false hy]; rfl
theorem rt_here {Q : DQ} {d : D} {O : Ow} (h : Q d O) : (rtEnds Q).rt d O := ⟨O, Ow.le.refl O, h⟩
theorem gt0 {α : Type} {x : α} {l : List α} : atI (x :: l) 0 = some x := atI_nat (j := 0) rfl
theorem gt1 {α : Type} {x y : α} {l : List α} : atI (x :: y :: l) 1 = some y := atI_nat (j := 1) rfl
theorem gt2 {α : Type} {x y z : α} {l : List α} : atI (x :: y :: z :: l) 2 = some z := atI_nat (j := 2) rfl
theorem gt3 {α : Type} {x y z u : α} {l : List α} : atI (x :: y :: z :: u :: l) 3 = some u := atI_nat (j := 3) rfl
theorem dEq_ii {i j : Int} {O : Ow} {Q : DQ} : dEq (.int i) (.int j) O Q = Q (.bl (i == j)) O := by simp [dEq, vw, okE, eqv]
theorem dNe_ii {i j : Int} {O : Ow} {Q : DQ} : dNe (.int i) (.int j) O Q = Q (.bl (!(i == j))) O := by simp [dNe, vw, okE, eqv]
theorem dEq_bb {i j : Bool} {O : Ow} {Q : DQ} : dEq (.bl i) (.bl j) O Q = Q (.bl (i == j)) O := by simp [dEq, vw, okE, eqv]
theorem dNe_bb {i j : Bool} {O : Ow} {Q : DQ} : dNe (.bl i) (.bl j) O Q = Q (.bl (!(i == j))) O := by simp [dNe, vw, okE, eqv]
theorem ix20 : ixN 2 0 = some 0 := by decide
theorem ix21 : ixN 2 1 = some 1 := by decide
theorem ix30 : ixN 3 0 = some 0 := by decide
theorem ix31 : ixN 3 1 = some 1 := by decide
theorem ix32 : ixN 3 2 = some 2 := by decide
theorem forget_nil {ρ : DEnv} : forget ρ [] = ρ := rfl
theorem forget_cons {ρ : DEnv} {i : Nat} {r : List Nat} : forget ρ (i :: r) = forget (ρ.set i none) r := rfl
theorem kit_int_int : kitB "int" "int" = some true := by decide +kernel
theorem kit_int_bool : kitB "int" "bool" = some false := by decide +kernel
theorem kit_bool_int : kitB "bool" "int" = some true := by decide +kernel
theorem kit_bool_bool : kitB "bool" "bool" = some true := by decide +kernel
theorem kit_tup_tup : kitB "tuple" "tuple" = some true := by decide +kernel
theorem kit_lst_lst : kitB "list" "list" = some true := by decide +kernel
theorem kit_tup_int : kitB "tuple" "int" = some false := by decide +kernel
theorem kit_tup_lst : kitB "tuple" "list" = some false := by decide +kernel
theorem kit_lst_tup : kitB "list" "tuple" = some false := by decide +kernel
theorem kit_str_str : kitB "str" "str" = some true := by decide +kernel
theorem kit_non_tup : kitB "NoneType" "tuple" = some false := by decide +kernel
theorem kit_non_lst : kitB "NoneType" "list" = some false := by decide +kernel
theorem forLoop_inv {gd : D → DEnv → Option DEnv} {body : DS'} {fs : List Nat} {stay : Ow → Prop} {E : DEnds} (I : List D → DEnv → Ow → Prop)
    (step : ∀ d r ρ O (E' : DEnds), I (d :: r) ρ O → (∀ ρ2 O2 O3, Ow.le O3 O2 → stay O3 → I r (forget ρ2 fs) O3 → E'.nx ρ2 O2) → (∀ ρ2 O2 O3, Ow.le O3 O2 → stay O3 → I r (forget ρ2 fs) O3 → E'.ct ρ2 O2) →
      E'.rt = E.rt → E'.bk = E.nx → ∃ ρ', gd d ρ = some ρ' ∧ body E' ρ' O)
    (fin : ∀ ρ O, I [] ρ O → E.nx ρ O) : ∀ items ρ O, I items ρ O → forLoop gd body fs stay E items ρ O
  | [], ρ, O, h => fin ρ O h
  | d :: r, ρ, O, h => step d r ρ O _ h (fun ρ2 O2 O3 l s i => ⟨O3, l, s, forLoop_inv I step fin r _ _ i⟩) (fun ρ2 O2 O3 l s i => ⟨O3, l, s, forLoop_inv I step fin r _ _ i⟩) rfl rfl
theorem lcLoop_inv {gd : D → DEnv → Option DEnv} {tt : DTt} {te : DT} {stay : Ow → Prop} {ρ : DEnv} {Q : List D → Ow → Prop} (I : List D → List D → Ow → Prop)
    (step : ∀ d r acc O (R : List D → Ow → Prop), I (d :: r) acc O → (∀ acc O, I r acc O → R acc O) →
      ∃ ρ', gd d ρ = some ρ' ∧ tt ρ' O fun b O1 => if b = true then te ρ' O1 fun y O2 => stay O2 ∧ R (acc ++ [y]) O2 else stay O1 ∧ R acc O1)
    (fin : ∀ acc O, I [] acc O → Q acc O) : ∀ items acc O, I items acc O → lcLoop gd tt te stay ρ items acc O Q
  | [], acc, O, h => fin acc O h
  | d :: r, acc, O, h => step d r acc O (fun acc O => lcLoop gd tt te stay ρ r acc O Q) h fun acc O i => lcLoop_inv I step fin r acc O i
/-- a comprehension that reckons f of each, and nothing else -/
theorem lc_map {α : Type} {gd : D → DEnv → Option DEnv} {te : DT} {stay : Ow → Prop} {ρ : DEnv} {O : Ow} {Q : List D → Ow → Prop} (enc f : α → D) (hst : stay O) :
    ∀ (xs : List α) (acc : List D), (∀ x ∈ xs, ∃ ρ', gd (enc x) ρ = some ρ' ∧ ∀ R : DQ, R (f x) O → te ρ' O R) → Q (acc ++ xs.map f) O → lcLoop gd dYes te stay ρ (xs.map enc) acc O Q
  | [], acc, _, q => by
    rw [List.map_nil, List.append_nil] at q
    exact q
  | x :: xs, acc, h, q => by
    obtain ⟨ρ', e, k⟩ := h x List.mem_cons_self
    refine ⟨ρ', e, ?_⟩
    simp only [dYes, if_true]
    refine k _ ⟨hst, lc_map enc f hst xs _ (fun y hy => h y (List.mem_cons_of_mem _ hy)) ?_⟩
    simpa using q
/-- .. of those that pass a test -/
theorem lc_filter {α : Type} {gd : D → DEnv → Option DEnv} {tt : DTt} {te : DT} {stay : Ow → Prop} {ρ : DEnv} {O : Ow} {Q : List D → Ow → Prop} (enc f : α → D) (t : α → Bool) (hst : stay O) :
    ∀ (xs : List α) (acc : List D), (∀ x ∈ xs, ∃ ρ', gd (enc x) ρ = some ρ' ∧ (∀ R : Bool → Ow → Prop, R (t x) O → tt ρ' O R) ∧ ∀ R : DQ, R (f x) O → te ρ' O R) →
      Q (acc ++ (xs.filter t).map f) O → lcLoop gd tt te stay ρ (xs.map enc) acc O Q
  | [], acc, _, q => by
    rw [List.filter_nil, List.map_nil, List.append_nil] at q
    exact q
  | x :: xs, acc, h, q => by
    obtain ⟨ρ', e, k1, k2⟩ := h x List.mem_cons_self
    refine ⟨ρ', e, k1 _ ?_⟩
    cases ht : t x with
    | true =>
      rw [if_pos rfl]
      refine k2 _ ⟨hst, lc_filter enc f t hst xs _ (fun y hy => h y (List.mem_cons_of_mem _ hy)) ?_⟩
      simpa [List.filter_cons, ht] using q
    | false =>
      rw [if_neg Bool.false_ne_true]
      refine ⟨hst, lc_filter enc f t hst xs _ (fun y hy => h y (List.mem_cons_of_mem _ hy)) ?_⟩
      simpa [List.filter_cons, ht] using q
theorem rangeD_map {n : Nat} : rangeD 0 n = (List.range n).map fun (i : Nat) => .int (i : Int) := by
  unfold rangeD
  simp
def rat (q : Rat) : D := .tup [.int q.num, .int (q.den : Int)]
theorem fold0 : D.tup [.int 0, .int 1] = rat 0 := rfl
theorem fold1 : D.tup [.int 1, .int 1] = rat 1 := rfl
theorem qv_rat {O : Ow} {q : Rat} : qv O (rat q) = some [.int q.num, .int (q.den : Int)] := rfl
theorem tyN_rat {O : Ow} {q : Rat} : tyN O (rat q) = some "tuple" := rfl
theorem isNon_rat {q : Rat} : isNon (rat q) = false := rfl
theorem dIx_r0 {q : Rat} {O : Ow} {Q : DQ} : dIx (rat q) (.int 0) O Q = Q (.int q.num) O := by
  simp only [dIx, rat, qv, Option.some.injEq, exists_eq_left', gt0]
theorem dIx_r1 {q : Rat} {O : Ow} {Q : DQ} : dIx (rat q) (.int 1) O Q = Q (.int (q.den : Int)) O := by
  simp only [dIx, rat, qv, Option.some.injEq, exists_eq_left', gt1]
theorem dLen_rat {q : Rat} {O : Ow} {Q : DQ} : dLen [rat q] O Q = Q (.int 2) O := by
  simp only [dLen, rat, qv, Option.some.injEq, exists_eq_left', List.length_cons, List.length_nil]
  rfl
theorem eqv_rat {a b : Rat} : eqv (rat a) (rat b) = decide (a = b) := by
  simp only [rat, eqv, eqvs, Bool.and_true]
  by_cases h : a = b
  · subst h; simp
  · rw [decide_eq_false h]
    by_cases h1 : a.num = b.num
    · by_cases h2 : a.den = b.den
      · exact absurd (Rat.ext h1 h2) h
      · have : ¬ ((a.den : Int) = (b.den : Int)) := by omega
        simp [h1, this]
    · simp [h1]
theorem okE_rat {n : Nat} {a : Rat} : okE (n + 1) (rat a) = true := by simp [rat, okE, okEs]
theorem vw_rat {O : Ow} {a : Rat} : vw O (rat a) = rat a := rfl
theorem dEq_rr {a b : Rat} {O : Ow} {Q : DQ} : dEq (rat a) (rat b) O Q = Q (.bl (decide (a = b))) O := by
  simp only [dEq, vw_rat, okE_rat, eqv_rat, true_and]
theorem dNe_rr {a b : Rat} {O : Ow} {Q : DQ} : dNe (rat a) (rat b) O Q = Q (.bl (!decide (a = b))) O := by
  simp only [dNe, vw_rat, okE_rat, eqv_rat, true_and]
theorem dIx_tup {l : List D} {i : Int} {O : Ow} {Q : DQ} : dIx (.tup l) (.int i) O Q = ∃ d, atI l i = some d ∧ Q d O := by
  simp only [dIx, qv, Option.some.injEq, exists_eq_left']
theorem dIx_lst {l : List D} {i : Int} {O : Ow} {Q : DQ} : dIx (.lst l) (.int i) O Q = ∃ d, atI l i = some d ∧ Q d O := by
  simp only [dIx, qv, lv, Option.some.injEq, exists_eq_left']
theorem dIx_ref {p : Addr} {i : Int} {O : Ow} {Q : DQ} : dIx (.ref p) (.int i) O Q = ∃ l, lv O (.ref p) = some l ∧ ∃ d, atI l i = some d ∧ Q d O := rfl
theorem dIx_str {z : Str} {i : Int} {O : Ow} {Q : DQ} : dIx (.str z) (.int i) O Q = (z.length ≤ sizeLine ∧ ∃ c, atI z.cps.toList i = some c ∧ Q (.str ⟨#[c]⟩) O) := rfl
theorem dLen_tup {l : List D} {O : Ow} {Q : DQ} : dLen [.tup l] O Q = Q (.int l.length) O := by
  simp only [dLen, qv, Option.some.injEq, exists_eq_left']
theorem dLen_lst {l : List D} {O : Ow} {Q : DQ} : dLen [.lst l] O Q = Q (.int l.length) O := by
  simp only [dLen, qv, lv, Option.some.injEq, exists_eq_left']
theorem dLen_ref {p : Addr} {O : Ow} {Q : DQ} : dLen [.ref p] O Q = ∃ l, lv O (.ref p) = some l ∧ Q (.int l.length) O := rfl
theorem dLen_str {z : Str} {O : Ow} {Q : DQ} : dLen [.str z] O Q = (z.length ≤ sizeLine ∧ Q (.int z.length) O) := rfl
theorem qv_tup {l : List D} {O : Ow} : qv O (.tup l) = some l := rfl
theorem qv_lst {l : List D} {O : Ow} : qv O (.lst l) = some l := rfl
theorem qv_ref {p : Addr} {O : Ow} : qv O (.ref p) = lv O (.ref p) := rfl
theorem lv_lst {l : List D} {O : Ow} : lv O (.lst l) = some l := rfl
theorem lv_ref {p : Addr} {O : Ow} {l : List D} (h : O p = some (.lst l)) : lv O (.ref p) = some l := by simp only [lv, h]
theorem lv_set {p : Addr} {O : Ow} {l : List D} : lv (O.set p (.lst l)) (.ref p) = some l := lv_ref Ow.set_same
theorem tyN_int {i : Int} {O : Ow} : tyN O (.int i) = some "int" := rfl
theorem tyN_bl {i : Bool} {O : Ow} : tyN O (.bl i) = some "bool" := rfl
theorem tyN_non {O : Ow} : tyN O .non = some "NoneType" := rfl
theorem tyN_str {i : Str} {O : Ow} : tyN O (.str i) = some "str" := rfl
theorem tyN_tup {i : List D} {O : Ow} : tyN O (.tup i) = some "tuple" := rfl
theorem tyN_lst {i : List D} {O : Ow} : tyN O (.lst i) = some "list" := rfl
theorem tyN_ref {p : Addr} {O : Ow} {l : List D} (h : O p = some (.lst l)) : tyN O (.ref p) = some "list" := by simp only [tyN, h]
theorem tyN_set {p : Addr} {O : Ow} {l : List D} : tyN (O.set p (.lst l)) (.ref p) = some "list" := tyN_ref Ow.set_same
theorem isNon_non : isNon .non = true := rfl
theorem isNon_int {i : Int} : isNon (.int i) = false := rfl
theorem isNon_tup {i : List D} : isNon (.tup i) = false := rfl
theorem isNon_lst {i : List D} : isNon (.lst i) = false := rfl
theorem isNon_ref {i : Addr} : isNon (.ref i) = false := rfl
theorem isNon_str {i : Str} : isNon (.str i) = false := rfl
theorem setAll_nil {ρ : DEnv} : setAll [] [] ρ = some ρ := rfl
theorem setAll_cons {i : Nat} {is : List Nat} {d : D} {ds : List D} {ρ : DEnv} : setAll (i :: is) (d :: ds) ρ = setAll is ds (ρ.set i (some d)) := rfl
theorem tgT_tup {is : List Nat} {l : List D} {ρ : DEnv} : tgT is (.tup l) ρ = setAll is l ρ := rfl
theorem nc2 : ((2 : Nat) : Int) = 2 := rfl
theorem nc3 : ((3 : Nat) : Int) = 3 := rfl
theorem nc4 : ((4 : Nat) : Int) = 4 := rfl
theorem e42 : ((4 : Int) == 2) = false := by decide
theorem e24 : ((2 : Int) == 4) = false := by decide
inductive Bx (Q : DQ) : Type | mk
def lz (Q : DQ) (b : Bx Q) : DQ := Q
theorem lz_ap {Q : DQ} {b : Bx Q} {x : D} {O : Ow} : lz Q b x O = Q x O := rfl
def dCallZ (s : DL) (dl : DTa) : DT := fun ρ O Q => dl ρ O fun ds O1 => s ds O1 (lz Q .mk)
theorem dCallZ_ap {s : DL} {dl : DTa} {ρ : DEnv} {O : Ow} {Q : DQ} : dCallZ s dl ρ O Q = dl ρ O fun ds O1 => s ds O1 (lz Q .mk) := rfl
theorem ClsAt.inj {K : PySem.W.Frag} {n : Str} {C C' : Addr} (h : ClsAt K n C) (h' : ClsAt K n C') : C = C' := by
  unfold ClsAt at h h'
  rw [h] at h'
  cases h'
  rfl
structure ClsOk (K : PySem.W.Frag) (n : Str) (C : Addr) : Prop where
  at_ : ClsAt K n C
  cls : Cls K C
def putD (f : Str) (d : D) : List (Str × D) → List (Str × D)
  | [] => [(f, d)]
  | (g, x) :: r => if g = f then (g, d) :: r else (g, x) :: putD f d r
section
variable {K : PySem.W.Frag} {G : Hp} {f : Str}
theorem RepF.put {d : D} {v : V} (r : Rep K G d v) : ∀ {fs : List (Str × D)} {gs : List (Str × V)}, RepF K G fs gs → RepF K G (putD f d fs) (putF f v gs)
  | [], _, h => by
    cases h
    exact .cons ⟨rfl, r⟩ .nil
  | (g, x) :: fs, _, h => by
    cases h with
    | cons a t =>
      rename_i b l
      obtain ⟨g', y⟩ := b
      obtain ⟨e, ry⟩ := a
      have e : g = g' := e
      subst e
      unfold putD putF
      by_cases q : g = f
      · rw [if_pos q, if_pos q]
        exact .cons ⟨rfl, r⟩ t
      · rw [if_neg q, if_neg q]
        exact .cons ⟨rfl, ry⟩ (RepF.put r t)
theorem RepF.get : ∀ {fs : List (Str × D)} {gs : List (Str × V)} {d : D}, RepF K G fs gs → fs.lookup f = some d → ∃ v, gs.lookup f = some v ∧ Rep K G d v
  | [], _, _, _, e => by simp at e
  | (g, x) :: fs, _, d, h, e => by
    cases h with
    | cons a t =>
      rename_i b l
      obtain ⟨g', y⟩ := b
      obtain ⟨e2, ry⟩ := a
      have e2 : g = g' := e2
      subst e2
      rw [List.lookup_cons] at e ⊢
      split at e
      · cases e
        exact ⟨y, rfl, ry⟩
      · exact RepF.get t e
theorem RepF.none : ∀ {fs : List (Str × D)} {gs : List (Str × V)}, RepF K G fs gs → fs.lookup f = none → gs.lookup f = none
  | [], _, h, e => by cases h; rfl
  | (g, x) :: fs, _, h, e => by
    cases h with
    | cons a t =>
      rename_i b l
      obtain ⟨g', y⟩ := b
      obtain ⟨e2, ry⟩ := a
      have e2 : g = g' := e2
      subst e2
      rw [List.lookup_cons] at e ⊢
      split at e
      · cases e
      · exact RepF.none t e
theorem RepF.length : ∀ {fs : List (Str × D)} {gs : List (Str × V)}, RepF K G fs gs → fs.length = gs.length
  | [], _, h => by cases h; rfl
  | _ :: fs, _, h => by
    cases h with
    | cons a t => simp [RepF.length t]
end
section
variable {X : Cx} {e o : Expr} {es : List Expr} {da doo : DT} {dl : DTa} {n f m : Str} {C : Addr} {pos pos' apos : Pos}
theorem ins_own {K : PySem.W.Frag} {w : Wd} {p : Addr} {fs : List (Str × D)} (hw : Own K w) (hc : ClsOk K n C) (e : w.O p = some (.ins n fs)) : ∃ dx gs, w.H p = some (.ins C dx gs) ∧ RepF K w.G fs gs := by
  obtain ⟨_, h, hh, C', dx, gs, ca, eh, r⟩ := hw.own p _ e
  obtain rfl := ca.inj hc.at_
  subst eh
  exact ⟨dx, gs, hh, r⟩
def dFld (n f : Str) (da : DT) : DT := fun ρ O Q => da ρ O fun x O1 => ∃ p fs d, x = .ref p ∧ O1 p = some (.ins n fs) ∧ fs.lookup f = some d ∧ Q d O1
theorem de_fld (hc : ClsOk X.K n C) (na : NoAttr X.K C f) (h : DE X e da) (hb : attributeBase e f X.env (eval e X.env) = eval e X.env := by rfl) : DE X (.Attribute e f pos) (dFld n f da) := by
  obtain ⟨t, p, fa⟩ := h
  refine ⟨_, pe_fld p hb, fun ρ σ w Q' Q hw he lk h => ?_⟩
  refine fa ρ σ w _ _ hw he (fun x vx w1 hw1 f1 rx ⟨q, fs, d, ex, eo, el, h1⟩ => ?_) h
  subst ex
  obtain ⟨dx, gs, hh, r⟩ := ins_own hw1 hc eo
  obtain ⟨v, ev, rv⟩ := r.get el
  exact ⟨q, C, dx, gs, v, rx.ref_of, hh, hc.cls, na, ev, lk d v w1 hw1 f1 rv h1⟩
def dSetF (n f : Str) (da doo : DT) : DS' := fun E ρ O => da ρ O fun d O1 => doo ρ O1 fun x O2 => ∃ p fs, x = .ref p ∧ O2 p = some (.ins n fs) ∧ fs.length < 100 ∧ E.nx ρ (O2.set p (.ins n (putD f d fs)))
theorem ds_fld (hc : ClsOk X.K n C) (na : NoAttr X.K C f) (h : DE X e da) (ho : DE X o doo) (hs : swapsWith e (some (.Attribute o f pos')) pos.line X.env = pure false := by rfl) : DS X (.Assign [.Attribute o f pos'] e pos) (dSetF n f da doo) := by
  obtain ⟨t, p, fa⟩ := h
  obtain ⟨to, po, fo⟩ := ho
  refine ⟨_, ps_fld po p hs, fun ρ σ w E T hw he lk h => ?_⟩
  refine fa ρ σ w _ _ hw he (fun d v w1 hw1 f1 rd h1 => ?_) h
  refine fo ρ σ w1 _ _ hw1 (he.mono f1.gsub) (fun x vx w2 hw2 f2 rx ⟨q, fs, ex, eo, hl, h2⟩ => ?_) h1
  subst ex
  obtain ⟨_, h', hh, C', dx, gs, ca, eh, r⟩ := hw2.own q _ eo
  obtain rfl := ca.inj hc.at_
  subst eh
  refine ⟨q, C', dx, gs, rx.ref_of, hh, hc.cls, na, by rw [← r.length]; omega, ?_⟩
  have ro : RepO X.K w2.G (.ins n (putD f d fs)) (.ins C' dx (putF f v gs)) := ⟨C', dx, _, ca, rfl, r.put (rd.mono f2.gsub)⟩
  have hw3 := hw2.write eo ro
  have f3 := Fr.write (x := .ins C' dx (putF f v gs)) (o := .ins n (putD f d fs)) hw2 eo
  exact lk.nx ρ σ _ hw3 (f1.trans (f2.trans f3)) (he.mono (f1.gsub.trans (f2.gsub.trans f3.gsub))) h2
variable {b : Bool} {k : Nat} {g : Addr} {fd : FuncData} {ps : List Str} {s : DL} {x : Str} {p : Pos}
def dMeth (n m : Str) (s : DL) (doo : DT) (dl : DTa) : DT := fun ρ O Q => doo ρ O fun x O1 => ∃ p fs, x = .ref p ∧ O1 p = some (.ins n fs) ∧ fs.lookup m = none ∧ dl ρ O1 fun ds O2 => s (x :: ds) O2 Q
theorem de_meth (hc : ClsOk X.K n C) (hm : Meth X.K C m g) (F : FnB X.prog X.w X.K X.mg X.base b k g fd ps (Prom X.K s)) (hr : Rm k X) (hb : Binds X.K fd ps []) (ho : DE X o doo) (ha : DA X (e :: es) dl)
    (hst : starEach (e :: es) X.env = (false, eval e X.env) :: starEach es X.env := by rfl) (hpl : (backTo pos (starEach es X.env)).any (·.1) = false := by rfl)
    (pl : Sem Bool)
    (ht : eval (.Call (.Attribute o m apos) (e :: es) [] pos) X.env = (do
      let ov ← eval o X.env
      standAt apos.atName
      let (f, first) ← holding [ov] (getMethod ov m pl)
      callWith pos f first (backTo pos (starEach (e :: es) X.env)) (backToKw pos (keywordEach [] X.env)))) (hb2 : X.calm = true ∨ b = true := by first | exact .inr rfl | exact .inl rfl) :
    DE X (.Call (.Attribute o m apos) (e :: es) [] pos) (dMeth n m s doo dl) := by
  obtain ⟨to, po, fo⟩ := ho
  obtain ⟨tl, pl', fl⟩ := ha
  cases c : X.calm with
  | true =>
    refine ⟨_, pe_meth (pl := pl) po hc.cls hm F.ok (hr.room c) hb .nil pass0 pl' hst hpl ht, fun ρ σ w Q' Q hw he lk h => ?_⟩
    refine fo ρ σ w _ _ hw he (fun x vx w1 hw1 f1 rx ⟨q, fs, ex, eo, el, h1⟩ => ?_) h
    subst ex
    obtain ⟨dx, gs, hh, r⟩ := ins_own hw1 hc eo
    refine ⟨q, dx, gs, rx.ref_of, hh, r.none el, ?_⟩
    refine fl ρ σ w1 _ _ hw1 (he.mono f1.gsub) (fun ds vs w2 hw2 f2 rs h2 => ?_) h1
    rw [List.append_nil]
    exact ⟨_, w2, Q', rfl, hw2, .cons (rx.mono f2.gsub) rs, lk.after (f1.trans f2), h2⟩
  | false =>
    obtain ⟨rr, hot⟩ := hr.hot c
    refine ⟨_, L2H.pe_methH (pl := pl) po hc.cls hm (F.hot (hb2.resolve_left (by rw [c]; exact Bool.false_ne_true))) rr hot hb (fun _ => pass0S) pl' hst hpl ht, fun ρ σ w Q' Q hw he lk h => ?_⟩
    refine fo ρ σ w _ _ hw he (fun x vx w1 hw1 f1 rx ⟨q, fs, ex, eo, el, h1⟩ => ?_) h
    subst ex
    obtain ⟨dx, gs, hh, r⟩ := ins_own hw1 hc eo
    refine ⟨q, dx, gs, rx.ref_of, hh, r.none el, ?_⟩
    refine fl ρ σ w1 _ _ hw1 (he.mono f1.gsub) (fun ds vs w2 hw2 f2 rs h2 => ?_) h1
    exact ⟨_, w2, Q', rfl, hw2, .cons (rx.mono f2.gsub) rs, lk.after (f1.trans f2), h2⟩
theorem de_meth0 (hc : ClsOk X.K n C) (hm : Meth X.K C m g) (F : FnB X.prog X.w X.K X.mg X.base b k g fd ps (Prom X.K s)) (hr : Rm k X) (hcm : X.calm = true) (hb : Binds X.K fd ps []) (ho : DE X o doo)
    (pl : Sem Bool)
    (ht : eval (.Call (.Attribute o m apos) [] [] pos) X.env = (do
      let ov ← eval o X.env
      standAt apos.atName
      let (f, first) ← holding [ov] (getMethod ov m pl)
      callWith pos f first (backTo pos (starEach [] X.env)) (backToKw pos (keywordEach [] X.env)))) :
    DE X (.Call (.Attribute o m apos) [] [] pos) (dMeth n m s doo dNil) := by
  obtain ⟨to, po, fo⟩ := ho
  refine ⟨_, pe_meth0 (pl := pl) po hc.cls hm F.ok (hr.room hcm) hb .nil pass0 ht, fun ρ σ w Q' Q hw he lk h => ?_⟩
  refine fo ρ σ w _ _ hw he (fun x vx w1 hw1 f1 rx ⟨q, fs, ex, eo, el, h1⟩ => ?_) h
  subst ex
  obtain ⟨dx, gs, hh, r⟩ := ins_own hw1 hc eo
  refine ⟨q, dx, gs, rx.ref_of, hh, r.none el, ?_⟩
  exact ⟨[.ref q], w1, Q', rfl, hw1, .cons rx .nil, lk.after f1, h1⟩
def dMake (n : Str) (s : DL) (dl : DTa) : DT := fun ρ O Q => dl ρ O fun ds O1 => ∀ p, O1 p = none → s (.ref p :: ds) (O1.set p (.ins n [])) fun v O2 => v = .non ∧ Q (.ref p) O2
/-- an object that nobody tells of -/
theorem Own.more {K : PySem.W.Frag} {w : Wd} {q : Addr} {o : HO} (h : Own K w) (e : w.H q = none) : Own K ⟨w.G, w.O, upd w.H q o⟩ ∧ Fr w ⟨w.G, w.O, upd w.H q o⟩ :=
  ⟨⟨fun b x z => (upd_ne (ne_of_none (h.sub b x z) e)).trans (h.sub b x z), fun b u z => let ⟨z1, x, z2, z3⟩ := h.own b u z; ⟨z1, x, (upd_ne (ne_of_none z2 e)).trans z2, z3⟩⟩,
   ⟨Same.refl _, fun b x z _ => (upd_ne (ne_of_none z e)).trans z, fun b x z _ => .inl z, fun b z => .inr z, fun b z => by
    by_cases y : b = q
    · show upd w.H q o b ≠ none
      rw [y, upd_same]; simp
    · show upd w.H q o b ≠ none
      rw [upd_ne y]; exact z⟩⟩
theorem sem_make {t : TA} (hc : ClsOk X.K n C) (f : SemA X.K t dl) : Sem1 X.K (tMake C (Prom X.K s) [] E0 t) (dMake n s dl) := by
  intro ρ σ w Q' Q hw he lk h
  refine f ρ σ w _ _ hw he (fun ds vs w1 hw1 f1 rs h1 x dx nx ndx ne => ?_) h
  rw [List.append_nil]
  obtain ⟨o2, fr2⟩ := Own.more (o := .own x) hw1 ndx
  have nx2 : upd w1.H dx (.own x) x = none := (upd_ne (fun z => ne z.symm)).trans nx
  have ro : RepO X.K w1.G (.ins n []) (.ins C dx []) := ⟨C, dx, [], hc.at_, rfl, .nil⟩
  have o3 := o2.give (o := .ins n []) (x := .ins C dx []) nx2 ro
  have fr3 := Fr.give (o := .ins n []) (x := .ins C dx []) o2 nx2
  refine ⟨.ref x :: ds, _, fun v O2 => v = .non ∧ Q' (.ref x) O2, rfl, o3, .cons (.ref x) rs, fun d v w' hw' f' rv ⟨ev, q⟩ => ?_, h1 x (hw1.none_of nx).2⟩
  subst ev
  exact ⟨rv.non_of, lk _ _ w' hw' (f1.trans (fr2.trans (fr3.trans f'))) (.ref x) q⟩
theorem de_make {M : Addr} (hc : ClsOk X.K n C) (mk : Mk X.K C M) (F : FnB X.prog X.w X.K X.mg X.base b k M fd ps (Prom X.K s)) (hr : Rm (k + 1) X) (hg : Gl X x) (hm : X.mg x = some (.ref C)) (hb : Binds X.K fd ps []) (ha : DA X (e :: es) dl)
    (hdb : (x == ("__debug__" : Str)) = false := by decide) (he : starEach (e :: es) X.env = (false, eval e X.env) :: starEach es X.env := by rfl) (hpl : (backTo pos (starEach es X.env)).any (·.1) = false := by rfl) (hb2 : X.calm = true ∨ b = true := by first | exact .inr rfl | exact .inl rfl) :
    DE X (.Call (.Name x p) (e :: es) [] pos) (dMake n s dl) := by
  obtain ⟨t, pa, fa⟩ := ha
  cases c : X.calm with
  | true => exact ⟨_, pe_make mk F.ok (hr.room c) hg hm hb .nil pass0 pa hdb he hpl, sem_make hc fa⟩
  | false =>
    obtain ⟨rr, hot⟩ := hr.hot c
    exact ⟨_, pe_makeH mk (F.hot (hb2.resolve_left (by rw [c]; exact Bool.false_ne_true))) rr hot hg hm hb pass0 pa hdb he hpl, sem_make hc fa⟩
end
theorem for_idx {gd : D → DEnv → Option DEnv} {body : DS'} {fs : List Nat} {stay : Ow → Prop} {E : DEnds} {items : List D} (I : Nat → DEnv → Ow → Prop)
    (step : ∀ k (hk : k < items.length) ρ O (E' : DEnds), I k ρ O → (∀ ρ2 O2 O3, Ow.le O3 O2 → stay O3 → I (k + 1) (forget ρ2 fs) O3 → E'.nx ρ2 O2) → (∀ ρ2 O2 O3, Ow.le O3 O2 → stay O3 → I (k + 1) (forget ρ2 fs) O3 → E'.ct ρ2 O2) →
      E'.rt = E.rt → E'.bk = E.nx → ∃ ρ', gd items[k] ρ = some ρ' ∧ body E' ρ' O)
    (fin : ∀ ρ O, I items.length ρ O → E.nx ρ O) {ρ : DEnv} {O : Ow} (h : I 0 ρ O) : forLoop gd body fs stay E items ρ O := by
  refine forLoop_inv (fun r ρ O => ∃ k, r = items.drop k ∧ k ≤ items.length ∧ I k ρ O) ?_ ?_ _ _ _ ⟨0, rfl, Nat.zero_le _, h⟩
  · rintro d r ρ O E' ⟨k, e, hk, hi⟩ hnx hct hrt hbk
    by_cases hlt : k < items.length
    · rw [List.drop_eq_getElem_cons hlt] at e
      cases e
      exact step k hlt ρ O E' hi (fun ρ2 O2 O3 l s i => hnx ρ2 O2 O3 l s ⟨k + 1, rfl, hlt, i⟩) (fun ρ2 O2 O3 l s i => hct ρ2 O2 O3 l s ⟨k + 1, rfl, hlt, i⟩) hrt hbk
    · rw [List.drop_eq_nil_of_le (by omega)] at e
      cases e
  · rintro ρ O ⟨k, e, hk, hi⟩
    have : k = items.length := by
      have := congrArg List.length e
      rw [List.length_drop, List.length_nil] at this
      omega
    subst this
    exact fin ρ O hi
theorem lc_idx {gd : D → DEnv → Option DEnv} {tt : DTt} {te : DT} {stay : Ow → Prop} {ρ : DEnv} {Q : List D → Ow → Prop} {items : List D} (I : Nat → List D → Ow → Prop)
    (step : ∀ k (hk : k < items.length) acc O (R : List D → Ow → Prop), I k acc O → (∀ acc O, I (k + 1) acc O → R acc O) →
      ∃ ρ', gd items[k] ρ = some ρ' ∧ tt ρ' O fun b O1 => if b = true then te ρ' O1 fun y O2 => stay O2 ∧ R (acc ++ [y]) O2 else stay O1 ∧ R acc O1)
    (fin : ∀ acc O, I items.length acc O → Q acc O) {O : Ow} (h : I 0 [] O) : lcLoop gd tt te stay ρ items [] O Q := by
  refine lcLoop_inv (fun r acc O => ∃ k, r = items.drop k ∧ k ≤ items.length ∧ I k acc O) ?_ ?_ _ _ _ ⟨0, rfl, Nat.zero_le _, h⟩
  · rintro d r acc O R ⟨k, e, hk, hi⟩ hR
    by_cases hlt : k < items.length
    · rw [List.drop_eq_getElem_cons hlt] at e
      cases e
      exact step k hlt acc O R hi fun acc O i => hR acc O ⟨k + 1, rfl, hlt, i⟩
    · rw [List.drop_eq_nil_of_le (by omega)] at e
      cases e
  · rintro acc O ⟨k, e, hk, hi⟩
    have : k = items.length := by
      have := congrArg List.length e
      rw [List.length_drop, List.length_nil] at this
      omega
    subst this
    exact fin acc O hi
theorem rangeD_len {lo : Int} {n : Nat} : (rangeD lo n).length = n := by simp [rangeD]
theorem rangeD_at {n k : Nat} (h : k < (rangeD 0 n).length) : (rangeD 0 n)[k] = .int (k : Int) := by simp [rangeD]
theorem lv_not {O : Ow} {d : D} {l : List D} (h : lv O d = some l) : (∃ p, d = .ref p) ∨ d = .lst l := by
  cases d with
  | lst m => simp only [lv, Option.some.injEq] at h; exact .inr (by rw [h])
  | ref p => exact .inl ⟨p, rfl⟩
  | _ => simp [lv] at h
theorem len_lv {O : Ow} {d : D} {l : List D} {Q : DQ} (h : lv O d = some l) (q : Q (.int l.length) O) : dLen [d] O Q := by
  rcases lv_not h with ⟨p, rfl⟩ | rfl
  · rw [dLen_ref]; exact ⟨l, h, q⟩
  · rw [dLen_lst]; exact q
theorem ix_lv {O : Ow} {d x : D} {l : List D} {i : Int} {Q : DQ} (h : lv O d = some l) (hi : atI l i = some x) (q : Q x O) : dIx d (.int i) O Q := by
  rcases lv_not h with ⟨p, rfl⟩ | rfl
  · rw [dIx_ref]; exact ⟨l, h, x, hi, q⟩
  · rw [dIx_lst]; exact ⟨x, hi, q⟩
theorem atI_map {α : Type} {l : List α} {f : α → D} {i : Nat} (h : i < l.length) : atI (l.map f) (i : Int) = some (f l[i]) := atI_nat (by rw [List.getElem?_map, List.getElem?_eq_getElem h]; rfl)
mutual
theorem eqv_refl : ∀ (n : Nat) (d : D), okE n d = true → eqv d d = true
  | n, .non, _ => by simp [eqv]
  | n, .bl _, _ => by simp [eqv]
  | n, .int _, _ => by simp [eqv]
  | n, .str _, _ => by simp [eqv]
  | 0, .lst _, h => by simp [okE] at h
  | 0, .tup _, h => by simp [okE] at h
  | n + 1, .lst l, h => by simp only [okE] at h; simp only [eqv]; exact eqvs_refl n l h
  | n + 1, .tup l, h => by simp only [okE] at h; simp only [eqv]; exact eqvs_refl n l h
  | 0, .ref _, h => by simp [okE] at h
  | n + 1, .ref _, h => by simp [okE] at h
  | 0, .ty _, h => by simp [okE] at h
  | n + 1, .ty _, h => by simp [okE] at h
theorem eqvs_refl : ∀ (n : Nat) (l : List D), okEs n l = true → eqvs l l = true
  | n, [], _ => by simp [eqvs]
  | n, x :: l, h => by
    simp only [okEs, Bool.and_eq_true] at h
    simp only [eqvs, eqv_refl n x h.1, eqvs_refl n l h.2, Bool.and_self]
end
theorem okEs_map {α : Type} {n : Nat} {f : α → D} : ∀ {l : List α}, (∀ x ∈ l, okE n (f x) = true) → okEs n (l.map f) = true
  | [], _ => by simp [okEs]
  | x :: l, h => by
    simp only [List.map_cons, okEs, h x List.mem_cons_self, okEs_map fun y hy => h y (List.mem_cons_of_mem _ hy), Bool.and_self]
theorem okE_int {n : Nat} {i : Int} : okE n (.int i) = true := by cases n <;> simp [okE]
theorem okE_non {n : Nat} : okE n .non = true := by cases n <;> simp [okE]
def mkA : List D → Ow → DQ → Prop := fun l O Q => mkO l O Q ∨ mkF l O Q
theorem mk_A : MkOk mkA := fun K w l vs Q' Q p h e r lk q => q.elim (mk_O K w l vs Q' Q p h e r lk) (mk_F K w l vs Q' Q p h e r lk)
local macro_rules | `(tactic| walk_at "ds") => `(tactic| try simp (dsimp := false) only [↓lz_ap, ↓dCallZ_ap, dVar, dC, dOp, dUn, dTest, asB, dAnd, dOr, dNot, dAndV, dOrV, dNotV, dIf, dNil, dCons, dTup, dLst, mkF, mkO, dCall, dBu, dII, dI0, dNeg, dAdd, dIsN, dNotN, isNon_non, isNon_int, isNon_tup, isNon_lst, isNon_ref, isNon_str,
  dIx_r0, dIx_r1, dLen_rat, tyN_rat, isNon_rat, dEq_rr, dNe_rr, fold0, fold1, qv_rat, dIx_tup, dIx_lst, dIx_ref, dIx_str, dLen_tup, dLen_lst, dLen_ref, dLen_str, qv_tup, qv_lst, qv_ref, lv_lst, lv_set, dAbs, dInt1, dTuple, dList, dSum, dAll, dIsi, tyN_int, tyN_bl, tyN_non, tyN_str, tyN_tup, tyN_lst, tyN_set, dMt, dMt0, dAppend, dClear, dReverse, dNext, dThen, dDrop, dRet, dRetN, dIfS, dAsg, dBreak, dCont, dNever, tgN, tgT_tup, setAll_nil, setAll_cons, dSetI, dAug, dAugI, dSlice, drSlice, dPart, dNoP, dYes,
  dFor, dSeq, dRng1, dRng2, dEnum, dZip, dLc, startD, List.map_cons, List.map_nil, List.length_cons, List.length_nil, List.replicate_zero, List.replicate_succ, List.cons_append, List.nil_append, List.set_cons_zero, List.set_cons_succ, List.getElem?_cons_zero, List.getElem?_cons_succ,
  Option.some.injEq, exists_eq_left', exists_eq_left, forget_nil, forget_cons, wipeD, gt0, gt1, gt2, gt3, Ow.set_same, Ow.set_set, OO.lst.injEq, ix20, ix21, ix30, ix31, ix32, List.length_set, kit_int_int, kit_int_bool, kit_bool_int, kit_bool_bool, kit_tup_tup, kit_lst_lst, kit_tup_int, kit_tup_lst, kit_lst_tup, kit_str_str, kit_non_tup, kit_non_lst,
  dEq_ii, dNe_ii, dEq_bb, dNe_bb, dSub, dMul, dFdiv, dMod, dPow, dLt, dLe, dGt, dGe, Nat.reduceLeDiff, Bool.false_eq_true, reduceIte, beq_self_eq_true, true_and, and_true, if_true, Bool.not_true, Bool.not_false, dMeth, dMake, dSetF, nc2, nc3, nc4, e42, e24, Option.isNone_none, Option.isNone_some, Option.isSome_none, Option.isSome_some, Nat.reduceAdd, Nat.reduceSub])
def B_common : DS' :=
  (dThen (dWhile (dTest (dOp dGt (dVar 1) (dC (.int 0))))
  (dThen (dAsg (dOp dMod (dVar 0) (dVar 1)) (tgN 2))
  (dThen (dAsg (dVar 1) (tgN 0))
  (dAsg (dVar 2) (tgN 1)))) [2])
  (dRet (dVar 0)))
def sp_common : DL := fun ds O Q => ∃ a b : Int, ds = [.int a, .int b] ∧ 0 ≤ a ∧ 0 ≤ b ∧ Q (.int (Int.gcd a b)) O
theorem ln_common : ∀ ds O Q, sp_common ds O Q → ds.length = 2 := by rintro ds O Q ⟨a, b, rfl, _⟩; rfl
theorem gcd_step {x y : Int} (hx : 0 ≤ x) (hy : 0 ≤ y) : Int.gcd y (x % y) = Int.gcd y x := by
  obtain ⟨a, rfl⟩ := Int.eq_ofNat_of_zero_le hx
  obtain ⟨b, rfl⟩ := Int.eq_ofNat_of_zero_le hy
  have e : ((a : Int) % (b : Int)) = ((a % b : Nat) : Int) := rfl
  rw [e]
  show Nat.gcd b (a % b) = Nat.gcd b a
  rw [Nat.gcd_comm b (a % b), ← Nat.gcd_rec]
theorem hb_common : ∀ ds O Q, sp_common ds O Q → B_common (rtEnds Q) (startD 3 ds) O := by
  rintro ds O Q ⟨a, b, rfl, ha, hb, q⟩
  unfold B_common
  walk_at "ds"
  refine ⟨fun m ρ O' => ∃ x y : Int, ρ = [some (.int x), some (.int y), none] ∧ 0 ≤ x ∧ 0 ≤ y ∧ m = y.toNat ∧ O' = O ∧ Int.gcd x y = Int.gcd a b, ⟨b.toNat, a, b, rfl, ha, hb, rfl, rfl, rfl⟩, ?_⟩
  rintro m ρ O' ⟨x, y, rfl, hx, hy, rfl, rfl, e⟩
  walk_at "ds"
  split
  · rename_i h
    have h := of_decide_eq_true h
    have e1 : x.fmod y = x % y := Int.fmod_eq_emod_of_nonneg x hy
    have h1 := Int.emod_nonneg x (show y ≠ 0 by omega)
    have h2 := Int.emod_lt_of_pos x h
    refine ⟨by omega, O', _, Ow.le.refl _, ?_, y, x % y, by rw [e1], hy, h1, rfl, rfl, ?_⟩
    · omega
    · rw [← e, Int.gcd_comm x y]
      exact gcd_step hx hy
  · rename_i h
    have h0 : y = 0 := by
      have := of_decide_eq_false (Bool.eq_false_iff.mpr h)
      omega
    subst h0
    refine rt_here ?_
    rw [← e] at q
    have : (Int.gcd x 0 : Int) = x := by simp [Int.gcd]; omega
    rw [this] at q
    exact q
def SzR (n : Nat) (q : Rat) : Prop := Sz n q.num ∧ Sz n (q.den : Int)
theorem SzR.mono {n m : Nat} {q : Rat} (h : SzR n q) (l : n ≤ m) : SzR m q := ⟨h.1.mono l, h.2.mono l⟩
theorem divInt_sz {n m : Nat} {t b : Int} (ht : Sz n t) (hb : Sz m b) (h0 : b ≠ 0) : Sz n (Rat.divInt t b).num ∧ Sz m ((Rat.divInt t b).den : Int) := by
  constructor
  · rw [Rat.num_divInt]
    have h1 : ((b.sign * t) / (b.gcd t : Int)).natAbs ≤ (b.sign * t).natAbs := Int.natAbs_ediv_le_natAbs _ _
    have h2 : (b.sign * t).natAbs ≤ t.natAbs := by
      rw [Int.natAbs_mul]
      rcases Int.lt_or_gt_of_ne h0 with h | h
      · rw [Int.sign_eq_neg_one_of_neg h]; simp
      · rw [Int.sign_eq_one_of_pos h]; simp
    unfold Sz at *
    omega
  · rw [Rat.den_divInt, if_neg h0]
    have h1 : b.natAbs / b.gcd t ≤ b.natAbs := Nat.div_le_self _ _
    unfold Sz at *
    rw [Int.natAbs_natCast]
    omega
theorem rat_den_pos (q : Rat) : (0 : Int) < (q.den : Int) := by have := q.den_pos; omega
theorem SzR.divInt {n : Nat} {t b : Int} (ht : Sz n t) (hb : Sz n b) (h0 : b ≠ 0) : SzR n (Rat.divInt t b) := divInt_sz ht hb h0
theorem add_raw (a b : Rat) : Rat.divInt (a.num * (b.den : Int) + b.num * (a.den : Int)) ((a.den : Int) * (b.den : Int)) = a + b := by
  have h1 := Rat.divInt_add_divInt a.num b.num (d₁ := (a.den : Int)) (d₂ := (b.den : Int)) (by have := rat_den_pos a; omega) (by have := rat_den_pos b; omega)
  rw [Rat.num_divInt_den, Rat.num_divInt_den] at h1
  exact h1.symm
theorem sub_raw (a b : Rat) : Rat.divInt (a.num * (b.den : Int) - b.num * (a.den : Int)) ((a.den : Int) * (b.den : Int)) = a - b := by
  have h1 := Rat.divInt_sub_divInt a.num b.num (d₁ := (a.den : Int)) (d₂ := (b.den : Int)) (by have := rat_den_pos a; omega) (by have := rat_den_pos b; omega)
  rw [Rat.num_divInt_den, Rat.num_divInt_den] at h1
  exact h1.symm
theorem mul_raw (a b : Rat) : Rat.divInt (a.num * b.num) ((a.den : Int) * (b.den : Int)) = a * b := by
  have h1 := Rat.divInt_mul_divInt a.num b.num (d₁ := (a.den : Int)) (d₂ := (b.den : Int))
  rw [Rat.num_divInt_den, Rat.num_divInt_den] at h1
  exact h1.symm
theorem dens_ne (a b : Rat) : ((a.den : Int) * (b.den : Int)) ≠ 0 := by
  have h1 := rat_den_pos a
  have h2 := rat_den_pos b
  exact Int.ne_of_gt (Int.mul_pos h1 h2)
theorem SzR.add {n m : Nat} {a b : Rat} (ha : SzR n a) (hb : SzR m b) : SzR (n + m + 1) (a + b) := by
  rw [← add_raw]
  refine SzR.divInt (((ha.1.mul hb.2).add (hb.1.mul ha.2)).mono (by omega)) ((ha.2.mul hb.2).mono (by omega)) (dens_ne a b)
theorem SzR.sub {n m : Nat} {a b : Rat} (ha : SzR n a) (hb : SzR m b) : SzR (n + m + 1) (a - b) := by
  rw [← sub_raw]
  refine SzR.divInt (((ha.1.mul hb.2).sub (hb.1.mul ha.2)).mono (by omega)) ((ha.2.mul hb.2).mono (by omega)) (dens_ne a b)
theorem SzR.mul {n m : Nat} {a b : Rat} (ha : SzR n a) (hb : SzR m b) : SzR (n + m) (a * b) := by
  rw [← mul_raw]
  exact SzR.divInt (ha.1.mul hb.1) (ha.2.mul hb.2) (dens_ne a b)
theorem SzR.neg {n : Nat} {a : Rat} (ha : SzR n a) : SzR n (-a) := ⟨by rw [Rat.neg_num]; exact ha.1.neg, by rw [Rat.neg_den]; exact ha.2⟩
theorem gcd_ne {t b : Int} (h : b ≠ 0) : ((Int.gcd t b : Nat) : Int) ≠ 0 := by
  have : Int.gcd t b ≠ 0 := fun z => h (Int.gcd_eq_zero_iff.mp z).2
  omega
/-- top // most, bottom // most, the greatest one's sign the bottom's -/
theorem ratio_eq {t b : Int} (h : b ≠ 0) :
    (0 < b → D.tup [.int (t.fdiv (Int.gcd t b)), .int (b.fdiv (Int.gcd t b))] = rat (Rat.divInt t b)) ∧
    (b < 0 → D.tup [.int (t.fdiv (-(Int.gcd t b : Int))), .int (b.fdiv (-(Int.gcd t b : Int)))] = rat (Rat.divInt t b)) := by
  have g0 := gcd_ne (t := t) h
  have d1 : ((Int.gcd t b : Nat) : Int) ∣ t := Int.gcd_dvd_left _ _
  have d2 : ((Int.gcd t b : Nat) : Int) ∣ b := Int.gcd_dvd_right _ _
  unfold rat
  rw [Rat.num_divInt, Rat.den_divInt, if_neg h, Int.gcd_comm b t]
  have eN : ((b.natAbs / t.gcd b : Nat) : Int) = (b.natAbs : Int) / (t.gcd b : Int) := rfl
  rw [eN]
  constructor
  · intro hp
    rw [Int.fdiv_eq_ediv_of_dvd d1, Int.fdiv_eq_ediv_of_dvd d2, Int.sign_eq_one_of_pos hp, Int.one_mul, show ((b.natAbs : Nat) : Int) = b by omega]
  · intro hn
    rw [Int.fdiv_eq_ediv_of_dvd (Int.neg_dvd.mpr d1), Int.fdiv_eq_ediv_of_dvd (Int.neg_dvd.mpr d2), Int.ediv_neg, Int.ediv_neg, Int.sign_eq_neg_one_of_neg hn, show ((b.natAbs : Nat) : Int) = -b by omega]
    rw [show (-1 : Int) * t = -t by omega, Int.neg_ediv_of_dvd d1, Int.neg_ediv_of_dvd d2]
def sp_ratio : DL := fun ds O Q => ∃ t b : Int, ds = [.int t, .int b] ∧ b ≠ 0 ∧ Sz 13000 t ∧ Sz 13000 b ∧ Q (rat (Rat.divInt t b)) O
theorem ln_ratio : ∀ ds O Q, sp_ratio ds O Q → ds.length = 2 := by rintro ds O Q ⟨a, b, rfl, _⟩; rfl
theorem ratio_ap {t b : Int} {O : Ow} {Q : DQ} (h : b ≠ 0) (ht : Sz 13000 t) (hb : Sz 13000 b) (q : Q (rat (Rat.divInt t b)) O) : sp_ratio [.int t, .int b] O Q := ⟨t, b, rfl, h, ht, hb, q⟩
theorem ratio_fin {t b : Int} {O : Ow} {Q : DQ} (h : b ≠ 0) (ht : Sz 13000 t) (hb : Sz 13000 b) (q : Q (rat (Rat.divInt t b)) O) :
    if decide (b < 0) = true then (Dok t (-(Int.gcd t b : Int)) ∧ Dok b (-(Int.gcd t b : Int)) ∧ Q (D.tup [.int (t.fdiv (-(Int.gcd t b : Int))), .int (b.fdiv (-(Int.gcd t b : Int)))]) O)
    else (Dok t (Int.gcd t b) ∧ Dok b (Int.gcd t b) ∧ Q (D.tup [.int (t.fdiv (Int.gcd t b)), .int (b.fdiv (Int.gcd t b))]) O) := by
  have g0 := gcd_ne (t := t) h
  obtain ⟨e1, e2⟩ := ratio_eq (t := t) h
  by_cases hn : b < 0
  · rw [if_pos (decide_eq_true hn)]
    exact ⟨.szx (by omega) ht, .szx (by omega) hb, by rw [e2 hn]; exact q⟩
  · rw [if_neg (by rw [decide_eq_false hn]; exact Bool.false_ne_true)]
    exact ⟨.szx g0 ht, .szx g0 hb, by rw [e1 (by omega)]; exact q⟩
def B_ratio : DS' :=
  (dThen (dIfS (dTest (dOp dEq (dVar 1) (dC (.int 0)))) dNever dNext)
  (dThen (dAsg (dCall sp_common (dCons (dBu dAbs (dCons (dVar 0) dNil)) (dCons (dBu dAbs (dCons (dVar 1) dNil)) dNil))) (tgN 2))
  (dThen (dIfS (dTest (dOp dLt (dVar 1) (dC (.int 0)))) (dAsg (dUn dNeg (dVar 2)) (tgN 2)) dNext)
  (dRet (dTup (dCons (dOp dFdiv (dVar 0) (dVar 2)) (dCons (dOp dFdiv (dVar 1) (dVar 2)) dNil)))))))
theorem natAbs_gcd (t b : Int) : Int.gcd (t.natAbs : Int) (b.natAbs : Int) = Int.gcd t b := by simp [Int.gcd]
theorem hb_ratio : ∀ ds O Q, sp_ratio ds O Q → B_ratio (rtEnds Q) (startD 3 ds) O := by
  rintro ds O Q ⟨t, b, rfl, h, ht, hb, q⟩
  unfold B_ratio
  walk_at "ds"
  rw [show (b == 0) = false from beq_eq_false_iff_ne.mpr h]
  walk_at "ds"
  refine ⟨_, _, rfl, by omega, by omega, ?_⟩
  walk_at "ds"
  rw [natAbs_gcd]
  exact ratio_fin (Q := (rtEnds Q).rt) h ht hb (rt_here q)
section
variable {X : Cx} {K : PySem.W.Frag} {pos : Pos}
def strsD (ys : List Str) : List D := ys.map D.str
theorem reps_strs {G : Hp} : ∀ {ys : List Str}, Reps K G (strsD ys) (ys.map V.str)
  | [] => .nil
  | y :: ys => .cons (.str y) (reps_strs (ys := ys))
theorem Reps.strs {G : Hp} : ∀ {ys : List Str} {vs : List V}, Reps K G (strsD ys) vs → vs = ys.map V.str
  | [], vs, h => by simp only [strsD, List.map_nil, Reps] at h; rw [h]; rfl
  | n :: ns, vs, h => by
    simp only [strsD, List.map_cons, Reps] at h
    obtain ⟨v, r, e, h1, h2⟩ := h
    rw [e, h1.str_of, Reps.strs h2]; rfl
/-- str(n) -/
def dStr1 : DL := fun xs O Q => match xs with
  | [.int i] => i.natAbs.log2 < 1920 ∧ Q (.str (Str.ofString (toString i))) O
  | _ => False
theorem o_str1 : OpL K (fun xs H Q => ∃ i, xs = [V.int i] ∧ i.natAbs.log2 < 1920 ∧ Q (V.str (Str.ofString (toString i))) H) dStr1 := by
  intro w xs vs Q' Q hw rs lk h
  unfold dStr1 at h
  split at h
  · exact ⟨_, rs.int1, h.1, lk _ _ w hw (Fr.refl w) (.str _) h.2⟩
  · exact h.elim
/-- int(text) -/
def dIntS : DL := fun xs O Q => match xs with
  | [.str a] => ∃ n, intText? a = some n ∧ a.length ≤ 640 ∧ Q (.int n) O
  | _ => False
theorem o_intS : OpL K (fun xs H Q => ∃ a n, xs = [V.str a] ∧ intText? a = some n ∧ a.length ≤ 640 ∧ Q (V.int n) H) dIntS := by
  intro w xs vs Q' Q hw rs lk h
  unfold dIntS at h
  split at h
  · obtain ⟨n, h1, h2, q⟩ := h
    exact ⟨_, n, rs.str1, h1, h2, lk _ _ w hw (Fr.refl w) (.int _) q⟩
  · exact h.elim
/-- s.split(sep) -/
def dSplit (mk : List D → Ow → DQ → Prop) : DM := fun x xs O Q => match x, xs with
  | .str a, [.str b] => (b.length == 0) = false ∧ a.length + 2 ≤ sizeLine ∧ mk (strsD (Txt.split a b)) O Q
  | _, _ => False
theorem o_split {mk : List D → Ow → DQ → Prop} (hm : MkOk mk) : OpM K "str" (fun x xs H Q => ∃ a b, x = V.str a ∧ xs = [V.str b] ∧ (b.length == 0) = false ∧ a.length + 2 ≤ sizeLine ∧ rNewStrs (Txt.split a b) H Q) (dSplit mk) := by
  intro w x xs vx vs Q' Q hw rx rs lk h
  unfold dSplit at h
  split at h
  · exact ⟨_, _, rx.str_of, rs.str1, h.1, h.2.1, fun p hp => hm K w _ _ Q' Q p hw hp reps_strs lk h.2.2⟩
  · exact h.elim
/-- s.join(texts) -/
def dJoin : DM := fun x xs O Q => match x, xs with
  | .str a, [d] => ∃ ys : List Str, qv O d = some (strsD ys) ∧ (ys.map (·.length)).sum + ys.length * a.length ≤ 16777216 ∧ Q (.str (Txt.join a ys)) O
  | _, _ => False
theorem o_join : OpM K "str" (fun x xs H Q => ∃ a p, ∃ ys : List Str, x = V.str a ∧ xs = [V.ref p] ∧ (SqL K H p (ys.map V.str) ∨ SqT K H p (ys.map V.str)) ∧ (ys.map (·.length)).sum + ys.length * a.length ≤ 16777216 ∧ Q (V.str (Txt.join a ys)) H) dJoin := by
  intro w x xs vx vs Q' Q hw rx rs lk h
  unfold dJoin at h
  split at h
  · obtain ⟨ys, e, hl, q⟩ := h
    obtain ⟨v, ev, r⟩ := rs.one1
    obtain ⟨a, us, z, sq, r2⟩ := qv_rep hw r e
    have := r2.strs
    subst this
    exact ⟨_, a, ys, rx.str_of, by rw [ev, z], sq, hl, lk _ _ w hw (Fr.refl w) (.str _) q⟩
  · exact h.elim
/-- s.startswith(t) -/
def dStarts : DM := fun x xs O Q => match x, xs with
  | .str a, [.str b] => Q (.bl (Txt.startswith a b)) O
  | _, _ => False
theorem o_starts : OpM K "str" (fun x xs H Q => ∃ a b, x = V.str a ∧ xs = [V.str b] ∧ Q (V.bl (Txt.startswith a b)) H) dStarts := by
  intro w x xs vx vs Q' Q hw rx rs lk h
  unfold dStarts at h
  split at h
  · exact ⟨_, _, rx.str_of, rs.str1, lk _ _ w hw (Fr.refl w) (.bl _) h⟩
  · exact h.elim
/-- s.zfill(n) -/
def dZfill : DM := fun x xs O Q => match x, xs with
  | .str a, [.int i] => PadOk i = true ∧ Q (.str (Txt.zfill a i)) O
  | _, _ => False
theorem o_zfill : OpM K "str" (fun x xs H Q => ∃ (a : Str) (i : Int), x = V.str a ∧ xs = [V.int i] ∧ PadOk i = true ∧ Q (V.str (Txt.zfill a i)) H) dZfill := by
  intro w x xs vx vs Q' Q hw rx rs lk h
  unfold dZfill at h
  split at h
  · exact ⟨_, _, rx.str_of, rs.int1, h.1, lk _ _ w hw (Fr.refl w) (.str _) h.2⟩
  · exact h.elim
/-- s.partition(t) -/
def dParti : DM := fun x xs O Q => match x, xs with
  | .str a, [.str b] => (b.length == 0) = false ∧ a.length ≤ sizeLine ∧ Q (.tup [.str (Txt.partition a b).1, .str (Txt.partition a b).2.1, .str (Txt.partition a b).2.2]) O
  | _, _ => False
/-- xs.pop(0) -/
def dPop0 : DM := fun x xs O Q => match x, xs with
  | .ref p, [.int i] => i = 0 ∧ ∃ d l, O p = some (.lst (d :: l)) ∧ Q d (O.set p (.lst l))
  | _, _ => False
theorem o_pop0 : OpM K "list" rPopAt dPop0 := by
  intro w x xs vx vs Q' Q hw rx rs lk h
  unfold dPop0 at h
  split at h
  rotate_left
  · exact h.elim
  obtain ⟨rfl, d, l, e, q⟩ := h
  obtain ⟨z1, y, z2, us, z3, z4⟩ := hw.own _ _ e
  subst z3
  simp only [Reps] at z4
  obtain ⟨v, r, ev, r1, r2⟩ := z4
  subst ev
  refine ⟨_, v :: r, 0, 0, v, rx.ref_of, rs.int1, z2, by decide, by decide, ?_, rfl, lk_set hw e r2 r1 lk q⟩
  rw [StrLaws.seqIndex_nonneg] <;> simp
/-- xs.extend(ys), ys a list of one's own -/
def dExtend : DM := fun x xs O Q => match x, xs with
  | .ref p, [.ref b] => ∃ l m, O p = some (.lst l) ∧ O b = some (.lst m) ∧ l.length + m.length ≤ 100000 ∧ Q .non (O.set p (.lst (l ++ m)))
  | _, _ => False
/-- xs.index(y), of flat data -/
def dIndex : DM := fun x xs O Q => match xs with
  | [y] => ∃ l, lv O x = some l ∧ flatD y = true ∧ l.all flatD = true ∧ ∃ j d, l[j]? = some d ∧ eqv d y = true ∧ (∀ m d', m < j → l[m]? = some d' → eqv d' y = false) ∧ Q (.int (j : Nat)) O
  | _ => False
theorem eqv_rep {G : Hp} {d e : D} {v u : V} (r : Rep K G d v) (hd : flatD d = true) (q : Rep K G e u) (he : flatD e = true) : eqV v u = eqv d e := by
  have := inV_rep (x := e) (u := u) q he (l := [d]) (vs := [v]) (.cons r .nil) (by simp [hd])
  simpa [inV, inD] using this
theorem o_index : OpM K "list" (rIndex K) dIndex := by
  intro w x xs vx vs Q' Q hw rx rs lk h
  unfold dIndex at h
  split at h
  rotate_left
  · exact h.elim
  rename_i y
  obtain ⟨l, e, fy, fl, j, d, hj, hq, hn, q⟩ := h
  obtain ⟨v, ev, r⟩ := rs.one1
  obtain ⟨a, us, z, sq, r2⟩ := lv_rep hw rx e
  obtain ⟨u, hu, ru⟩ := r2.get hj
  have flm : ∀ (m : Nat) (d' : D), l[m]? = some d' → flatD d' = true := fun m d' hm => List.all_eq_true.mp fl d' (List.mem_of_getElem? hm)
  refine ⟨a, us, v, j, u, z, ev, sq, flat_rep r fy, flats_rep r2 fl, hu, ?_, fun m z' hm hz => ?_, lk _ _ w hw (Fr.refl w) (.int _) q⟩
  · rw [eqv_rep ru (flm j d hj) r fy]; exact hq
  · obtain ⟨d', hd', rd'⟩ := r2.get' hz
    rw [eqv_rep rd' (flm m d' hd') r fy]; exact hn m d' hm hd'
/-- a sign in a text -/
def dInS (neg : Bool) : D2 := fun x y O Q => match x, y with
  | .str a, .str z => ∃ c, a = ⟨#[c]⟩ ∧ Q (.bl (if neg then !decide (c ∈ z.cps.toList) else decide (c ∈ z.cps.toList))) O
  | _, _ => False
theorem o_notInS : Op2 K (fun x y H Q => ∃ (c : Nat) (z : Str), x = V.str ⟨#[c]⟩ ∧ y = V.str z ∧ Q (V.bl (!decide (c ∈ z.cps.toList))) H) (dInS true) := by
  intro w x y vx vy Q' Q hw rx ry lk h
  unfold dInS at h
  split at h
  · obtain ⟨c, rfl, q⟩ := h
    exact ⟨c, _, rx.str_of, ry.str_of, lk _ _ w hw (Fr.refl w) (.bl _) q⟩
  · exact h.elim
/-- the signs of a text -/
def signsD (z : Str) : List D := z.cps.toList.map fun c => .str ⟨#[c]⟩
def dSigns (da : DT) : DIt := fun ρ O R => da ρ O fun x O1 => match x with
  | .str z => R (signsD z) (fun _ => True) O1
  | _ => False
theorem walk_signs {w : Wd} {z : Str} : WalkD K w (Its z) (signsD z) (fun _ => True) := by
  refine ⟨fun i w2 _ _ _ hi => ?_, fun w2 _ _ _ => ?_, fun i w2 x H' h2 f2 _ y d hd => ?_⟩
  · show i < z.cps.size
    simpa [signsD] using hi
  · show z.cps.size ≤ (signsD z).length
    simp [signsD]
  · obtain ⟨e1, c, e2, e3⟩ := y
    subst e1 e3
    have : d = .str ⟨#[c]⟩ := by
      have e4 : z.cps.toList[i]? = some c := by simpa using e2
      unfold signsD at hd
      rw [List.getElem?_map, e4] at hd
      exact (Option.some.inj hd).symm
    subst this
    exact ⟨w2, rfl, rfl, h2, Fr.refl w2, .str _⟩
theorem di_signs {tg e : Expr} {da : DT} (hc : X.calm = true) (h : DE X e da) : DI X tg e (dSigns da) := by
  obtain ⟨t, p, f⟩ := h
  refine di_cold hc ⟨_, pi_str p, fun ρ σ w R' R hw he lk h => ?_⟩
  refine f ρ σ w _ _ hw he (fun x vx w1 hw1 f1 rx h1 => ?_) h
  cases x with
  | str z => exact ⟨z, rx.str_of, lk _ _ _ w1 hw1 f1 walk_signs h1⟩
  | _ => exact h1.elim
/-- s[a:b] -/
def dSliceS (da : DT) (dlo dhi : DTo) : DT := fun ρ O Q => da ρ O fun x O1 => dlo ρ O1 fun lo O2 => dhi ρ O2 fun hi O3 => match x with
  | .str z => z.length ≤ sizeLine ∧ Q (.str (cutS z lo hi)) O3
  | _ => False
theorem de_sliceS {e : Expr} {lo hi : Option Expr} {da : DT} {dlo dhi : DTo} {p2 : Pos} (h : DE X e da) (hl : DPo X lo dlo) (hu : DPo X hi dhi) : DE X (.Subscript e (.Slice lo hi none p2) pos) (dSliceS da dlo dhi) := by
  obtain ⟨t, p, f⟩ := h
  obtain ⟨tl, pl, fl⟩ := hl
  obtain ⟨tu, pu, fu⟩ := hu
  refine ⟨_, pe_slice sl_str p pl pu, fun ρ σ w Q' Q hw he lk h => ?_⟩
  refine f ρ σ w _ _ hw he (fun x v w1 hw1 f1 r1 h1 => ?_) h
  refine fl ρ σ w1 _ _ hw1 (he.mono f1.gsub) (fun lo w2 hw2 f2 h2 => ?_) h1
  refine fu ρ σ w2 _ _ hw2 (he.mono (f1.gsub.trans f2.gsub)) (fun hi w3 hw3 f3 h3 => ?_) h2
  cases x with
  | str z => exact ⟨z, r1.str_of, h3.1, lk _ _ w3 hw3 (f1.trans (f2.trans f3)) (.str _) h3.2⟩
  | _ => exact h3.elim
/-- a op b op' c -/
def dChain (r r' : D2) (da db dc : DT) : DT := fun ρ O Q => da ρ O fun x O1 => db ρ O1 fun y O2 => r x y O2 fun z O3 => match z with
  | .bl k => if k = true then dc ρ O3 fun u O4 => r' y u O4 Q else Q (.bl false) O3
  | _ => False
theorem sem_chain {ta tb tc : TE} {da db dc : DT} {r r' : R2} {s s' : D2} (o1 : Op2 K r s) (o2 : Op2 K r' s') (fa : Sem1 K ta da) (fb : Sem1 K tb db) (fc : Sem1 K tc dc) : Sem1 K (tChain r r' ta tb tc) (dChain s s' da db dc) := by
  intro ρ σ w Q' Q hw he lk h
  refine fa ρ σ w _ _ hw he (fun x vx w1 hw1 f1 rx h1 => ?_) h
  refine fb ρ σ w1 _ _ hw1 (he.mono f1.gsub) (fun y vy w2 hw2 f2 ry h2 => ?_) h1
  refine o1 w2 x y vx vy _ _ hw2 (rx.mono f2.gsub) ry (fun z vz w3 hw3 f3 rz h3 => ?_) h2
  cases z with
  | bl k =>
    refine ⟨k, rz.bl_of, ?_⟩
    cases k with
    | false => exact lk _ _ w3 hw3 (f1.trans (f2.trans f3)) (.bl _) h3
    | true =>
      refine fc ρ σ w3 _ _ hw3 (he.mono (f1.gsub.trans (f2.gsub.trans f3.gsub))) (fun u vu w4 hw4 f4 ru h4 => ?_) h3
      exact o2 w4 y u vy vu Q' Q hw4 (ry.mono (f3.gsub.trans f4.gsub)) ru (lk.after (f1.trans (f2.trans (f3.trans f4)))) h4
  | _ => exact h3.elim
theorem db_chain {a b c : Expr} {da db dc : DT} {op op' : CmpOp} {r r' : R2} {s s' : D2} (h1 : OpR X (compareOp op) r) (h2 : OpR X (compareOp op') r') (o1 : Op2 X.K r s) (o2 : Op2 X.K r' s') (ha : DE X a da) (hb : DE X b db) (hc : DE X c dc) (hm : lastMarks [op, op'] [b, c] = false := by rfl) :
    DB X (.Compare a [op, op'] [b, c] pos) (dTest (dChain s s' da db dc)) := by
  obtain ⟨ta, pa, fa⟩ := ha
  obtain ⟨tb, pb, fb⟩ := hb
  obtain ⟨tc, pc, fc⟩ := hc
  exact ⟨_, pt_chain h1 h2 pa pb pc hm, sem_test (sem_chain o1 o2 fa fb fc)⟩
/-- constants of the text -/
theorem de_gint {x : Str} {n : Int} {t : Tok} (hg : Gl X x) (hm : X.mg x = some (.int n t)) (hd : (x == ("__debug__" : Str)) = false := by decide) : DE X (.Name x pos) (dC (.int n)) := de_glob (v := .int n) hg hm ⟨t, rfl⟩ (fun G => .int n) hd
theorem de_gstr {x : Str} {n : Str} {t : Tok} (hg : Gl X x) (hm : X.mg x = some (.str n t)) (hd : (x == ("__debug__" : Str)) = false := by decide) : DE X (.Name x pos) (dC (.str n)) := de_glob (v := .str n) hg hm ⟨t, rfl⟩ (fun G => .str n) hd
end
local macro_rules | `(tactic| walk_at "tx") => `(tactic| try simp (dsimp := false) only [↓lz_ap, ↓dCallZ_ap, dVar, dC, dOp, dUn, dTest, asB, dAnd, dOr, dNot, dAndV, dOrV, dNotV, dIf, dNil, dCons, dTup, dLst, mkF, mkO, dCall, dBu, dII, dI0, dNeg, dAdd, dIsN, dNotN, isNon_non, isNon_int, isNon_tup, isNon_lst, isNon_ref, isNon_str,
  dIx_r0, dIx_r1, dLen_rat, tyN_rat, isNon_rat, dEq_rr, dNe_rr, fold0, fold1, qv_rat, dIx_tup, dIx_lst, dIx_ref, dIx_str, dLen_tup, dLen_lst, dLen_ref, dLen_str, qv_tup, qv_lst, qv_ref, lv_lst, lv_set, dAbs, dInt1, dTuple, dList, dSum, dAll, dIsi, tyN_int, tyN_bl, tyN_non, tyN_str, tyN_tup, tyN_lst, tyN_set, dMt, dMt0, dAppend, dClear, dReverse, dNext, dThen, dDrop, dRet, dRetN, dIfS, dAsg, dBreak, dCont, dNever, tgN, tgT_tup, setAll_nil, setAll_cons, dSetI, dAug, dAugI, dSlice, drSlice, dPart, dNoP, dYes,
  dFor, dSeq, dRng1, dRng2, dEnum, dZip, dLc, startD, List.map_cons, List.map_nil, List.length_cons, List.length_nil, List.replicate_zero, List.replicate_succ, List.cons_append, List.nil_append, List.set_cons_zero, List.set_cons_succ, List.getElem?_cons_zero, List.getElem?_cons_succ,
  Option.some.injEq, exists_eq_left', exists_eq_left, forget_nil, forget_cons, wipeD, gt0, gt1, gt2, gt3, Ow.set_same, Ow.set_set, OO.lst.injEq, ix20, ix21, ix30, ix31, ix32, List.length_set, kit_int_int, kit_int_bool, kit_bool_int, kit_bool_bool, kit_tup_tup, kit_lst_lst, kit_tup_int, kit_tup_lst, kit_lst_tup, kit_str_str, kit_non_tup, kit_non_lst,
  dEq_ii, dNe_ii, dEq_bb, dNe_bb, dSub, dMul, dFdiv, dMod, dPow, dLt, dLe, dGt, dGe, Nat.reduceLeDiff, Bool.false_eq_true, reduceIte, beq_self_eq_true, true_and, and_true, if_true, Bool.not_true, Bool.not_false, dMeth, dMake, dSetF, nc2, nc3, nc4, e42, e24, Option.isNone_none, Option.isNone_some, Option.isSome_none, Option.isSome_some, Nat.reduceAdd, Nat.reduceSub, dStarts, dSplit, dJoin, dSliceS, dStr1, dIntS, dZfill, dParti, dChain, dPop0, dExtend])
def tl (z : Str) : List Nat := z.cps.toList
theorem tl_mk {l : List Nat} : tl ⟨l.toArray⟩ = l := by simp [tl]
theorem tl_inj {a b : Str} (h : tl a = tl b) : a = b := by
  cases a; cases b
  simp only [tl] at h
  congr
  exact Array.toList_inj.mp h
theorem len_tl {z : Str} : z.length = (tl z).length := by simp [tl, Str.length]
theorem tl_app {a b : Str} : tl (a ++ b) = tl a ++ tl b := by
  show ((a.cps ++ b.cps)).toList = _
  simp [tl]
theorem beq_str {a b : Str} : (a == b) = decide (a = b) := by
  by_cases h : a = b
  · subst h; simp
  · rw [decide_eq_false h]
    exact beq_eq_false_iff_ne.mpr h
def joinL (c : List Nat) : List (List Nat) → List Nat
  | [] => []
  | [x] => x
  | x :: y :: r => x ++ c ++ joinL c (y :: r)
theorem glue_fold {c : Array Nat} : ∀ (l : List Str) (acc : Array Nat), (l.foldl (fun acc p => acc ++ c ++ p.cps) acc).toList = acc.toList ++ (l.map fun p => c.toList ++ tl p).flatten
  | [], acc => by simp
  | p :: l, acc => by
    rw [List.foldl_cons, glue_fold l]
    simp [tl]
theorem joinL_flat {c : List Nat} : ∀ (x : List Nat) (l : List (List Nat)), joinL c (x :: l) = x ++ (l.map fun p => c ++ p).flatten
  | x, [] => by simp [joinL]
  | x, y :: l => by
    show x ++ c ++ joinL c (y :: l) = _
    rw [joinL_flat y l]
    simp
theorem tl_join {sep : Str} {ys : List Str} : tl (Txt.join sep ys) = joinL (tl sep) (ys.map tl) := by
  cases ys with
  | nil => rfl
  | cons x l =>
    show (Builtin.Str.glued sep (x :: l)).cps.toList = _
    unfold Builtin.Str.glued
    rw [List.map_cons, joinL_flat]
    show ((List.drop 1 (x :: l)).foldl (fun acc p => acc ++ sep.cps ++ p.cps) x.cps).toList = _
    rw [glue_fold]
    simp [tl, List.map_map]
    rfl
/-- c-free parts are told apart -/
theorem free_split {c : Nat} {r s : List Nat} (hr : r = [] ∨ ∃ t, r = c :: t) (hs : s = [] ∨ ∃ t, s = c :: t) : ∀ {x y : List Nat}, c ∉ x → c ∉ y → x ++ r = y ++ s → x = y ∧ r = s
  | [], [], _, _, h => ⟨rfl, h⟩
  | [], b :: y, _, hy, h => by
    rcases hr with rfl | ⟨t, rfl⟩
    · simp at h
    · simp at h
      exact absurd h.1 (fun z => hy (by rw [z]; simp))
  | a :: x, [], hx, _, h => by
    rcases hs with rfl | ⟨t, rfl⟩
    · simp at h
    · simp at h
      exact absurd h.1 (fun z => hx (by rw [← z]; simp))
  | a :: x, b :: y, hx, hy, h => by
    simp at h
    obtain ⟨e1, e2⟩ := free_split hr hs (x := x) (y := y) (fun z => hx (by simp [z])) (fun z => hy (by simp [z])) h.2
    exact ⟨by rw [h.1, e1], e2⟩
theorem joinL_inj {c : Nat} : ∀ {l m : List (List Nat)}, l ≠ [] → m ≠ [] → (∀ x ∈ l, c ∉ x) → (∀ x ∈ m, c ∉ x) → joinL [c] l = joinL [c] m → l = m
  | [], _, h, _, _, _, _ => absurd rfl h
  | _, [], _, h, _, _, _ => absurd rfl h
  | x :: l, y :: m, _, _, hl, hm, h => by
    have tail : ∀ (l : List (List Nat)), (l.map fun p => [c] ++ p).flatten = [] ∨ ∃ t, (l.map fun p => [c] ++ p).flatten = c :: t := fun l => by
      cases l with
      | nil => exact .inl rfl
      | cons a l => exact .inr ⟨a ++ (l.map fun p => [c] ++ p).flatten, by simp⟩
    rw [joinL_flat, joinL_flat] at h
    obtain ⟨e1, e2⟩ := free_split (tail l) (tail m) (hl x (by simp)) (hm y (by simp)) h
    subst e1
    congr 1
    cases l with
    | nil =>
      cases m with
      | nil => rfl
      | cons b m => simp at e2
    | cons a l =>
      cases m with
      | nil => simp at e2
      | cons b m =>
        have e3 : joinL [c] (a :: l) = joinL [c] (b :: m) := by
          rw [joinL_flat, joinL_flat]
          simpa using e2
        exact joinL_inj (by simp) (by simp) (fun z hz => hl z (by simp [hz])) (fun z hz => hm z (by simp [hz])) e3
theorem split_ne {x y : Str} : Txt.split x y ≠ [] := by
  unfold Txt.split
  split
  · simp
  · split
    · simp
    · intro h
      have := length_partsBetween x (Builtin.Str.occurrences x y 0 x.length (x.length + 1)) y.length
      rw [h] at this
      simp at this
theorem join_eq {sep : Str} {ys : List Str} : Str.join sep ys = Txt.join sep ys := (StrLaws.glued_eq_join sep ys).symm
theorem split_join {c : Nat} {ys : List Str} (h : ys ≠ []) (hc : ∀ y ∈ ys, c ∉ tl y) : Txt.split (Txt.join ⟨#[c]⟩ ys) ⟨#[c]⟩ = ys := by
  have e1 := StrLaws.join_split (Txt.join ⟨#[c]⟩ ys) ⟨#[c]⟩
  rw [join_eq] at e1
  have e2 := congrArg tl e1
  rw [tl_join, tl_join] at e2
  have e3 := joinL_inj (c := c) (l := (Txt.split (Txt.join ⟨#[c]⟩ ys) ⟨#[c]⟩).map tl) (m := ys.map tl) (by simp [split_ne]) (by simp [h]) (fun x hx => by
    obtain ⟨p, hp, rfl⟩ := List.mem_map.mp hx
    exact StrLaws.split_free _ c p hp) (fun x hx => by
    obtain ⟨p, hp, rfl⟩ := List.mem_map.mp hx
    exact hc p hp) e2
  generalize Txt.split (Txt.join ⟨#[c]⟩ ys) ⟨#[c]⟩ = zs at e3
  clear e1 e2 h hc
  induction zs generalizing ys with
  | nil => cases ys <;> simp_all
  | cons z zs ih =>
    cases ys with
    | nil => simp at e3
    | cons y ys =>
      simp at e3
      rw [tl_inj e3.1, ih (by simpa using e3.2)]
theorem split_one {c : Nat} {z : Str} (h : c ∉ tl z) : Txt.split z ⟨#[c]⟩ = [z] := by
  have := split_join (c := c) (ys := [z]) (by simp) (by simpa using h)
  have e : Txt.join ⟨#[c]⟩ [z] = z := tl_inj (by rw [tl_join]; rfl)
  rwa [e] at this
def showN (n : Nat) : List Nat := (Nat.toDigits 10 n).map Char.toNat
def showI (i : Int) : List Nat := if i < 0 then 45 :: showN i.natAbs else showN i.natAbs
theorem digit_code {n : Nat} (h : n < 10) : n.digitChar.toNat = 48 + n := by
  have : n = 0 ∨ n = 1 ∨ n = 2 ∨ n = 3 ∨ n = 4 ∨ n = 5 ∨ n = 6 ∨ n = 7 ∨ n = 8 ∨ n = 9 := by omega
  rcases this with rfl | rfl | rfl | rfl | rfl | rfl | rfl | rfl | rfl | rfl <;> rfl
theorem showN_eq {n : Nat} : showN n = if n < 10 then [48 + n] else showN (n / 10) ++ [48 + n % 10] := by
  unfold showN
  rw [Nat.toDigits_eq_if (by decide)]
  split
  · rename_i h
    rw [List.map_cons, List.map_nil, digit_code h]
  · rw [List.map_append, List.map_cons, List.map_nil, digit_code (by omega)]
theorem showN_all {n : Nat} : NumText.AllDigits (showN n) := by
  induction n using Nat.strongRecOn with
  | ind n ih =>
    intro c hc
    rw [showN_eq] at hc
    split at hc
    · rw [List.mem_singleton.mp hc]; omega
    · rcases List.mem_append.mp hc with h | h
      · exact ih (n / 10) (by omega) c h
      · rw [List.mem_singleton.mp h]; omega
theorem showN_val {n : Nat} : NumText.digitsVal (showN n) = n := by
  induction n using Nat.strongRecOn with
  | ind n ih =>
    rw [showN_eq]
    split
    · unfold NumText.digitsVal
      simp
    · rw [NumText.digitsVal_snoc, ih (n / 10) (by omega)]
      omega
theorem showN_ne {n : Nat} : showN n ≠ [] := by
  rw [showN_eq]
  split <;> simp
theorem showN_head {n : Nat} : (showN n).length = 1 ∨ (showN n).head? ≠ some 48 := by
  induction n using Nat.strongRecOn with
  | ind n ih =>
    rw [showN_eq]
    split
    · exact .inl rfl
    · rename_i h
      right
      have ne := showN_ne (n := n / 10)
      have hd : (showN (n / 10) ++ [48 + n % 10]).head? = (showN (n / 10)).head? := by
        cases e : showN (n / 10) with
        | nil => exact absurd e ne
        | cons a l => rfl
      rw [hd]
      rcases ih (n / 10) (by omega) with h1 | h1
      · rw [showN_eq] at h1 ⊢
        split
        · rename_i h2
          simp
          omega
        · rename_i h2
          rw [if_neg h2] at h1
          simp at h1
          exact absurd h1 showN_ne
      · exact h1
theorem showN_len {n k : Nat} (hk : 1 ≤ k) (h : n < 10 ^ k) : (showN n).length ≤ k := by
  unfold showN
  rw [List.length_map]
  exact toDigits_len_pow (by decide) hk h
theorem tl_str {i : Int} : tl (Str.ofString (toString i)) = showI i := by
  unfold tl
  rw [PyProof.Rows.signs_ofString]
  cases i with
  | ofNat n =>
    show List.map Char.toNat (toString n).toList = _
    rw [Nat.toString_eq_ofList_toDigits]
    simp [showI, showN]
  | negSucc n =>
    show List.map Char.toNat ("-" ++ toString (n + 1)).toList = _
    rw [Nat.toString_eq_ofList_toDigits]
    simp [showI, showN, Int.negSucc_lt_zero]
def letterB (c : Nat) : Bool := decide (97 ≤ c) && decide (c ≤ 122)
def digitB (c : Nat) : Bool := decide (48 ≤ c) && decide (c ≤ 57)
def nameW (z : Str) : Bool := decide (1 ≤ (tl z).length) && decide ((tl z).length ≤ 8) && (tl z).all letterB
def figs (z : Str) : List Nat := if (tl z).head? = some 45 then (tl z).drop 1 else tl z
def wholeW (z : Str) : Bool := decide (1 ≤ (figs z).length) && decide ((figs z).length ≤ 30) && !decide (tl z = [45, 48]) && (figs z).all digitB && (decide ((figs z).length = 1) || !decide ((figs z).head? = some 48))
def intW (z : Str) : Int := (intText? z).getD 0
def rdRat (z : Str) : Option Rat :=
  if (Txt.split z ⟨#[47]⟩).all wholeW then
    match Txt.split z ⟨#[47]⟩ with
    | [a] => some (intW a : Rat)
    | [a, b] => if intW b < 2 then none else if (Rat.divInt (intW a) (intW b)).num = intW a ∧ ((Rat.divInt (intW a) (intW b)).den : Int) = intW b then some (Rat.divInt (intW a) (intW b)) else none
    | _ => none
  else none
theorem letters_mem {c : Nat} : decide (c ∈ (Str.ofString "abcdefghijklmnopqrstuvwxyz").cps.toList) = letterB c := by
  have e : (Str.ofString "abcdefghijklmnopqrstuvwxyz").cps.toList = List.range' 97 26 := by decide +kernel
  rw [e]
  unfold letterB
  rw [Bool.eq_iff_iff]
  simp [List.mem_range']
  constructor
  · rintro ⟨i, hi, rfl⟩; omega
  · intro h; exact ⟨c - 97, by omega, by omega⟩
theorem figures_mem {c : Nat} : decide (c ∈ (Str.ofString "0123456789").cps.toList) = digitB c := by
  have e : (Str.ofString "0123456789").cps.toList = List.range' 48 10 := by decide +kernel
  rw [e]
  unfold digitB
  rw [Bool.eq_iff_iff]
  simp [List.mem_range']
  constructor
  · rintro ⟨i, hi, rfl⟩; omega
  · intro h; exact ⟨c - 48, by omega, by omega⟩
theorem signs_len {z : Str} : (signsD z).length = (tl z).length := by simp [signsD, tl]
theorem signs_at {z : Str} {k : Nat} (hk : k < (tl z).length) : (signsD z)[k]'(by rw [signs_len]; exact hk) = .str ⟨#[(tl z)[k]]⟩ := by simp [signsD, tl]
theorem all_take {p : Nat → Bool} {l : List Nat} {k : Nat} (hk : k < l.length) : (l.take (k + 1)).all p = ((l.take k).all p && p l[k]) := by
  rw [List.take_succ_eq_append_getElem hk, List.all_append]; simp
theorem all_false {p : Nat → Bool} {l : List Nat} {k : Nat} (hk : k < l.length) (h : p l[k] = false) : l.all p = false := by
  rw [List.all_eq_false]
  exact ⟨l[k], List.getElem_mem hk, by simp [h]⟩
def sp_is_name : DL := fun ds O Q => ∃ z : Str, ds = [.str z] ∧ z.length ≤ 100000 ∧ Q (.bl (nameW z)) O
theorem ln_is_name : ∀ ds O Q, sp_is_name ds O Q → ds.length = 1 := by rintro ds O Q ⟨a, rfl, _⟩; rfl
def B_is_name : DS' :=
  (dThen (dIfS (dOr (dTest (dOp dLt (dBu dLen (dCons (dVar 0) dNil)) (dC (.int 1)))) (dTest (dOp dGt (dBu dLen (dCons (dVar 0) dNil)) (dC (.int 8))))) (dRet (dC (.bl false))) dNext)
  (dThen (dFor (dSigns (dVar 0)) (tgN 1)
  (dIfS (dTest (dOp (dInS true) (dVar 1) (dC (.str (Str.ofString "abcdefghijklmnopqrstuvwxyz"))))) (dRet (dC (.bl false))) dNext) [1])
  (dRet (dC (.bl true)))))
theorem hb_is_name : ∀ ds O Q, sp_is_name ds O Q → B_is_name (rtEnds Q) (startD 2 ds) O := by
  rintro ds O Q ⟨z, rfl, hz, q⟩
  have hs : z.length ≤ sizeLine := Nat.le_trans hz line100000
  unfold B_is_name nameW at *
  rw [len_tl] at hs
  walk_at "tx"
  rw [len_tl]
  refine ⟨hs, ?_⟩
  by_cases h1 : (tl z).length < 1
  · rw [if_pos (decide_eq_true (by omega))]
    rw [decide_eq_false (show ¬ 1 ≤ (tl z).length by omega)] at q
    exact rt_here q
  · rw [if_neg (by rw [decide_eq_false (by omega)]; exact Bool.false_ne_true)]
    rw [decide_eq_true (show 1 ≤ (tl z).length by omega)] at q
    refine ⟨hs, ?_⟩
    by_cases h2 : 8 < (tl z).length
    · rw [decide_eq_true (show (8 : Int) < ((tl z).length : Int) by omega)]
      rw [decide_eq_false (show ¬ (tl z).length ≤ 8 by omega)] at q
      walk_at "tx"
      exact rt_here q
    · rw [decide_eq_false (show ¬ (8 : Int) < ((tl z).length : Int) by omega)]
      rw [decide_eq_true (show (tl z).length ≤ 8 by omega)] at q
      walk_at "tx"
      refine ⟨_, rfl, trivial, ?_⟩
      refine for_idx (fun k ρ O' => ((tl z).take k).all letterB = true ∧ O' = O ∧ ρ = [some (.str z), none]) ?_ ?_ ⟨rfl, rfl, rfl⟩
      · rintro k hk ρ O' E' ⟨ha, rfl, rfl⟩ hnx hct hrt hbk
        rw [signs_len] at hk
        rw [signs_at hk]
        refine ⟨_, rfl, ?_⟩
        walk_at "tx"
        refine ⟨_, rfl, ?_⟩
        rw [letters_mem]
        cases e : letterB (tl z)[k] with
        | true => exact hnx _ _ _ (Ow.le.refl _) trivial ⟨by rw [all_take hk, ha, e]; rfl, rfl, rfl⟩
        | false =>
          rw [hrt]
          rw [all_false hk e] at q
          exact rt_here q
      · rintro ρ O' ⟨ha, rfl, rfl⟩
        rw [signs_len, List.take_length] at ha
        rw [ha] at q
        walk_at "tx"
        exact rt_here q
theorem starts_minus {z : Str} : Txt.startswith z (Str.ofString "-") = decide ((tl z).head? = some 45) := by
  have e : (Str.ofString "-") = ⟨#[45]⟩ := by rfl
  rw [e]
  unfold Txt.startswith
  have h := StrLaws.subAt_one z 45 0
  rw [Bool.eq_iff_iff, Bool.and_eq_true, decide_eq_true_eq, decide_eq_true_eq, h, List.head?_eq_getElem?]
  rfl
theorem tl_cut1 {z : Str} : tl (cutS z (some 1) none) = (tl z).drop 1 := by
  unfold cutS
  rw [tl_mk, show (1 : Int) = ((1 : Nat) : Int) from rfl, HT.sIx_nat, HT.sIx_none]
  rw [len_tl]
  show ((tl z).drop _).take _ = _
  by_cases h : 1 ≤ (tl z).length
  · rw [Nat.min_eq_left h, List.take_of_length_le (by rw [List.length_drop]; omega)]
  · have : tl z = [] := List.eq_nil_of_length_eq_zero (by omega)
    rw [this]; rfl
theorem str_eq {a b : Str} : eqv (.str a) (.str b) = decide (tl a = tl b) := by
  simp only [eqv]
  rw [beq_str]
  rw [Bool.eq_iff_iff, decide_eq_true_eq, decide_eq_true_eq]
  exact ⟨fun h => by rw [h], tl_inj⟩
/-- signs that are signs -/
def Asc (z : Str) : Prop := ∀ c ∈ tl z, c < 1114112
theorem Asc.ok {z : Str} (h : Asc z) : (z.cps.all fun x => decide (x < 1114112)) = true := by
  rw [← Array.all_toList, List.all_eq_true]
  exact fun c hc => decide_eq_true (h c hc)
theorem dEq_str {a b : Str} {O : Ow} {Q : DQ} (ha : Asc a) (hb : Asc b) : dEq (.str a) (.str b) O Q = Q (.bl (decide (tl a = tl b))) O := by
  simp only [dEq, vw, okE, ha.ok, hb.ok, true_and, str_eq]
theorem dNe_str {a b : Str} {O : Ow} {Q : DQ} (ha : Asc a) (hb : Asc b) : dNe (.str a) (.str b) O Q = Q (.bl (!decide (tl a = tl b))) O := by
  simp only [dNe, vw, okE, ha.ok, hb.ok, true_and, str_eq]
def sp_is_whole_word : DL := fun ds O Q => ∃ z : Str, ds = [.str z] ∧ z.length ≤ 100000 ∧ Asc z ∧ Q (.bl (wholeW z)) O
theorem ln_is_whole_word : ∀ ds O Q, sp_is_whole_word ds O Q → ds.length = 1 := by rintro ds O Q ⟨a, rfl, _⟩; rfl
def B_is_whole_word_b1 : DS' :=
  (dIfS (dTest (dOp (dInS true) (dVar 2) (dC (.str (Str.ofString "0123456789"))))) (dRet (dC (.bl false))) dNext)
def B_is_whole_word_r2 : DS' :=
  (dRet (dOrV (dOp dEq (dBu dLen (dCons (dVar 1) dNil)) (dC (.int 1))) (dOp dNe (dOp dIx (dVar 1) (dC (.int 0))) (dC (.str (Str.ofString "0"))))))
def B_is_whole_word_r3 : DS' :=
  (dThen (dFor (dSigns (dVar 1)) (tgN 2)
  B_is_whole_word_b1 [0, 2])
  B_is_whole_word_r2)
def B_is_whole_word_r4 : DS' :=
  (dThen (dIfS (dOr (dTest (dOp dLt (dBu dLen (dCons (dVar 1) dNil)) (dC (.int 1)))) (dOr (dTest (dOp dGt (dBu dLen (dCons (dVar 1) dNil)) (dC (.int 30)))) (dTest (dOp dEq (dVar 0) (dC (.str (Str.ofString "-0"))))))) (dRet (dC (.bl false))) dNext)
  B_is_whole_word_r3)
def B_is_whole_word : DS' :=
  (dThen (dAsg (dVar 0) (tgN 1))
  (dThen (dIfS (dTest (dMt "str" (dVar 0) (dCons (dC (.str (Str.ofString "-"))) dNil) dStarts)) (dAsg (dSliceS (dVar 0) (dPart (dC (.int 1))) dNoP) (tgN 1)) dNext)
  B_is_whole_word_r4))
theorem whole_end {z f : Str} {O : Ow} {Q : DQ} (az : Asc z) (hz : z.length ≤ 100000) (hf : f.length ≤ 100000) (e : figs z = tl f) (q : Q (.bl (wholeW z)) O) :
    B_is_whole_word_r4 (rtEnds Q) [some (.str z), some (.str f), none] O := by
  have hs : f.length ≤ sizeLine := Nat.le_trans hf line100000
  have e0 : tl (Str.ofString "-0") = [45, 48] := by decide +kernel
  have e1 : tl (Str.ofString "0") = [48] := by decide +kernel
  unfold B_is_whole_word_r4
  unfold wholeW at q
  rw [e] at q
  rw [len_tl] at hs
  walk_at "tx"
  rw [len_tl]
  refine ⟨hs, ?_⟩
  by_cases h1 : (tl f).length < 1
  · rw [if_pos (decide_eq_true (by omega))]
    rw [decide_eq_false (show ¬ 1 ≤ (tl f).length by omega)] at q
    exact rt_here q
  rw [if_neg (by rw [decide_eq_false (by omega)]; exact Bool.false_ne_true)]
  rw [decide_eq_true (show 1 ≤ (tl f).length by omega)] at q
  refine ⟨hs, ?_⟩
  by_cases h2 : 30 < (tl f).length
  · rw [if_pos (decide_eq_true (by omega))]
    rw [decide_eq_false (show ¬ (tl f).length ≤ 30 by omega)] at q
    exact rt_here q
  rw [if_neg (by rw [decide_eq_false (by omega)]; exact Bool.false_ne_true)]
  rw [decide_eq_true (show (tl f).length ≤ 30 by omega)] at q
  have af : Asc f := fun c hc => by
    rw [← e] at hc
    unfold figs at hc
    split at hc
    · exact az c (List.mem_of_mem_drop hc)
    · exact az c hc
  rw [dEq_str az (by unfold Asc; rw [e0]; decide), e0]
  by_cases h3 : tl z = [45, 48]
  · rw [decide_eq_true h3] at q ⊢
    walk_at "tx"
    exact rt_here q
  rw [decide_eq_false h3] at q ⊢
  unfold B_is_whole_word_r3
  walk_at "tx"
  refine ⟨_, rfl, trivial, ?_⟩
  refine for_idx (fun k ρ O' => ((tl f).take k).all digitB = true ∧ O' = O ∧ ρ = [none, some (.str f), none]) ?_ ?_ ⟨rfl, rfl, rfl⟩
  · rintro k hk ρ O' E' ⟨ha, rfl, rfl⟩ hnx hct hrt hbk
    rw [signs_len] at hk
    rw [signs_at hk]
    refine ⟨_, rfl, ?_⟩
    unfold B_is_whole_word_b1
    walk_at "tx"
    refine ⟨_, rfl, ?_⟩
    rw [figures_mem]
    cases e : digitB (tl f)[k] with
    | true => exact hnx _ _ _ (Ow.le.refl _) trivial ⟨by rw [all_take hk, ha, e]; rfl, rfl, rfl⟩
    | false =>
      rw [hrt]
      rw [all_false hk e] at q
      exact rt_here (by simpa using q)
  · rintro ρ O' ⟨ha, rfl, rfl⟩
    rw [signs_len, List.take_length] at ha
    rw [ha] at q
    unfold B_is_whole_word_r2
    walk_at "tx"
    rw [len_tl]
    refine ⟨hs, ?_⟩
    have hi : (((tl f).length : Int) == 1) = decide ((tl f).length = 1) := by
      rw [Bool.eq_iff_iff, decide_eq_true_eq, beq_iff_eq]
      omega
    rw [hi]
    by_cases h4 : (tl f).length = 1
    · rw [decide_eq_true h4] at q ⊢
      exact rt_here (by simpa using q)
    · rw [decide_eq_false h4] at q ⊢
      rw [if_neg Bool.false_ne_true]
      refine ⟨hs, (tl f)[0]'(by omega), ?_, ?_⟩
      · unfold atI ixN
        rw [if_pos (by decide), if_pos (by show (0 : Int) < (f.cps.toList.length : Int); have : f.cps.toList.length = (tl f).length := rfl; omega)]
        show f.cps.toList[0]? = _
        exact List.getElem?_eq_getElem (by show 0 < (tl f).length; omega)
      · rw [dNe_str (fun c hc => by rw [tl_mk] at hc; rw [List.mem_singleton.mp hc]; exact af _ (List.getElem_mem _)) (by unfold Asc; rw [e1]; decide), e1, tl_mk]
        have : decide ([(tl f)[0]'(by omega)] = [48]) = decide ((tl f).head? = some 48) := by
          rw [List.head?_eq_getElem?, List.getElem?_eq_getElem (by omega)]
          simp
        rw [this]
        exact rt_here (by simpa using q)
theorem hb_is_whole_word : ∀ ds O Q, sp_is_whole_word ds O Q → B_is_whole_word (rtEnds Q) (startD 3 ds) O := by
  rintro ds O Q ⟨z, rfl, hz, az, q⟩
  have hs : z.length ≤ sizeLine := Nat.le_trans hz line100000
  unfold B_is_whole_word
  walk_at "tx"
  rw [starts_minus]
  by_cases h : (tl z).head? = some 45
  · rw [decide_eq_true h]
    walk_at "tx"
    refine ⟨hs, ?_⟩
    exact whole_end az hz (by rw [len_tl, tl_cut1, List.length_drop]; rw [len_tl] at hz; omega) (by rw [tl_cut1]; unfold figs; rw [if_pos h]) q
  · rw [decide_eq_false h]
    walk_at "tx"
    exact whole_end az hz hz (by unfold figs; rw [if_neg h]) q
theorem digits_lt : ∀ (n : Nat) (cs : List Nat), cs.length = n → NumText.AllDigits cs → NumText.digitsVal cs < 10 ^ n
  | 0, cs, h, _ => by
    have : cs = [] := List.eq_nil_of_length_eq_zero h
    subst this
    decide
  | n + 1, cs, h, ha => by
    rcases List.eq_nil_or_concat cs with rfl | ⟨l, c, rfl⟩
    · simp at h
    · simp only [List.concat_eq_append] at *
      rw [NumText.digitsVal_snoc]
      have hl : l.length = n := by simpa using h
      have := digits_lt n l hl fun x hx => ha x (by simp [hx])
      have hc := ha c (by simp)
      rw [Nat.pow_succ]
      omega
theorem wholeW_num {z : Str} (h : wholeW z = true) : ∃ n : Int, intText? z = some n ∧ n.natAbs < 10 ^ 30 ∧ (tl z).length ≤ 31 := by
  unfold wholeW at h
  simp only [Bool.and_eq_true, decide_eq_true_eq] at h
  obtain ⟨⟨⟨⟨h1, h2⟩, _⟩, h4⟩, _⟩ := h
  have ad : NumText.AllDigits (figs z) := fun c hc => by
    have := List.all_eq_true.mp h4 c hc
    unfold digitB at this
    simp only [Bool.and_eq_true, decide_eq_true_eq] at this
    exact this
  have lt := digits_lt _ (figs z) rfl ad
  have le : 10 ^ (figs z).length ≤ 10 ^ 30 := Nat.pow_le_pow_right (by decide) h2
  unfold figs at h1 h2 ad lt le
  split at h1
  · rename_i hd
    rw [if_pos hd] at h2 ad lt le
    obtain ⟨cs, e⟩ : ∃ cs, tl z = 45 :: cs := by
      cases e : tl z with
      | nil => rw [e] at hd; simp at hd
      | cons a l => rw [e] at hd; simp at hd; exact ⟨l, by rw [hd]⟩
    have e2 : (tl z).drop 1 = cs := by rw [e]; rfl
    rw [e2] at h1 h2 ad lt le
    refine ⟨_, intText_neg (x := z) (cs := cs) e ad (by intro z0; rw [z0] at h1; simp at h1) (by rw [len_tl, e]; simp; omega), ?_, by rw [e]; simp; omega⟩
    rw [Int.natAbs_neg, Int.natAbs_natCast]
    omega
  · rename_i hd
    rw [if_neg hd] at h2 ad lt le
    refine ⟨_, intText_digits (x := z) ad (by intro z0; have : tl z = [] := z0; rw [this] at h1; simp at h1) (by rw [len_tl]; omega), ?_, by omega⟩
    rw [Int.natAbs_natCast]
    show NumText.digitsVal (tl z) < _
    omega
theorem wholeW_int {z : Str} (h : wholeW z = true) : intText? z = some (intW z) ∧ Sz 100 (intW z) ∧ z.length ≤ 640 := by
  obtain ⟨n, h1, h2, h3⟩ := wholeW_num h
  have e : intW z = n := by unfold intW; rw [h1]; rfl
  rw [e]
  exact ⟨h1, Nat.lt_of_lt_of_le h2 (by decide), by rw [len_tl]; omega⟩
theorem split_mem {z y p : Str} (hp : p ∈ Txt.split z y) : ∀ c ∈ tl p, c ∈ tl z := by
  have e := congrArg tl (StrLaws.join_split z y)
  rw [join_eq, tl_join] at e
  intro c hc
  rw [← e]
  generalize Txt.split z y = l at hp
  cases l with
  | nil => cases hp
  | cons x l =>
    rw [List.map_cons, joinL_flat]
    rcases List.mem_cons.mp hp with rfl | h
    · exact List.mem_append_left _ hc
    · refine List.mem_append_right _ (List.mem_flatten.mpr ⟨tl y ++ tl p, List.mem_map.mpr ⟨tl p, List.mem_map.mpr ⟨p, h, rfl⟩, rfl⟩, List.mem_append_right _ hc⟩)
theorem le_sum_mem {x : Nat} : ∀ {l : List Nat}, x ∈ l → x ≤ l.sum
  | a :: l, h => by
    rw [List.sum_cons]
    rcases List.mem_cons.mp h with rfl | h
    · omega
    · have := le_sum_mem h
      omega
theorem joinL_len {c : List Nat} {l : List (List Nat)} {p : List Nat} (hp : p ∈ l) : p.length ≤ (joinL c l).length := by
  cases l with
  | nil => cases hp
  | cons x l =>
    rw [joinL_flat, List.length_append]
    rcases List.mem_cons.mp hp with rfl | h
    · omega
    · have : p.length ≤ ((l.map fun p => c ++ p).flatten).length := by
        rw [List.length_flatten]
        have : (c ++ p).length ∈ ((l.map fun p => c ++ p).map List.length) := List.mem_map.mpr ⟨c ++ p, List.mem_map.mpr ⟨p, h, rfl⟩, rfl⟩
        have := le_sum_mem this
        rw [List.length_append] at this
        omega
      omega
theorem split_len {z y p : Str} (hp : p ∈ Txt.split z y) : p.length ≤ z.length := by
  have e := congrArg tl (StrLaws.join_split z y)
  rw [join_eq, tl_join] at e
  rw [len_tl, len_tl, ← e]
  exact joinL_len (List.mem_map.mpr ⟨p, hp, rfl⟩)
theorem split_count {z y : Str} : (Txt.split z y).length ≤ z.length + 2 := by
  unfold Txt.split
  split
  · simp
  · split
    · simp
    · rw [length_partsBetween]
      have := StrLaws.occ_length_le z y 0 z.length (z.length + 1)
      omega
theorem wholes_of {l : List Str} (h : l.all wholeW = true) {z : Str} (hz : z ∈ l) : wholeW z = true := List.all_eq_true.mp h z hz
def optR : Option Rat → D
  | none => .non
  | some q => rat q
theorem eqv_pair {q : Rat} {a b : Int} : eqv (rat q) (.tup [.int a, .int b]) = (decide (q.num = a ∧ (q.den : Int) = b)) := by
  unfold rat
  simp only [eqv, eqvs, Bool.and_true]
  rw [Bool.eq_iff_iff, Bool.and_eq_true, beq_iff_eq, beq_iff_eq, decide_eq_true_eq]
theorem dNe_pair {q : Rat} {a b : Int} {O : Ow} {Q : DQ} : dNe (rat q) (.tup [.int a, .int b]) O Q = Q (.bl (!decide (q.num = a ∧ (q.den : Int) = b))) O := by
  simp only [dNe, vw_rat, okE_rat, true_and]
  rw [show vw O (.tup [.int a, .int b]) = .tup [.int a, .int b] from rfl, eqv_pair]
  have : okE 60 (.tup [.int a, .int b]) = true := rfl
  simp [this]
def sp_read_ratio : DL := fun ds O Q => ∃ z : Str, ds = [.str z] ∧ z.length ≤ 90000 ∧ Asc z ∧ Q (optR (rdRat z)) O
theorem ln_read_ratio : ∀ ds O Q, sp_read_ratio ds O Q → ds.length = 1 := by rintro ds O Q ⟨a, rfl, _⟩; rfl
def B_read_ratio_b1 : DS' :=
  (dIfS (dNot (dTest (dCall sp_is_whole_word (dCons (dVar 2) dNil)))) (dRet (dC .non)) dNext)
def B_read_ratio_r2 : DS' :=
  (dThen (dAsg (dTup (dCons (dBu dIntS (dCons (dOp dIx (dVar 1) (dC (.int 0))) dNil)) (dCons (dBu dIntS (dCons (dOp dIx (dVar 1) (dC (.int 1))) dNil)) dNil))) (tgN 3))
  (dThen (dIfS (dTest (dOp dNe (dCall sp_ratio (dCons (dOp dIx (dVar 3) (dC (.int 0))) (dCons (dOp dIx (dVar 3) (dC (.int 1))) dNil))) (dVar 3))) (dRet (dC .non)) dNext)
  (dRet (dVar 3))))
def B_read_ratio_r3 : DS' :=
  (dThen (dIfS (dOr (dTest (dOp dGt (dBu dLen (dCons (dVar 1) dNil)) (dC (.int 2)))) (dTest (dOp dLt (dBu dIntS (dCons (dOp dIx (dVar 1) (dC (.int 1))) dNil)) (dC (.int 2))))) (dRet (dC .non)) dNext)
  B_read_ratio_r2)
def B_read_ratio_r4 : DS' :=
  (dThen (dIfS (dTest (dOp dEq (dBu dLen (dCons (dVar 1) dNil)) (dC (.int 1)))) (dRet (dTup (dCons (dBu dIntS (dCons (dVar 0) dNil)) (dCons (dC (.int 1)) dNil)))) dNext)
  B_read_ratio_r3)
def B_read_ratio : DS' :=
  (dThen (dAsg (dMt "str" (dVar 0) (dCons (dC (.str (Str.ofString "/"))) dNil) (dSplit mkF)) (tgN 1))
  (dThen (dFor (dSeq (dVar 1)) (tgN 2)
  B_read_ratio_b1 [2])
  B_read_ratio_r4))
theorem strs_get {ys : List Str} {k : Nat} (hk : k < ys.length) : (strsD ys)[k]'(by simpa [strsD] using hk) = .str ys[k] := by simp [strsD]
theorem strs_len {ys : List Str} : (strsD ys).length = ys.length := by simp [strsD]
theorem hb_read_ratio : ∀ ds O Q, sp_read_ratio ds O Q → B_read_ratio (rtEnds Q) (startD 4 ds) O := by
  rintro ds O Q ⟨z, rfl, hz, az, q⟩
  have es : Str.ofString "/" = ⟨#[47]⟩ := by rfl
  unfold B_read_ratio
  walk_at "tx"
  rw [es]
  refine ⟨rfl, by have := line100000; omega, ?_⟩
  unfold rdRat at q
  have pl : ∀ p ∈ Txt.split z ⟨#[47]⟩, p.length ≤ 100000 ∧ Asc p := fun p hp => ⟨by have := split_len hp; omega, fun c hc => az c (split_mem hp c hc)⟩
  have cnt := split_count (z := z) (y := ⟨#[47]⟩)
  have jn := StrLaws.join_split z ⟨#[47]⟩
  rw [join_eq] at jn
  have nn : Txt.split z ⟨#[47]⟩ ≠ [] := split_ne
  generalize Txt.split z ⟨#[47]⟩ = ps at *
  walk_at "tx"
  refine ⟨rfl, ?_⟩
  refine for_idx (fun k ρ O' => k ≤ ps.length ∧ (ps.take k).all wholeW = true ∧ O' = O ∧ ρ = [some (.str z), some (.lst (strsD ps)), none, none]) ?_ ?_ ⟨Nat.zero_le _, rfl, rfl, rfl⟩
  · rintro k hk ρ O' E' ⟨_, ha, rfl, rfl⟩ hnx hct hrt hbk
    rw [strs_len] at hk
    rw [strs_get hk]
    refine ⟨_, rfl, ?_⟩
    unfold B_read_ratio_b1
    walk_at "tx"
    refine ⟨_, rfl, (pl _ (List.getElem_mem hk)).1, (pl _ (List.getElem_mem hk)).2, ?_⟩
    cases e : wholeW ps[k] with
    | true =>
      walk_at "tx"
      refine hnx _ _ _ (Ow.le.refl _) rfl ⟨hk, ?_, rfl, rfl⟩
      rw [List.take_succ_eq_append_getElem hk, List.all_append, ha]; simp [e]
    | false =>
      walk_at "tx"
      rw [hrt]
      have : ps.all wholeW = false := by
        rw [List.all_eq_false]
        exact ⟨ps[k], List.getElem_mem hk, by simp [e]⟩
      rw [this] at q
      exact rt_here q
  · rintro ρ O ⟨_, ha, rfl, rfl⟩
    rw [strs_len, List.take_length] at ha
    rw [if_pos ha] at q
    unfold B_read_ratio_r4
    walk_at "tx"
    rw [strs_len]
    match ps, jn, ha, q, nn with
    | [a], jn, ha, q, _ =>
      have ea : z = a := by rw [← jn]; exact tl_inj (by rw [tl_join]; rfl)
      subst ea
      obtain ⟨n1, n2, n3⟩ := wholeW_int (wholes_of ha (List.mem_singleton.mpr rfl))
      show _
      walk_at "tx"
      refine ⟨_, n1, n3, ?_⟩
      exact rt_here q
    | [], _, _, _, nn => exact absurd rfl nn
    | [a, b], jn, ha, q, _ =>
      obtain ⟨m1, m2, m3⟩ := wholeW_int (wholes_of ha (List.mem_cons_self ..))
      obtain ⟨n1, n2, n3⟩ := wholeW_int (wholes_of ha (show b ∈ [a, b] by simp))
      show _
      rw [show (([a, b].length : Nat) : Int) = 2 from rfl]
      try simp only [Int.reduceBEq]
      walk_at "tx"
      unfold B_read_ratio_r3
      walk_at "tx"
      refine ⟨.str b, rfl, _, n1, n3, ?_⟩
      have q : Q (optR (if intW b < 2 then none else if (Rat.divInt (intW a) (intW b)).num = intW a ∧ ((Rat.divInt (intW a) (intW b)).den : Int) = intW b then some (Rat.divInt (intW a) (intW b)) else none)) O := q
      by_cases hb : intW b < 2
      · rw [if_pos hb] at q
        rw [decide_eq_true hb]
        walk_at "tx"
        exact rt_here q
      · rw [if_neg hb] at q
        rw [decide_eq_false hb]
        walk_at "tx"
        unfold B_read_ratio_r2
        walk_at "tx"
        refine ⟨.str a, rfl, _, m1, m3, .str b, rfl, _, n1, n3, ?_⟩
        refine ratio_ap (by omega) (m2.mono (by decide)) (n2.mono (by decide)) ?_
        rw [dNe_pair]
        by_cases hl : (Rat.divInt (intW a) (intW b)).num = intW a ∧ ((Rat.divInt (intW a) (intW b)).den : Int) = intW b
        · rw [if_pos hl] at q
          rw [decide_eq_true hl]
          walk_at "tx"
          have e : D.tup [.int (intW a), .int (intW b)] = rat (Rat.divInt (intW a) (intW b)) := by unfold rat; rw [hl.1, hl.2]
          rw [e]
          exact rt_here q
        · rw [if_neg hl] at q
          rw [decide_eq_false hl]
          walk_at "tx"
          exact rt_here q
    | a :: b :: c :: l, jn, ha, q, _ =>
      have e1 : (((a :: b :: c :: l).length : Int) == 1) = false := by
        rw [beq_eq_false_iff_ne]; simp; omega
      rw [e1]
      walk_at "tx"
      unfold B_read_ratio_r3
      walk_at "tx"
      rw [strs_len, decide_eq_true (show (2 : Int) < ((a :: b :: c :: l).length : Int) by simp; omega)]
      walk_at "tx"
      exact rt_here q
def showR (q : Rat) : List Nat := if q.den = 1 then showI q.num else showI q.num ++ 47 :: showI (q.den : Int)
def showS (q : Rat) : Str := ⟨(showR q).toArray⟩
theorem tl_show {q : Rat} : tl (showS q) = showR q := tl_mk
theorem sz_log {i : Int} (h : Sz 1900 i) : i.natAbs.log2 < 1920 := by
  have h : i.natAbs < 2 ^ 1900 := h
  by_cases h0 : i.natAbs = 0
  · rw [h0]; decide
  · have := (Nat.log2_lt h0).mpr h
    omega
theorem showI_len {i : Int} {k : Nat} (hk : 1 ≤ k) (h : i.natAbs < 10 ^ k) : (showI i).length ≤ k + 1 := by
  have := showN_len hk h
  unfold showI
  split
  · simp; omega
  · omega
theorem pow_700 : (2 : Nat) ^ 1900 ≤ 10 ^ 700 := by
  have : (2 : Nat) ^ 1900 ≤ 2 ^ 2100 := Nat.pow_le_pow_right (by decide) (by decide)
  have e : (2 : Nat) ^ 2100 = (2 ^ 3) ^ 700 := by rw [← Nat.pow_mul]
  rw [e] at this
  exact Nat.le_trans this (Nat.pow_le_pow_left (by decide) 700)
theorem str_len {i : Int} (h : Sz 1900 i) : (Str.ofString (toString i)).length ≤ 701 := by
  rw [len_tl, tl_str]
  have h : i.natAbs < 2 ^ 1900 := h
  exact showI_len (by decide) (Nat.lt_of_lt_of_le h pow_700)
theorem Sz.lit {n : Nat} {x : Int} (h : x.natAbs < 2 ^ n) : Sz n x := h
theorem fmod_range {x y : Int} (h : 0 < y) : 0 ≤ x.fmod y ∧ x.fmod y < y := by
  rw [Int.fmod_eq_emod_of_nonneg x (by omega)]
  exact ⟨Int.emod_nonneg x (by omega), Int.emod_lt_of_pos x h⟩
theorem Sz.lt {n : Nat} {x b : Int} (h0 : 0 ≤ x) (h : x < b) (hb : b ≤ 2 ^ n) : Sz n x := by
  unfold Sz
  have : ((x.natAbs : Nat) : Int) < ((2 ^ n : Nat) : Int) := by
    rw [Int.natCast_pow]
    have e : ((2 : Nat) : Int) = 2 := rfl
    rw [e]; omega
  omega
def sp_l_cell : DL := fun ds O Q => ∃ (ns : List Int) (k : Int), ds = [.lst (ns.map .int), .int k] ∧ ns.length ≤ 63 ∧ (∀ z ∈ ns, Sz 1048576 z) ∧ 0 ≤ k ∧ k ≤ 1000000 ∧ ∀ c, Sz 1048576 c → Q (.int c) O
theorem ln_l_cell : ∀ ds O Q, sp_l_cell ds O Q → ds.length = 2 := by rintro ds O Q ⟨a, b, rfl, _⟩; rfl
theorem cell_ap {ns : List Int} {k : Int} {O : Ow} {Q : DQ} (h : ns.length ≤ 63) (hz : ∀ z ∈ ns, Sz 1048576 z) (h0 : 0 ≤ k) (h1 : k ≤ 1000000) (q : ∀ c, Sz 1048576 c → Q (.int c) O) : sp_l_cell [.lst (ns.map .int), .int k] O Q := ⟨ns, k, rfl, h, hz, h0, h1, q⟩
theorem at_ints {ns : List Int} {i : Int} (h0 : 0 ≤ i) (h : i < ns.length) : ∃ z, z ∈ ns ∧ atI (ns.map D.int) i = some (.int z) := by
  obtain ⟨j, rfl⟩ := Int.eq_ofNat_of_zero_le h0
  have hi : j < ns.length := by omega
  exact ⟨ns[j], List.getElem_mem hi, atI_nat (by rw [List.getElem?_map, List.getElem?_eq_getElem hi]; rfl)⟩
def B_l_cell : DS' :=
  (dThen (dIfS (dTest (dOp dLt (dVar 1) (dBu dLen (dCons (dVar 0) dNil)))) (dRet (dOp dIx (dVar 0) (dVar 1))) dNext)
  (dThen (dAsg (dOp dMul (dVar 1) (dC (.int 7919))) (tgN 2))
  (dThen (dIfS (dTest (dOp dGt (dBu dLen (dCons (dVar 0) dNil)) (dC (.int 0)))) (dAsg (dOp (dAdd mkF) (dVar 2) (dOp dMod (dOp dIx (dVar 0) (dOp dMod (dVar 1) (dBu dLen (dCons (dVar 0) dNil)))) (dC (.int 65537)))) (tgN 2)) dNext)
  (dThen (dAsg (dOp dMod (dOp dMul (dVar 2) (dC (.int 48271))) (dC (.int 65537))) (tgN 3))
  (dRet (dOp dMod (dOp dFdiv (dOp dMul (dVar 3) (dOp (dAdd mkF) (dOp (dAdd mkF) (dVar 3) (dOp dMul (dC (.int 2)) (dVar 1))) (dC (.int 1)))) (dC (.int 7))) (dC (.int 65521))))))))
theorem cell_end {k s : Int} {O : Ow} {Q : DQ} (hk0 : 0 ≤ k) (hk : k ≤ 1000000) (hs : 0 ≤ s) (hs2 : s ≤ 10000000000) (q : ∀ c, Sz 1048576 c → Q (.int c) O) :
    Mok s 48271 ∧ (65537 : Int) ≠ 0 ∧ Mok 2 k ∧ Mok ((s * 48271).fmod 65537) ((s * 48271).fmod 65537 + 2 * k + 1) ∧ Dok ((s * 48271).fmod 65537 * ((s * 48271).fmod 65537 + 2 * k + 1)) 7 ∧ (65521 : Int) ≠ 0 ∧
      (rtEnds Q).rt (.int ((((s * 48271).fmod 65537 * ((s * 48271).fmod 65537 + 2 * k + 1)).fdiv 7).fmod 65521)) O := by
  obtain ⟨h1, h2⟩ := fmod_range (x := s * 48271) (y := 65537) (by decide)
  refine ⟨Mok.of (n := 64) (m := 64) (Sz.lt hs (b := 10000000001) (by omega) (by decide)) (by decide) (by decide), by decide, Mok.of (n := 2) (m := 64) (by decide) (Sz.lt hk0 (b := 1000001) (by omega) (by decide)) (by decide),
    Mok.of (n := 64) (m := 64) (Sz.lt h1 h2 (by decide)) (Sz.lt (b := 10000000) (by omega) (by omega) (by decide)) (by decide), Dok.small (by decide) (by decide), by decide, rt_here (q _ ?_)⟩
  obtain ⟨h3, h4⟩ := fmod_range (x := ((s * 48271).fmod 65537 * ((s * 48271).fmod 65537 + 2 * k + 1)).fdiv 7) (y := 65521) (by decide)
  exact (Sz.lt (n := 64) h3 h4 (by decide)).mono (by decide)
theorem hb_l_cell : ∀ ds O Q, sp_l_cell ds O Q → B_l_cell (rtEnds Q) (startD 4 ds) O := by
  rintro ds O Q ⟨ns, k, rfl, hl, hz, h0, h1, q⟩
  unfold B_l_cell
  walk_at "ds"
  rw [List.length_map]
  split
  · rename_i h
    have h := of_decide_eq_true h
    obtain ⟨z, hm, e⟩ := at_ints h0 h
    exact ⟨_, e, rt_here (q z (hz z hm))⟩
  · refine ⟨Mok.of (n := 64) (m := 64) (Sz.lt h0 (b := 1000001) (by omega) (by decide)) (by decide) (by decide), ?_⟩
    split
    · rename_i h
      have h := of_decide_eq_true h
      obtain ⟨a1, a2⟩ := fmod_range (x := k) h
      obtain ⟨z, hm, e⟩ := at_ints (ns := ns) a1 a2
      refine ⟨by omega, _, e, ?_⟩
      obtain ⟨b1, b2⟩ := fmod_range (x := z) (y := 65537) (by decide)
      exact ⟨by decide, cell_end h0 h1 (by omega) (by omega) q⟩
    · exact cell_end h0 h1 (by omega) (by omega) q
def sp_l_whole : DL := fun ds O Q => ∃ i : Int, ds = [.int i] ∧ Q (.bl true) O
theorem ln_l_whole : ∀ ds O Q, sp_l_whole ds O Q → ds.length = 1 := by rintro ds O Q ⟨a, rfl, _⟩; rfl
def B_l_whole : DS' :=
  (dRet (dAndV (dBu dIsi (dCons (dVar 0) (dCons (dC (.ty "int")) dNil))) (dNotV (dBu dIsi (dCons (dVar 0) (dCons (dC (.ty "bool")) dNil))))))
theorem hb_l_whole : ∀ ds O Q, sp_l_whole ds O Q → B_l_whole (rtEnds Q) (startD 1 ds) O := by
  rintro ds O Q ⟨i, rfl, q⟩
  unfold B_l_whole
  walk_at "ds"
  exact rt_here q
def bagD (a m : Int) : OO := .lst [.int a, .int m]
def okB (n : Nat) (a m : Int) : Prop := Sz 1048578 a ∧ 0 ≤ m ∧ m ≤ n
theorem okB.mono {n k : Nat} {a m : Int} (h : okB n a m) (l : n ≤ k) : okB k a m := ⟨h.1, h.2.1, by have := h.2.2; omega⟩
def sp_l_take : DL := fun ds O Q => ∃ (p : Addr) (a m k : Int) (n : Nat), ds = [.ref p, .int k] ∧ O p = some (bagD a m) ∧ okB n a m ∧ n < 1000000000 ∧ 0 < k ∧ Sz 8000 k ∧
  ∀ r a' m', 0 ≤ r → r < k → okB (n + 1) a' m' → Q (.int r) (O.set p (bagD a' m'))
theorem ln_l_take : ∀ ds O Q, sp_l_take ds O Q → ds.length = 2 := by rintro ds O Q ⟨p, a, m, k, n, rfl, _⟩; rfl
theorem take_ap {p : Addr} {a m k : Int} {n : Nat} {O : Ow} {Q : DQ} (h : O p = some (bagD a m)) (hb : okB n a m) (hn : n < 1000000000) (hk : 0 < k) (hz : Sz 8000 k)
    (q : ∀ r a' m', 0 ≤ r → r < k → okB (n + 1) a' m' → Q (.int r) (O.set p (bagD a' m'))) : sp_l_take [.ref p, .int k] O Q := ⟨p, a, m, k, n, rfl, h, hb, hn, hk, hz, q⟩
def B_l_take : DS' :=
  (dThen (dIfS (dTest (dOp dEq (dOp dIx (dVar 0) (dC (.int 1))) (dC (.int 0)))) (dThen (dAsg (dOp dMod (dOp dIx (dVar 0) (dC (.int 0))) (dVar 1)) (tgN 2))
  (dThen (dSetI (dOp dFdiv (dOp dIx (dVar 0) (dC (.int 0))) (dVar 1)) (dVar 0) (dC (.int 0)))
  (dRet (dVar 2)))) dNext)
  (dThen (dSetI (dOp dMod (dOp (dAdd mkF) (dOp (dAdd mkF) (dOp dMul (dOp dIx (dVar 0) (dC (.int 0))) (dC (.int 48271))) (dOp dMul (dOp dMul (dC (.int 7919)) (dOp dIx (dVar 0) (dC (.int 1)))) (dOp dIx (dVar 0) (dC (.int 1))))) (dC (.int 17))) (dC (.int 2147483647))) (dVar 0) (dC (.int 0)))
  (dThen (dSetI (dOp (dAdd mkF) (dOp dIx (dVar 0) (dC (.int 1))) (dC (.int 1))) (dVar 0) (dC (.int 1)))
  (dRet (dOp dMod (dOp dMod (dOp dMul (dOp dIx (dVar 0) (dC (.int 0))) (dC (.int 69621))) (dC (.int 2147483629))) (dVar 1))))))
theorem hb_l_take : ∀ ds O Q, sp_l_take ds O Q → B_l_take (rtEnds Q) (startD 3 ds) O := by
  rintro ds O Q ⟨p, a, m, k, n, rfl, h, ⟨ha, hm0, hm⟩, hn, hk, hz, q⟩
  unfold B_l_take
  unfold bagD at h
  have hl := lv_ref h
  walk_at "ds"
  rw [hl]
  walk_at "ds"
  rw [hl]
  walk_at "ds"
  rw [h]
  walk_at "ds"
  split
  · rename_i e
    have e : m = 0 := beq_iff_eq.mp e
    subst e
    refine ⟨by omega, Dok.sz (by omega) (hz.mono (by decide)), ?_⟩
    obtain ⟨h1, h2⟩ := fmod_range (x := a) hk
    refine rt_here (q _ _ _ h1 h2 ⟨?_, by decide, by omega⟩)
    have e2 : (a.fdiv k).natAbs ≤ a.natAbs := by
      rw [Int.fdiv_eq_ediv_of_nonneg a (by omega)]
      exact Int.natAbs_ediv_le_natAbs a k
    unfold Sz at *
    omega
  · rename_i e
    have hm9 : Sz 64 m := Sz.lt hm0 (b := 10000000000) (by omega) (by decide)
    refine ⟨.of ha (m := 64) (by decide) (by decide), .of (n := 64) (m := 64) (by decide) hm9 (by decide), .of (n := 100) (m := 64) (((Sz.lit (n := 20) (x := 7919) (by decide)).mul hm9).mono (by decide)) hm9 (by decide), by decide, ?_⟩
    obtain ⟨h1, h2⟩ := fmod_range (x := a * 48271 + 7919 * m * m + 17) (y := 2147483647) (by decide)
    refine ⟨.of (n := 64) (m := 64) (Sz.lt h1 h2 (by decide)) (by decide) (by decide), by decide, by omega, ?_⟩
    obtain ⟨h3, h4⟩ := fmod_range (x := ((a * 48271 + 7919 * m * m + 17).fmod 2147483647 * 69621).fmod 2147483629) hk
    exact rt_here (q _ _ _ h3 h4 ⟨(Sz.lt (n := 64) h1 h2 (by decide)).mono (by decide), by omega, by omega⟩)
local macro_rules | `(tactic| walk_at "take") => `(tactic| (
  refine take_ap (by first | assumption | exact Ow.set_same) (by assumption) (by omega) (by first | omega | decide) (by first | decide | assumption) ?_
  intro _ _ _ _ _ _
  walk_at "ds"))
def spLaw : DL := fun ds O Q => ∃ ns : List Int, ds = [.lst (ns.map .int)] ∧ ns.length ≤ 63 ∧ (∀ z ∈ ns, Sz 1048576 z) ∧ ∀ O', Q (.bl true) O'
theorem lnLaw : ∀ ds O Q, spLaw ds O Q → ds.length = 1 := by rintro ds O Q ⟨a, rfl, _⟩; rfl
theorem Reps.of_ints {K : PySem.W.Frag} {G : Hp} : ∀ ns : List Int, Reps K G (ns.map D.int) (ns.map V.int)
  | [] => .nil
  | n :: ns => .cons (.int n) (Reps.of_ints ns)
theorem bits_sz {z : Int} (h : Builtin.Int.intBits z ≤ 1048576) : Sz 1048576 z := by
  unfold Builtin.Int.intBits at h
  unfold Sz
  by_cases h0 : z.natAbs = 0
  · rw [h0]; exact Nat.two_pow_pos _
  · have hz : ¬ (z.natAbs = 0) := h0
    refine (Nat.log2_lt h0).mp ?_
    split at h
    · rename_i e
      exact absurd (by simpa using e) h0
    · omega
theorem law_start {K : PySem.W.Frag} {H : Hp} {a : Addr} {ns : List Int} (hl : ns.length ≤ 63) (hb : ∀ z ∈ ns, Builtin.Int.intBits z ≤ 1048576) (hS : SqL K H a (ns.map V.int)) :
    Prom K spLaw [.ref a] H (fun v _ => v = .bl true) fun _ _ _ => False := by
  refine ⟨[.lst (ns.map .int)], ⟨H, fun _ => none, H⟩, fun d _ => d = .bl true, rfl, ⟨Same.refl _, fun p o e => by cases e⟩, .cons (Rep.lst hS (Reps.of_ints ns)) .nil, fun d v w' _ _ r e => ?_, ns, rfl, hl, fun z hz => bits_sz (hb z hz), fun _ => rfl⟩
  subst e
  exact r.bl_of
def rowD (r : List Rat) : D := .tup (r.map rat)
def SzL (n : Nat) (r : List Rat) : Prop := ∀ q ∈ r, SzR n q
theorem SzL.mono {n m : Nat} {r : List Rat} (h : SzL n r) (l : n ≤ m) : SzL m r := fun q hq => (h q hq).mono l
theorem dLen_row {r : List Rat} {O : Ow} {Q : DQ} : dLen [rowD r] O Q = Q (.int r.length) O := by
  unfold rowD
  rw [dLen_tup, List.length_map]
def addR (a b : List Rat) : List Rat := (a.zip b).map fun p => p.1 + p.2
def mulR (a : List Rat) (b : Rat) : List Rat := a.map fun x => x * b
theorem mem_zip {α β : Type} {a : List α} {b : List β} {p : α × β} (h : p ∈ a.zip b) : p.1 ∈ a ∧ p.2 ∈ b := by
  obtain ⟨x, y⟩ := p
  exact List.of_mem_zip h
theorem addR_sz {n m : Nat} {a b : List Rat} (ha : SzL n a) (hb : SzL m b) : SzL (n + m + 1) (addR a b) := by
  intro q hq
  unfold addR at hq
  obtain ⟨p, hp, rfl⟩ := List.mem_map.mp hq
  exact (ha _ (mem_zip hp).1).add (hb _ (mem_zip hp).2)
theorem mulR_sz {n m : Nat} {a : List Rat} {b : Rat} (ha : SzL n a) (hb : SzR m b) : SzL (n + m) (mulR a b) := by
  intro q hq
  unfold mulR at hq
  obtain ⟨p, hp, rfl⟩ := List.mem_map.mp hq
  exact (ha _ hp).mul hb
def Small (q : Rat) : Prop := q.num.natAbs ≤ 1000000 ∧ q.den ≤ 3
theorem Small.sz {q : Rat} (h : Small q) : SzR 20 q := by
  unfold Small at h
  unfold SzR Sz
  have : (2 : Nat) ^ 20 = 1048576 := by decide
  omega
def SmallL (r : List Rat) : Prop := ∀ q ∈ r, Small q
theorem SmallL.sz {r : List Rat} (h : SmallL r) : SzL 20 r := fun q hq => (h q hq).sz
def IsRow (d : D) (l : List Rat) : Prop := d = rowD l ∨ d = .lst (l.map rat)
theorem IsRow.len {d : D} {l : List Rat} (h : IsRow d l) {O : Ow} {Q : DQ} (q : Q (.int l.length) O) : dLen [d] O Q := by
  rcases h with rfl | rfl
  · rw [dLen_row]; exact q
  · rw [dLen_lst, List.length_map]; exact q
theorem IsRow.row {l : List Rat} : IsRow (rowD l) l := .inl rfl
theorem IsRow.lst {l : List Rat} : IsRow (.lst (l.map rat)) l := .inr rfl
def sumR : List Rat → Rat
  | [] => 0
  | x :: l => x + sumR l
/-- every sum on the way stays small -/
def SumOk : Rat → List Rat → Prop
  | _, [] => True
  | c, x :: l => SzR 6000 c ∧ SzR 6000 x ∧ SumOk (c + x) l
theorem SumOk.of {n : Nat} : ∀ {l : List Rat} {c : Rat} {k : Nat}, SzR k c → SzL n l → k + l.length * (n + 1) ≤ 6000 → SumOk c l
  | [], _, _, _, _, _ => trivial
  | x :: l, c, k, hc, hl, h => by
    rw [List.length_cons, Nat.succ_mul] at h
    have hx := hl x List.mem_cons_self
    exact ⟨hc.mono (by omega), hx.mono (by omega), SumOk.of (k := k + n + 1) (hc.add hx) (fun q hq => hl q (List.mem_cons_of_mem _ hq)) (by omega)⟩
theorem sz_zero : SzR 1 0 := ⟨by decide, by decide⟩
structure Weights (c : Nat) (w : List Rat) : Prop where
  len : w.length = c
  sum : sumR w = 1
  share : ∃ (S : Nat) (ts : List Nat), 0 < S ∧ S ≤ 4 * c + 1 ∧ (∀ t ∈ ts, t ≤ 5) ∧ w = ts.map fun (t : Nat) => Rat.divInt (t : Int) (S : Int)
theorem Weights.sz {c : Nat} {w : List Rat} (h : Weights c w) (hc : c ≤ 12) : SzL 7 w := by
  obtain ⟨S, ts, h0, h1, h2, rfl⟩ := h.share
  intro q hq
  obtain ⟨t, ht, rfl⟩ := List.mem_map.mp hq
  have := h2 t ht
  exact .divInt (Sz.lit (by omega)) (Sz.lit (by omega)) (by omega)
theorem SzL.set {n : Nat} {r : List Rat} {k : Nat} {x : Rat} (h : SzL n r) (hx : SzR n x) : SzL n (r.set k x) := fun q hq => by
  rcases List.mem_or_eq_of_mem_set hq with h1 | h1
  · exact h q h1
  · rw [h1]; exact hx
theorem cutD_hi {l : List D} {k : Nat} (h : k ≤ l.length) : cutD l (some (k : Int)) none = l.drop k := by
  unfold cutD
  rw [HT.sIx_none, HT.sIx_nat, Nat.min_eq_left h]
  apply List.take_of_length_le
  rw [List.length_drop]
  omega
def natsD (l : List Nat) : List D := l.map fun (k : Nat) => .int (k : Int)
def evD : Option (List Nat) → D
  | none => .non
  | some l => .tup (natsD l)
def EvOk (c : Nat) (e : Option (List Nat)) : Prop := ∀ l, e = some l → ∃ p : Nat → Bool, l = (List.range c).filter p
theorem natsD_len {l : List Nat} : (natsD l).length = l.length := by simp [natsD]
structure Off where
  row : List Rat
  ask : Option Rat
  bid : Option Rat
  ev : Option (List Nat)
instance : Inhabited Off := ⟨⟨[], none, none, none⟩⟩
def optD : Option Rat → D
  | none => .non
  | some q => rat q
def offD (o : Off) : D := .tup [rowD o.row, optD o.ask, optD o.bid, evD o.ev]
theorem okE_row {n : Nat} {r : List Rat} : okE (n + 2) (rowD r) = true := by
  unfold rowD
  simp only [okE]
  exact okEs_map fun x _ => okE_rat
theorem okE_opt {n : Nat} {o : Option Rat} : okE (n + 1) (optD o) = true := by
  cases o with
  | none => exact okE_non
  | some q => exact okE_rat
theorem okE_ev {n : Nat} {e : Option (List Nat)} : okE (n + 1) (evD e) = true := by
  cases e with
  | none => exact okE_non
  | some l =>
    unfold evD natsD
    simp only [okE]
    exact okEs_map fun x _ => okE_int
theorem okE_off {n : Nat} {o : Off} : okE (n + 3) (offD o) = true := by
  unfold offD
  simp only [okE, okEs, okE_row, okE_opt, okE_ev, Bool.and_self]
def OptSz (n : Nat) (o : Option Rat) : Prop := ∀ q, o = some q → SzR n q
structure OffSz (n : Nat) (o : Off) : Prop where
  row : SzL n o.row
  ask : OptSz n o.ask
  bid : OptSz n o.bid
theorem OptSz.getD {n : Nat} {o : Option Rat} (h : OptSz n o) (hn : 1 ≤ n) : SzR n (o.getD 0) := by
  cases o with
  | none => exact sz_zero.mono hn
  | some q => exact h q rfl
def SmallO (o : Option Rat) : Prop := ∀ q, o = some q → Small q
structure OffOk (c : Nat) (o : Off) : Prop where
  len : o.row.length = c
  row : SmallL o.row
  ask : SmallO o.ask
  bid : SmallO o.bid
  ev : EvOk c o.ev
theorem OffOk.sz {c : Nat} {o : Off} (h : OffOk c o) : OffSz 20 o := ⟨h.row.sz, fun q hq => (h.ask q hq).sz, fun q hq => (h.bid q hq).sz⟩
theorem OffSz.mono {n m : Nat} {o : Off} (h : OffSz n o) (l : n ≤ m) : OffSz m o := ⟨h.row.mono l, fun q hq => (h.ask q hq).mono l, fun q hq => (h.bid q hq).mono l⟩
theorem qv_of_lv' {O : Ow} {d : D} {l : List D} (h : lv O d = some l) : qv O d = some l := by
  cases d <;> first | exact h | (simp [lv] at h)
theorem dIx_lv {O : Ow} {d e : D} {l : List D} {i : Int} {Q : DQ} (h : lv O d = some l) (hx : atI l i = some e) (q : Q e O) : dIx d (.int i) O Q := by
  have h2 := qv_of_lv' h
  cases d with
  | str z => simp [lv] at h
  | _ => exact ⟨l, h2, e, hx, q⟩
theorem mkA_here {l : List D} {O : Ow} {Q : DQ} (q : mkA l O Q) : mkA l O (rtEnds Q).rt := by
  rcases q with q | q
  · exact .inl fun p2 hp2 => rt_here (q p2 hp2)
  · exact .inr (rt_here q)
def ComeOk : List Rat → List (List Rat × Rat) → Prop
  | _, [] => True
  | acc, (r, m) :: l => SzL 6000 acc ∧ SzL 6000 r ∧ SzR 6000 m ∧ SzL 6000 (mulR r m) ∧ r.length ≤ 1000 ∧ ComeOk (addR acc (mulR r m)) l
theorem ComeOk.of {n m : Nat} : ∀ {l : List (List Rat × Rat)} {acc : List Rat} {k : Nat}, SzL k acc → (∀ p ∈ l, SzL n p.1 ∧ SzR m p.2 ∧ p.1.length ≤ 1000) → k + l.length * (n + m + 1) ≤ 6000 → ComeOk acc l
  | [], _, _, _, _, _ => trivial
  | (r, x) :: l, acc, k, ha, hl, h => by
    rw [List.length_cons, Nat.succ_mul] at h
    obtain ⟨h1, h2, h3⟩ := hl _ List.mem_cons_self
    have hm := mulR_sz h1 h2
    exact ⟨ha.mono (by omega), h1.mono (by omega), h2.mono (by omega), hm.mono (by omega), h3, ComeOk.of (k := k + (n + m) + 1) (addR_sz ha hm) (fun p hp => hl p (List.mem_cons_of_mem _ hp)) (by omega)⟩
theorem qv_of_lv {O : Ow} {d : D} {l : List D} (h : lv O d = some l) : qv O d = some l := by
  rw [qv_lv (l := l) fun m e => by subst e; simp [lv] at h]
  exact h
def rowO (p : Addr) (k : Int) : OO := .ins "Row" [("rest", .ref p), ("at", .int k)]
def Words (ws : List Str) : Prop := ∀ w ∈ ws, w.length ≤ 90000 ∧ Asc w
def sp_Row___init__ : DL := fun ds O Q => ∃ (r : Addr) (z : Str) (k : Int), ds = [.ref r, .str z, .int k] ∧ O r = some (.ins "Row" []) ∧ z.length ≤ 90000 ∧ ∀ p, O p = none → Q .non ((O.set p (.lst (strsD (Txt.split z ⟨#[32]⟩)))).set r (rowO p k))
theorem ln_Row___init__ : ∀ ds O Q, sp_Row___init__ ds O Q → ds.length = 3 := by rintro ds O Q ⟨a, b, c, rfl, _⟩; rfl
def sp_Row_refuse : DL := fun _ _ _ => False
theorem ln_Row_refuse : ∀ ds O Q, sp_Row_refuse ds O Q → ds.length = 1 := fun _ _ _ h => h.elim
def sp_Row_next_word : DL := fun ds O Q => ∃ (r p : Addr) (k : Int) (w : Str) (ws : List Str), ds = [.ref r] ∧ O r = some (rowO p k) ∧ O p = some (.lst (strsD (w :: ws))) ∧ Q (.str w) (O.set p (.lst (strsD ws)))
theorem ln_Row_next_word : ∀ ds O Q, sp_Row_next_word ds O Q → ds.length = 1 := by rintro ds O Q ⟨a, b, c, d, e, rfl, _⟩; rfl
def sp_Row_next_ratio : DL := fun ds O Q => ∃ (r p : Addr) (k : Int) (w : Str) (ws : List Str) (x : Rat), ds = [.ref r] ∧ O r = some (rowO p k) ∧ O p = some (.lst (strsD (w :: ws))) ∧ w.length ≤ 90000 ∧ Asc w ∧ rdRat w = some x ∧ Q (rat x) (O.set p (.lst (strsD ws)))
theorem ln_Row_next_ratio : ∀ ds O Q, sp_Row_next_ratio ds O Q → ds.length = 1 := by rintro ds O Q ⟨a, b, c, d, e, f, rfl, _⟩; rfl
/-- a price behind a word -/
def takeP (key : Str) : List Str → Option (Option Rat × List Str)
  | [] => some (none, [])
  | [w] => if tl w = tl key then none else some (none, [w])
  | w :: v :: ws => if tl w = tl key then (rdRat v).map fun q => (some q, ws) else some (none, w :: v :: ws)
def sp_Row_price_behind : DL := fun ds O Q => ∃ (r p : Addr) (k : Int) (key : Str) (ws ws' : List Str) (x : Option Rat), ds = [.ref r, .str key] ∧ O r = some (rowO p k) ∧ O p = some (.lst (strsD ws)) ∧ ws.length ≤ 95000 ∧ Asc key ∧ Words ws ∧ takeP key ws = some (x, ws') ∧ Q (optD x) (O.set p (.lst (strsD ws')))
theorem ln_Row_price_behind : ∀ ds O Q, sp_Row_price_behind ds O Q → ds.length = 2 := by rintro ds O Q ⟨a, b, c, d, e, f, g, rfl, _⟩; rfl
/-- worlds by their names, rising -/
def idxW (names : List Str) (w : Str) : Option Nat := names.findIdx? fun y => decide (tl y = tl w)
def evW (names : List Str) : List Str → List Nat → Option (List Nat)
  | [], acc => some acc
  | w :: ws, acc => match idxW names w with
    | none => none
    | some j => if ∃ i, acc.getLast? = some i ∧ j ≤ i then none else evW names ws (acc ++ [j])
def ifS : Str := Str.ofString "if"
def evP (names : List Str) : List Str → Option (Option (List Nat))
  | [] => some none
  | w :: ws => if tl w = tl ifS ∧ ws ≠ [] then (evW names ws []).map some else none
def sp_Row_event_behind : DL := fun ds O Q => ∃ (r p pn : Addr) (k : Int) (ws names : List Str) (e : Option (List Nat)), ds = [.ref r, .ref pn] ∧ O r = some (rowO p k) ∧ O p = some (.lst (strsD ws)) ∧ O pn = some (.lst (strsD names)) ∧ pn ≠ p ∧ ws.length ≤ 95000 ∧ Words ws ∧ names.length ≤ 1000 ∧ Words names ∧ evP names ws = some e ∧ ∀ ws', Q (evD e) (O.set p (.lst (strsD ws')))
theorem ln_Row_event_behind : ∀ ds O Q, sp_Row_event_behind ds O Q → ds.length = 2 := by rintro ds O Q ⟨a, b, c, d, e, f, g, rfl, _⟩; rfl
def B_Row___init__ : DS' :=
  (dThen (dSetF "Row" "rest" (dMt "str" (dVar 1) (dCons (dC (.str (Str.ofString " "))) dNil) (dSplit mkO)) (dVar 0))
  (dSetF "Row" "at" (dVar 2) (dVar 0)))
def B_Row_refuse : DS' :=
  dNever
def B_Row_next_word_r1 : DS' :=
  (dRet (dMt "list" (dFld "Row" "rest" (dVar 0)) (dCons (dC (.int 0)) dNil) dPop0))
def B_Row_next_word : DS' :=
  (dThen (dIfS (dTest (dOp dEq (dBu dLen (dCons (dFld "Row" "rest" (dVar 0)) dNil)) (dC (.int 0)))) (dDrop (dMeth "Row" "refuse" sp_Row_refuse (dVar 0) dNil)) dNext)
  B_Row_next_word_r1)
def B_Row_next_ratio : DS' :=
  (dThen (dAsg (dCall sp_read_ratio (dCons (dMeth "Row" "next_word" sp_Row_next_word (dVar 0) dNil) dNil)) (tgN 1))
  (dThen (dIfS (dTest (dOp dIsN (dVar 1) (dC .non))) (dDrop (dMeth "Row" "refuse" sp_Row_refuse (dVar 0) dNil)) dNext)
  (dRet (dVar 1))))
def B_Row_price_behind_r1 : DS' :=
  (dThen (dDrop (dMt "list" (dFld "Row" "rest" (dVar 0)) (dCons (dC (.int 0)) dNil) dPop0))
  (dRet (dMeth "Row" "next_ratio" sp_Row_next_ratio (dVar 0) dNil)))
def B_Row_price_behind : DS' :=
  (dThen (dIfS (dOr (dTest (dOp dEq (dBu dLen (dCons (dFld "Row" "rest" (dVar 0)) dNil)) (dC (.int 0)))) (dTest (dOp dNe (dOp dIx (dFld "Row" "rest" (dVar 0)) (dC (.int 0))) (dVar 1)))) (dRet (dC .non)) dNext)
  B_Row_price_behind_r1)
def B_Row_event_behind_r1 : DS' :=
  (dDrop (dMt "list" (dVar 2) (dCons (dMt "list" (dVar 1) (dCons (dVar 3) dNil) dIndex) dNil) dAppend))
def B_Row_event_behind_b2 : DS' :=
  (dThen (dAsg (dMeth "Row" "next_word" sp_Row_next_word (dVar 0) dNil) (tgN 3))
  (dThen (dIfS (dOr (dTest (dOp (dInN true) (dVar 3) (dVar 1))) (dAnd (dTest (dOp dGt (dBu dLen (dCons (dVar 2) dNil)) (dC (.int 0)))) (dTest (dOp dLe (dMt "list" (dVar 1) (dCons (dVar 3) dNil) dIndex) (dOp dIx (dVar 2) (dUn dNeg (dC (.int 1)))))))) (dDrop (dMeth "Row" "refuse" sp_Row_refuse (dVar 0) dNil)) dNext)
  B_Row_event_behind_r1))
def B_Row_event_behind_r3 : DS' :=
  (dRet (dBu dTuple (dCons (dVar 2) dNil)))
def B_Row_event_behind_r4 : DS' :=
  (dThen (dAsg (dLst mkO dNil) (tgN 2))
  (dThen (dWhile (dTest (dOp dGt (dBu dLen (dCons (dFld "Row" "rest" (dVar 0)) dNil)) (dC (.int 0))))
  B_Row_event_behind_b2 [3])
  B_Row_event_behind_r3))
def B_Row_event_behind_r5 : DS' :=
  (dThen (dIfS (dOr (dTest (dOp dNe (dMeth "Row" "next_word" sp_Row_next_word (dVar 0) dNil) (dC (.str (Str.ofString "if"))))) (dTest (dOp dEq (dBu dLen (dCons (dFld "Row" "rest" (dVar 0)) dNil)) (dC (.int 0))))) (dDrop (dMeth "Row" "refuse" sp_Row_refuse (dVar 0) dNil)) dNext)
  B_Row_event_behind_r4)
def B_Row_event_behind : DS' :=
  (dThen (dIfS (dTest (dOp dEq (dBu dLen (dCons (dFld "Row" "rest" (dVar 0)) dNil)) (dC (.int 0)))) (dRet (dC .non)) dNext)
  B_Row_event_behind_r5)
theorem hb_Row_refuse : ∀ ds O Q, sp_Row_refuse ds O Q → B_Row_refuse (rtEnds Q) (startD 1 ds) O := fun _ _ _ h => h.elim
theorem fldr {n f : Str} {p : Addr} {fs : List (Str × D)} {d : D} {ρ : DEnv} {O : Ow} {Q : DQ} {i : Nat} (hi : ρ[i]? = some (some (.ref p))) (h : O p = some (.ins n fs)) (hl : fs.lookup f = some d) (q : Q d O) : dFld n f (dVar i) ρ O Q :=
  ⟨_, hi, p, fs, d, rfl, h, hl, q⟩
theorem lk_rest {p : Addr} {k : Int} : [(("rest" : Str), D.ref p), ("at", .int k)].lookup ("rest" : Str) = some (.ref p) := rfl
theorem sp32 : Str.ofString " " = ⟨#[32]⟩ := by rfl
theorem hb_Row___init__ : ∀ ds O Q, sp_Row___init__ ds O Q → B_Row___init__ (rtEnds Q) (startD 3 ds) O := by
  rintro ds O Q ⟨r, z, k, rfl, h, hz, q⟩
  unfold B_Row___init__
  walk_at "tx"
  rw [sp32]
  refine ⟨rfl, by have := line100000; omega, fun p hp => ?_⟩
  have n1 : p ≠ r := fun y => by rw [y, h] at hp; cases hp
  refine ⟨r, [], rfl, by rw [Ow.set_ne n1.symm]; exact h, by decide, r, _, rfl, Ow.set_same, (by show 1 < 100; decide), ?_⟩
  rw [Ow.set_set]
  refine ⟨_, Ow.le.refl _, ?_⟩
  have e : putD ("at" : Str) (.int k) (putD ("rest" : Str) (.ref p) []) = ([("rest", .ref p), ("at", .int k)] : List (Str × D)) := by
    show (if ("rest" : Str) = "at" then _ else (("rest" : Str), D.ref p) :: putD "at" (.int k) []) = _
    rw [if_neg (by decide +kernel)]
    rfl
  rw [e]
  exact q p hp
theorem at0 {x : D} {l : List D} : atI (x :: l) 0 = some x := by
  unfold atI ixN
  rw [if_pos (by decide), if_pos (by simp)]
  rfl
theorem dNe_str_ap {a b : Str} {O : Ow} {Q : DQ} (ha : Asc a) (hb : Asc b) (q : Q (.bl (!decide (tl a = tl b))) O) : dNe (.str a) (.str b) O Q := by rw [dNe_str ha hb]; exact q
theorem succ_ne0 {n : Nat} : (((n + 1 : Nat) : Int) == 0) = false := by
  rw [beq_eq_false_iff_ne]; omega
theorem hb_Row_next_word : ∀ ds O Q, sp_Row_next_word ds O Q → B_Row_next_word (rtEnds Q) (startD 1 ds) O := by
  rintro ds O Q ⟨r, p, k, w, ws, rfl, h, hp, q⟩
  unfold B_Row_next_word
  walk_at "tx"
  refine fldr rfl h lk_rest ?_
  refine len_lv (lv_ref hp) ?_
  rw [strs_len]
  walk_at "tx"
  rw [succ_ne0]
  walk_at "tx"
  unfold B_Row_next_word_r1
  walk_at "tx"
  refine fldr rfl h lk_rest ?_
  refine ⟨tyN_ref hp, rfl, _, _, hp, ?_⟩
  exact rt_here q
theorem hb_Row_next_ratio : ∀ ds O Q, sp_Row_next_ratio ds O Q → B_Row_next_ratio (rtEnds Q) (startD 2 ds) O := by
  rintro ds O Q ⟨r, p, k, w, ws, x, rfl, h, hp, wl, wa, hx, q⟩
  unfold B_Row_next_ratio
  walk_at "tx"
  refine ⟨r, _, rfl, h, rfl, ?_⟩
  refine ⟨r, p, k, w, ws, rfl, h, hp, ?_⟩
  walk_at "tx"
  refine ⟨w, rfl, wl, wa, ?_⟩
  rw [hx]
  unfold optR
  walk_at "tx"
  exact rt_here q
theorem hb_Row_price_behind : ∀ ds O Q, sp_Row_price_behind ds O Q → B_Row_price_behind (rtEnds Q) (startD 2 ds) O := by
  rintro ds O Q ⟨r, p, k, key, ws, ws', x, rfl, h, hp, wl, ka, hw, hx, q⟩
  have same : (O.set p (.lst (strsD ws))) = O := Ow.set_id hp
  unfold B_Row_price_behind
  walk_at "tx"
  refine fldr rfl h lk_rest ?_
  refine len_lv (lv_ref hp) ?_
  rw [strs_len]
  match ws, hp, hx, hw, wl, same with
  | [], hp, hx, hw, wl, same =>
    cases hx
    try simp only [List.length_nil]
    walk_at "tx"
    rw [same] at q
    exact rt_here q
  | w :: l, hp, hx, hw, wl, same =>
    walk_at "tx"
    rw [succ_ne0]
    walk_at "tx"
    refine fldr rfl h lk_rest ?_
    refine ⟨_, lv_ref hp, .str w, at0, ?_⟩
    have aw := (hw w (List.mem_cons_self ..)).2
    refine dNe_str_ap aw ka ?_
    by_cases hk : tl w = tl key
    · rw [decide_eq_true hk]
      walk_at "tx"
      match l, hx, hp, hw with
      | [], hx, _, _ => simp [takeP, hk] at hx
      | v :: l, hx, hp, hw =>
        obtain ⟨y, hy, e⟩ : ∃ y, rdRat v = some y ∧ (some y, l) = (x, ws') := by
          have hx : (if tl w = tl key then (rdRat v).map fun q => (some q, l) else some (none, w :: v :: l)) = some (x, ws') := hx
          rw [if_pos hk] at hx
          obtain ⟨y, hy, e⟩ := Option.map_eq_some_iff.mp hx
          exact ⟨y, hy, e⟩
        cases e
        have n1 : r ≠ p := fun z => by rw [z, hp] at h; cases h
        unfold B_Row_price_behind_r1
        walk_at "tx"
        refine fldr rfl h lk_rest ?_
        refine ⟨tyN_ref hp, rfl, _, _, hp, ?_⟩
        have h' : (O.set p (.lst (strsD (v :: ws')))) r = some (rowO p k) := by rw [Ow.set_ne n1]; exact h
        refine ⟨r, _, rfl, h', rfl, ?_⟩
        have wv := hw v (by simp)
        refine ⟨r, p, k, v, ws', y, rfl, h', Ow.set_same, wv.1, wv.2, hy, ?_⟩
        rw [Ow.set_set]
        exact rt_here q
    · rw [decide_eq_false hk]
      have e : takeP key (w :: l) = some (none, w :: l) := by
        cases l <;> simp [takeP, hk]
      rw [e] at hx
      cases hx
      walk_at "tx"
      rw [same] at q
      exact rt_here q
theorem idxW_some {names : List Str} {w : Str} {j : Nat} (h : idxW names w = some j) : ∃ y, names[j]? = some y ∧ tl y = tl w ∧ ∀ m y', m < j → names[m]? = some y' → tl y' ≠ tl w := by
  unfold idxW at h
  obtain ⟨hj, h1, h2⟩ := List.findIdx?_eq_some_iff_getElem.mp h
  refine ⟨names[j], List.getElem?_eq_getElem hj, of_decide_eq_true h1, fun m y' hm hy => ?_⟩
  obtain ⟨hm2, rfl⟩ := List.getElem?_eq_some_iff.mp hy
  exact fun z => absurd (h2 m hm) (by simp [z])
theorem inD_idx {names : List Str} {w : Str} : inD (.str w) (strsD names) = (idxW names w).isSome := by
  unfold inD strsD idxW
  rw [List.any_map, List.findIdx?_isSome]
  congr 1
  funext y
  exact str_eq
theorem flat_strs {ys : List Str} : (strsD ys).all flatD = true := by
  unfold strsD
  rw [List.all_map, List.all_eq_true]
  exact fun _ _ => rfl
theorem index_ap {d : D} {names : List Str} {w : Str} {j : Nat} {O : Ow} {Q : DQ} (hd : lv O d = some (strsD names)) (h : idxW names w = some j) (q : Q (.int (j : Nat)) O) : dIndex d [.str w] O Q := by
  obtain ⟨y, h1, h2, h3⟩ := idxW_some h
  refine ⟨_, hd, rfl, flat_strs, j, .str y, by unfold strsD; rw [List.getElem?_map, h1]; rfl, by rw [str_eq]; exact decide_eq_true h2, fun m d' hm hd' => ?_, q⟩
  unfold strsD at hd'
  rw [List.getElem?_map] at hd'
  obtain ⟨y', hy, rfl⟩ := Option.map_eq_some_iff.mp hd'
  rw [str_eq]
  exact decide_eq_false (h3 m y' hm hy)
theorem at_lastN {acc : List Nat} {i : Nat} (h : acc.getLast? = some i) : atI (natsD acc) (-1) = some (.int (i : Int)) := by
  have hne : acc ≠ [] := fun z => by rw [z] at h; cases h
  have hl : 0 < acc.length := List.length_pos_iff.mpr hne
  unfold atI ixN
  rw [if_neg (by decide), natsD_len, if_pos (by omega)]
  show (natsD acc)[((-1 : Int) + (acc.length : Int)).toNat]? = _
  rw [show ((-1 : Int) + (acc.length : Int)).toNat = acc.length - 1 by omega]
  unfold natsD
  rw [List.getElem?_map]
  rw [List.getLast?_eq_getElem?] at h
  rw [h]; rfl
theorem hb_Row_event_behind : ∀ ds O Q, sp_Row_event_behind ds O Q → B_Row_event_behind (rtEnds Q) (startD 4 ds) O := by
  rintro ds O Q ⟨r, p, pn, k, ws, names, e, rfl, h, hp, hn, hne, wl, hw, nl, hnw, he, q⟩
  have n1 : r ≠ p := fun z => by rw [z, hp] at h; cases h
  have n2 : r ≠ pn := fun z => by rw [z, hn] at h; cases h
  unfold B_Row_event_behind
  walk_at "tx"
  refine fldr rfl h lk_rest ?_
  refine len_lv (lv_ref hp) ?_
  rw [strs_len]
  match ws, hp, he, hw, wl with
  | [], hp, he, hw, wl =>
    cases he
    try simp only [List.length_nil]
    walk_at "tx"
    have := q []
    rw [Ow.set_id hp] at this
    exact rt_here this
  | w :: l, hp, he, hw, wl =>
    walk_at "tx"
    rw [succ_ne0]
    walk_at "tx"
    unfold B_Row_event_behind_r5
    walk_at "tx"
    refine ⟨r, _, rfl, h, rfl, ?_⟩
    refine ⟨r, p, k, w, l, rfl, h, hp, ?_⟩
    have aw := (hw w (List.mem_cons_self ..)).2
    have he : (if tl w = tl ifS ∧ l ≠ [] then (evW names l []).map some else none) = some e := he
    by_cases hc : tl w = tl ifS ∧ l ≠ []
    rotate_left
    · rw [if_neg hc] at he; cases he
    rw [if_pos hc] at he
    obtain ⟨hif, hl⟩ := hc
    obtain ⟨ev, hev, rfl⟩ := Option.map_eq_some_iff.mp he
    have aif : Asc (Str.ofString "if") := by unfold Asc; decide +kernel
    refine dNe_str_ap aw aif ?_
    rw [decide_eq_true (show tl w = tl (Str.ofString "if") from hif)]
    have h1 : (O.set p (.lst (strsD l))) r = some (rowO p k) := by rw [Ow.set_ne n1]; exact h
    walk_at "tx"
    refine fldr rfl h1 lk_rest ?_
    refine len_lv (lv_ref Ow.set_same) ?_
    rw [strs_len]
    have hl0 : ((l.length : Int) == 0) = false := by
      rw [beq_eq_false_iff_ne]
      have := List.length_pos_iff.mpr hl
      omega
    walk_at "tx"
    rw [hl0]
    walk_at "tx"
    unfold B_Row_event_behind_r4
    walk_at "tx"
    intro pw hpw
    have m1 : pw ≠ p := fun z => by rw [z, Ow.set_same] at hpw; cases hpw
    have hpw0 : O pw = none := by rw [Ow.set_ne m1] at hpw; exact hpw
    have m2 : pw ≠ r := fun z => by rw [z, h] at hpw0; cases hpw0
    have m3 : pw ≠ pn := fun z => by rw [z, hn] at hpw0; cases hpw0
    have hwl : Words l := fun x hx => hw x (List.mem_cons_of_mem _ hx)
    refine ⟨fun μ ρ O' => ∃ (vs : List Str) (acc : List Nat), μ = vs.length ∧ evW names vs acc = some ev ∧ Words vs ∧ vs.length + acc.length ≤ 95000 ∧ O' = (O.set p (.lst (strsD vs))).set pw (.lst (natsD acc)) ∧ ρ = [some (.ref r), some (.ref pn), some (.ref pw), none], ⟨_, l, [], rfl, hev, hwl, by simp at wl ⊢; omega, rfl, rfl⟩, ?_⟩
    rintro μ ρ O' ⟨vs, acc, rfl, hva, hvw, hvl, rfl, rfl⟩
    have o1 : ((O.set p (.lst (strsD vs))).set pw (.lst (natsD acc))) r = some (rowO p k) := by rw [Ow.set_ne m2.symm, Ow.set_ne n1]; exact h
    have o2 : ((O.set p (.lst (strsD vs))).set pw (.lst (natsD acc))) p = some (.lst (strsD vs)) := by rw [Ow.set_ne m1.symm, Ow.set_same]
    walk_at "tx"
    refine fldr rfl o1 lk_rest ?_
    refine len_lv (lv_ref o2) ?_
    rw [strs_len]
    match vs, hva, hvw, hvl, o1, o2 with
    | [], hva, hvw, hvl, o1, o2 =>
      cases hva
      try simp only [List.length_nil]
      walk_at "tx"
      unfold B_Row_event_behind_r3
      walk_at "tx"
      exact ⟨O.set p (.lst (strsD [])), fun a u ha => by
        have : a ≠ pw := fun z => by rw [z, Ow.set_ne m1, hpw0] at ha; cases ha
        rw [Ow.set_ne this]; exact ha, q []⟩
    | v :: vs, hva, hvw, hvl, o1, o2 =>
      show (if decide ((0 : Int) < ((v :: vs).length : Int)) = true then _ else _)
      rw [if_pos (decide_eq_true (by simp))]
      unfold B_Row_event_behind_b2
      walk_at "tx"
      refine ⟨r, _, rfl, o1, rfl, ?_⟩
      refine ⟨r, p, k, v, vs, rfl, o1, o2, ?_⟩
      have e3 : (((O.set p (.lst (strsD (v :: vs)))).set pw (.lst (natsD acc))).set p (.lst (strsD vs))) = (O.set p (.lst (strsD vs))).set pw (.lst (natsD acc)) := by
        funext x
        by_cases hx : x = p
        · subst hx; rw [Ow.set_same, Ow.set_ne m1.symm, Ow.set_same]
        · by_cases hy : x = pw
          · subst hy; rw [Ow.set_ne hx, Ow.set_same, Ow.set_same]
          · rw [Ow.set_ne hx, Ow.set_ne hy, Ow.set_ne hx, Ow.set_ne hy, Ow.set_ne hx]
      rw [e3]
      have o3 : ((O.set p (.lst (strsD vs))).set pw (.lst (natsD acc))) pn = some (.lst (strsD names)) := by rw [Ow.set_ne m3.symm, Ow.set_ne hne]; exact hn
      have o4 : ((O.set p (.lst (strsD vs))).set pw (.lst (natsD acc))) pw = some (.lst (natsD acc)) := Ow.set_same
      unfold evW at hva
      cases hi : idxW names v with
      | none => rw [hi] at hva; cases hva
      | some j =>
        rw [hi] at hva
        have hva : (if ∃ i, acc.getLast? = some i ∧ j ≤ i then none else evW names vs (acc ++ [j])) = some ev := hva
        split at hva
        · cases hva
        rename_i hgt
        walk_at "tx"
        refine ⟨_, qv_of_lv (lv_ref o3), rfl, flat_strs, ?_⟩
        rw [inD_idx, hi]
        walk_at "tx"
        have last : ∀ (R : Prop), (B_Row_event_behind_r1 { nx := fun ρ2 O2 => ∃ O3 m', Ow.le O3 O2 ∧ m' < vs.length + 1 ∧ ∃ (vs : List Str) (acc : List Nat), m' = vs.length ∧ evW names vs acc = some ev ∧ Words vs ∧ vs.length + acc.length ≤ 95000 ∧ O3 = (O.set p (.lst (strsD vs))).set pw (.lst (natsD acc)) ∧ List.set ρ2 3 none = [some (.ref r), some (.ref pn), some (.ref pw), none], rt := (rtEnds Q).rt, bk := B_Row_event_behind_r3 (rtEnds Q), ct := fun ρ2 O2 => ∃ O3 m', Ow.le O3 O2 ∧ m' < vs.length + 1 ∧ ∃ (vs : List Str) (acc : List Nat), m' = vs.length ∧ evW names vs acc = some ev ∧ Words vs ∧ vs.length + acc.length ≤ 95000 ∧ O3 = (O.set p (.lst (strsD vs))).set pw (.lst (natsD acc)) ∧ List.set ρ2 3 none = [some (.ref r), some (.ref pn), some (.ref pw), none] } [some (.ref r), some (.ref pn), some (.ref pw), some (.str v)] ((O.set p (.lst (strsD vs))).set pw (.lst (natsD acc))) → R) → R := fun R hR => hR (by
          unfold B_Row_event_behind_r1
          walk_at "tx"
          refine ⟨tyN_ref o3, index_ap (lv_ref o3) hi ?_⟩
          refine ⟨_, o4, by rw [natsD_len]; simp at hvl; omega, ?_⟩
          refine ⟨_, vs.length, Ow.le.refl _, by omega, vs, acc ++ [j], rfl, hva, fun x hx => hvw x (List.mem_cons_of_mem _ hx), by simp at hvl ⊢; omega, ?_⟩
          rw [Ow.set_set]
          unfold natsD
          rw [List.map_append]; rfl)
        refine last _ fun go => ?_
        cases hg : acc.getLast? with
        | none =>
          have : acc = [] := List.getLast?_eq_none_iff.mp hg
          subst this
          rw [show (natsD []).length = 0 from rfl]
          walk_at "tx"
          exact go
        | some i =>
          have hne2 : acc ≠ [] := fun z => by rw [z] at hg; cases hg
          have hl : 0 < acc.length := List.length_pos_iff.mpr hne2
          rw [if_pos (decide_eq_true (by rw [natsD_len]; omega))]
          refine ⟨tyN_ref o3, index_ap (lv_ref o3) hi ?_⟩
          refine ⟨_, lv_ref o4, _, at_lastN hg, ?_⟩
          have : ¬ (j ≤ i) := fun z => hgt ⟨i, hg, z⟩
          show (if decide ((j : Int) ≤ (i : Int)) = true then _ else _)
          rw [if_neg (by rw [decide_eq_false (by omega)]; exact Bool.false_ne_true)]
          exact go
abbrev DXQ := Str → Option Addr → DEnv → Ow → Prop
abbrev DRt := DXQ → DEnv → Ow → Prop
abbrev DLX := List D → Ow → (Str → Option Addr → Ow → Prop) → Prop
structure LkW (K : PySem.W.Frag) (w : Wd) (Ex : DXQ) (W : WX) : Prop where
  x : ∀ n C d ρ σ w', ClsAt K n C → Own K w' → Fr w w' → RepE K w'.G ρ σ → Ex n d ρ w'.O → W (.ref C) d σ w'.H
structure LkX (K : PySem.W.Frag) (w : Wd) (Ex : Str → Option Addr → Ow → Prop) (E : XK) : Prop where
  x : ∀ n C d w', ClsAt K n C → Own K w' → Fr w w' → Ex n d w'.O → E (.ref C) d w'.H
theorem LkW.after {K : PySem.W.Frag} {w w1 : Wd} {Ex : DXQ} {W : WX} (h : LkW K w Ex W) (f : Fr w w1) : LkW K w1 Ex W :=
  ⟨fun n C d ρ σ w' a b c => h.x n C d ρ σ w' a b (f.trans c)⟩
def PromR (K : PySem.W.Frag) (s : DLX) : Sp := fun vs H _ E => ∃ ds w Ex, w.H = H ∧ Own K w ∧ Reps K w.G ds vs ∧ LkX K w Ex E ∧ s ds w.O Ex
def SemR1 (K : PySem.W.Frag) (t : WX → TE) (dr : DRt) : Prop := ∀ Ex W ρ σ w Q, Own K w → RepE K w.G ρ σ → LkW K w Ex W → dr Ex ρ w.O → t W σ w.H Q
def SemRA (K : PySem.W.Frag) (t : WX → TA) (dr : DRt) : Prop := ∀ Ex W ρ σ w Q, Own K w → RepE K w.G ρ σ → LkW K w Ex W → dr Ex ρ w.O → t W σ w.H Q
def SemRS (K : PySem.W.Frag) (t : WX → TS) (dr : DRt) : Prop := ∀ Ex W ρ σ w T, Own K w → RepE K w.G ρ σ → LkW K w Ex W → dr Ex ρ w.O → t W T σ w.H
def DRE (X : Cx) (e : Expr) (dr : DRt) : Prop := ∃ t : WX → TE, (∀ W, L2N.Takes X W → PE X e (t W)) ∧ SemR1 X.K t dr
def DRA (X : Cx) (es : List Expr) (dr : DRt) : Prop := ∃ t : WX → TA, (∀ W, L2N.Takes X W → PA X es (t W)) ∧ SemRA X.K t dr
def DRS (X : Cx) (st : Stmt) (dr : DRt) : Prop := ∃ t : WX → TS, (∀ W, L2N.Takes X W → PS X st (t W)) ∧ SemRS X.K t dr
def DRSs (X : Cx) (sts : List Stmt) (dr : DRt) : Prop := ∃ t : WX → TS, (∀ W, L2N.Takes X W → PSs X sts (t W)) ∧ SemRS X.K t dr
section
variable {X : Cx} {e a b c : Expr} {es : List Expr} {st : Stmt} {rest body els : List Stmt} {ds : DS'} {dr dr2 : DRt} {da db : DT} {dl : DTa} {dt : DTt} {pos : Pos}
variable {k : Nat} {f : Addr} {fd : FuncData} {ps : List Str} {s : DLX} {x : Str} {p : Pos}
def drCall (s : DLX) (dl : DTa) : DRt := fun Ex ρ O => dl ρ O fun ds O1 => s ds O1 fun n d O2 => Ex n d ρ O2
theorem dre_call (F : FnOk X.prog X.w X.K X.mg X.base (L2N.CX X.prog X.w) k f fd ps (PromR X.K s)) (hr : Rm k X) (hcm : X.calm = true) (hg : Gl X x) (hm : X.mg x = some (.ref f)) (hk : PySem.W.keepIn X.K (.ref f) = true) (hb : Binds X.K fd ps []) (ha : DA X (e :: es) dl)
    (hdb : (x == ("__debug__" : Str)) = false := by decide) (he : starEach (e :: es) X.env = (false, eval e X.env) :: starEach es X.env := by rfl) (hpl : (backTo pos (starEach es X.env)).any (·.1) = false := by rfl) :
    DRE X (.Call (.Name x p) (e :: es) [] pos) (drCall s dl) := by
  obtain ⟨t, pa, fa⟩ := ha
  refine ⟨fun W => tCallS (PromR X.K s) (WE W) t, fun W tk => pe_callS F (hr.room hcm) hg hm hk hb (fun σ => L2N.passAt tk σ) pa hdb he hpl, fun Ex W ρ σ w Q hw he' lk h => ?_⟩
  refine fa ρ σ w _ _ hw he' (fun ds vs w1 hw1 f1 rs h1 => ?_) h
  exact ⟨ds, w1, _, rfl, hw1, rs, ⟨fun n C d w' a b c q => lk.x n C d ρ σ w' a b (f1.trans c) (he'.mono (f1.gsub.trans c.gsub)) q⟩, h1⟩
theorem dra_here (h : DRE X e dr) (hr : DA X es dl) (hs : starEach (e :: es) X.env = (false, eval e X.env) :: starEach es X.env := by rfl) : DRA X (e :: es) dr := by
  obtain ⟨t, p, f⟩ := h
  obtain ⟨u, q, _⟩ := hr
  exact ⟨fun W => _, fun W tk => pa_cons (p W tk) q hs, fun Ex W ρ σ w Q hw he lk h => f Ex W ρ σ w _ hw he lk h⟩
theorem dre_tup {x1} (h : DRA X es dr) : DRE X (.Tuple es x1 pos) dr := by
  obtain ⟨t, p, f⟩ := h
  exact ⟨fun W => _, fun W tk => pe_tup (p W tk), fun Ex W ρ σ w Q hw he lk h => f Ex W ρ σ w _ hw he lk h⟩
theorem drs_ret (h : DRE X e dr) : DRS X (.Return (some e) pos) dr := by
  obtain ⟨t, p, f⟩ := h
  exact ⟨fun W => _, fun W tk => ps_ret (p W tk), fun Ex W ρ σ w T hw he lk h => f Ex W ρ σ w _ hw he lk h⟩
theorem drs_expr (h : DRE X e dr) (hs : swapsWith e none pos.line X.env = pure false := by rfl) : DRS X (.Expr e pos) dr := by
  obtain ⟨t, p, f⟩ := h
  exact ⟨fun W => _, fun W tk => ps_expr (p W tk) hs, fun Ex W ρ σ w T hw he lk h => f Ex W ρ σ w _ hw he lk h⟩
theorem drs_set {i : Nat} {x : Str} {pos' : Pos} (hN : X.N.Nodup) (hi : X.N[i]? = some x) (hx : Loc X.env.scope x) (h : DRE X e dr) (hs : swapsWith e (some (.Name x pos')) pos.line X.env = pure false := by rfl) (hf : X.fn x = true ∨ X.env.scope.names.lookup x = some .local := by first | exact .inl rfl | exact .inr rfl | assumption) :
    DRS X (.Assign [.Name x pos'] e pos) dr := by
  obtain ⟨t, p, f⟩ := h
  exact ⟨fun W => _, fun W tk => ps_set hN hi hx (p W tk) hs hf, fun Ex W ρ σ w T hw he lk h => f Ex W ρ σ w _ hw he lk h⟩
/-- the ends of a statement behind which one is surely raised -/
def rEnds (r : DEnv → Ow → Prop) : DEnds := { nx := r, rt := fun _ _ => False }
theorem rLk {K : PySem.W.Frag} {t : WX → TS} {Ex : DXQ} {W : WX} {w : Wd} {T : Ends} (f : SemRS K t dr) (lk : LkW K w Ex W) : LkS K w (rEnds (dr Ex)) { T with nx := t W T } :=
  ⟨fun ρ σ w' hw' f' he' h => f Ex W ρ σ w' T hw' he' (lk.after f') h, fun _ _ _ _ _ _ z => z.elim, fun _ _ _ _ _ _ z => z.elim, fun _ _ _ _ _ _ z => z.elim⟩
def drSkip (s : DS') (r : DRt) : DRt := fun Ex ρ O => s (rEnds (r Ex)) ρ O
theorem drs_skip (h1 : DS X st ds) (h2 : DRSs X rest dr) : DRSs X (st :: rest) (drSkip ds dr) := by
  obtain ⟨t, p, f⟩ := h1
  obtain ⟨u, q, g⟩ := h2
  refine ⟨fun W => _, fun W tk => pss_cons p (q W tk), fun Ex W ρ σ w T hw he lk h => ?_⟩
  exact f ρ σ w _ _ hw he (rLk g lk) h
theorem drs_here (h : DRS X st dr) : DRSs X (st :: rest) dr := by
  obtain ⟨t, p, f⟩ := h
  exact ⟨fun W => _, fun W tk => pss_cons (p W tk) (pss_never (sts := rest)), fun Ex W ρ σ w T hw he lk h => f Ex W ρ σ w _ hw he lk h⟩
theorem pss_or {t u : TS} {sts : List Stmt} (h1 : PSs X sts t) (h2 : PSs X sts u) : PSs X sts (fun D σ H => t D σ H ∨ u D σ H) :=
  ⟨fun pins s σ H D I h => h.elim (h1.run pins s σ H D I) (h2.run pins s σ H D I)⟩
theorem ps_or {t u : TS} (h1 : PS X st t) (h2 : PS X st u) : PS X st (fun D σ H => t D σ H ∨ u D σ H) :=
  ⟨fun pins s σ H D I h => h.elim (h1.run pins s σ H D I) (h2.run pins s σ H D I)⟩
def drOr (r1 r2 : DRt) : DRt := fun Ex ρ O => r1 Ex ρ O ∨ r2 Ex ρ O
theorem drss_or {sts : List Stmt} (h1 : DRSs X sts dr) (h2 : DRSs X sts dr2) : DRSs X sts (drOr dr dr2) := by
  obtain ⟨t, p, f⟩ := h1
  obtain ⟨u, q, g⟩ := h2
  exact ⟨fun W => _, fun W tk => pss_or (p W tk) (q W tk), fun Ex W ρ σ w T hw he lk h => h.elim (fun h => .inl (f Ex W ρ σ w T hw he lk h)) fun h => .inr (g Ex W ρ σ w T hw he lk h)⟩
def drNever : DRt := fun _ _ _ => False
theorem drss_never {sts : List Stmt} : DRSs X sts drNever := ⟨fun _ => _, fun _ _ => pss_never, fun _ _ _ _ _ _ _ _ _ h => h.elim⟩
def drIf (c : DTt) (s r : DRt) : DRt := fun Ex ρ O => c ρ O fun b O1 => if b = true then s Ex ρ O1 else r Ex ρ O1
theorem drs_if (hc : DB X c dt) (ha : DRSs X body dr) (hb : DRSs X els dr2) : DRS X (.If c body els pos) (drIf dt dr dr2) := by
  obtain ⟨tc, p, f⟩ := hc
  obtain ⟨ta, q, g⟩ := ha
  obtain ⟨tb, q2, g2⟩ := hb
  refine ⟨fun W => _, fun W tk => ps_if p (q W tk) (q2 W tk), fun Ex W ρ σ w T hw he lk h => ?_⟩
  refine f ρ σ w _ _ hw he (fun k w' hw' f' h' => ?_) h
  cases k with
  | true => exact g Ex W ρ σ w' T hw' (he.mono f'.gsub) (lk.after f') h'
  | false => exact g2 Ex W ρ σ w' T hw' (he.mono f'.gsub) (lk.after f') h'
/-- what the written part says of the base class whose __init__ is called -/
structure BaseI (K : PySem.W.Frag) (B : Addr) : Prop where
  rd : PySem.W.readsIn K B (.type "type") = true
  ga : PySem.W.specialIn K (.ref B) "__getattribute__" = some (some (.builtin "type.__getattribute__"))
  vi : PySem.W.findCls K (.ref B) (.type "type") "__init__" = some (.val (.builtin "ValueError.__init__"))
theorem pe_seinit {pl : Sem Bool} {B : Addr} {ta : TA} {p1 p2 : Pos} (Bi : BaseI X.K B) (hg : Gl X x) (hm : X.mg x = some (.ref B)) (ha : PA X (e :: es) ta) (hdb : (x == ("__debug__" : Str)) = false := by decide)
    (hc : eval (.Call (.Attribute (.Name x p1) "__init__" p2) (e :: es) [] pos) X.env = (do
      let ov ← eval (.Name x p1) X.env
      standAt p2.atName
      let (f, first) ← holding [ov] (getMethod ov "__init__" pl)
      callWith pos f first (backTo pos (starEach (e :: es) X.env)) (backToKw pos (keywordEach [] X.env))) := by rfl)
    (he : starEach (e :: es) X.env = (false, eval e X.env) :: starEach es X.env := by rfl) (hpl : (backTo pos (starEach es X.env)).any (·.1) = false := by rfl) :
    PE X (.Call (.Attribute (.Name x p1) "__init__" p2) (e :: es) [] pos) (tVeI X.K ta) := by
  refine ⟨fun pins s σ H Q I h => ?_⟩
  refine PySem.W.methodCall_KW (ld_glob I hg hm ?_ hdb) hc
  refine PySem.W.method_cls I.kIn Bi.ga (PySem.W.cls_value I.kIn Bi.rd Bi.vi (by decide +kernel) ?_)
  show wpAny _ _ (callWith pos (Value.builtin "ValueError.__init__") [] (backTo pos (starEach (e :: es) X.env)) []) _ _ _
  refine PyProof.Rows.callWith_method1 (thn (ha.run pos pins _ σ H _ (I.tok _) h) fun us s1 ⟨vs, H1, I1, r1, a, C, ws, ev, hl, T, ea, q⟩ => ?_) he hpl
  subst ev
  cases r1 with
  | @cons _ u0 _ ur ra rw' =>
    obtain rfl : u0 = Value.ref a := ra
    have hlen : ur.length ≤ sizeLine := by
      rw [← Paired.length rw', sizeLine_eq]
      omega
    exact oinit_ok T I1 ea hlen fun s' J => ⟨.non, H1, J, rfl, q⟩
/-- __init__'s promise -/
def spIni (C : Addr) (f : Str) : Sp := fun vs H Q _ => ∃ a y, vs = [.ref a, y] ∧ H a = some (exo a C none) ∧ ∀ dx, H dx = none → dx ≠ a → Q .non (upd (upd H dx (exd dx [(f, y)])) a (exo a C (some dx)))
def tIni (K : PySem.W.Frag) (m f : Str) : TS := tSeq (tDrop (tVeI K (tCons (tVar 0) (tCons (tC (.str m)) tNil)))) (tOst K f (tVar 0) (tVar 1))
theorem ini_ok {P : Program} {w : World} {K : PySem.W.Frag} {mg : Str → Option Value} {base : Heap} {qual m f : Str} {st : Stmt} {fI C : Addr} {fd : FuncData} {k : Nat} (F : Fun K "__init__" qual st fI fd) (S : FnScope ["self", f] ["self", f] (defScope st)) (ox : OexC K C) (no : PySem.W.findIn K (.ref C) f = some none)
    (hbody : ∀ (cdv : Value) (A : Around) (outer : List Env) (s' : Shared) (H : Hp) (E : XK), PSs (cxOf CX0 P w K mg base ["self", f] qual (defScope st) fI cdv A outer s' H E).nox (defBody st) (tIni K m f)) :
    FnOk P w K mg base CX0 (k + 1) fI fd ["self", f] (spIni C f) := by
  refine F.ok S (fun vs H Q E ⟨a, y, e, _⟩ => by rw [e]; rfl) (fun cdv A outer s' H vs Q E hr ⟨a, y, e, ea, q⟩ => ⟨_, hbody cdv A outer s' H E, ?_⟩)
  subst e
  exact ⟨.ref a, rfl, a, C, [.str m], rfl, by show 1 ≤ 1000; decide, ox, ea, y, rfl, .ref a, rfl, a, C, rfl, ox, no, .inl ⟨ea, fun dx n ne => q dx n ne⟩⟩
structure XIni (K : PySem.W.Frag) (n : Str) (C fI : Addr) (f : Str) : Prop where
  at_ : ClsAt K n C
  ox : OexC K C
  ini : PySem.W.findIn K (.ref C) "__init__" = some (some (.ref fI))
  tyI : PySem.W.typeIn K (.ref fI) = some (.type "function")
  no : PySem.W.findIn K (.ref C) f = some none
/-- C(e), its context None -/
theorem pmkN_oex {ta : TA} {C fI : Addr} {sp : Sp} (T : OexC X.K C) (iC : PySem.W.findIn X.K (.ref C) "__init__" = some (some (.ref fI))) (tI : PySem.W.typeIn X.K (.ref fI) = some (.type "function"))
    (F1 : FnOk X.prog X.w X.K X.mg X.base CX0 k fI fd ps sp) (hr : Room (k + 1) X.A) (hb : Binds X.K fd ps []) (hg : Gl X x) (hm : X.mg x = some (.ref C)) (ha : PA X (e :: es) ta)
    (hdb : (x == ("__debug__" : Str)) = false) (he : starEach (e :: es) X.env = (false, eval e X.env) :: starEach es X.env) (hpl : (backTo pos (starEach es X.env)).any (·.1) = false) :
    L2N.PMk X (.Call (.Name x p) (e :: es) [] pos) (tMkO C sp [] ta) := by
  intro pins s σ H Q I h
  obtain ⟨_, _, _, _, bm, _, _, _, _, _, _, _, _, _, _, hC, hbm⟩ := T.cls
  refine wpAny_Call_Name_kw (ld_glob I hg hm (PySem.W.callWith_K (h₀ := X.base) I.ok.mod.kin T.kC (thn (ha.run pos pins s σ H _ I h) ?_) he hpl) hdb)
  rintro us ⟨hp, g, dr, tk, os⟩ ⟨vs, H1, I1, r1, hz, q1⟩
  refine ⟨I1.kIn, ?_⟩
  show wpAny _ _ (call (.ref C) us) _ _ _
  obtain ⟨a, ea⟩ : ∃ a, a = hp.objs.size + 1 := ⟨_, rfl⟩
  have lt : hp.objs.size ≤ a := by rw [ea]; exact Nat.le_succ _
  have hq := q1 a (I1.hok.fresh lt)
  rw [List.append_nil] at hq
  obtain ⟨h1, eh⟩ : ∃ h1 : Heap, h1 = (hp.push (PySem.W.kdv_tup us)).push (PySem.HandSPX.excO C hp.objs.size) := ⟨_, rfl⟩
  have kk : ∀ b o, hp.get? b = some o → h1.get? b = some o := fun b o e => by rw [eh]; exact Heap.get?_push_of_some _ (Heap.get?_push_of_some _ e)
  have hget : h1.get? a = some (PySem.HandSPX.excO C hp.objs.size) := by rw [eh, ea]; heap_get
  have I2 : Inv X pins σ (upd H1 a (exo a C none)) ⟨h1, g, dr, tk, os⟩ := I1.laid (t' := tk) (h' := h1) kk lt (exo_ok hget)
  have r2 : Vals (V.ref a :: vs) (Value.ref a :: us) := .cons rfl r1
  have hl : (Value.ref a :: us).length = ps.length := by rw [← F1.len _ _ _ _ hq, r2.length]
  have b2 := hb _ (Value.ref a :: us) I2.kIn (by rw [List.append_nil]; exact hl)
  rw [List.append_nil] at b2
  have hus : us.length ≤ sizeLine := by
    rw [← Paired.length r1, sizeLine_eq]
    omega
  subst eh
  subst ea
  refine wpAny_call (PySem.HandSPX.call_own F.excBase_ValueError (fun Y => PySem.HandSPX.refsVE_contains Y bm hbm) (I1.kIn _ _ hC) (PySem.W.looks_findIn I1.kIn iC) (fun self => PySem.W.bind_fn I1.kIn self tI) hus
    (codeAny_mono (F1.run _ X.stack _ _ ⟨Value.ref (hp.objs.size + 1) :: us, []⟩ _ _ _ (fun _ _ _ => False) (hr.make C us []) (I2.env0.make C us []) b2 r2 hq) ?_))
  rintro (er | fl) s' hq'
  · exact hq'.elim
  cases fl with
  | ret u =>
    obtain ⟨v, H2, os2, bare2, un2, hok2, rv, ev, d, fs, ea2, ed, hd1, q2⟩ := hq'
    subst ev
    obtain ⟨h2, g2, d2, t2, os'⟩ := s'
    obtain ⟨t0, G, J, kG, ge, hoe, na⟩ := mk_end0 (d2 := d2) (t2 := t2) I1 lt kk un2 hok2 os2 bare2 ea2 ed hd1
    refine ⟨rv, hp.objs.size + 1, _, _, ⟨G, g2, d2, t2, os'⟩, _, .ref C, some d, rfl, J, kG, ge, hoe, ⟨rfl, rfl, ?_⟩, rfl, rfl, na, rfl, bare2, raises_own T.exC T.tyC, q2⟩
    rintro vs hv
    cases hv
    rfl
  | next => exact hq'.elim
  | brk => exact hq'.elim
  | cont => exact hq'.elim
def drRaiseI (n f : Str) (dl : DTa) : DRt := fun Ex ρ O => dl ρ O fun ds O1 => ∃ v, ds = [v] ∧ ∀ p, O1 p = none → Ex n (some p) ρ (O1.set p (.xd [(f, v)]))
theorem drs_raiseI {C fI : Addr} {n g : Str} {p2 : Pos} (hx : XIni X.K n C fI g) (F : FnOk X.prog X.w X.K X.mg X.base CX0 k fI fd ps (spIni C g)) (hr : Rm (k + 1) X) (hb : Binds X.K fd ps []) (hc : X.calm = true) (hg : Gl X x) (hm : X.mg x = some (.ref C)) (ha : DA X [e] dl)
    (hdb : (x == ("__debug__" : Str)) = false := by decide) (he : starEach [e] X.env = (false, eval e X.env) :: starEach [] X.env := by rfl) (hpl : (backTo pos (starEach [] X.env)).any (·.1) = false := by rfl) :
    DRS X (.Raise (some (.Call (.Name x p) [e] [] pos)) none p2) (drRaiseI n g dl) := by
  obtain ⟨t, p1, f1⟩ := ha
  refine ⟨fun W => _, fun W tk => L2N.ps_raise hc tk (pmkN_oex hx.ox hx.ini hx.tyI F (hr.room hc) hb hg hm p1 hdb he hpl), fun Ex W ρ σ w T hw he lk h => ?_⟩
  refine f1 ρ σ w _ _ hw he (fun ds vs w1 hw1 fr1 rs h1 => ?_) h
  obtain ⟨d, e1, h1⟩ := h1
  subst e1
  obtain ⟨v, e2, rd⟩ : ∃ v, vs = [v] ∧ Rep X.K w1.G d v := by
    simp only [Reps] at rs
    obtain ⟨v, r, e1, h2, e3⟩ := rs
    subst e3
    exact ⟨v, e1, h2⟩
  subst e2
  refine ⟨by show 1 ≤ 1000; decide, fun a na => ⟨a, v, rfl, upd_same, fun dx ndx hne => ⟨rfl, dx, [(g, v)], upd_same, ?_, ?_, ?_⟩⟩⟩
  · rw [upd_ne hne, upd_same]
  · rw [upd_ne hne] at ndx
    exact ndx
  · rw [upd_ne hne] at ndx
    have eH : upd (del (upd (upd (upd w1.H a (exo a C none)) dx (exd dx [(g, v)])) a (exo a C (some dx))) a) dx (.xd [(g, v)]) = upd w1.H dx (.xd [(g, v)]) := by
      funext b
      by_cases hb1 : b = dx
      · rw [hb1, upd_same, upd_same]
      · rw [upd_ne hb1, upd_ne hb1]
        by_cases hb2 : b = a
        · rw [hb2, del_same, na]
        · rw [del_ne hb2, upd_ne hb2, upd_ne hb1, upd_ne hb2]
    rw [eH]
    exact lk.x n C (some dx) ρ σ (w1.give dx (.xd [(g, d)]) (.xd [(g, v)])) hx.at_ (hw1.give ndx ⟨_, rfl, .cons ⟨rfl, rd⟩ .nil⟩) (fr1.trans (Fr.give hw1 ndx)) (he.mono fr1.gsub) (h1 dx (hw1.none_of ndx).2)
def tOfS (K : PySem.W.Frag) (d : DS') : TS := fun D σ H => ∃ E ρ w, w.H = H ∧ Own K w ∧ RepE K w.G ρ σ ∧ LkS K w E D ∧ d E ρ w.O
def tOfR (K : PySem.W.Frag) (r : DRt) (W : WX) : TS := fun _ σ H => ∃ Ex ρ w, w.H = H ∧ Own K w ∧ RepE K w.G ρ σ ∧ LkW K w Ex W ∧ r Ex ρ w.O
theorem pss_ofS {sts : List Stmt} (h : DSs X sts ds) : PSs X sts (tOfS X.K ds) := by
  obtain ⟨t, p, f⟩ := h
  refine ⟨fun pins s σ H D I ⟨E, ρ, w, eH, hw, he, lk, q⟩ => ?_⟩
  subst eH
  exact p.run pins s σ w.H D I (f ρ σ w E D hw he lk q)
theorem pss_ofR {sts : List Stmt} {W : WX} (h : DRSs X sts dr) (tk : L2N.Takes X W) : PSs X sts (tOfR X.K dr W) := by
  obtain ⟨t, p, f⟩ := h
  refine ⟨fun pins s σ H D I ⟨Ex, ρ, w, eH, hw, he, lk, q⟩ => ?_⟩
  subst eH
  exact (p W tk).run pins s σ w.H D I (f Ex W ρ σ w D hw he lk q)
/-- a class n that is named in a clause; the classes ms that it takes -/
structure XCat (K : PySem.W.Frag) (mg : Str → Option Value) (n : Str) (C : Addr) (ms : List Str) : Prop where
  mg_ : mg n = some (.ref C)
  ex : ∀ m ∈ ms, ∀ C', ClsAt K m C' → PySem.W.exmOne K (.ref C') (.ref C) = some true
theorem xcat_nil {K : PySem.W.Frag} {mg : Str → Option Value} {n : Str} {C : Addr} (h : mg n = some (.ref C)) : XCat K mg n C [] := ⟨h, fun m hm => nomatch hm⟩
theorem xcat_cons {K : PySem.W.Frag} {mg : Str → Option Value} {n m : Str} {C C2 : Addr} {ms : List Str} (a : ClsAt K m C2) (e : PySem.W.exmOne K (.ref C2) (.ref C) = some true) (r : XCat K mg n C ms) : XCat K mg n C (m :: ms) := by
  refine ⟨r.mg_, fun m' hm C' h => ?_⟩
  rcases List.mem_cons.mp hm with rfl | hm
  · obtain rfl := h.inj a
    exact e
  · exact r.ex m' hm C' h
theorem RepE.gone {K : PySem.W.Frag} {G : Hp} {ρ : DEnv} {σ : L2.St} (h : RepE K G ρ σ) (i : Nat) : RepE K G (ρ.set i none) (σ.set i none) := by
  refine ⟨by rw [List.length_set, List.length_set]; exact h.1, fun j d e => ?_⟩
  by_cases hj : i = j
  · subst hj
    by_cases hl : i < ρ.length
    · rw [List.getElem?_set_self hl] at e; cases e
    · rw [List.getElem?_eq_none (by simpa using hl)] at e; cases e
  · rw [List.getElem?_set_ne hj] at e ⊢
    exact h.get j d e
end
section
variable {P : Program} {w : World} {K : PySem.W.Frag} {mg : Str → Option Value} {base : Heap}
theorem fnR_ok {x qual : Str} {st : Stmt} {f : Addr} {fd : FuncData} {N ps : List Str} {k : Nat} {s : DLX} (F : Fun K x qual st f fd) (S : FnScope N ps (defScope st))
    (len : ∀ ds O Ex, s ds O Ex → ds.length = ps.length)
    (hbody : ∀ (cdv : Value) (A : Around) (outer : List Env) (s' : Shared) (H : Hp) (E : XK), Rm k (cxOf (L2N.CX P w) P w K mg base N qual (defScope st) f cdv A outer s' H E) → PassesOwn (model P w) (cxOf (L2N.CX P w) P w K mg base N qual (defScope st) f cdv A outer s' H E).A (envOfC qual (defScope st) s'.heap.objs.size f cdv) (cxOf (L2N.CX P w) P w K mg base N qual (defScope st) f cdv A outer s' H E).xe →
      ∃ d, DRSs (cxOf (L2N.CX P w) P w K mg base N qual (defScope st) f cdv A outer s' H E) (defBody st) d ∧ ∀ ds O Ex, s ds O Ex → d (fun n d _ O' => Ex n d O') (startD N.length ds) O) :
    FnOk P w K mg base (L2N.CX P w) (k + 1) f fd ps (PromR K s) := by
  obtain ⟨oc, od, kV, doc, pm, an, cdv, ct, osl, rfl, lk, hcd⟩ := F.ex
  refine fn_of lk hcd S (fun vs H Q E ⟨ds, w1, Ex, _, _, r, _, h⟩ => ?_) (fun A outer s' H vs Q E hr ⟨ds, w1, Ex, eH, hw, r, lk, h⟩ => ?_)
  · rw [← r.length]; exact len _ _ _ h
  obtain ⟨d, ⟨t, p, f⟩, hd⟩ := hbody cdv A outer s' H E (.inl ⟨rfl, hr⟩) PassesOwn.leaving
  subst eH
  refine ⟨t (fun cls d _ H' => E cls d H'), p _ (L2N.takes_of rfl rfl rfl rfl), ?_⟩
  exact f _ _ _ _ w1 _ hw r.begun ⟨fun n C d ρ σ w' a b c _ h' => lk.x n C d w' a b c h'⟩ (hd ds w1.O Ex h)
theorem exm_two {S C : Addr} (h1 : PySem.W.subIn K (.ref C) (.type "BaseException") = some true) (h2 : PySem.W.isClsIn K C = true) (h3 : PySem.W.typeIn K (.ref C) = some (.type "type")) (h4 : PySem.W.subIn K (.ref S) (.ref C) = some true) :
    PySem.W.exmOne K (.ref S) (.ref C) = some true := by
  have e1 : (PySem.W.subIn K (.ref C) (.type "BaseException") == some true) = true := by rw [h1] <;> rfl
  have e2 : ((PySem.W.clsIn K C).isSome && PySem.W.typeIn K (.ref C) == some (.type "type")) = true := by
    have h2' : (PySem.W.clsIn K C).isSome = true := h2
    rw [h2', h3] <;> rfl
  show (if (PySem.W.subIn K (.ref C) (.type "BaseException") == some true) = true then (if ((PySem.W.clsIn K C).isSome && PySem.W.typeIn K (.ref C) == some (.type "type")) = true then PySem.W.subIn K (.ref S) (.ref C) else none) else none) = some true
  rw [if_pos e1, if_pos e2]
  exact h4
end
section
variable {M : Model} {A : Around} {E : Value → Shared → Prop} {s : Shared} {env : Env}
/-- what is due when the block is left: no end by a value -/
def lcPost (M : Model) (A : Around) (E : Value → Shared → Prop) (ce : Env) (r : Result) (s' : Shared) : Prop :=
  match r with
  | .ok _ => False
  | .error x => ∃ m, s'.heap.Ns ce.locals m ∧ ∀ h', Heap.SameBut ce.locals s'.heap h' → wpAny M A (passOn "comprehension.variables-let-go" x ce : Sem Value) (fun _ _ => False) E { s' with heap := h' }
theorem wpAny_lc_err {e : Expr} {scope : Scope} {pos : Pos} {newAcc first : Sem Value} {g : Comprehension} {gs : List Comprehension} {cl : List (Str × Addr)} {Q : Value → Shared → Prop}
    (hcl : clausesOf e = g :: gs) (hs : ∀ x, foldedSetIterable g.iter env x = pure x) (hclos : closureFor scope env = pure cl)
    (hkind : scope.kind = .function) (hnames : ∀ x ∈ scope.names, x.2 = .local → scope.names.lookup x.1 = some .local)
    (h : wpAny M A first (fun x s₁ => wpAny M A (pyIter x) (fun it s₂ => wpAny M A newAcc (fun acc s₃ =>
      wpAny M A (newFunctionEnv scope env.globals cl [] env.qual none .none (some env)) (fun cenv s₄ =>
        codeAny M A (.compStart e 0 it acc { cenv with scope := relabel scope env }) (lcPost M A E { cenv with scope := relabel scope env }) s₄) E s₃) E s₂) E s₁) E s) :
    wpAny M A (comprehension e scope env pos newAcc false first none) Q E s := by
  unfold comprehension
  rw [hclos, hcl]
  refine wpAny_bind (wpAny_mono h (fun x s₁ h₁ => wpAny_bind (wpAny_standAt (wpAny_bind (wpAny_of_eq (hs x) (wpAny_bind (wpAny_holding (wpAny_mono h₁ (fun it s₂ h₂ =>
    wpAny_standIf (wpAny_bind (wpAny_mono h₂ (fun acc s₃ h₃ => wpAny_bind (wpAny_pure (wpAny_bind (wpAny_mono h₃ (fun cenv s₄ h₄ => ?_) fun _ _ h' => h')))) fun _ _ h' => h')))
      fun _ _ h' => h'))))))) fun _ _ h' => h')
  dsimp only
  have hv : ∀ x ∈ (scope.names.filter fun x => (x.2 == .local || x.2 == .cell) && x.1 != (".0" : Str)).reverse, x.2 = .local →
      Env.kindOf { cenv with scope := relabel scope env } x.1 = some .local := fun x hx hl => lookup_relabel_local (hnames x (List.mem_filter.mp (List.mem_reverse.mp hx)).1 hl)
  refine wpAny_holding (wpAny_bind (wpAny_attempt (wpAny_holding (wpAny_run (codeAny_mono h₄ fun r s' hr => ?_)))))
  cases r with
  | ok f => exact hr.elim
  | error x =>
    obtain ⟨m, hn, hr⟩ := hr
    exact wpAny_bind (wpAny_holding (wpAny_comp_letGo (cenv := { cenv with scope := relabel scope env }) hkind _ s' m hv hn fun h' m' _ hs' => wpAny_mono (hr h' hs') (fun _ _ f => f.elim) fun _ _ y => y))
end
theorem funFrames_but {h h' base base' : Heap} {C : Addr} (hs : Heap.SameBut C h h') (hb : ∀ b, base.get? b = none → base'.get? b = none) : ∀ {l : List Env}, (∀ env ∈ l, env.frame ≠ some C) → h.FunFrames base l → h'.FunFrames base' l
  | [], _, _ => trivial
  | env :: l, hc, ⟨hk, ⟨L, o, hf, hb0, ho, hd⟩, hr⟩ => by
    have n : L ≠ C := fun z => hc env (List.mem_cons_self ..) (by rw [hf, z])
    exact ⟨hk, ⟨L, o, hf, hb L hb0, (hs.2 L n).trans ho, hd⟩, funFrames_but hs hb (fun e he => hc e (List.mem_cons_of_mem _ he)) hr⟩
section
variable {X : Cx} {pins : List (Addr × Obj)} {σ : L2.St} {H3 : Hp} {s3 : Shared} {W : WX}
/-- the exception leaves the block -/
theorem lc_err {ce : Env} {scope : Scope} {fp : List Addr} {pb : List (Addr × Obj)} {σb : L2.St} {Hb : Hp} {sb s' : Shared} {u : Value} (I3 : Inv X pins σ H3 s3) (hs : X.stack = X.env :: X.outer) (hf : X.env.frame = some X.env.locals) (tk : L2N.Takes X W)
    (f3 : ∀ b ∈ fp, FpOk X pins H3 b) (cL : ce.locals = s3.heap.objs.size) (cF : ce.frame = X.env.frame) (I' : Inv (X.blk s3 H3 scope ce fp) pb σb Hb sb)
    (c : L2N.CX X.prog X.w X.stack Hb sb (fun cls d H => W cls d σ H) u s') :
    notedBy (model X.prog X.w) X.A ce (fun e s' => lcPost (model X.prog X.w) X.A X.xe ce (.error e) s') u s' := by
  have x := L2N.XE.of_call (X := X.blk s3 H3 scope ce fp) (W := fun cls d _ H => W cls d σ H) I' (fun _ _ _ h => h) c
  obtain ⟨a0, _, _, _, _, rfl, fl0, _⟩ := c
  obtain ⟨a, B, sI, pins', σ', H'', cls, d, ea, II, nb, up, sky, na, os, ag, w⟩ := x
  cases ea
  have fl : HandSPX.FlyingZ B X.stack a0 (L2N.Zn cls d) s'.heap := by
    obtain ⟨_, _, _, oe, vs, T, oT, ts, e1, _, e2, e3, _, _, e4, e5, e6⟩ := fl0
    rcases sky with ⟨_, _, _, oe', vs', q1, _, q2, q3⟩ | z | ⟨_, _, _, oe', vs', T', oT', ts', q1, _, q2, q3, _, _, q4, q5, q6⟩
    · rw [e1] at q1; cases q1
      rw [e2] at q2; cases q2
      rw [e3] at q3; cases q3
    · exact z
    · rw [e1] at q1; cases q1
      rw [e2] at q2; cases q2
      rw [e3] at q3; cases q3
      rw [e4] at q4; cases q4
      rw [e5] at q5; cases q5
      rw [e6] at q6
      simp [rawInt] at q6
  have hfr : X.A.frames = some (X.env :: X.outer) := by rw [I3.ok.frames, hs]
  have nl : ∀ b o, sI.heap.get? b = some o → b ∉ frs X.stack → B.get? b = some o := nb
  rw [hs] at fl
  have note : noteFrame (.ref a0) ce = noteFrame (.ref a0) X.env := by unfold noteFrame PySem.frameOf; rw [cF]
  unfold notedBy
  rw [note]
  refine PXN.looks_onZ L2N.Zn.steady hfr hf fl fun h1 hh up1 => ?_
  obtain ⟨m, hn, _⟩ := II.loc
  have hn : sI.heap.Ns ce.locals m := hn
  have nfs : ce.locals ∉ frs X.stack := fun z => by
    rcases List.mem_cons.mp (I3.stkSub _ z) with z | z
    · have q := I3.lt
      rw [cL] at z
      rw [← z] at q
      exact Nat.lt_irrefl _ q
    · exact I3.nofs (by rw [cL]; exact Nat.le_refl _) z
  obtain ⟨oC, es, ep, gC, dC, rC⟩ := hn
  have bC : B.get? ce.locals = some oC := nl _ _ gC nfs
  refine ⟨m, ⟨oC, es, ep, hh.1 _ _ bC, dC, rC⟩, fun h' sm => ?_⟩
  -- the names' dict has gone
  have hB : ∀ b o, (PySem.W.hideAll B [ce.locals]).get? b = some o → b ≠ ce.locals ∧ B.get? b = some o := fun b o e => by
    refine ⟨fun z => ?_, PySem.W.of_hideAll _ e⟩
    rw [z, PySem.W.hideAll_none _ (List.mem_singleton.mpr rfl)] at e
    cases e
  have hBn : ∀ b, B.get? b = none → (PySem.W.hideAll B [ce.locals]).get? b = none := fun b e => by
    cases q : (PySem.W.hideAll B [ce.locals]).get? b with
    | none => rfl
    | some o => rw [(hB b o q).2] at e; cases e
  obtain ⟨k1, k2, k3, oe, vs, T, oT, ts, t1, t2, t3, t4, t5, t6, t7, t8, t9⟩ := hh
  have na0 : a0 ≠ ce.locals := fun z => by rw [z, bC] at k2; cases k2
  have nT : T ≠ ce.locals := fun z => by rw [z, bC] at t5; cases t5
  have he : h'.get? a0 = some oe := (sm.2 _ na0).trans t1
  have hh' : HandSPX.HeldZ (PySem.W.hideAll B [ce.locals]) (X.env :: X.outer) a0 (L2N.Zn cls d) X.env.locals h' := by
    refine ⟨fun b o e => ?_, hBn _ k2, funFrames_but sm hBn (fun e he z => ?_) k3, oe, vs, T, oT, ts, he, t2, t3, t4, hBn _ t5, t6, (sm.2 _ nT).trans t7, t8, t9⟩
    · obtain ⟨n, e⟩ := hB b o e
      exact (sm.2 b n).trans (k1 b o e)
    · refine nfs ?_
      rw [hs]
      exact List.mem_filterMap.mpr ⟨e, he, z⟩
  have nC : H'' ce.locals = none := II.free
  have J0 : Inv X pins σ H'' sI := I3.call' (ch := fp) II.os II.base II.hok II.bare fun b hb => ⟨(f3 b hb).2.2.2.1, (f3 b hb).2.1, (f3 b hb).2.2.2.2.1, (f3 b hb).2.2.2.2.2⟩
  obtain ⟨p0, p1, p2, p3, p4, p5⟩ := I3.fpOk (b := ce.locals) (H' := H'') (by rw [cL]; exact Nat.le_refl _) nC
  have J : Inv X pins σ H'' { sI with heap := PySem.W.hideAll sI.heap [ce.locals] } := J0.turned (t' := sI.toks) (it := ce.locals) (fun b o n e => PySem.W.hideAll_get _ e (by simpa using n)) p0 p1 p3 p4 p5
  unfold PySem.passOn
  refine wpAny_bind (wpAny_field he t3 t4 ?_)
  rw [if_neg (show ¬ ((Value.ref T == Value.none) = true) from by simp)]
  have fin : wpAny (model X.prog X.w) X.A (setFlight (.ref a0) ce.frame) (fun _ s4 => wpAny (model X.prog X.w) X.A (throw (.ref a0) : Sem Value) (fun _ _ => False) X.xe s4) X.xe { s' with heap := h' } := by
    rw [cF, hf]
    refine HandSPX.setFlight_onZ hh' fun h4 hh4 up4 => wpAny_throw (tk _ _ ?_)
    refine ⟨a0, PySem.W.hideAll B [ce.locals], { sI with heap := PySem.W.hideAll sI.heap [ce.locals] }, pins, σ, H'', cls, d, rfl, J, fun b o e hb => ?_, fun b o e hnf => ?_, .inr (.inr (by rw [hs]; exact hh4)), na, os, ag, w⟩
    · have n : b ≠ ce.locals := fun z => by
        rw [z] at e
        have e' : (PySem.W.hideAll sI.heap [ce.locals]).get? ce.locals = some o := e
        rw [PySem.W.hideAll_none _ (List.mem_singleton.mpr rfl)] at e'; cases e'
      exact PySem.W.hideAll_get _ (nl b o (PySem.W.of_hideAll _ e) hb) (by simpa using n)
    · have n : b ≠ ce.locals := fun z => by
        rw [z] at e
        have e' : (PySem.W.hideAll sI.heap [ce.locals]).get? ce.locals = some o := e
        rw [PySem.W.hideAll_none _ (List.mem_singleton.mpr rfl)] at e'; cases e'
      obtain ⟨sl, e1⟩ := up b o (PySem.W.of_hideAll _ e) hnf
      obtain ⟨sl2, e2⟩ := up1 b _ e1 hnf
      have e3 := (sm.2 b n).trans e2
      obtain ⟨sl3, e4⟩ := up4 b _ e3 hnf
      exact ⟨sl3, e4⟩
  first
    | exact wpAny_bind (wpAny_pure (wpAny_bind fin))
    | exact wpAny_bind fin
end
section
variable {X : Cx} {elt tg iter : Expr} {scope : Scope} {own : List (Str × Nat)} {pos : Pos} {wi : TI} {g : TG} {te : XK → TE} {W : WX}
def tLcR (wi : TI) (g : TG) (te : XK → TE) (vs : List Nat) (W : WX) : TE := fun σ H _ => wi σ H fun J H1 => ∀ D, H1 D = none → ∃ Wv : Nat → Nat → Hp → Prop, (∃ m, Wv 0 m (upd H1 D (.lst []))) ∧ ∀ i m H, Wv i m H → J.go i H ∧ ∃ Nx : Hp → Prop, (∀ H', Nx H' → ∃ m', m' < m ∧ Wv (i + 1) m' H') ∧
  ∀ x H', J.yld i H x H' → g x (L2.wipe σ vs) H' fun σ2 H2 => L2.wipe σ2 vs = L2.wipe σ vs ∧ te (fun cls d H => W cls d σ H) σ2 H2 fun y H4 => ∃ acc, H4 D = some (.lst acc) ∧ acc.length < sizeLine ∧ Nx (upd H4 D (.lst (acc ++ [y])))
theorem pe_lcR (hc : X.calm = true) (hN : X.N.Nodup) (hs : X.stack = X.env :: X.outer) (hf : X.env.frame = some X.env.locals) (tk : L2N.Takes X W) (hi : PI X tg iter wi) (ok : BlkOk X.N X.env.scope scope own)
    (hg : ∀ (s : Shared) (H : Hp) (C : Addr) (cl : List (Str × Addr)) (fp : List Addr), PG (X.blk s H scope (compEnvC scope cl C X.env) fp) tg g)
    (he : ∀ (s : Shared) (H : Hp) (C : Addr) (cl : List (Str × Addr)) (fp : List Addr) (pn : List (Addr × Obj)) (xe : Value → Shared → Prop) (E : XK), (∀ σ, PassesAt (L2N.CX X.prog X.w) ((X.blk s H scope (compEnvC scope cl C X.env) fp).tr pn xe) σ E) → PE ((X.blk s H scope (compEnvC scope cl C X.env) fp).tr pn xe) elt (te E))
    (hfs : ∀ x, foldedSetIterable iter X.env x = pure x := by intro _; rfl) :
    PE X (.ListComp elt [⟨tg, iter, [], 0⟩] scope pos) (tLcR wi g te (own.map (·.2)) W) := by
  refine ⟨fun pins s σ H Q I h => ?_⟩
  rw [eval_ListComp]
  have hfree : ∀ y ∈ scope.names, y.2 = .free → ∃ c, X.env.cells.lookup y.1 = some c := fun y hy e => by
    rcases ok.free y hy e with k | k
    · exact I.ok.has _ (.inl k)
    · exact I.ok.has _ (.inr k)
  refine wpAny_lc_err (g := ⟨tg, iter, [], 0⟩) (gs := []) rfl hfs (closure_ok hfree) ok.kind (fun y hy e => by rw [ok.uniq y hy, e])
    (thn (hi.run pins s σ H _ I h) fun xv s1 hx => thn hx fun itv s2 h2 => ?_)
  obtain ⟨it, fp, tn, J, H2, e, I2, T, st2, f2, q⟩ := h2
  subst e
  refine wpAny_newObj_type (newEnv_comp ?_) (by show 0 ≤ sizeLine; decide)
  generalize hD : s2.heap.objs.size = D
  have hDn : H2 D = none := I2.hok.fresh (Nat.le_of_eq hD)
  obtain ⟨Wv, ⟨m0, w0⟩, turn⟩ := q D hDn
  generalize hs3 : ({ s2 with heap := s2.heap.push { cls := .type "list", data := .seq ([] : List Value).toArray } } : Shared) = s3
  have I3 : Inv X pins σ (upd H2 D (.lst [])) s3 := by
    rw [← hs3]
    refine I2.laid (t' := s2.toks) (fun b o e => Heap.get?_push_of_some _ e) (Nat.le_of_eq hD) ⟨Nat.zero_le _, [], 0, .nil, ?_⟩
    rw [← hD]
    exact Heap.get?_push_size _ rfl
  have h3 : s3.heap = s2.heap.push { cls := .type "list", data := .seq ([] : List Value).toArray } := by rw [← hs3]
  have sz : ∀ b ∈ fp, b < s2.heap.objs.size := fun b hb => by
    obtain ⟨o, e, _⟩ := T.obj _ _ st2 b hb
    exact Heap.lt_size e
  have f3 : ∀ b ∈ fp, FpOk X pins (upd H2 D (.lst [])) b ∧ b < s3.heap.objs.size := fun b hb => by
    have hlt := sz b hb
    refine ⟨⟨?_, (f2 b hb).2⟩, by rw [h3, Heap.size_push]; exact Nat.lt_succ_of_lt hlt⟩
    rw [upd_ne (by rw [← hD]; exact Nat.ne_of_lt hlt)]
    exact (f2 b hb).1
  have st3 : tn 0 s3.heap := T.keep _ _ _ st2 fun b _ o e => by rw [h3]; exact Heap.get?_push_of_some _ e
  have I4 := block_start I3 ok hN f3
  have pg := hg s3 (upd H2 D (.lst [])) s3.heap.objs.size (cellsFrom (s3.heap.objs.size + 1) scope.names (cloFrom X.env.cells scope.names [])) fp
  have pe := he s3 (upd H2 D (.lst [])) s3.heap.objs.size (cellsFrom (s3.heap.objs.size + 1) scope.names (cloFrom X.env.cells scope.names [])) fp
  show codeAny _ _ (.compStart (.ListComp elt [⟨tg, iter, [], 0⟩] scope pos) 0 (.ref it) (.ref D) (compEnvC scope (cellsFrom (s3.heap.objs.size + 1) scope.names (cloFrom X.env.cells scope.names [])) s3.heap.objs.size X.env)) (lcPost (model X.prog X.w) X.A X.xe (compEnvC scope (cellsFrom (s3.heap.objs.size + 1) scope.names (cloFrom X.env.cells scope.names [])) s3.heap.objs.size X.env)) { s3 with heap := pushCells (s3.heap.push { cls := .type "dict", data := .dict #[] }) scope.names }
  have nfp : ∀ b ∈ fp, (upd H2 D (.lst [])) b = none := fun b hb => (f3 b hb).1.1
  generalize hce : compEnvC scope (cellsFrom (s3.heap.objs.size + 1) scope.names (cloFrom X.env.cells scope.names [])) s3.heap.objs.size X.env = ce at I4 pg pe ⊢
  have cL : ce.locals = s3.heap.objs.size := by subst hce; rfl
  have cF : ce.frame = X.env.frame := by subst hce; rfl
  generalize hH3 : upd H2 D (.lst []) = H3 at I3 I4 pg pe w0 nfp f3
  generalize hs4 : ({ s3 with heap := pushCells (s3.heap.push { cls := .type "dict", data := .dict #[] }) scope.names } : Shared) = s4 at I4 ⊢
  have st4 : tn 0 s4.heap := T.keep _ _ _ st3 fun b _ o e => by rw [← hs4]; exact pushCells_keeps _ _ _ _ (Heap.get?_push_of_some _ e)
  have stat : ∀ {σ' : L2.St} {H' : Hp} {s' : Shared}, Inv (X.blk s3 H3 scope ce fp) [] σ' H' s' → (∀ b ∈ fp, H' b = none) → ∀ b ∈ fp, FpOk (X.blk s3 H3 scope ce fp) [] H' b := fun {σ' H' s'} I' hn b hb =>
    ⟨hn b hb, (I'.ok.exf b hb).1, I'.ok.exfs b hb, .inl hb, fun x c e => (I'.ok.exf b hb).2 x c e, fun p hp => absurd (show p ∈ ([] : List (Addr × Obj)) ++ [] from hp) (by simp)⟩
  have loop : codeAny (model X.prog X.w) X.A (.compLoop (.ListComp elt [⟨tg, iter, [], 0⟩] scope pos) 0 (.ref it) (.ref D) ce) (lcPost (model X.prog X.w) X.A X.xe ce) s4 := by
    refine compLoop_any (fun n s' => ∃ i H', Inv (X.blk s3 H3 scope ce fp) [] (L2.wipe σ (own.map (·.2))) H' s' ∧ tn i s'.heap ∧ (∀ b ∈ fp, H' b = none) ∧ Wv i n H') ?_ m0 ⟨0, H3, I4, st4, nfp, w0⟩
    rintro n s5 ⟨i, H5, I5, st5, n5, w5⟩
    obtain ⟨go, Nx, hNx, step⟩ := turn i n H5 w5
    have ti := T.item (X.blk s3 H3 scope ce fp) rfl rfl rfl hc i [] s5 _ H5 (fun _ _ => False) I5 (stat I5 n5) st5 go
    refine thnF ti fun r s6 ⟨u, hr, h6⟩ => ?_
    subst hr
    refine thnF h6 fun _ s7 ⟨x, H7, I7, r7, y7, st7, n7⟩ => ?_
    have I7' := I7.pinned (stat I7 n7) (T.obj _ _ st7)
    refine thnF (pg.run _ s7 _ H7 x u _ I7' r7 (step x H7 y7)) fun _ s8 ⟨σ8, H8, I8, hw8, q8⟩ => ?_
    refine thnF ((pts_nil (X := X.blk s3 H3 scope ce fp)).run _ s8 σ8 H8 (fun b H' => b = true ∧ H' = H8) I8 ⟨rfl, rfl⟩) fun b s9 ⟨H9, I9, eb, eH⟩ => ?_
    subst eb
    subst eH
    have fin : ∀ {s' : Shared} {H' : Hp}, Inv (X.blk s3 H3 scope ce fp) ([] ++ pinsAt fp s7.heap) σ8 H' s' → Nx H' → ∃ m, m < n ∧ ∃ i H', Inv (X.blk s3 H3 scope ce fp) [] (L2.wipe σ (own.map (·.2))) H' s' ∧ tn i s'.heap ∧ (∀ b ∈ fp, H' b = none) ∧ Wv i m H' := fun {s' H'} I' nx => by
      obtain ⟨m', hm, w'⟩ := hNx H' nx
      have pin' : ∀ b ∈ fp, ∀ o, s7.heap.get? b = some o → s'.heap.get? b = some o ∧ H' b = none := fun b hb o e =>
        let z := I'.pin (b, o) (List.mem_append_right _ (List.mem_append_right _ (mem_pinsAt hb e)))
        ⟨z.1, z.2.1⟩
      have hl : (L2.wipe σ (own.map (·.2))).length = σ8.length := by rw [← hw8, L2.wipe_length]
      refine ⟨m', hm, i + 1, H', (I'.unpinned (pins := [])).weak hl (fun j v e => ?_), T.keep _ _ _ st7 fun b hb o e => (pin' b hb o e).1, fun b hb => ?_, w'⟩
      · rw [← hw8] at e
        exact (L2.wipe_some e).1
      · obtain ⟨o, e, _⟩ := T.obj _ _ st7 b hb
        exact (pin' b hb o e).2
    simp only [if_true]
    obtain ⟨xe, hxe⟩ : ∃ xe : Value → Shared → Prop, xe = fun e s' => ∃ σb Hb sb, Inv (X.blk s3 H3 scope ce fp) ([] ++ pinsAt fp s7.heap) σb Hb sb ∧ L2N.CX X.prog X.w X.stack Hb sb (fun cls d H => W cls d σ H) e s' := ⟨_, rfl⟩
    have pe9 := pe ((X.blk s3 H3 scope ce fp).pn ++ ([] ++ pinsAt fp s7.heap)) xe (fun cls d H => W cls d σ H) (fun σb pb Hb sb e s' Ib c => by
      show xe e s'
      rw [hxe]
      exact ⟨σb, Hb, sb, L2.Inv.ofTry Ib I9.ok, c⟩)
    refine wpAny_mono (pe9.run [] s9 σ8 H9 _ (L2.Inv.toTry I9 xe) q8) (fun z s10 ⟨yv, H10, I10, r10, acc, hD10, hz10, nx⟩ => ?_) (fun e s' z => ?_)
    · exact app_ok (X := X.blk s3 H3 scope ce fp) (L2.Inv.ofTry I10 I9.ok) hD10 hz10 r10 fun s11 I11 => fin I11 nx
    · have z : xe e s' := z
      rw [hxe] at z
      obtain ⟨σb, Hb, sb, Ib, c⟩ := z
      exact lc_err I3 hs hf tk (fun b hb => (f3 b hb).1) cL cF Ib c
  exact codeAny_compStart_list loop (T.self X.A 0 _ _ _ st4 loop)
end
abbrev DRX := (Str → Option Addr → Ow → Prop) → DEnv → Ow → Prop
def SemRX (K : PySem.W.Frag) (t : (L2.St → XK) → TE) (dr : DRX) : Prop := ∀ Ex E ρ σ w Q, Own K w → RepE K w.G ρ σ → LkX K w Ex (E σ) → dr Ex ρ w.O → t E σ w.H Q
def DRX1 (B : Cx) (e : Expr) (dr : DRX) : Prop := ∃ t : (L2.St → XK) → TE, (∀ E, (∀ σ, PassesAt (L2N.CX B.prog B.w) B σ (E σ)) → PE B e (t E)) ∧ SemRX B.K t dr
def drOfX (dr : DRX) : DRt := fun Ex ρ O => dr (fun n d O' => Ex n d ρ O') ρ O
theorem LkW.lkx {K : PySem.W.Frag} {w w1 : Wd} {Ex : DXQ} {W : WX} {ρ : DEnv} {σ : L2.St} (lk : LkW K w Ex W) (he : RepE K w.G ρ σ) (f : Fr w w1) : LkX K w1 (fun n d O => Ex n d ρ O) (fun cls d H => W cls d σ H) :=
  ⟨fun n C d w' a b c q => lk.x n C d ρ σ w' a b (f.trans c) (he.mono (f.trans c).gsub) q⟩
theorem dre_ofX {X : Cx} {e : Expr} {dr : DRX} (h : DRX1 X e dr) : DRE X e (drOfX dr) := by
  obtain ⟨t, p, f⟩ := h
  exact ⟨fun W => t (WE W), fun W tk => p _ (fun σ => L2N.passAt tk σ), fun Ex W ρ σ w Q hw he lk h => f _ _ ρ σ w Q hw he (lk.lkx he (Fr.refl w)) h⟩
def tOfX (K : PySem.W.Frag) (dr : DRX) (E : L2.St → XK) : TE := fun σ H _ => ∃ Ex ρ w, w.H = H ∧ Own K w ∧ RepE K w.G ρ σ ∧ LkX K w Ex (E σ) ∧ dr Ex ρ w.O
theorem DRX1.canon {B : Cx} {e : Expr} {dr : DRX} (h : DRX1 B e dr) {E : L2.St → XK} (hE : ∀ σ, PassesAt (L2N.CX B.prog B.w) B σ (E σ)) : PE B e (tOfX B.K dr E) := by
  obtain ⟨t, p, f⟩ := h
  refine ⟨fun pins s σ H Q I ⟨Ex, ρ, w, eH, hw, he, lk, q⟩ => (p E hE).run pins s σ H Q I ?_⟩
  subst eH
  exact f Ex E ρ σ w Q hw he lk q
theorem pe_or {B : Cx} {e : Expr} {t u : TE} (h1 : PE B e t) (h2 : PE B e u) : PE B e (fun σ H Q => t σ H Q ∨ u σ H Q) := ⟨fun pins s σ H Q I h => h.elim (h1.run pins s σ H Q I) (h2.run pins s σ H Q I)⟩
/-- a block whose clause may raise -/
structure BlkR (B : Cx) (tg elt : Expr) (gd : D → DEnv → Option DEnv) (slots : List Nat) (dte : DT) (dr : DRX) : Prop where
  g : DG B tg gd slots
  e : DE B elt dte
  r : DRX1 B elt dr
def rLc (gd : D → DEnv → Option DEnv) (te : DT) (r : DRX) (stay : Ow → Prop) (ρ : DEnv) (Ex : Str → Option Addr → Ow → Prop) : List D → Ow → Prop
  | [], _ => False
  | d :: l, O => ∃ ρ', gd d ρ = some ρ' ∧ (r Ex ρ' O ∨ te ρ' O fun _ O2 => stay O2 ∧ rLc gd te r stay ρ Ex l O2)
def drLc (di : DIt) (gd : D → DEnv → Option DEnv) (te : DT) (r : DRX) (vs : List Nat) : DRt := fun Ex ρ O =>
  di ρ O fun items stay O1 => items.length ≤ 100000 ∧ stay O1 ∧ rLc gd te r stay (wipeD ρ vs) (fun n d O' => Ex n d ρ O') items O1
theorem dre_lc {X : Cx} {elt tg iter : Expr} {scope : Scope} {own : List (Str × Nat)} {pos : Pos} {di : DIt} {gd : D → DEnv → Option DEnv} {slots : List Nat} {dte : DT} {dr : DRX} (hc : X.calm = true) (hN : X.N.Nodup) (hi : DI X tg iter di) (ok : BlkOk X.N X.env.scope scope own)
    (hb : ∀ (s : Shared) (H : Hp) (C : Addr) (cl : List (Str × Addr)) (fp : List Addr) (pn : List (Addr × Obj)) (xe : Value → Shared → Prop), Up X ((X.blk s H scope (compEnvC scope cl C X.env) fp).tr pn xe) → BlkR ((X.blk s H scope (compEnvC scope cl C X.env) fp).tr pn xe) tg elt gd slots dte dr)
    (hv : ∀ i ∈ slots, i ∈ own.map (·.2) := by decide) (hfs : ∀ x, foldedSetIterable iter X.env x = pure x := by intro _; rfl) (hs : X.stack = X.env :: X.outer := by rfl) (hf : X.env.frame = some X.env.locals := by rfl) :
    DRE X (.ListComp elt [⟨tg, iter, [], 0⟩] scope pos) (drLc di gd dte dr (own.map (·.2))) := by
  obtain ⟨wi, pi, fi⟩ := hi.cold hc
  have up : ∀ (s : Shared) (H : Hp) (C : Addr) (cl : List (Str × Addr)) (fp : List Addr) (pn : List (Addr × Obj)) (xe : Value → Shared → Prop), Up X ((X.blk s H scope (compEnvC scope cl C X.env) fp).tr pn xe) := fun _ _ _ _ _ _ _ _ h => .inl ⟨hc, h.room hc⟩
  refine ⟨fun W => tLcR wi (gOf X.K gd slots) (fun E σ H Q => tOf X.K dte σ H Q ∨ tOfX X.K dr (fun _ => E) σ H Q) (own.map (·.2)) W, fun W tk => pe_lcR hc hN hs hf tk pi ok (fun s H C cl fp => (hb s H C cl fp [] (fun _ _ => False) (up _ _ _ _ _ _ _)).g.canon)
    (fun s H C cl fp pn xe E hE => let b := hb s H C cl fp pn xe (up _ _ _ _ _ _ _); pe_or b.e.canon (b.r.canon (E := fun _ => E) hE)) hfs, fun Ex W ρ σ w Q hw he lk h => ?_⟩
  refine fi ρ σ w _ _ hw he (fun items stay J w1 hw1 f1 Wk ⟨hlen, hst, h1⟩ => ?_) h
  intro p hp
  have hwp : Own X.K ⟨w1.G, w1.O, upd w1.H p (.lst [])⟩ := ⟨fun b x e => (upd_ne (ne_of_none (hw1.sub b x e) hp)).trans (hw1.sub b x e),
    fun q o e => by
      obtain ⟨z1, x, z2, z3⟩ := hw1.own q o e
      exact ⟨z1, x, (upd_ne (ne_of_none z2 hp)).trans z2, z3⟩⟩
  have frp : Fr w1 ⟨w1.G, w1.O, upd w1.H p (.lst [])⟩ := ⟨Same.refl _, fun b x e _ => (upd_ne (ne_of_none e hp)).trans e, fun b x e _ => .inl e, fun b e => .inr e, fun b e => by
    by_cases y : b = p
    · show upd w1.H p _ b ≠ none
      rw [y, upd_same]; simp
    · show upd w1.H p _ b ≠ none
      rw [upd_ne y]; exact e⟩
  let Rest : Nat → Hp → Prop := fun i H => ∃ (w2 : Wd) (us : List V), w2.H = H ∧ Own X.K w2 ∧ Fr w1 w2 ∧ w2.G p = none ∧ w2.O p = none ∧ H p = some (.lst us) ∧ us.length ≤ i ∧ stay w2.O ∧ rLc gd dte dr stay (wipeD ρ (own.map (·.2))) (fun n d O' => Ex n d ρ O') (items.drop i) w2.O
  refine ⟨fun i m H => m = items.length - i ∧ i ≤ items.length ∧ Rest i H, ⟨items.length, by simp, Nat.zero_le _, ?_⟩, ?_⟩
  · exact ⟨_, [], rfl, hwp, frp, (hw1.none_of hp).1, (hw1.none_of hp).2, upd_same, Nat.zero_le _, hst, by simpa using h1⟩
  rintro i m H ⟨rfl, hi, w2, us, rfl, hw2, f2, gp, op, hpu, hal, hst2, hl⟩
  have hlt : i < items.length := by
    rcases Nat.lt_or_ge i items.length with z | z
    · exact z
    · rw [List.drop_eq_nil_of_le z] at hl; exact hl.elim
  refine ⟨Wk.go i w2 hw2 f2 hst2 hlt, Rest (i + 1), fun H' p' => ⟨items.length - (i + 1), by omega, rfl, hlt, p'⟩, fun x H' y => ?_⟩
  rw [List.drop_eq_getElem_cons hlt] at hl
  obtain ⟨ρ', eg, hl⟩ := hl
  obtain ⟨w3, eH, eO, hw3, f3, r3⟩ := Wk.yld i w2 x H' hw2 f2 hst2 y items[i] (List.getElem?_eq_getElem hlt)
  subst eH
  have he3 : RepE X.K w3.G (wipeD ρ (own.map (·.2))) (L2.wipe σ (own.map (·.2))) := (RepE.wipe _ he).mono (f1.gsub.trans (f2.gsub.trans f3.gsub))
  refine (sem_gOf (K := X.K) (gd := gd) (slots := slots)).run w3 _ x _ ρ' _ _ hw3 he3 r3 eg fun σ4 he4 hl4 hj4 => ⟨?_, ?_⟩
  · have e1 : L2.wipe (L2.wipe σ (own.map (·.2))) (own.map (·.2)) = L2.wipe σ (own.map (·.2)) := wipe_eq (wipe_length σ _) fun j hj => by rw [wipe_get, if_neg hj]
    rw [← e1]
    exact wipe_eq hl4 fun j hj => hj4 j fun z => hj (hv j z)
  rw [← eO] at hl
  rcases hl with hl | hl
  · exact .inr ⟨_, ρ', w3, rfl, hw3, he4, lk.lkx he (f1.trans (f2.trans f3)), hl⟩
  refine .inl (sem_tOf ρ' σ4 w3 (fun _ O2 => stay O2 ∧ rLc gd dte dr stay (wipeD ρ (own.map (·.2))) (fun n d O' => Ex n d ρ O') (items.drop (i + 1)) O2) _ hw3 he4 (fun yv vy w5 hw5 f5 r5 h5 => ?_) hl)
  have f35 := f3.trans f5
  have k5 := f35.keep p _ hpu op
  have g5 : w5.G p = none := by
    cases q : w5.G p with
    | none => rfl
    | some z =>
      rcases f35.gnew p z q (by rw [hpu]; simp) with t | t
      · rw [gp] at t; cases t
      · exact absurd op t
  have o5 : w5.O p = none := by
    cases q : w5.O p with
    | none => rfl
    | some z =>
      rcases f35.onew p (by rw [q]; simp) with t | t
      · rw [hpu] at t; cases t
      · exact absurd op t
  have hz : us.length < sizeLine := by
    have := line100000
    omega
  have hw6 : Own X.K ⟨w5.G, w5.O, upd w5.H p (.lst (us ++ [vy]))⟩ := ⟨fun b x e => by
      have hb : b ≠ p := fun z => by
        have e' : w5.G b = some x := e
        rw [z, g5] at e'; cases e'
      exact (upd_ne hb).trans (hw5.sub b x e),
    fun q o e => by
      have hq : q ≠ p := fun z => by
        have e' : w5.O q = some o := e
        rw [z, o5] at e'; cases e'
      obtain ⟨z1, x, z2, z3⟩ := hw5.own q o e
      exact ⟨z1, x, (upd_ne hq).trans z2, z3⟩⟩
  have f15 : Fr w1 w5 := f2.trans f35
  have fr6 : Fr w1 ⟨w5.G, w5.O, upd w5.H p (.lst (us ++ [vy]))⟩ := ⟨f15.gsub, fun b x e n => by
      have hb : b ≠ p := ne_of_none e hp
      exact (upd_ne hb).trans (f15.keep b x e n), f15.gnew, f15.onew, fun b e => by
      by_cases y : b = p
      · show upd w5.H p _ b ≠ none
        rw [y, upd_same]; simp
      · show upd w5.H p _ b ≠ none
        rw [upd_ne y]; exact f15.dom b e⟩
  exact ⟨us, k5, hz, _, us ++ [vy], rfl, hw6, fr6, g5, o5, upd_same, by rw [List.length_append]; simp; omega, h5.1, h5.2⟩
section
variable {X : Cx} {CX : CXT} {k : Nat} {f C : Addr} {fd : FuncData} {ps : List Str} {sp : Sp} {E : L2.St → XK} {n m : Str} {pos apos : Pos} {o : Expr} {ta : TE} {doo : DT} {s : DLX} {g : Addr}
theorem pe_methC0 {pl : Sem Bool} (he : PE X o ta) (c : Cls X.K C) (hm : Meth X.K C m f) (F : FnOk X.prog X.w X.K X.mg X.base CX k f fd ps sp) (hr : Room k X.A) (hb : Binds X.K fd ps []) (hx : ∀ σ, PassesAt CX X σ (E σ))
    (ht : eval (.Call (.Attribute o m apos) [] [] pos) X.env = (do
      let ov ← eval o X.env
      standAt apos.atName
      let (f, first) ← holding [ov] (getMethod ov m pl)
      callWith pos f first (backTo pos (starEach [] X.env)) (backToKw pos (keywordEach [] X.env)))) :
    PE X (.Call (.Attribute o m apos) [] [] pos) (L2H.tMethH C m sp E ta tNil) := by
  refine ⟨fun pins s σ H Q I h => ?_⟩
  refine PySem.W.methodCall_KW (pl := pl) (thn (he.run pins s σ H _ I h) ?_) ht
  rintro u s1 ⟨x, H1, I1, rx, a, dx, fs, rfl, ea, l, q⟩
  cases rx
  refine getmeth_ok I1 ea c hm l ?_
  exact PySem.W.callWith_K0 (first := [.ref a]) I1.kIn hm.kp (run_fnS (us := [.ref a]) (vs := [.ref a]) F hr hb (hx σ) I1 (.cons rfl .nil) q)
def drMeth0 (n m : Str) (s : DLX) (doo : DT) : DRX := fun Ex ρ O => doo ρ O fun x O1 => ∃ p fs, x = .ref p ∧ O1 p = some (.ins n fs) ∧ fs.lookup m = none ∧ s [x] O1 Ex
theorem dre_meth0 (hc : ClsOk X.K n C) (hm : Meth X.K C m g) (F : FnOk X.prog X.w X.K X.mg X.base (L2N.CX X.prog X.w) k g fd ps (PromR X.K s)) (hr : Rm k X) (hcm : X.calm = true) (hb : Binds X.K fd ps []) (ho : DE X o doo)
    (pl : Sem Bool)
    (ht : eval (.Call (.Attribute o m apos) [] [] pos) X.env = (do
      let ov ← eval o X.env
      standAt apos.atName
      let (f, first) ← holding [ov] (getMethod ov m pl)
      callWith pos f first (backTo pos (starEach [] X.env)) (backToKw pos (keywordEach [] X.env)))) : DRX1 X (.Call (.Attribute o m apos) [] [] pos) (drMeth0 n m s doo) := by
  obtain ⟨to, po, fo⟩ := ho
  refine ⟨fun E => L2H.tMethH C m (PromR X.K s) E to tNil, fun E hE => pe_methC0 (pl := pl) po hc.cls hm F (hr.room hcm) hb hE ht, fun Ex E ρ σ w Q hw he lk h => ?_⟩
  refine fo ρ σ w _ _ hw he (fun x vx w1 hw1 f1 rx ⟨q, fs, ex, eo, el, h1⟩ => ?_) h
  subst ex
  obtain ⟨dx, gs, hh, r⟩ := ins_own hw1 hc eo
  refine ⟨q, dx, gs, rx.ref_of, hh, r.none el, ?_⟩
  exact ⟨[.ref q], w1, _, rfl, hw1, .cons rx .nil, ⟨fun n' C' d w' a b c q => lk.x n' C' d w' a b (f1.trans c) q⟩, h1⟩
end
section
variable {X : Cx} {e o c : Expr} {es : List Expr} {body : List Stmt} {da doo : DT} {dr dr2 : DRt} {dt : DTt} {ds : DS'} {dl : DTa} {pos apos cpos : Pos} {x name : Str} {p : Pos} {T id : String} {r : V → List V → Hp → VK → Prop}
/-- a later argument raises -/
def drArg (da : DT) (dr : DRt) : DRt := fun Ex ρ O => da ρ O fun _ O1 => dr Ex ρ O1
theorem dra_skip (h : DE X e da) (h2 : DRA X es dr) (hs : starEach (e :: es) X.env = (false, eval e X.env) :: starEach es X.env := by rfl) : DRA X (e :: es) (drArg da dr) := by
  obtain ⟨ta, p, f⟩ := h
  obtain ⟨t, q, g⟩ := h2
  exact ⟨fun W => _, fun W tk => pa_cons p (q W tk) hs, fun Ex W ρ σ w Q hw he lk h => f ρ σ w _ _ hw he (fun x vx w1 hw1 f1 r1 h1 => g Ex W ρ σ w1 _ hw1 (he.mono f1.gsub) (lk.after f1) h1) h⟩
/-- an argument of a call raises -/
theorem dre_callA {f : Addr} (hg : Gl X x) (hm : X.mg x = some (.ref f)) (hk : PySem.W.keepIn X.K (.ref f) = true) (ha : DRA X (e :: es) dr) (hdb : (x == ("__debug__" : Str)) = false := by decide) (he : starEach (e :: es) X.env = (false, eval e X.env) :: starEach es X.env := by rfl) (hpl : (backTo pos (starEach es X.env)).any (·.1) = false := by rfl) :
    DRE X (.Call (.Name x p) (e :: es) [] pos) dr := by
  obtain ⟨t, pa, fa⟩ := ha
  refine ⟨fun W σ H Q => t W σ H (fun _ _ => False), fun W tk => ⟨fun pins s' σ H Q I h => ?_⟩, fun Ex W ρ σ w Q hw he lk h => fa Ex W ρ σ w _ hw he lk h⟩
  refine wpAny_Call_Name_kw (ld_glob I hg hm ?_ hdb)
  exact PySem.W.callWith_K (h₀ := X.base) I.ok.mod.kin hk (thn ((pa W tk).run pos pins s' σ H _ I h) fun us s1 ⟨_, _, _, _, q⟩ => False.elim q) he hpl
theorem dre_tyA {T : String} (hg : Gl X x) (hm : X.mg x = none) (hv : bootBuiltins x = some (.type T)) (ha : DRA X (e :: es) dr) (hn : x ≠ "__name__" := by decide) (hdb : (x == ("__debug__" : Str)) = false := by decide) (he : starEach (e :: es) X.env = (false, eval e X.env) :: starEach es X.env := by rfl) (hpl : (backTo pos (starEach es X.env)).any (·.1) = false := by rfl) :
    DRE X (.Call (.Name x p) (e :: es) [] pos) dr := by
  obtain ⟨t, pa, fa⟩ := ha
  have hc : CallR X (.type T) (fun _ _ _ => False) := by
    unfold CallR
    intros
    first | contradiction | (exfalso; assumption)
  exact ⟨fun W => _, fun W tk => pe_callTy hc hg hm hv (pa W tk) hn hdb he hpl, fun Ex W ρ σ w Q hw he lk h => fa Ex W ρ σ w _ hw he lk h⟩
def drMtA (T : String) (doo : DT) (dr : DRt) : DRt := fun Ex ρ O => doo ρ O fun x O1 => tyN O1 x = some T ∧ dr Ex ρ O1
theorem dre_bmA (pa : PlainAttrs T) (slot : Slot T name id) (hty : typeOf (.builtin id) = pure (.type "method_descriptor")) (hm : MtR X id r)
    (hT : ∀ w x v, Own X.K w → Rep X.K w.G x v → tyN w.O x = some T → tyV X.K T v w.H) (ho : DE X o doo) (ha : DRA X (e :: es) dr)
    (hbase : attributeBase o name X.env (eval o X.env) = eval o X.env := by rfl)
    (hfew : ((backTo cpos (starEach (e :: es) X.env)).all (fun x => !x.1) && (backToKw cpos (keywordEach [] X.env)).all (fun x => x.1.isSome)
      && decide ((e :: es).length + ([] : List Keyword).length + (if ([] : List Keyword).isEmpty then 0 else 1) < 30)) = true := by rfl)
    (hline : (apos.endLine == cpos.line) = true := by rfl) (hs : starEach (e :: es) X.env = (false, eval e X.env) :: starEach es X.env := by rfl) (hplain : (backTo cpos (starEach es X.env)).any (·.1) = false := by rfl) :
    DRE X (.Call (.Attribute o name apos) (e :: es) [] cpos) (drMtA T doo dr) := by
  obtain ⟨to, po, fo⟩ := ho
  obtain ⟨tl, pl, fl⟩ := ha
  refine ⟨fun W => _, fun W tk => pe_bm pa slot hty hm po (pl W tk) hbase hfew hline hs hplain, fun Ex W ρ σ w Q hw he lk h => ?_⟩
  refine fo ρ σ w _ _ hw he (fun x vx w1 hw1 f1 r1 ⟨h1, h2⟩ => ⟨hT w1 x vx hw1 r1 h1, ?_⟩) h
  exact fl Ex W ρ σ w1 _ hw1 (he.mono f1.gsub) (lk.after f1) h2
/-- a while that raises in some turn -/
def drWhile (c : DTt) (body : DS') (r : DRt) (fs : List Nat) : DRt := fun Ex ρ O => ∃ Wv : Nat → DEnv → Ow → Prop, (∃ m, Wv m (forget ρ fs) O) ∧ ∀ m ρ O, Wv m ρ O → c ρ O fun b O1 => b = true ∧
  (r Ex ρ O1 ∨ body { nx := fun ρ2 O2 => ∃ O3 m', Ow.le O3 O2 ∧ m' < m ∧ Wv m' (forget ρ2 fs) O3, ct := fun ρ2 O2 => ∃ O3 m', Ow.le O3 O2 ∧ m' < m ∧ Wv m' (forget ρ2 fs) O3, rt := fun _ _ => False, bk := fun _ _ => False } ρ O1)
theorem drs_while (fs : List Nat) (hp : PassesOwn (model X.prog X.w) X.A X.env X.xe) (hc : DB X c dt) (hn : DSs X body ds) (hb : DRSs X body dr) : DRS X (.While c body [] pos) (drWhile dt ds dr fs) := by
  obtain ⟨tc, p, f⟩ := hc
  obtain ⟨tb, q, g⟩ := hn
  obtain ⟨tr, q2, g2⟩ := hb
  refine ⟨fun W => tWhile tc (fun D σ H => tb D σ H ∨ tr W D σ H), fun W tk => ps_while hp p (pss_or q (q2 W tk)), fun Ex W ρ σ w T hw he lk ⟨Wv, ⟨m0, w0⟩, turn⟩ => ?_⟩
  refine ⟨fun m σ H => ∃ ρ w2, w2.H = H ∧ Own X.K w2 ∧ Fr w w2 ∧ RepE X.K w2.G ρ σ ∧ Wv m ρ w2.O, ⟨m0, _, w, rfl, hw, Fr.refl w, RepE.forget fs he, w0⟩, ?_⟩
  rintro m σ2 H ⟨ρ2, w2, rfl, hw2, f2, he2, h2⟩
  refine f ρ2 σ2 w2 _ _ hw2 he2 (fun b w3 hw3 f3 h3 => ?_) (turn m ρ2 w2.O h2)
  obtain ⟨eb, h3⟩ := h3
  subst eb
  rw [if_pos rfl]
  let N : L2.St → Hp → Prop := fun σ5 H5 => ∃ m', m' < m ∧ ∃ ρ5 w5, w5.H = H5 ∧ Own X.K w5 ∧ Fr w w5 ∧ RepE X.K w5.G ρ5 σ5 ∧ Wv m' ρ5 w5.O
  refine ⟨N, fun σ' H' h => h, ?_⟩
  have next : ∀ ρ5 σ5 w5, Own X.K w5 → Fr w3 w5 → RepE X.K w5.G ρ5 σ5 → (∃ O3 m', Ow.le O3 w5.O ∧ m' < m ∧ Wv m' (forget ρ5 fs) O3) → N σ5 w5.H :=
    fun ρ5 σ5 w5 hw5 f5 he5 ⟨O3, m', l3, lm, h5⟩ => ⟨m', lm, forget ρ5 fs, w5.drop O3, rfl, hw5.drop l3, f2.trans (f3.trans (f5.trans (Fr.drop l3))), RepE.forget fs he5, h5⟩
  rcases h3 with h3 | h3
  · exact .inr (g2 Ex W ρ2 σ2 w3 _ hw3 (he2.mono f3.gsub) (lk.after (f2.trans f3)) h3)
  · exact .inl (g ρ2 σ2 w3 _ { T with nx := N, ct := N, bk := T.nx } hw3 (he2.mono f3.gsub) ⟨next, fun _ _ _ _ _ _ z => False.elim z, fun _ _ _ _ _ _ z => False.elim z, next⟩ h3)
end
abbrev ExW := Str → Option Addr → Ow → Prop
def ExT (k : Int) (O : Ow) (Ex : ExW) : Prop := ∀ O1 a, O.le O1 → O1 a = none → Ex "NoText" (some a) (O1.set a (.xd [("at", .int k)]))
def RowX (p : Addr) (k : Int) (O : Ow) (Ex : ExW) : Prop := ∀ ws, ExT k (O.set p (.lst (strsD ws))) Ex
theorem RowX.same {p : Addr} {k : Int} {O : Ow} {Ex : ExW} {ws : List Str} (h : RowX p k O Ex) (e : O p = some (.lst (strsD ws))) {a : Addr} (ha : O a = none) : Ex "NoText" (some a) (O.set a (.xd [("at", .int k)])) := by
  have := h ws
  rw [Ow.set_id e] at this
  exact this O a (Ow.le.refl _) ha
theorem RowX.set {p : Addr} {k : Int} {O : Ow} {Ex : ExW} (h : RowX p k O Ex) (ws : List Str) : RowX p k (O.set p (.lst (strsD ws))) Ex := fun ws' => by
  rw [Ow.set_set]; exact h ws'
def spR_Row_refuse : DLX := fun ds O Ex => ∃ (r p : Addr) (k : Int), ds = [.ref r] ∧ O r = some (rowO p k) ∧ ∀ a, O a = none → Ex "NoText" (some a) (O.set a (.xd [("at", .int k)]))
theorem lnR_Row_refuse : ∀ ds O Ex, spR_Row_refuse ds O Ex → ds.length = 1 := by rintro ds O Q ⟨a, b, c, rfl, _⟩; rfl
def spR_Row_next_word : DLX := fun ds O Ex => ∃ (r p : Addr) (k : Int), ds = [.ref r] ∧ O r = some (rowO p k) ∧ O p = some (.lst (strsD [])) ∧ ∀ a, O a = none → Ex "NoText" (some a) (O.set a (.xd [("at", .int k)]))
theorem lnR_Row_next_word : ∀ ds O Ex, spR_Row_next_word ds O Ex → ds.length = 1 := by rintro ds O Q ⟨a, b, c, rfl, _⟩; rfl
def spR_Row_next_ratio : DLX := fun ds O Ex => ∃ (r p : Addr) (k : Int) (ws : List Str), ds = [.ref r] ∧ O r = some (rowO p k) ∧ O p = some (.lst (strsD ws)) ∧ Words ws ∧ (∀ w l, ws = w :: l → rdRat w = none) ∧ RowX p k O Ex
theorem lnR_Row_next_ratio : ∀ ds O Ex, spR_Row_next_ratio ds O Ex → ds.length = 1 := by rintro ds O Q ⟨a, b, c, d, rfl, _⟩; rfl
def spR_Row_price_behind : DLX := fun ds O Ex => ∃ (r p : Addr) (k : Int) (key : Str) (ws : List Str), ds = [.ref r, .str key] ∧ O r = some (rowO p k) ∧ O p = some (.lst (strsD ws)) ∧ ws.length ≤ 95000 ∧ Asc key ∧ Words ws ∧ takeP key ws = none ∧ RowX p k O Ex
theorem lnR_Row_price_behind : ∀ ds O Ex, spR_Row_price_behind ds O Ex → ds.length = 2 := by rintro ds O Q ⟨a, b, c, d, e, rfl, _⟩; rfl
def spR_Row_event_behind : DLX := fun ds O Ex => ∃ (r p pn : Addr) (k : Int) (ws names : List Str), ds = [.ref r, .ref pn] ∧ O r = some (rowO p k) ∧ O p = some (.lst (strsD ws)) ∧ O pn = some (.lst (strsD names)) ∧ pn ≠ p ∧ ws.length ≤ 95000 ∧ Words ws ∧ names.length ≤ 1000 ∧ Words names ∧ evP names ws = none ∧ RowX p k O Ex
theorem lnR_Row_event_behind : ∀ ds O Ex, spR_Row_event_behind ds O Ex → ds.length = 2 := by rintro ds O Q ⟨a, b, c, d, e, f, rfl, _⟩; rfl
def BR_Row_refuse : DRt :=
  (drRaiseI "NoText" "at" (dCons (dFld "Row" "at" (dVar 0)) dNil))
def BR_Row_next_word : DRt :=
  (drIf (dTest (dOp dEq (dBu dLen (dCons (dFld "Row" "rest" (dVar 0)) dNil)) (dC (.int 0)))) (drOfX (drMeth0 "Row" "refuse" spR_Row_refuse (dVar 0))) drNever)
def BR_Row_next_ratio : DRt :=
  (drOr (drOfX (drMeth0 "Row" "next_word" spR_Row_next_word (dVar 0))) (drSkip (dAsg (dCall sp_read_ratio (dCons (dMeth "Row" "next_word" sp_Row_next_word (dVar 0) dNil) dNil)) (tgN 1))
  (drIf (dTest (dOp dIsN (dVar 1) (dC .non))) (drOfX (drMeth0 "Row" "refuse" spR_Row_refuse (dVar 0))) drNever)))
def BR_Row_price_behind : DRt :=
  (drSkip (dIfS (dOr (dTest (dOp dEq (dBu dLen (dCons (dFld "Row" "rest" (dVar 0)) dNil)) (dC (.int 0)))) (dTest (dOp dNe (dOp dIx (dFld "Row" "rest" (dVar 0)) (dC (.int 0))) (dVar 1)))) (dRet (dC .non)) dNext)
  (drSkip (dDrop (dMt "list" (dFld "Row" "rest" (dVar 0)) (dCons (dC (.int 0)) dNil) dPop0))
  (drOfX (drMeth0 "Row" "next_ratio" spR_Row_next_ratio (dVar 0)))))
def BR_Row_event_behind : DRt :=
  (drSkip (dIfS (dTest (dOp dEq (dBu dLen (dCons (dFld "Row" "rest" (dVar 0)) dNil)) (dC (.int 0)))) (dRet (dC .non)) dNext)
  (drOr (drIf (dOr (dTest (dOp dNe (dMeth "Row" "next_word" sp_Row_next_word (dVar 0) dNil) (dC (.str (Str.ofString "if"))))) (dTest (dOp dEq (dBu dLen (dCons (dFld "Row" "rest" (dVar 0)) dNil)) (dC (.int 0))))) (drOfX (drMeth0 "Row" "refuse" spR_Row_refuse (dVar 0))) drNever) (drSkip (dIfS (dOr (dTest (dOp dNe (dMeth "Row" "next_word" sp_Row_next_word (dVar 0) dNil) (dC (.str (Str.ofString "if"))))) (dTest (dOp dEq (dBu dLen (dCons (dFld "Row" "rest" (dVar 0)) dNil)) (dC (.int 0))))) (dDrop (dMeth "Row" "refuse" sp_Row_refuse (dVar 0) dNil)) dNext)
  (drSkip (dAsg (dLst mkO dNil) (tgN 2))
  (drWhile (dTest (dOp dGt (dBu dLen (dCons (dFld "Row" "rest" (dVar 0)) dNil)) (dC (.int 0))))
  (dThen (dAsg (dMeth "Row" "next_word" sp_Row_next_word (dVar 0) dNil) (tgN 3))
  (dThen (dIfS (dOr (dTest (dOp (dInN true) (dVar 3) (dVar 1))) (dAnd (dTest (dOp dGt (dBu dLen (dCons (dVar 2) dNil)) (dC (.int 0)))) (dTest (dOp dLe (dMt "list" (dVar 1) (dCons (dVar 3) dNil) dIndex) (dOp dIx (dVar 2) (dUn dNeg (dC (.int 1)))))))) (dDrop (dMeth "Row" "refuse" sp_Row_refuse (dVar 0) dNil)) dNext)
  (dDrop (dMt "list" (dVar 2) (dCons (dMt "list" (dVar 1) (dCons (dVar 3) dNil) dIndex) dNil) dAppend))))
  (drOr (drOfX (drMeth0 "Row" "next_word" spR_Row_next_word (dVar 0))) (drSkip (dAsg (dMeth "Row" "next_word" sp_Row_next_word (dVar 0) dNil) (tgN 3))
  (drIf (dOr (dTest (dOp (dInN true) (dVar 3) (dVar 1))) (dAnd (dTest (dOp dGt (dBu dLen (dCons (dVar 2) dNil)) (dC (.int 0)))) (dTest (dOp dLe (dMt "list" (dVar 1) (dCons (dVar 3) dNil) dIndex) (dOp dIx (dVar 2) (dUn dNeg (dC (.int 1)))))))) (drOfX (drMeth0 "Row" "refuse" spR_Row_refuse (dVar 0))) drNever))) [3])))))
theorem lk_at {p : Addr} {k : Int} : [(("rest" : Str), D.ref p), ("at", .int k)].lookup ("at" : Str) = some (.int k) := by rfl
theorem hbR_Row_refuse : ∀ ds O Ex, spR_Row_refuse ds O Ex → BR_Row_refuse (fun n d _ O' => Ex n d O') (startD 1 ds) O := by
  rintro ds O Ex ⟨r, p, k, rfl, h, q⟩
  unfold BR_Row_refuse drRaiseI
  walk_at "tx"
  refine fldr rfl h lk_at ?_
  walk_at "tx"
  exact ⟨_, rfl, q⟩
theorem hbR_Row_next_word : ∀ ds O Ex, spR_Row_next_word ds O Ex → BR_Row_next_word (fun n d _ O' => Ex n d O') (startD 1 ds) O := by
  rintro ds O Ex ⟨r, p, k, rfl, h, hp, q⟩
  unfold BR_Row_next_word drIf drOfX drMeth0
  walk_at "tx"
  refine fldr rfl h lk_rest ?_
  refine len_lv (lv_ref hp) ?_
  walk_at "tx"
  exact ⟨r, _, rfl, h, rfl, r, p, k, rfl, h, q⟩
theorem hbR_Row_next_ratio : ∀ ds O Ex, spR_Row_next_ratio ds O Ex → BR_Row_next_ratio (fun n d _ O' => Ex n d O') (startD 2 ds) O := by
  rintro ds O Ex ⟨r, p, k, ws, rfl, h, hp, hw, hx, q⟩
  have n1 : r ≠ p := fun z => by rw [z, hp] at h; cases h
  unfold BR_Row_next_ratio
  match ws, hp, hw, hx with
  | [], hp, _, _ =>
    refine .inl ?_
    unfold drOfX drMeth0
    walk_at "tx"
    exact ⟨r, _, rfl, h, rfl, r, p, k, rfl, h, hp, fun a ha => q.same hp ha⟩
  | w :: l, hp, hw, hx =>
    refine .inr ?_
    unfold drSkip rEnds drIf drOfX drMeth0
    walk_at "tx"
    refine ⟨r, _, rfl, h, rfl, ?_⟩
    refine ⟨r, p, k, w, l, rfl, h, hp, ?_⟩
    have wv := hw w (List.mem_cons_self ..)
    walk_at "tx"
    refine ⟨w, rfl, wv.1, wv.2, ?_⟩
    rw [hx w l rfl]
    unfold optR
    walk_at "tx"
    have h' : (O.set p (.lst (strsD l))) r = some (rowO p k) := by rw [Ow.set_ne n1]; exact h
    exact ⟨r, _, rfl, h', rfl, r, p, k, rfl, h', fun a ha => (q.set l).same (ws := l) Ow.set_same ha⟩
theorem hbR_Row_price_behind : ∀ ds O Ex, spR_Row_price_behind ds O Ex → BR_Row_price_behind (fun n d _ O' => Ex n d O') (startD 2 ds) O := by
  rintro ds O Ex ⟨r, p, k, key, ws, rfl, h, hp, wl, ka, hw, hx, q⟩
  have n1 : r ≠ p := fun z => by rw [z, hp] at h; cases h
  unfold BR_Row_price_behind drSkip rEnds drOfX drMeth0
  match ws, hp, hx, hw, wl with
  | [], hp, hx, hw, wl => cases hx
  | w :: l, hp, hx, hw, wl =>
    have hk : tl w = tl key ∧ (∀ v l', l = v :: l' → rdRat v = none) := by
      cases l with
      | nil =>
        refine ⟨?_, fun _ _ z => nomatch z⟩
        by_cases hk : tl w = tl key
        · exact hk
        · simp [takeP, hk] at hx
      | cons v l' =>
        by_cases hk : tl w = tl key
        · refine ⟨hk, fun v2 l2 z => ?_⟩
          cases z
          simpa [takeP, hk] using hx
        · simp [takeP, hk] at hx
    walk_at "tx"
    refine fldr rfl h lk_rest ?_
    refine len_lv (lv_ref hp) ?_
    rw [strs_len]
    walk_at "tx"
    rw [succ_ne0]
    walk_at "tx"
    refine fldr rfl h lk_rest ?_
    refine ⟨_, lv_ref hp, .str w, at0, ?_⟩
    have aw := (hw w (List.mem_cons_self ..)).2
    refine dNe_str_ap aw ka ?_
    rw [decide_eq_true hk.1]
    walk_at "tx"
    refine fldr rfl h lk_rest ?_
    refine ⟨tyN_ref hp, rfl, _, _, hp, ?_⟩
    walk_at "tx"
    have h' : (O.set p (.lst (strsD l))) r = some (rowO p k) := by rw [Ow.set_ne n1]; exact h
    exact ⟨r, _, rfl, h', rfl, r, p, k, l, rfl, h', Ow.set_same, fun x hx => hw x (List.mem_cons_of_mem _ hx), fun v l' e => hk.2 v l' e, q.set l⟩
theorem set_swp {O : Ow} {p q : Addr} {a b n : OO} (h : p ≠ q) : ((O.set p a).set q n).set p b = (O.set p b).set q n := by
  funext x
  by_cases hx : x = p
  · subst hx; rw [Ow.set_same, Ow.set_ne h, Ow.set_same]
  · by_cases hy : x = q
    · subst hy; rw [Ow.set_ne hx, Ow.set_same, Ow.set_same]
    · rw [Ow.set_ne hx, Ow.set_ne hy, Ow.set_ne hx, Ow.set_ne hy, Ow.set_ne hx]
theorem hbR_Row_event_behind : ∀ ds O Ex, spR_Row_event_behind ds O Ex → BR_Row_event_behind (fun n d _ O' => Ex n d O') (startD 4 ds) O := by
  rintro ds O Ex ⟨r, p, pn, k, ws, names, rfl, h, hp, hn, hne, wl, hw, nl, hnw, he, q⟩
  have n1 : r ≠ p := fun z => by rw [z, hp] at h; cases h
  have n2 : r ≠ pn := fun z => by rw [z, hn] at h; cases h
  have aif : Asc (Str.ofString "if") := by unfold Asc; decide +kernel
  unfold BR_Row_event_behind drSkip rEnds drOfX drMeth0 drIf drOr
  match ws, hp, he, hw, wl with
  | [], hp, he, hw, wl => cases he
  | w :: l, hp, he, hw, wl =>
    have aw := (hw w (List.mem_cons_self ..)).2
    have he : (if tl w = tl ifS ∧ l ≠ [] then (evW names l []).map some else none) = none := he
    have h1 : (O.set p (.lst (strsD l))) r = some (rowO p k) := by rw [Ow.set_ne n1]; exact h
    walk_at "tx"
    refine fldr rfl h lk_rest ?_
    refine len_lv (lv_ref hp) ?_
    rw [strs_len]
    walk_at "tx"
    rw [succ_ne0]
    walk_at "tx"
    by_cases hc : tl w = tl ifS ∧ l ≠ []
    rotate_left
    · -- refused at once
      refine .inl ?_
      walk_at "tx"
      refine ⟨r, _, rfl, h, rfl, ?_⟩
      refine ⟨r, p, k, w, l, rfl, h, hp, ?_⟩
      refine dNe_str_ap aw aif ?_
      by_cases hif : tl w = tl ifS
      · rw [decide_eq_true (show tl w = tl (Str.ofString "if") from hif)]
        have : l = [] := Classical.byContradiction fun z => hc ⟨hif, z⟩
        subst this
        walk_at "tx"
        refine fldr rfl h1 lk_rest ?_
        refine len_lv (lv_ref Ow.set_same) ?_
        walk_at "tx"
        exact ⟨r, _, rfl, h1, rfl, r, p, k, rfl, h1, fun a ha => (q.set []).same (ws := []) Ow.set_same ha⟩
      · rw [decide_eq_false (show ¬ tl w = tl (Str.ofString "if") from hif)]
        walk_at "tx"
        exact ⟨r, _, rfl, h1, rfl, r, p, k, rfl, h1, fun a ha => (q.set l).same (ws := l) Ow.set_same ha⟩
    · rw [if_pos hc] at he
      obtain ⟨hif, hl⟩ := hc
      have he : evW names l [] = none := by simpa using he
      refine .inr ?_
      walk_at "tx"
      refine ⟨r, _, rfl, h, rfl, ?_⟩
      refine ⟨r, p, k, w, l, rfl, h, hp, ?_⟩
      refine dNe_str_ap aw aif ?_
      rw [decide_eq_true (show tl w = tl (Str.ofString "if") from hif)]
      walk_at "tx"
      refine fldr rfl h1 lk_rest ?_
      refine len_lv (lv_ref Ow.set_same) ?_
      rw [strs_len]
      have hl0 : ((l.length : Int) == 0) = false := by
        rw [beq_eq_false_iff_ne]
        have := List.length_pos_iff.mpr hl
        omega
      walk_at "tx"
      rw [hl0]
      walk_at "tx"
      intro pw hpw
      have m1 : pw ≠ p := fun z => by rw [z, Ow.set_same] at hpw; cases hpw
      have hpw0 : O pw = none := by rw [Ow.set_ne m1] at hpw; exact hpw
      have m2 : pw ≠ r := fun z => by rw [z, h] at hpw0; cases hpw0
      have m3 : pw ≠ pn := fun z => by rw [z, hn] at hpw0; cases hpw0
      have hwl : Words l := fun x hx => hw x (List.mem_cons_of_mem _ hx)
      refine ⟨fun μ ρ O' => ∃ (vs : List Str) (acc : List Nat), μ = vs.length ∧ evW names vs acc = none ∧ Words vs ∧ vs.length + acc.length ≤ 95000 ∧ O' = (O.set p (.lst (strsD vs))).set pw (.lst (natsD acc)) ∧ ρ = [some (.ref r), some (.ref pn), some (.ref pw), none], ⟨_, l, [], rfl, he, hwl, by simp at wl ⊢; omega, rfl, rfl⟩, ?_⟩
      rintro μ ρ O' ⟨vs, acc, rfl, hva, hvw, hvl, rfl, rfl⟩
      have o1 : ((O.set p (.lst (strsD vs))).set pw (.lst (natsD acc))) r = some (rowO p k) := by rw [Ow.set_ne m2.symm, Ow.set_ne n1]; exact h
      have o2 : ((O.set p (.lst (strsD vs))).set pw (.lst (natsD acc))) p = some (.lst (strsD vs)) := by rw [Ow.set_ne m1.symm, Ow.set_same]
      walk_at "tx"
      refine fldr rfl o1 lk_rest ?_
      refine len_lv (lv_ref o2) ?_
      rw [strs_len]
      match vs, hva, hvw, hvl, o1, o2 with
      | [], hva, hvw, hvl, o1, o2 => cases hva
      | v :: vs, hva, hvw, hvl, o1, o2 =>
        refine ⟨decide_eq_true (by simp), ?_⟩
        have e3 : (((O.set p (.lst (strsD (v :: vs)))).set pw (.lst (natsD acc))).set p (.lst (strsD vs))) = (O.set p (.lst (strsD vs))).set pw (.lst (natsD acc)) := set_swp m1.symm
        have o3 : ((O.set p (.lst (strsD vs))).set pw (.lst (natsD acc))) pn = some (.lst (strsD names)) := by rw [Ow.set_ne m3.symm, Ow.set_ne hne]; exact hn
        have o4 : ((O.set p (.lst (strsD vs))).set pw (.lst (natsD acc))) pw = some (.lst (natsD acc)) := Ow.set_same
        have o5 : ((O.set p (.lst (strsD vs))).set pw (.lst (natsD acc))) r = some (rowO p k) := by rw [Ow.set_ne m2.symm, Ow.set_ne n1]; exact h
        have leW : ∀ a, ((O.set p (.lst (strsD vs))).set pw (.lst (natsD acc))) a = none → Ex "NoText" (some a) (((O.set p (.lst (strsD vs))).set pw (.lst (natsD acc))).set a (.xd [("at", .int k)])) := fun a ha =>
          q vs _ a (fun b u hb => by
            have nb : b ≠ pw := fun z => by rw [z, Ow.set_ne m1, hpw0] at hb; cases hb
            rw [Ow.set_ne nb]; exact hb) ha
        have hva : (match idxW names v with
          | none => none
          | some j => if ∃ i, acc.getLast? = some i ∧ j ≤ i then none else evW names vs (acc ++ [j])) = none := hva
        cases hi : idxW names v with
        | none =>
          refine .inl (.inr ?_)
          walk_at "tx"
          refine ⟨r, _, rfl, o1, rfl, ?_⟩
          refine ⟨r, p, k, v, vs, rfl, o1, o2, ?_⟩
          rw [e3]
          walk_at "tx"
          refine ⟨_, qv_of_lv (lv_ref o3), rfl, flat_strs, ?_⟩
          rw [inD_idx, hi]
          walk_at "tx"
          exact ⟨r, _, rfl, o5, rfl, r, p, k, rfl, o5, leW⟩
        | some j =>
          rw [hi] at hva
          have hva : (if ∃ i, acc.getLast? = some i ∧ j ≤ i then none else evW names vs (acc ++ [j])) = none := hva
          by_cases hgt : ∃ i, acc.getLast? = some i ∧ j ≤ i
          · obtain ⟨i, hg, hji⟩ := hgt
            have hne2 : acc ≠ [] := fun z => by rw [z] at hg; cases hg
            have hl : 0 < acc.length := List.length_pos_iff.mpr hne2
            refine .inl (.inr ?_)
            walk_at "tx"
            refine ⟨r, _, rfl, o1, rfl, ?_⟩
            refine ⟨r, p, k, v, vs, rfl, o1, o2, ?_⟩
            rw [e3]
            walk_at "tx"
            refine ⟨_, qv_of_lv (lv_ref o3), rfl, flat_strs, ?_⟩
            rw [inD_idx, hi]
            walk_at "tx"
            rw [if_pos (decide_eq_true (by rw [natsD_len]; omega))]
            refine ⟨tyN_ref o3, index_ap (lv_ref o3) hi ?_⟩
            refine ⟨_, lv_ref o4, _, at_lastN hg, ?_⟩
            show (if decide ((j : Int) ≤ (i : Int)) = true then _ else _)
            rw [if_pos (decide_eq_true (by omega))]
            exact ⟨r, _, rfl, o5, rfl, r, p, k, rfl, o5, leW⟩
          · rw [if_neg hgt] at hva
            refine .inr ?_
            walk_at "tx"
            refine ⟨r, _, rfl, o1, rfl, ?_⟩
            refine ⟨r, p, k, v, vs, rfl, o1, o2, ?_⟩
            rw [e3]
            walk_at "tx"
            refine ⟨_, qv_of_lv (lv_ref o3), rfl, flat_strs, ?_⟩
            rw [inD_idx, hi]
            walk_at "tx"
            have hsz : (natsD acc).length < 100000 := by rw [natsD_len]; simp at hvl; omega
            have hend : ∃ O3 m', Ow.le O3 (((O.set p (.lst (strsD vs))).set pw (.lst (natsD acc))).set pw (.lst (natsD acc ++ [.int (j : Int)]))) ∧ m' < vs.length + 1 ∧ ∃ (vs : List Str) (acc : List Nat), m' = vs.length ∧ evW names vs acc = none ∧ Words vs ∧ vs.length + acc.length ≤ 95000 ∧ O3 = (O.set p (.lst (strsD vs))).set pw (.lst (natsD acc)) := by
              refine ⟨_, vs.length, Ow.le.refl _, by omega, vs, acc ++ [j], rfl, hva, fun x hx => hvw x (List.mem_cons_of_mem _ hx), by simp at hvl ⊢; omega, ?_⟩
              rw [Ow.set_set]
              unfold natsD
              rw [List.map_append]; rfl
            cases hg : acc.getLast? with
            | none =>
              have : acc = [] := List.getLast?_eq_none_iff.mp hg
              subst this
              rw [if_neg (by show ¬ decide ((0 : Int) < 0) = true; decide)]
              exact ⟨tyN_ref o3, index_ap (lv_ref o3) hi ⟨_, o4, hsz, hend⟩⟩
            | some i =>
              have hne2 : acc ≠ [] := fun z => by rw [z] at hg; cases hg
              have hl : 0 < acc.length := List.length_pos_iff.mpr hne2
              rw [if_pos (decide_eq_true (by rw [natsD_len]; omega))]
              refine ⟨tyN_ref o3, index_ap (lv_ref o3) hi ?_⟩
              refine ⟨_, lv_ref o4, _, at_lastN hg, ?_⟩
              have : ¬ (j ≤ i) := fun z => hgt ⟨i, hg, z⟩
              show (if decide ((j : Int) ≤ (i : Int)) = true then _ else _)
              rw [if_neg (by rw [decide_eq_false (by omega)]; exact Bool.false_ne_true)]
              exact ⟨tyN_ref o4, tyN_ref o3, index_ap (lv_ref o3) hi ⟨_, o4, hsz, hend⟩⟩
def NamesOk (names : List Str) : Prop := 2 ≤ names.length ∧ names.length ≤ 12 ∧ (∀ w ∈ names, nameW w = true) ∧ (names.map tl).Nodup
def worldsS : Str := Str.ofString "worlds"
def offerS : Str := Str.ofString "offer"
def askS : Str := Str.ofString "ask"
def bidS : Str := Str.ofString "bid"
theorem asc_worlds : Asc worldsS := by unfold Asc worldsS; decide +kernel
theorem asc_offer : Asc offerS := by unfold Asc offerS; decide +kernel
theorem asc_ask : Asc askS := by unfold Asc askS; decide +kernel
theorem asc_bid : Asc bidS := by unfold Asc bidS; decide +kernel
theorem words_split {z : Str} (hz : z.length ≤ 90000) (az : Asc z) {y : Str} : Words (Txt.split z y) := fun w hw => ⟨Nat.le_trans (split_len hw) hz, fun c hc => az c (split_mem hw c hc)⟩
def takeN : Nat → List Str → Option (List Rat × List Str)
  | 0, ws => some ([], ws)
  | _ + 1, [] => none
  | n + 1, w :: ws => match rdRat w, takeN n ws with
    | some q, some (r, ws') => some (q :: r, ws')
    | _, _ => none
theorem takeN_len : ∀ {n : Nat} {ws ws' : List Str} {r : List Rat}, takeN n ws = some (r, ws') → r.length = n ∧ ∃ us, ws = us ++ ws'
  | 0, ws, ws', r, h => by cases h; exact ⟨rfl, [], rfl⟩
  | n + 1, [], ws', r, h => by cases h
  | n + 1, w :: ws, ws', r, h => by
    unfold takeN at h
    cases h1 : rdRat w with
    | none => rw [h1] at h; cases h
    | some q =>
      cases h2 : takeN n ws with
      | none => rw [h1, h2] at h; cases h
      | some p =>
        obtain ⟨r', ws2⟩ := p
        rw [h1, h2] at h
        cases h
        obtain ⟨e1, us, e2⟩ := takeN_len h2
        exact ⟨by simp [e1], w :: us, by rw [e2]; rfl⟩
theorem takeN_step {n : Nat} {w : Str} {ws ws' : List Str} {q : Rat} {r : List Rat} (h : takeN (n + 1) (w :: ws) = some (q :: r, ws')) : rdRat w = some q ∧ takeN n ws = some (r, ws') := by
  unfold takeN at h
  cases h1 : rdRat w with
  | none => rw [h1] at h; cases h
  | some q' =>
    cases h2 : takeN n ws with
    | none => rw [h1, h2] at h; cases h
    | some p =>
      obtain ⟨r', ws2⟩ := p
      rw [h1, h2] at h
      cases h
      exact ⟨rfl, rfl⟩
theorem takeP_sub {key : Str} {ws ws' : List Str} {x : Option Rat} (h : takeP key ws = some (x, ws')) : ∃ us, ws = us ++ ws' := by
  match ws, h with
  | [], h => cases h; exact ⟨[], rfl⟩
  | [w], h =>
    have h : (if tl w = tl key then none else some (none, [w])) = some (x, ws') := h
    split at h
    · cases h
    · cases h; exact ⟨[], rfl⟩
  | w :: v :: l, h =>
    have h : (if tl w = tl key then (rdRat v).map fun q => (some q, l) else some (none, w :: v :: l)) = some (x, ws') := h
    split at h
    · obtain ⟨y, _, e⟩ := Option.map_eq_some_iff.mp h
      cases e
      exact ⟨[w, v], rfl⟩
    · cases h; exact ⟨[], rfl⟩
theorem Words.sub {us ws : List Str} (h : Words (us ++ ws)) : Words ws := fun w hw => h w (List.mem_append_right _ hw)
/-- the offer that a row writes -/
def rowP (names : List Str) (ws : List Str) : Option Off :=
  match ws with
  | [] => none
  | w :: ws => if tl w = tl offerS then match takeN names.length ws with
    | none => none
    | some (rs, w1) => match takeP askS w1 with
      | none => none
      | some (x, w2) => match takeP bidS w2 with
        | none => none
        | some (y, w3) => (evP names w3).map fun e => ⟨rs, x, y, e⟩
    else none
def sp_read_names : DL := fun ds O Q => ∃ (z w : Str) (names : List Str), ds = [.str z] ∧ z.length ≤ 90000 ∧ Asc z ∧ Txt.split z ⟨#[32]⟩ = w :: names ∧ tl w = tl worldsS ∧ NamesOk names ∧ ∀ pn, O pn = none → Q (.ref pn) (O.set pn (.lst (strsD names)))
theorem ln_read_names : ∀ ds O Q, sp_read_names ds O Q → ds.length = 1 := by rintro ds O Q ⟨a, b, c, rfl, _⟩; rfl
def sp_read_offer : DL := fun ds O Q => ∃ (z : Str) (pn : Addr) (k : Int) (names : List Str) (o : Off), ds = [.ref pn, .str z, .int k] ∧ z.length ≤ 90000 ∧ Asc z ∧ k ≤ 12 ∧ O pn = some (.lst (strsD names)) ∧ names.length ≤ 12 ∧ Words names ∧ rowP names (Txt.split z ⟨#[32]⟩) = some o ∧ Q (offD o) O
theorem ln_read_offer : ∀ ds O Q, sp_read_offer ds O Q → ds.length = 3 := by rintro ds O Q ⟨a, b, c, d, e, rfl, _⟩; rfl
def B_read_names_r1 : DS' :=
  (dDrop (dMt "list" (dVar 2) (dCons (dVar 3) dNil) dAppend))
def B_read_names_b2 : DS' :=
  (dThen (dAsg (dMeth "Row" "next_word" sp_Row_next_word (dVar 1) dNil) (tgN 3))
  (dThen (dIfS (dOr (dNot (dTest (dCall sp_is_name (dCons (dVar 3) dNil)))) (dTest (dOp (dInN false) (dVar 3) (dVar 2)))) (dDrop (dMeth "Row" "refuse" sp_Row_refuse (dVar 1) dNil)) dNext)
  B_read_names_r1))
def B_read_names_r3 : DS' :=
  (dThen (dAsg (dLst mkO dNil) (tgN 2))
  (dThen (dWhile (dTest (dOp dGt (dBu dLen (dCons (dFld "Row" "rest" (dVar 1)) dNil)) (dC (.int 0))))
  B_read_names_b2 [0, 3])
  (dRet (dVar 2))))
def B_read_names : DS' :=
  (dThen (dAsg (dMake "Row" sp_Row___init__ (dCons (dVar 0) (dCons (dC (.int 0)) dNil))) (tgN 1))
  (dThen (dIfS (dOr (dTest (dOp dNe (dMeth "Row" "next_word" sp_Row_next_word (dVar 1) dNil) (dC (.str (Str.ofString "worlds"))))) (dNot (dTest (dChain dLe dLe (dC (.int 2)) (dBu dLen (dCons (dFld "Row" "rest" (dVar 1)) dNil)) (dC (.int 12)))))) (dDrop (dMeth "Row" "refuse" sp_Row_refuse (dVar 1) dNil)) dNext)
  B_read_names_r3))
def B_read_offer_r1 : DS' :=
  (dThen (dAsg (dBu dTuple (dCons (dLc mkF (dSeq (dVar 0)) (tgN 7) dYes (dMeth "Row" "next_ratio" sp_Row_next_ratio (dVar 3) dNil) [7]) dNil)) (tgN 4))
  (dThen (dAsg (dMeth "Row" "price_behind" sp_Row_price_behind (dVar 3) (dCons (dC (.str (Str.ofString "ask"))) dNil)) (tgN 5))
  (dThen (dAsg (dMeth "Row" "price_behind" sp_Row_price_behind (dVar 3) (dCons (dC (.str (Str.ofString "bid"))) dNil)) (tgN 6))
  (dRet (dTup (dCons (dVar 4) (dCons (dVar 5) (dCons (dVar 6) (dCons (dMeth "Row" "event_behind" sp_Row_event_behind (dVar 3) (dCons (dVar 0) dNil)) dNil)))))))))
def B_read_offer : DS' :=
  (dThen (dAsg (dMake "Row" sp_Row___init__ (dCons (dVar 1) (dCons (dVar 2) dNil))) (tgN 3))
  (dThen (dIfS (dOr (dTest (dOp dNe (dMeth "Row" "next_word" sp_Row_next_word (dVar 3) dNil) (dC (.str (Str.ofString "offer"))))) (dTest (dOp dGt (dVar 2) (dC (.int 12))))) (dDrop (dMeth "Row" "refuse" sp_Row_refuse (dVar 3) dNil)) dNext)
  B_read_offer_r1))
/-- a row is made -/
theorem mkrow {z : Str} {k : Int} {O : Ow} {R : Addr → Ow → Prop} (hz : z.length ≤ 90000) (q : ∀ r p O1, O1 r = some (rowO p k) → O1 p = some (.lst (strsD (Txt.split z ⟨#[32]⟩))) → O.le O1 → O p = none → O r = none → R r O1) :
    ∀ r, O r = none → sp_Row___init__ [.ref r, .str z, .int k] (O.set r (.ins "Row" [])) fun v O2 => v = .non ∧ R r O2 := fun r hr =>
  ⟨r, z, k, rfl, Ow.set_same, hz, fun p hp => ⟨rfl, by
    have n1 : p ≠ r := fun y => by rw [y, Ow.set_same] at hp; cases hp
    have hp0 : O p = none := by rw [Ow.set_ne n1] at hp; exact hp
    refine q r p _ Ow.set_same (by rw [Ow.set_ne n1, Ow.set_same]) (fun a u ha => ?_) hp0 hr
    have m1 : a ≠ r := fun y => by rw [y, hr] at ha; cases ha
    have m2 : a ≠ p := fun y => by rw [y, hp0] at ha; cases ha
    rw [Ow.set_ne m1, Ow.set_ne m2, Ow.set_ne m1]; exact ha⟩⟩
theorem nameW_asc {w : Str} (h : nameW w = true) : w.length ≤ 8 ∧ Asc w := by
  unfold nameW at h
  simp only [Bool.and_eq_true, decide_eq_true_eq] at h
  refine ⟨by rw [len_tl]; exact h.1.2, fun c hc => ?_⟩
  have := List.all_eq_true.mp h.2 c hc
  unfold letterB at this
  simp only [Bool.and_eq_true, decide_eq_true_eq] at this
  omega
theorem idx_none {built : List Str} {v : Str} (h : ∀ y ∈ built, tl y ≠ tl v) : idxW built v = none := by
  unfold idxW
  rw [List.findIdx?_eq_none_iff]
  intro y hy
  simp [h y hy]
theorem hb_read_names : ∀ ds O Q, sp_read_names ds O Q → B_read_names (rtEnds Q) (startD 4 ds) O := by
  rintro ds O Q ⟨z, w, names, rfl, hz, az, hs, hw, ⟨h2, h12, hn, hd⟩, q⟩
  have wd := words_split hz az (y := ⟨#[32]⟩)
  unfold B_read_names
  walk_at "tx"
  refine mkrow hz fun r p O1 o1 o2 le1 hp0 hr0 => ?_
  rw [hs] at o2 wd
  have n1 : r ≠ p := fun y => by rw [y, o2] at o1; cases o1
  walk_at "tx"
  refine ⟨r, _, rfl, o1, rfl, ?_⟩
  refine ⟨r, p, 0, w, names, rfl, o1, o2, ?_⟩
  refine dNe_str_ap (wd w (List.mem_cons_self ..)).2 asc_worlds ?_
  rw [decide_eq_true (show tl w = tl (Str.ofString "worlds") from hw)]
  have o3 : (O1.set p (.lst (strsD names))) r = some (rowO p 0) := by rw [Ow.set_ne n1]; exact o1
  walk_at "tx"
  refine fldr rfl o3 lk_rest ?_
  refine len_lv (lv_ref Ow.set_same) ?_
  rw [strs_len]
  walk_at "tx"
  rw [decide_eq_true (show (2 : Int) ≤ (names.length : Int) by omega)]
  walk_at "tx"
  rw [decide_eq_true (show (names.length : Int) ≤ 12 by omega)]
  walk_at "tx"
  unfold B_read_names_r3
  walk_at "tx"
  intro pn hpn
  have m1 : pn ≠ p := fun y => by rw [y, Ow.set_same] at hpn; cases hpn
  have hpn1 : O1 pn = none := by rw [Ow.set_ne m1] at hpn; exact hpn
  have m2 : pn ≠ r := fun y => by rw [y, o1] at hpn1; cases hpn1
  have hpn0 : O pn = none := by
    cases e : O pn with
    | none => rfl
    | some u => rw [le1 _ _ e] at hpn1; cases hpn1
  refine ⟨fun μ ρ O' => ∃ (vs built : List Str), μ = vs.length ∧ built ++ vs = names ∧ O' = (O1.set p (.lst (strsD vs))).set pn (.lst (strsD built)) ∧ ρ = [none, some (.ref r), some (.ref pn), none], ⟨_, names, [], rfl, rfl, rfl, rfl⟩, ?_⟩
  rintro μ ρ O' ⟨vs, built, rfl, hb, rfl, rfl⟩
  have o4 : ((O1.set p (.lst (strsD vs))).set pn (.lst (strsD built))) r = some (rowO p 0) := by rw [Ow.set_ne m2.symm, Ow.set_ne n1]; exact o1
  have o5 : ((O1.set p (.lst (strsD vs))).set pn (.lst (strsD built))) p = some (.lst (strsD vs)) := by rw [Ow.set_ne m1.symm, Ow.set_same]
  walk_at "tx"
  refine fldr rfl o4 lk_rest ?_
  refine len_lv (lv_ref o5) ?_
  rw [strs_len]
  match vs, hb, o4, o5 with
  | [], hb, o4, o5 =>
    rw [List.append_nil] at hb
    subst hb
    try simp only [List.length_nil]
    walk_at "tx"
    refine ⟨O.set pn (.lst (strsD built)), fun a u ha => ?_, q pn hpn0⟩
    by_cases ha1 : a = pn
    · subst ha1; rw [Ow.set_same] at ha ⊢; exact ha
    · rw [Ow.set_ne ha1] at ha ⊢
      have : a ≠ p := fun y => by rw [y, hp0] at ha; cases ha
      rw [Ow.set_ne this]; exact le1 _ _ ha
  | v :: vs, hb, o4, o5 =>
    show (if decide ((0 : Int) < ((v :: vs).length : Int)) = true then _ else _)
    rw [if_pos (decide_eq_true (by simp))]
    unfold B_read_names_b2
    walk_at "tx"
    refine ⟨r, _, rfl, o4, rfl, ?_⟩
    refine ⟨r, p, 0, v, vs, rfl, o4, o5, ?_⟩
    have e3 : (((O1.set p (.lst (strsD (v :: vs)))).set pn (.lst (strsD built))).set p (.lst (strsD vs))) = (O1.set p (.lst (strsD vs))).set pn (.lst (strsD built)) := by
      funext x
      by_cases hx : x = p
      · subst hx; rw [Ow.set_same, Ow.set_ne m1.symm, Ow.set_same]
      · by_cases hy : x = pn
        · subst hy; rw [Ow.set_ne hx, Ow.set_same, Ow.set_same]
        · rw [Ow.set_ne hx, Ow.set_ne hy, Ow.set_ne hx, Ow.set_ne hy, Ow.set_ne hx]
    rw [e3]
    have o6 : ((O1.set p (.lst (strsD vs))).set pn (.lst (strsD built))) pn = some (.lst (strsD built)) := Ow.set_same
    have vn := hn v (by rw [← hb]; simp)
    obtain ⟨vl, va⟩ := nameW_asc vn
    walk_at "tx"
    refine ⟨v, rfl, by omega, ?_⟩
    rw [vn]
    walk_at "tx"
    refine ⟨_, qv_of_lv (lv_ref o6), rfl, flat_strs, ?_⟩
    have ni : idxW built v = none := idx_none fun y hy z => by
      rw [← hb, List.map_append, List.map_cons] at hd
      have := (List.nodup_append.mp hd).2.2 (tl y) (List.mem_map.mpr ⟨y, hy, rfl⟩) (tl v) (List.mem_cons_self ..)
      exact this z
    rw [inD_idx, ni]
    walk_at "tx"
    unfold B_read_names_r1
    walk_at "tx"
    have bl : built.length ≤ 12 := by rw [← hb] at h12; simp at h12; omega
    refine ⟨by rw [strs_len]; omega, ?_⟩
    refine ⟨_, vs.length, Ow.le.refl _, by simp, vs, built ++ [v], rfl, by rw [List.append_assoc]; exact hb, ?_⟩
    unfold strsD
    rw [List.map_append]; rfl
theorem hb_read_offer : ∀ ds O Q, sp_read_offer ds O Q → B_read_offer (rtEnds Q) (startD 8 ds) O := by
  rintro ds O Q ⟨z, pn, k, names, o, rfl, hz, az, k12, hn, nl, hnw, ho, q⟩
  have wd := words_split hz az (y := ⟨#[32]⟩)
  have cnt := split_count (z := z) (y := ⟨#[32]⟩)
  unfold B_read_offer
  walk_at "tx"
  refine mkrow hz fun r p O1 o1 o2 le1 hp0 hr0 => ?_
  have n1 : r ≠ p := fun y => by rw [y, o2] at o1; cases o1
  have n2 : pn ≠ p := fun y => by rw [y, hp0] at hn; cases hn
  have o3 := le1 _ _ hn
  generalize Txt.split z ⟨#[32]⟩ = wsA at *
  match wsA, ho, o2, wd, cnt with
  | [], ho, _, _, _ => cases ho
  | w :: ws, ho, o2, wd, cnt =>
    have ho : (if tl w = tl offerS then match takeN names.length ws with
      | none => none
      | some (rs, w1) => match takeP askS w1 with
        | none => none
        | some (x, w2) => match takeP bidS w2 with
          | none => none
          | some (y, w3) => (evP names w3).map fun e => (⟨rs, x, y, e⟩ : Off)
      else none) = some o := ho
    by_cases hw : tl w = tl offerS
    rotate_left
    · rw [if_neg hw] at ho; cases ho
    rw [if_pos hw] at ho
    cases h1 : takeN names.length ws with
    | none => rw [h1] at ho; cases ho
    | some t1 =>
      obtain ⟨rs, w1⟩ := t1
      rw [h1] at ho
      cases h2 : takeP askS w1 with
      | none => simp [h2] at ho
      | some t2 =>
        obtain ⟨x, w2⟩ := t2
        simp only [h2] at ho
        cases h3 : takeP bidS w2 with
        | none => simp [h3] at ho
        | some t3 =>
          obtain ⟨y, w3⟩ := t3
          simp only [h3] at ho
          obtain ⟨e, h4, rfl⟩ := Option.map_eq_some_iff.mp ho
          obtain ⟨rl, us1, e1⟩ := takeN_len h1
          obtain ⟨us2, e2⟩ := takeP_sub h2
          obtain ⟨us3, e3⟩ := takeP_sub h3
          have wd0 : Words ws := fun a ha => wd a (List.mem_cons_of_mem _ ha)
          have wd1 : Words w1 := Words.sub (us := us1) (by rw [← e1]; exact wd0)
          have wd2 : Words w2 := Words.sub (us := us2) (by rw [← e2]; exact wd1)
          have wd3 : Words w3 := Words.sub (us := us3) (by rw [← e3]; exact wd2)
          have c1 : ws.length = us1.length + w1.length := by rw [e1, List.length_append]
          have c2 : w1.length = us2.length + w2.length := by rw [e2, List.length_append]
          have c3 : w2.length = us3.length + w3.length := by rw [e3, List.length_append]
          simp only [List.length_cons] at cnt
          walk_at "tx"
          refine ⟨r, _, rfl, o1, rfl, ?_⟩
          refine ⟨r, p, k, w, ws, rfl, o1, o2, ?_⟩
          refine dNe_str_ap (wd w (List.mem_cons_self ..)).2 asc_offer ?_
          rw [decide_eq_true (show tl w = tl (Str.ofString "offer") from hw)]
          walk_at "tx"
          rw [decide_eq_false (show ¬ (12 : Int) < k by omega)]
          walk_at "tx"
          unfold B_read_offer_r1
          walk_at "tx"
          have o4 : ∀ l, (O1.set p (.lst l)) pn = some (.lst (strsD names)) := fun l => by rw [Ow.set_ne n2]; exact o3
          have o5 : ∀ l, (O1.set p (.lst l)) r = some (rowO p k) := fun l => by rw [Ow.set_ne n1]; exact o1
          refine ⟨_, qv_of_lv (lv_ref (o4 _)), by rw [strs_len]; omega, qv_of_lv (lv_ref (o4 _)), ?_⟩
          refine lc_idx (fun i acc O' => ∃ (rest : List Str), i ≤ names.length ∧ acc = (rs.take i).map rat ∧ O' = O1.set p (.lst (strsD rest)) ∧ takeN (names.length - i) rest = some (rs.drop i, w1) ∧ Words rest ∧ rest.length ≤ 90001) ?_ ?_ ⟨ws, Nat.zero_le _, rfl, rfl, by simpa using h1, wd0, by omega⟩
          · rintro i hi acc O' R ⟨rest, _, rfl, rfl, ht, hrw, hrl⟩ hR
            rw [strs_len] at hi
            refine ⟨_, rfl, ?_⟩
            walk_at "tx"
            have hi2 : i < rs.length := by omega
            rw [show names.length - i = (names.length - (i + 1)) + 1 by omega, List.drop_eq_getElem_cons hi2] at ht
            match rest, ht, hrw, hrl with
            | [], ht, _, _ => cases ht
            | a :: rest, ht, hrw, hrl =>
              obtain ⟨t1, t2⟩ := takeN_step ht
              have aw := hrw a (List.mem_cons_self ..)
              refine ⟨r, _, rfl, o5 _, rfl, ?_⟩
              refine ⟨r, p, k, a, rest, rs[i], rfl, o5 _, Ow.set_same, aw.1, aw.2, t1, ?_⟩
              rw [Ow.set_set]
              refine ⟨qv_of_lv (lv_ref (o4 _)), hR _ _ ⟨rest, by omega, ?_, rfl, t2, fun b hb => hrw b (List.mem_cons_of_mem _ hb), by simp at hrl; omega⟩⟩
              rw [List.take_succ_eq_append_getElem hi2, List.map_append]; rfl
          · rintro acc O' ⟨rest, _, rfl, rfl, ht, hrw, hrl⟩
            rw [strs_len] at ht
            rw [Nat.sub_self] at ht
            have er : rest = w1 := by
              have ht : some (([] : List Rat), rest) = some (rs.drop names.length, w1) := ht
              exact (Prod.mk.inj (Option.some.inj ht)).2
            subst er
            rw [strs_len, List.take_of_length_le (by omega)]
            rw [show D.tup (rs.map rat) = rowD rs from rfl]
            walk_at "tx"
            refine ⟨r, _, rfl, o5 _, rfl, ?_⟩
            refine ⟨r, p, k, askS, rest, w2, x, rfl, o5 _, Ow.set_same, by omega, asc_ask, wd1, h2, ?_⟩
            rw [Ow.set_set]
            walk_at "tx"
            refine ⟨r, _, rfl, o5 _, rfl, ?_⟩
            refine ⟨r, p, k, bidS, w2, w3, y, rfl, o5 _, Ow.set_same, by omega, asc_bid, wd2, h3, ?_⟩
            rw [Ow.set_set]
            walk_at "tx"
            refine ⟨r, _, rfl, o5 _, rfl, ?_⟩
            refine ⟨r, p, pn, k, w3, names, e, rfl, o5 _, Ow.set_same, o4 _, n2, by omega, wd3, by omega, hnw, h4, fun ws' => ?_⟩
            rw [Ow.set_set]
            refine ⟨O, fun a u ha => ?_, q⟩
            have : a ≠ p := fun y => by rw [y, hp0] at ha; cases ha
            rw [Ow.set_ne this]; exact le1 _ _ ha
def sp_read : DL := fun ds O Q => ∃ (z f w : Str) (lines names : List Str) (offs : List Off), ds = [.str z] ∧ z.length ≤ 90000 ∧ Asc z ∧ Txt.split z ⟨#[10]⟩ = f :: lines ∧ lines.length ≤ 12 ∧ Txt.split f ⟨#[32]⟩ = w :: names ∧ tl w = tl worldsS ∧ NamesOk names ∧ lines.map (fun l => rowP names (Txt.split l ⟨#[32]⟩)) = offs.map some ∧ Q (.tup [.lst (strsD names), .lst (offs.map offD)]) O
theorem ln_read : ∀ ds O Q, sp_read ds O Q → ds.length = 1 := by rintro ds O Q ⟨a, b, c, d, e, f, rfl, _⟩; rfl
def B_read_b1 : DS' :=
  (dDrop (dMt "list" (dVar 3) (dCons (dCall sp_read_offer (dCons (dVar 2) (dCons (dOp dIx (dVar 1) (dVar 4)) (dCons (dVar 4) dNil)))) dNil) dAppend))
def B_read_r2 : DS' :=
  (dRet (dTup (dCons (dVar 2) (dCons (dVar 3) dNil))))
def B_read : DS' :=
  (dThen (dAsg (dMt "str" (dVar 0) (dCons (dC (.str (Str.ofString "\n"))) dNil) (dSplit mkF)) (tgN 1))
  (dThen (dAsg (dCall sp_read_names (dCons (dOp dIx (dVar 1) (dC (.int 0))) dNil)) (tgN 2))
  (dThen (dAsg (dLst mkO dNil) (tgN 3))
  (dThen (dFor (dRng2 (dCons (dC (.int 1)) (dCons (dBu dLen (dCons (dVar 1) dNil)) dNil))) (tgN 4)
  B_read_b1 [0, 4])
  (dFreeze 3 (dFreeze 2 B_read_r2))))))
theorem hb_read : ∀ ds O Q, sp_read ds O Q → B_read (rtEnds Q) (startD 5 ds) O := by
  rintro ds O Q ⟨z, f, w, lines, names, offs, rfl, hz, az, hs, l12, hf, hw, hN, hl, q⟩
  have enl : Str.ofString "\n" = ⟨#[10]⟩ := by rfl
  have wd := words_split hz az (y := ⟨#[10]⟩)
  rw [hs] at wd
  have ll : lines.length = offs.length := by simpa using congrArg List.length hl
  have hnw : Words names := fun a ha => ⟨by have := (nameW_asc (hN.2.2.1 a ha)).1; omega, (nameW_asc (hN.2.2.1 a ha)).2⟩
  unfold B_read
  walk_at "tx"
  rw [enl]
  refine ⟨rfl, by have := line100000; omega, ?_⟩
  rw [hs]
  walk_at "tx"
  refine ⟨.str f, at0, ?_⟩
  obtain ⟨fl, fa⟩ := wd f (List.mem_cons_self ..)
  refine ⟨f, w, names, rfl, fl, fa, hf, hw, hN, fun pn hpn => ?_⟩
  walk_at "tx"
  intro po hpo
  have m1 : pn ≠ po := fun y => by rw [← y, Ow.set_same] at hpo; cases hpo
  have hpo0 : O po = none := by rw [Ow.set_ne m1.symm] at hpo; exact hpo
  have o1 : (O.set pn (.lst (strsD names))) pn = some (.lst (strsD names)) := Ow.set_same
  have leO : O.le (O.set pn (.lst (strsD names))) := Ow.le_set hpn
  generalize O.set pn (.lst (strsD names)) = O1 at *
  rw [strs_len]
  refine ⟨⟨by decide, by decide, by simp; omega, by simp; omega⟩, ?_⟩
  refine for_idx (fun k ρ O' => k ≤ lines.length ∧ O' = O1.set po (.lst ((offs.take k).map offD)) ∧ ρ = [none, some (.lst (strsD (f :: lines))), some (.ref pn), some (.ref po), none]) ?_ ?_ ⟨Nat.zero_le _, by rw [List.take_zero]; rfl, rfl⟩
  · rintro k hk ρ O' E' ⟨_, rfl, rfl⟩ hnx hct hrt hbk
    rw [rangeD_len] at hk
    have hk2 : k < lines.length := by simp at hk; omega
    have hk3 : k < offs.length := by omega
    rw [show (rangeD 1 (((f :: lines).length : Int) - 1).toNat)[k]'(by rw [rangeD_len]; exact hk) = .int ((k + 1 : Nat) : Int) by simp [rangeD]; omega]
    refine ⟨_, rfl, ?_⟩
    unfold B_read_b1
    walk_at "tx"
    refine ⟨.str lines[k], ?_, ?_⟩
    · unfold atI ixN
      rw [if_pos (by omega), if_pos (by rw [strs_len]; simp; omega)]
      show (strsD (f :: lines))[((k + 1 : Nat) : Int).toNat]? = _
      rw [Int.toNat_natCast]
      unfold strsD
      rw [List.getElem?_map, List.getElem?_cons_succ, List.getElem?_eq_getElem hk2]; rfl
    · obtain ⟨la, lb⟩ := wd lines[k] (List.mem_cons_of_mem _ (List.getElem_mem hk2))
      have ho : rowP names (Txt.split lines[k] ⟨#[32]⟩) = some offs[k] := by
        have := congrArg (fun l => l[k]?) hl
        simp [hk2, hk3] at this
        exact this
      refine ⟨lines[k], pn, _, names, offs[k], rfl, la, lb, by omega, by rw [Ow.set_ne m1]; exact o1, by have := hN.2.1; omega, hnw, ho, ?_⟩
      walk_at "tx"
      refine ⟨by rw [List.length_map, List.length_take]; omega, ?_⟩
      refine hnx _ _ _ (Ow.le.refl _) trivial ⟨hk2, ?_, rfl⟩
      rw [List.take_succ_eq_append_getElem hk3, List.map_append]; rfl
  · rintro ρ O' ⟨_, rfl, rfl⟩
    have e : (rangeD 1 (((f :: lines).length : Int) - 1).toNat).length = lines.length := by rw [rangeD_len]; simp
    rw [e, ll, List.take_length]
    unfold B_read_r2
    walk_at "tx"
    refine ⟨po, _, rfl, Ow.set_same, ?_⟩
    rw [Ow.del_set hpo]
    refine ⟨pn, _, rfl, o1, ?_⟩
    unfold dRet dTup dCons dNil dVar
    refine ⟨_, rfl, _, rfl, by show 2 ≤ 1000; decide, O, fun a u ha => ?_, q⟩
    have : a ≠ pn := fun z => by rw [z, hpn] at ha; cases ha
    unfold Ow.del
    rw [if_neg this]
    exact leO a u ha
def rLoop (gd : D → DEnv → Option DEnv) (body : DS') (r : DRt) (fs : List Nat) (stay : Ow → Prop) (Ex : DXQ) : List D → DEnv → Ow → Prop
  | [], _, _ => False
  | d :: l, ρ, O => ∃ ρ', gd d ρ = some ρ' ∧ (r Ex ρ' O ∨ body { nx := fun ρ2 O2 => ∃ O3, Ow.le O3 O2 ∧ stay O3 ∧ rLoop gd body r fs stay Ex l (forget ρ2 fs) O3, ct := fun ρ2 O2 => ∃ O3, Ow.le O3 O2 ∧ stay O3 ∧ rLoop gd body r fs stay Ex l (forget ρ2 fs) O3, rt := fun _ _ => False, bk := fun _ _ => False } ρ' O)
def drFor (di : DIt) (gd : D → DEnv → Option DEnv) (body : DS') (r : DRt) (fs : List Nat) : DRt := fun Ex ρ O => di ρ O fun items stay O1 => stay O1 ∧ rLoop gd body r fs stay Ex items (forget ρ fs) O1
theorem drs_for {X : Cx} {body : List Stmt} {ds : DS'} {dr : DRt} {pos : Pos} {tg iter : Expr} {di : DIt} {gd : D → DEnv → Option DEnv} {slots : List Nat} (fs : List Nat) (hp : PassesOwn (model X.prog X.w) X.A X.env X.xe) (hcm : X.calm = true) (hi : DI X tg iter di) (hg : DG X tg gd slots) (hn : DSs X body ds) (hb : DRSs X body dr)
    (hs : ∀ x, foldedSetIterable iter X.env x = pure x := by intro _; rfl) : DRS X (.For tg iter body [] pos) (drFor di gd ds dr fs) := by
  obtain ⟨wi, pi, fi⟩ := hi.cold hcm
  obtain ⟨g, pg, fg⟩ := hg
  obtain ⟨t, p, f⟩ := hb
  obtain ⟨tb, pb, fb⟩ := hn
  refine ⟨fun W => tFor wi g (fun D σ H => tb D σ H ∨ t W D σ H), fun W tk => L2.ps_for hp hcm pi pg (pss_or pb (p W tk)) hs, fun Ex W ρ σ w T hw he lk h => ?_⟩
  refine fi ρ σ w _ _ hw he (fun items stay J w1 hw1 f1 Wk ⟨hst, h1⟩ => ?_) h
  let P : Nat → L2.St → Hp → Prop := fun i σ H => ∃ ρ w2, w2.H = H ∧ Own X.K w2 ∧ Fr w1 w2 ∧ RepE X.K w2.G ρ σ ∧ stay w2.O ∧ rLoop gd ds dr fs stay Ex (items.drop i) ρ w2.O
  refine ⟨fun i m σ H => m = items.length - i ∧ i ≤ items.length ∧ P i σ H, ⟨items.length, by simp, Nat.zero_le _, forget ρ fs, w1, rfl, hw1, Fr.refl w1, RepE.forget fs (he.mono f1.gsub), hst, by simpa using h1⟩, ?_⟩
  rintro i m σ' H ⟨rfl, hi, ρ2, w2, rfl, hw2, f2, he2, st2, hl⟩
  by_cases hlt : i < items.length
  · refine .inr ⟨Wk.go i w2 hw2 f2 st2 hlt, P (i + 1), fun σ'' H' p' => ⟨items.length - (i + 1), by omega, rfl, hlt, p'⟩, fun x H' y => ?_⟩
    rw [List.drop_eq_getElem_cons hlt] at hl
    obtain ⟨ρ', eg, hl⟩ := hl
    obtain ⟨w3, eH, eO, hw3, f3, r3⟩ := Wk.yld i w2 x H' hw2 f2 st2 y items[i] (List.getElem?_eq_getElem hlt)
    subst eH
    refine fg.run w3 _ x ρ2 ρ' σ' _ hw3 (he2.mono f3.gsub) r3 eg fun σ4 he4 _ _ => ?_
    rw [← eO] at hl
    rcases hl with hl | hl
    · exact .inr (f Ex W ρ' σ4 w3 _ hw3 he4 (lk.after (f1.trans (f2.trans f3))) hl)
    · have next : ∀ ρ5 σ5 w5, Own X.K w5 → Fr w3 w5 → RepE X.K w5.G ρ5 σ5 → (∃ O3, Ow.le O3 w5.O ∧ stay O3 ∧ rLoop gd ds dr fs stay Ex (items.drop (i + 1)) (forget ρ5 fs) O3) → P (i + 1) σ5 w5.H :=
        fun ρ5 σ5 w5 hw5 f5 he5 ⟨O3, l3, s3, h5⟩ => ⟨forget ρ5 fs, w5.drop O3, rfl, hw5.drop l3, f2.trans (f3.trans (f5.trans (Fr.drop l3))), RepE.forget fs he5, s3, h5⟩
      exact .inl (fb ρ' σ4 w3 _ { T with nx := P (i + 1), ct := P (i + 1), bk := T.nx } hw3 he4 ⟨next, fun _ _ _ _ _ _ z => False.elim z, fun _ _ _ _ _ _ z => False.elim z, next⟩ hl)
  · have e : i = items.length := by omega
    subst e
    rw [List.drop_length] at hl
    exact hl.elim
/-- the classes that are asked, as a name or a tuple of names -/
def KIs (K : PySem.W.Frag) (C : Addr) (H : Hp) (c : V) (b : Bool) : Prop := (∃ cv, ClsV c cv ∧ PySem.W.kitOne K (.ref C) cv = some b) ∨ ∃ tp cs us, c = .ref tp ∧ H tp = some (.tup cs) ∧ Paired ClsV cs us ∧ PySem.W.kitAny K (.ref C) us = some b
/-- its dict is told, if it has one -/
def XdT (H : Hp) (d : Option Addr) : Prop := d = none ∨ ∃ dd gs, d = some dd ∧ H dd = some (.xd gs)
def XdTO (O : Ow) (d : Option Addr) : Prop := d = none ∨ ∃ dd fs, d = some dd ∧ O dd = some (.xd fs)
theorem XdTO.told {K : PySem.W.Frag} {w : Wd} {d : Option Addr} (hw : Own K w) (h : XdTO w.O d) : XdT w.H d := h.imp id fun ⟨dd, fs, e, eo⟩ => by
  obtain ⟨_, hh, e1, gs, e2, _⟩ := hw.own dd _ eo
  exact ⟨dd, gs, e, by rw [e1, e2]⟩
section
variable {X : Cx} {pins : List (Addr × Obj)} {σ : L2.St} {H : Hp} {s : Shared}
theorem inst_at {a C : Addr} {oe : Obj} {d : Option Addr} (I : Inv X pins σ H s) (ha : s.heap.get? a = some oe) (hc : oe.cls = .ref C) (hd : oe.dict = d) (hf : ∃ vs, oe.data = .fields vs) (t : XdT H d) : ∃ od, PySem.W.InstAt s.heap a oe C od := by
  obtain ⟨vs, hv⟩ := hf
  have no : PySem.W.notCls oe = true := by unfold PySem.W.notCls; rw [hv] <;> rfl
  rcases t with rfl | ⟨dd, gs, rfl, e⟩
  · exact ⟨none, ha, hc, no, by rw [hd]; trivial⟩
  · have hx : ObjOk X.prog X.w H s.heap dd (.xd gs) := I.hok dd _ e
    obtain ⟨mA, hns, _⟩ := hx
    obtain ⟨od, ho, _⟩ := lookIn_ns hns
    exact ⟨some od, ha, hc, no, by rw [hd]; exact ho⟩
theorem isx_core {a C : Addr} {ox : Obj} {od : Option Obj} {c : V} {u : Value} {b : Bool} {Q : VK} {E : Value → Shared → Prop} (T : ExcC X.K C) (I : Inv X pins σ H s) (J : PySem.W.InstAt s.heap a ox C od) (k : KIs X.K C H c b) (r : RelV c u) (q : Q (.bl b) H) :
    wpAny (model X.prog X.w) X.A (call (.builtin "isinstance") [.ref a, u]) (EP X pins σ Q) E s := by
  obtain ⟨cdD, hcD, _⟩ := PySem.W.any_some T.hd
  have Z := PySem.W.kitx_exc (x := a) (ox := ox) (od := od) (by rw [hcD]; rfl) T.hg T.hk T.hs T.ha T.hn T.ht T.hm
  rcases k with ⟨cv, hcv, e⟩ | ⟨tp, cs, us, ec, hT, hp, e⟩
  · have := hcv.eq r
    subst this
    exact PySem.W.kia_one Z I.kIn J e (fun z => nomatch z) fun tk => ⟨.bl b, H, I.tok tk, rfl, q⟩
  · subst ec
    cases (show u = Value.ref tp from r)
    obtain ⟨_, its, rv, o, h1, h2, n, h3⟩ := (show ObjOk X.prog X.w H s.heap tp (.tup cs) from I.hok tp _ hT)
    have e3 := ClsV.all hp rv
    subst e3
    obtain ⟨oc, od', dt, sl⟩ := o
    simp only at h2 h3
    subst h2 h3
    exact PySem.W.kia_tup Z I.kIn J h1 e (fun z => nomatch z) fun tk => ⟨.bl b, H, I.tok tk, rfl, q⟩
/-- of one that is kept -/
def rIsK (K : PySem.W.Frag) : List V → Hp → VK → Prop := fun xs H Q => ∃ (a C : Addr) (d : Option Addr) (c : V) (b : Bool), xs = [.ref a, c] ∧ H a = some (excO a C d) ∧ ExcC K C ∧ XdT H d ∧ KIs K C H c b ∧ Q (.bl b) H
theorem call_isK : CallR X (.builtin "isinstance") (rIsK X.K) := by
  rintro pins s σ H xs us Q I r ⟨a, C, d, c, b, rfl, e, T, t, k, q⟩
  obtain ⟨u1, u2, rfl, r1, r2⟩ := vals2 r
  cases (show u1 = Value.ref a from r1)
  obtain ⟨⟨oe, vs, h1, h2, h3, h4⟩, _⟩ := (show ObjOk X.prog X.w H s.heap a (excO a C d) from I.hok a _ e)
  obtain ⟨od, J⟩ := inst_at I h1 h2 h3 ⟨vs, h4⟩ t
  exact isx_core T I J k r2 q
end
def CArg (X : Cx) (e : Expr) (v : V) (u : Value) : Prop := PE X e (tC v) ∧ ClsV v u
theorem ca_own {X : Cx} {x : Str} {C : Addr} {pos : Pos} (hg : Gl X x) (hm : X.mg x = some (.ref C)) (hd : (x == ("__debug__" : Str)) = false := by decide) : CArg X (.Name x pos) (.ref C) (.ref C) := ⟨pe_glob hg hm rfl hd, .own C⟩
theorem ca_ty {X : Cx} {x : Str} {T : String} {pos : Pos} (hg : Gl X x) (hm : X.mg x = none) (hv : bootBuiltins x = some (.type T)) (hn : x ≠ "__name__" := by decide) (hd : (x == ("__debug__" : Str)) = false := by decide) : CArg X (.Name x pos) (.ty T) (.type T) := ⟨pe_bltn (v := .ty T) hg hm hv rfl hn hd, .ty T⟩
def CArgs (X : Cx) (es : List Expr) (vs : List V) (us : List Value) : Prop := (∃ t, PA X es t ∧ ∀ σ H (Q : List V → Hp → Prop), Q vs H → t σ H Q) ∧ Paired ClsV vs us
theorem cas_nil {X : Cx} : CArgs X [] [] [] := ⟨⟨_, pa_nil, fun _ _ _ q => q⟩, .nil⟩
theorem cas_cons {X : Cx} {e : Expr} {es : List Expr} {v : V} {vs : List V} {u : Value} {us : List Value} (h : CArg X e v u) (r : CArgs X es vs us) (hs : starEach (e :: es) X.env = (false, eval e X.env) :: starEach es X.env := by rfl) : CArgs X (e :: es) (v :: vs) (u :: us) := by
  obtain ⟨p, k⟩ := h
  obtain ⟨⟨t, pt, ft⟩, kt⟩ := r
  exact ⟨⟨_, pa_cons p pt hs, fun σ H Q q => ft σ H _ q⟩, .cons k kt⟩
theorem kit_sub {K : PySem.W.Frag} {C C2 : Addr} {b : Bool} (hi : PySem.W.isClsIn K C2 = true) (ht : PySem.W.typeIn K (.ref C2) = some (.type "type")) (h0 : PySem.W.subIn K (.ref C) (.ref C) = some true) (hs : PySem.W.subIn K (.ref C) (.ref C2) = some b) : PySem.W.kitOne K (.ref C) (.ref C2) = some b := by
  unfold PySem.W.kitOne
  by_cases e : (Value.ref C == Value.ref C2) = true
  · rw [if_pos e]
    have e' : C = C2 := Value.ref.inj (beq_iff_eq.mp e)
    subst e'
    rw [h0] at hs
    cases hs
    rfl
  · rw [if_neg e]
    show (if ((PySem.W.clsIn K C2).isSome && PySem.W.typeIn K (.ref C2) == some (.type "type")) = true then PySem.W.subIn K (.ref C) (.ref C2) else none) = some b
    have e2 : ((PySem.W.clsIn K C2).isSome && PySem.W.typeIn K (.ref C2) == some (.type "type")) = true := by
      have h2' : (PySem.W.clsIn K C2).isSome = true := hi
      rw [h2', ht] <;> rfl
    rw [if_pos e2]
    exact hs
theorem kit_bi {K : PySem.W.Frag} {C : Addr} {T : String} {b : Bool} (hk : PySem.W.kitMeta T = true) (hs : PySem.W.subIn K (.ref C) (.type T) = some b) : PySem.W.kitOne K (.ref C) (.type T) = some b := by
  unfold PySem.W.kitOne
  rw [if_neg (by intro z; cases (beq_iff_eq.mp z))]
  show (if PySem.W.kitMeta T = true then PySem.W.subIn K (.ref C) (.type T) else none) = some b
  rw [if_pos hk]
  exact hs
theorem kany_nil {K : PySem.W.Frag} {t : Value} : PySem.W.kitAny K t [] = some false := rfl
theorem kany_no {K : PySem.W.Frag} {t c : Value} {cs : List Value} {b : Bool} (h : PySem.W.kitOne K t c = some false) (r : PySem.W.kitAny K t cs = some b) : PySem.W.kitAny K t (c :: cs) = some b := by
  unfold PySem.W.kitAny
  rw [h]
  exact r
section
variable {X : Cx} {pins : List (Addr × Obj)} {σ : L2.St} {H : Hp} {sI s : Shared} {a C : Addr} {d : Option Addr} {oe : Obj} {vs : Array Value}
/-- what was made since sI may be known from now on -/
theorem inv_track (I : Inv X pins σ H sI) (J : Inv X pins σ H s) (hn : sI.heap.get? a = none) (he : s.heap.get? a = some oe) (hc : oe.cls = .ref C) (hd : oe.dict = d) (hv : oe.data = .fields vs) (na : H a = none) (nL : a ≠ X.env.locals) :
    Inv X pins σ (upd H a (excO a C d)) s := by
  have ne : ∀ b o, sI.heap.get? b = some o → b ≠ a := fun b o e z => by rw [z, hn] at e; cases e
  have nh : ∀ b u, H b = some u → b ≠ a := fun b u e z => by rw [z, na] at e; cases e
  refine ⟨J.ok, J.os, J.bare, ⟨J.base.keep, J.base.slot, fun b o e n hx => ?_, J.base.there, fun b xs e => ?_, fun b o u e => ?_, fun b ps e => ?_⟩, J.loc, J.cell, ?_, fun x c e => ?_, fun p hp => ?_, fun b u e => ?_, J.len⟩
  · obtain ⟨o', e'⟩ := I.base.there b o e hx
    rw [upd_ne (ne b o' e')]
    exact J.base.free b o e n hx
  · have q := J.base.tups b xs e
    rw [upd_ne (nh b _ q)]; exact q
  · have q := J.base.frzs b o u e
    rw [upd_ne (nh b _ q)]; exact q
  · obtain ⟨more, q⟩ := J.base.tbls b ps e
    exact ⟨more, by rw [upd_ne (nh b _ q)]; exact q⟩
  · rw [upd_ne (Ne.symm nL)]; exact J.free
  · have h1 := J.freeC x c e
    obtain ⟨v, h2⟩ := I.cell x c e
    have : c ≠ a := fun z => by
      subst z
      first
        | exact ne _ _ h2 rfl
        | (obtain ⟨o, h3, _⟩ := h2; exact ne _ _ h3 rfl)
    rw [upd_ne this]; exact h1
  · obtain ⟨h1, h2, h3⟩ := J.pin p hp
    have hne := ne _ _ (I.pin p hp).1
    exact ⟨h1, by rw [upd_ne hne]; exact h2, h3⟩
  · by_cases hb : b = a
    · subst hb
      rw [upd_same] at e
      cases e
      exact ⟨⟨oe, vs, he, hc, hd, hv⟩, ⟨_, he⟩, fun h1 h2 ⟨o1, v1, q1, q2⟩ k => ⟨o1, v1, k _ q1, q2⟩⟩
    · rw [upd_ne hb] at e
      exact (J.hok b u e).stay (fun c v _ q => q) (fun c q => by rw [upd_ne (nh c _ q)]; exact q) fun c xs q => by rw [upd_ne (nh c _ q)]; exact q
theorem inv_hotK (I : Inv X pins σ H s) (a : Addr) : Inv (X.suite a (X.pn ++ pins)) [] σ H s :=
  ⟨I.ok.suite _ _, I.os, I.bare, I.base, I.loc, I.cell, I.free, I.freeC, fun p hp => I.pin p (by rw [List.append_nil] at hp; exact hp), I.hok, I.len⟩
theorem inv_coldK (I : Inv (X.suite a (X.pn ++ pins)) [] σ H s) (ok : X.Ok) : Inv X pins σ H s :=
  ⟨ok, I.os, I.bare, I.base, I.loc, I.cell, I.free, I.freeC, fun p hp => I.pin p (by rw [List.append_nil]; exact hp), I.hok, I.len⟩
end
/-- what a clause that keeps it asks: it catches it, and the suite runs with it known -/
def wK (K : PySem.W.Frag) (c : Value) (i : Nat) (ts : Addr → Addr → Option Addr → TS) (D : Ends) : WX := fun cls d σ H =>
  PySem.W.exmOne K cls c = some true ∧ ∃ C, cls = .ref C ∧ ∀ a, H a = none → ts a C d { nx := fun σ' H' => D.nx (σ'.set i none) H', rt := D.rt, bk := fun σ' H' => D.bk (σ'.set i none) H', ct := fun σ' H' => D.ct (σ'.set i none) H' } (σ.set i (some (.ref a))) (upd H a (excO a C d))
section
variable {X : Cx} {x n : Str} {c : Value} {i : Nat} {body suite : List Stmt} {b₀ : Stmt} {np pos pos' : Pos} {tb : WX → TS} {ts : Addr → Addr → Option Addr → TS}
/-- try: body, except x as n: a suite in which n's exception is known, and behind which it stays known -/
theorem ps_try_keep (hs : X.stack = X.env :: X.outer) (hf : X.env.frame = some X.env.locals) (hN : X.N.Nodup) (hi : X.N[i]? = some n) (hln : X.env.kindOf n = some .local) (hg : Gl X x) (hdb : (x == ("__debug__" : Str)) = false) (hm : X.mg x = some c)
    (hb : ∀ (W : WX) (pn : List (Addr × Obj)) (xe : Value → Shared → Prop), L2N.Takes (X.tr pn xe) W → PassesOwn (model X.prog X.w) X.A X.env xe → PSs (X.tr pn xe) body (tb W))
    (hsu : ∀ (a C : Addr) (d : Option Addr) (pn : List (Addr × Obj)), PSs (X.suite a pn) (b₀ :: suite) (ts a C d)) :
    PS X (.Try body [.ExceptHandler (some (.Name x np)) (some n) (b₀ :: suite) pos'] [] [] pos) (fun D σ H => tb (wK X.K c i ts D) D σ H) := by
  refine ⟨fun pins s σ H D I h => ?_⟩
  have ok := I.ok
  have hfr : X.A.frames = some (X.env :: X.outer) := by rw [ok.frames, hs]
  -- the whole clause, from the moment it is thrown
  let T : Value → Shared → Prop := fun e s1 => wpAny (model X.prog X.w) X.A (noteFrame e X.env) (fun _ s2 => wpAny (model X.prog X.w) X.A (setFlight e none) (fun _ s3 =>
    wpAny (model X.prog X.w) X.A (handleBy e X.env [.ExceptHandler (some (.Name x np)) (some n) (b₀ :: suite) pos']) (SP X pins D) X.xe s3) X.xe s2) X.xe s1
  have caught : ∀ u s1, L2N.XE (X.tr (X.pn ++ pins) T) (wK X.K c i ts D) u s1 → T u s1 := by
    rintro u s1 ⟨a, B, sI, pins', σ', H', cls, d, rfl, J', nb, up, sky, na, os, ag, hx, C, rfl, suit⟩
    have J : Inv X pins σ' H' sI := J'.ofTry ok
    have sky' : L2.Sky B (X.env :: X.outer) a (L2N.Zn (.ref C) d) X.env.locals s1.heap := by rw [← hs]; exact sky
    show wpAny (model X.prog X.w) X.A (noteFrame (.ref a) X.env) _ _ _
    refine L2N.Sky.land L2N.Zn.steady hfr hf sky' fun h3 fl3 up3 => ?_
    obtain ⟨oe3, vs3, he3, hz3, hd3⟩ := fl3.there
    have J3 : Inv X pins σ' H' { s1 with heap := h3 } := J.landed nb fl3.1 (up.trans up3) os ag
    have nfr : a ∉ frs (X.env :: X.outer) := fun hm' => by
      obtain ⟨_, o', e', q⟩ := fl3.2.2.1.mem hm'
      rw [he3] at e'; cases e'
      exact q _ hd3
    have nL : a ≠ X.env.locals := fun z => nfr (List.mem_filterMap.mpr ⟨X.env, List.mem_cons_self, by rw [hf, z]⟩)
    have new : sI.heap.get? a = none := by
      cases e : sI.heap.get? a with
      | none => rfl
      | some o =>
        have := nb a o e (by rw [hs]; exact nfr)
        rw [fl3.2.1] at this; cases this
    have K3 := inv_track (a := a) (C := C) (d := d) J J3 new he3 hz3.1 hz3.2.1 hd3 na nL
    refine wpAny_handleBy_cons (codeAny_handlers_test ?_) (fun z => nomatch z)
    refine ld_glob (X := X.suite a (X.pn ++ pins)) (inv_hotK K3 a) hg hm ?_ hdb
    refine (PySem.W.exm_one (M := model X.prog X.w) J3.kIn (fun A Q E s k q => wpAny_typeOf_ref (k _ _ he3) (by rw [hz3.1]; exact q)) hx).here ?_
    refine codeAny_handlers_suite_as ?_
    refine HandSPX.lands_againZ fl3 fun h4 fl4 up4 => ?_
    obtain ⟨oe4, vs4, he4, hz4, hd4⟩ := fl4.there
    have J4 : Inv X pins σ' H' { s1 with heap := h4 } := J.landed nb fl4.1 ((up.trans up3).trans up4) os ag
    have K4 := inv_track (a := a) (C := C) (d := d) J J4 new he4 hz4.1 hz4.2.1 hd4 na nL
    refine store_ok (X := X.suite a (X.pn ++ pins)) (v := .ref a) (inv_hotK K4 a) hN hi (.inl hln) rfl (fun s5 S5 => ?_) (.inr hln)
    refine wpAny_mono ((hsu a C d (X.pn ++ pins)).run [] s5 _ _ _ S5 (suit a na)) (fun f s6 hsp => ?_) (fun _ _ z => False.elim z)
    have leave : ∀ {σ6 : L2.St} {H6 : Hp} {Q : Shared → Prop}, Inv (X.suite a (X.pn ++ pins)) [] σ6 H6 s6 → (∀ s7, Inv X pins (σ6.set i none) H6 s7 → Q s7) →
        wpAny (model X.prog X.w) X.A (do bindName X.env n .none; unbindBehindTheSuite X.env n pos') (fun _ s7 => Q s7) X.xe s6 := fun S6 hq => gone_ok (inv_coldK S6 ok) hN hi hln hq
    cases f with
    | next => obtain ⟨σ6, H6, S6, q6⟩ := hsp; exact leave S6 fun s7 J7 => ⟨_, _, J7, q6⟩
    | brk => obtain ⟨σ6, H6, S6, q6⟩ := hsp; exact leave S6 fun s7 J7 => ⟨_, _, J7, q6⟩
    | cont => obtain ⟨σ6, H6, S6, q6⟩ := hsp; exact leave S6 fun s7 J7 => ⟨_, _, J7, q6⟩
    | ret u => obtain ⟨v6, σ6, H6, S6, r6, q6⟩ := hsp; exact leave S6 fun s7 J7 => ⟨_, _, _, J7, r6, q6⟩
  refine wpAny_Try_except ?_
  refine wpAny_mono ((hb (wK X.K c i ts D) (X.pn ++ pins) T caught PassesOwn.looking).run [] s σ H D (I.toTry _) h) (fun f s1 hsp => ?_) (fun e s1 he => he)
  cases f with
  | next => obtain ⟨σ', H', J', q⟩ := hsp; exact wpAny_execs_nil ⟨σ', H', J'.ofTry ok, q⟩
  | brk => obtain ⟨σ', H', J', q⟩ := hsp; exact ⟨σ', H', J'.ofTry ok, q⟩
  | cont => obtain ⟨σ', H', J', q⟩ := hsp; exact ⟨σ', H', J'.ofTry ok, q⟩
  | ret u => obtain ⟨v, σ', H', J', r, q⟩ := hsp; exact ⟨v, σ', H', J'.ofTry ok, r, q⟩
end
def dTryK (dn : DS') (r : DRt) (m : Str) (i : Nat) (du : DS') : DS' := fun E ρ O => dn E ρ O ∨
  r (fun m' d ρ' O' => m' = m ∧ ∀ a, O' a = none → du { nx := fun ρ2 O2 => E.nx (ρ2.set i none) O2, rt := E.rt, bk := fun ρ2 O2 => E.bk (ρ2.set i none) O2, ct := fun ρ2 O2 => E.ct (ρ2.set i none) O2 } (ρ'.set i (some (.ref a))) (O'.set a (.exc a m d))) ρ O
theorem ds_tryK {X : Cx} {body : List Stmt} {dr : DRt} {pos : Pos} {C C0 : Addr} {n m x : Str} {i : Nat} {b₀ : Stmt} {suite : List Stmt} {np pos' : Pos} {dn : DS'} {du : DS'} (hc : XCat X.K X.mg n C [m]) (h0 : ClsAt X.K m C0) (hN : X.N.Nodup) (hi : X.N[i]? = some x) (hln : X.env.kindOf x = some .local) (hb : DSs X body dn)
    (hr : ∀ (pn : List (Addr × Obj)) (xe : Value → Shared → Prop), PassesOwn (model X.prog X.w) X.A X.env xe → DRSs (X.tr pn xe) body dr)
    (hu : ∀ (a : Addr) (pn : List (Addr × Obj)), DSs (X.suite a pn) (b₀ :: suite) du)
    (hn : ∀ e s, ¬ X.xe e s := by exact fun _ _ z => z) (hs : X.stack = X.env :: X.outer := by rfl) (hf : X.env.frame = some X.env.locals := by rfl) (hg : Gl X n := by rfl) (hdb : (n == ("__debug__" : Str)) = false := by decide) :
    DS X (.Try body [.ExceptHandler (some (.Name n np)) (some x) (b₀ :: suite) pos'] [] [] pos) (dTryK dn dr m i du) := by
  obtain ⟨t, p, f⟩ := hb
  refine ⟨_, ps_or (ps_try_never (u := tNext) hn p pss_nil) (ps_try_keep (i := i) (tb := fun W => tOfR X.K dr W) (c := Value.ref C) (ts := fun a C' d D σ H => C' = C0 ∧ tOfS X.K du D σ H) hs hf hN hi hln hg hdb hc.mg_
    (fun W pn xe tk po => pss_ofR (hr pn xe po) tk) (fun a C' d pn => ⟨fun pins s σ H D I ⟨ec, q⟩ => (pss_ofS (hu a pn)).run pins s σ H D I q⟩)), fun ρ σ w E T hw he lk h => ?_⟩
  refine h.elim (fun h => .inl (f ρ σ w E _ hw he lk h)) (fun h => .inr ⟨_, ρ, w, rfl, hw, he, ⟨fun m' C' d ρ' σ' w' ca hw' fr' he' q => ?_⟩, h⟩)
  obtain ⟨rfl, q⟩ := q
  obtain rfl := ca.inj h0
  refine ⟨hc.ex _ (List.mem_singleton.mpr rfl) C' ca, C', rfl, fun a na => ⟨rfl, ?_⟩⟩
  have lk' := lk.after fr'
  have hg' : RepO X.K w'.G (.exc a m' d) (excO a C' d) := ⟨C', ca, rfl⟩
  have hO := hw'.give (x := excO a C' d) na hg'
  have fO : Fr w' (w'.give a (.exc a m' d) (excO a C' d)) := Fr.give hw' na
  have lk2 := lk'.after fO
  refine ⟨_, _, w'.give a (.exc a m' d) (excO a C' d), rfl, hO, he'.set (.ref a), ?_, q a (hw'.none_of na).2⟩
  exact ⟨fun ρ2 σ2 w2 a1 a2 a3 => lk2.nx _ _ w2 a1 a2 (a3.gone i), lk2.rt, fun ρ2 σ2 w2 a1 a2 a3 => lk2.bk _ _ w2 a1 a2 (a3.gone i), fun ρ2 σ2 w2 a1 a2 a3 => lk2.ct _ _ w2 a1 a2 (a3.gone i)⟩
/-- isinstance of a kept one, of the class m -/
def dIsK (m : Str) (b : Bool) (da : DT) : DT := fun ρ O Q => da ρ O fun x O1 => ∃ a d, x = .ref a ∧ O1 a = some (.exc a m d) ∧ XdTO O1 d ∧ Q (.bl b) O1
section
variable {X : Cx} {e : Expr} {da : DT} {pos p : Pos}
theorem de_isK1 {C : Addr} {m : Str} {c : Expr} {v : V} {u : Value} {b : Bool} (h0 : ClsAt X.K m C) (T : ExcC X.K C) (h : DE X e da) (hc : CArg X c v u) (k : PySem.W.kitOne X.K (.ref C) u = some b)
    (hg : Gl X "isinstance") (hm : X.mg "isinstance" = none) (he : starEach [e, c] X.env = (false, eval e X.env) :: starEach [c] X.env := by rfl) (he2 : starEach [c] X.env = (false, eval c X.env) :: starEach [] X.env := by rfl) (hpl : (backTo pos (starEach [c] X.env)).any (·.1) = false := by rfl) :
    DE X (.Call (.Name "isinstance" p) [e, c] [] pos) (dIsK m b da) := by
  obtain ⟨t, pe, f⟩ := h
  refine ⟨_, pe_callB call_isK hg hm (by decide +kernel) (pa_cons pe (pa_cons hc.1 pa_nil he2) he) (by decide) (by decide) he hpl, fun ρ σ w Q' Q hw he' lk h => ?_⟩
  refine f ρ σ w _ _ hw he' (fun x vx w1 hw1 f1 rx ⟨a, d, ex, ea, xt, h1⟩ => ?_) h
  subst ex
  obtain ⟨_, hh, e1, C', ca, e2⟩ := hw1.own a _ ea
  obtain rfl := ca.inj h0
  subst e2
  rw [rx.ref_of]
  exact ⟨a, C', d, v, b, rfl, e1, T, xt.told hw1, .inl ⟨u, hc.2, k⟩, lk _ _ w1 hw1 f1 (.bl b) h1⟩
theorem de_isKT {C : Addr} {m : Str} {cs : List Expr} {kt : Nat} {tpos : Pos} {vs : List V} {us : List Value} {b : Bool} (h0 : ClsAt X.K m C) (T : ExcC X.K C) (h : DE X e da) (hc : CArgs X cs vs us) (k : PySem.W.kitAny X.K (.ref C) us = some b)
    (hl : vs.length ≤ 1000) (hg : Gl X "isinstance") (hm : X.mg "isinstance" = none) (he : starEach [e, .Tuple cs kt tpos] X.env = (false, eval e X.env) :: starEach [.Tuple cs kt tpos] X.env := by rfl) (he2 : starEach [.Tuple cs kt tpos] X.env = (false, eval (.Tuple cs kt tpos) X.env) :: starEach [] X.env := by rfl) (hpl : (backTo pos (starEach [.Tuple cs kt tpos] X.env)).any (·.1) = false := by rfl) :
    DE X (.Call (.Name "isinstance" p) [e, .Tuple cs kt tpos] [] pos) (dIsK m b da) := by
  obtain ⟨t, pe, f⟩ := h
  obtain ⟨⟨tc, pc, fc⟩, kc⟩ := hc
  refine ⟨_, pe_callB call_isK hg hm (by decide +kernel) (pa_cons pe (pa_cons (pe_tup pc) pa_nil he2) he) (by decide) (by decide) he hpl, fun ρ σ w Q' Q hw he' lk h => ?_⟩
  refine f ρ σ w _ _ hw he' (fun x vx w1 hw1 f1 rx ⟨a, d, ex, ea, xt, h1⟩ => ?_) h
  subst ex
  obtain ⟨_, hh, e1, C', ca, e2⟩ := hw1.own a _ ea
  obtain rfl := ca.inj h0
  subst e2
  rw [rx.ref_of]
  refine fc σ w1.H _ ⟨Nat.le_trans hl line1000, fun q hq => ?_⟩
  obtain ⟨o2, f2⟩ := Own.more (o := .tup vs) hw1 hq
  have xt2 : XdT (upd w1.H q (.tup vs)) d := (xt.told hw1).imp id fun ⟨dd, gs, e1, e2⟩ => ⟨dd, gs, e1, (upd_ne (ne_of_none e2 hq)).trans e2⟩
  exact ⟨a, C', d, .ref q, b, rfl, (upd_ne (ne_of_none e1 hq)).trans e1, T, xt2, .inr ⟨q, vs, us, rfl, upd_same, kc, k⟩, lk _ _ ⟨w1.G, w1.O, upd w1.H q (.tup vs)⟩ o2 (f1.trans f2) (.bl b) h1⟩
end
section
variable {X : Cx} {CX : CXT} {k : Nat} {f C : Addr} {fd : FuncData} {ps : List Str} {sp : Sp} {E : L2.St → XK} {m : Str} {pos apos : Pos} {e o : Expr} {es : List Expr} {ta : TE} {t : TA}
theorem pe_methC {pl : Sem Bool} (he : PE X o ta) (c : Cls X.K C) (hm : Meth X.K C m f) (F : FnOk X.prog X.w X.K X.mg X.base CX k f fd ps sp) (hr : Room k X.A) (hb : Binds X.K fd ps []) (hx : ∀ σ, PassesAt CX X σ (E σ)) (ha : PA X (e :: es) t)
    (hst : starEach (e :: es) X.env = (false, eval e X.env) :: starEach es X.env) (hpl : (backTo pos (starEach es X.env)).any (·.1) = false)
    (ht : eval (.Call (.Attribute o m apos) (e :: es) [] pos) X.env = (do
      let ov ← eval o X.env
      standAt apos.atName
      let (f, first) ← holding [ov] (getMethod ov m pl)
      callWith pos f first (backTo pos (starEach (e :: es) X.env)) (backToKw pos (keywordEach [] X.env)))) :
    PE X (.Call (.Attribute o m apos) (e :: es) [] pos) (L2H.tMethH C m sp E ta t) := by
  refine ⟨fun pins s σ H Q I h => ?_⟩
  refine PySem.W.methodCall_KW (pl := pl) (thn (he.run pins s σ H _ I h) ?_) ht
  rintro u s1 ⟨x, H1, I1, rx, a, dx, fs, rfl, ea, l, q⟩
  cases rx
  refine getmeth_ok I1 ea c hm l ?_
  refine PySem.W.callWith_K (first := [.ref a]) (h₀ := X.base) I.ok.mod.kin hm.kp (thn (ha.run pos pins s1 σ H1 _ I1 q) fun us s2 ⟨vs, H2, I2, r, q2⟩ => ⟨I2.kIn, ?_⟩) hst hpl
  exact run_fnS (us := .ref a :: us) (vs := .ref a :: vs) F hr hb (hx σ) I2 (.cons rfl r) q2
end
section
variable {X : Cx} {e o : Expr} {es : List Expr} {doo da : DT} {dl : DTa} {pos apos : Pos} {n m : Str} {C : Addr} {k : Nat} {g : Addr} {fd : FuncData} {ps : List Str} {s : DLX}
def drMeth (n m : Str) (s : DLX) (doo : DT) (dl : DTa) : DRt := fun Ex ρ O => doo ρ O fun x O1 => ∃ p fs, x = .ref p ∧ O1 p = some (.ins n fs) ∧ fs.lookup m = none ∧ dl ρ O1 fun ds O2 => s (x :: ds) O2 fun n' d O3 => Ex n' d ρ O3
theorem dre_meth (hc : ClsOk X.K n C) (hm : Meth X.K C m g) (F : FnOk X.prog X.w X.K X.mg X.base (L2N.CX X.prog X.w) k g fd ps (PromR X.K s)) (hr : Rm k X) (hcm : X.calm = true) (hb : Binds X.K fd ps []) (ho : DE X o doo) (ha : DA X (e :: es) dl)
    (pl : Sem Bool)
    (ht : eval (.Call (.Attribute o m apos) (e :: es) [] pos) X.env = (do
      let ov ← eval o X.env
      standAt apos.atName
      let (f, first) ← holding [ov] (getMethod ov m pl)
      callWith pos f first (backTo pos (starEach (e :: es) X.env)) (backToKw pos (keywordEach [] X.env))))
    (hst : starEach (e :: es) X.env = (false, eval e X.env) :: starEach es X.env := by rfl) (hpl : (backTo pos (starEach es X.env)).any (·.1) = false := by rfl) :
    DRE X (.Call (.Attribute o m apos) (e :: es) [] pos) (drMeth n m s doo dl) := by
  obtain ⟨to, po, fo⟩ := ho
  obtain ⟨tl, pl', fl⟩ := ha
  refine ⟨fun W => L2H.tMethH C m (PromR X.K s) (WE W) to tl, fun W tk => pe_methC (pl := pl) po hc.cls hm F (hr.room hcm) hb (fun σ => L2N.passAt tk σ) pl' hst hpl ht, fun Ex W ρ σ w Q hw he lk h => ?_⟩
  refine fo ρ σ w _ _ hw he (fun x vx w1 hw1 f1 rx ⟨q, fs, ex, eo, el, h1⟩ => ?_) h
  subst ex
  obtain ⟨dx, gs, hh, r⟩ := ins_own hw1 hc eo
  refine ⟨q, dx, gs, rx.ref_of, hh, r.none el, ?_⟩
  refine fl ρ σ w1 _ _ hw1 (he.mono f1.gsub) (fun ds vs w2 hw2 f2 rs h2 => ?_) h1
  exact ⟨_, w2, _, rfl, hw2, .cons (rx.mono f2.gsub) rs, ⟨fun n' C' d w' a b c q => lk.x n' C' d ρ σ w' a b ((f1.trans f2).trans c) (he.mono ((f1.trans f2).gsub.trans c.gsub)) q⟩, h2⟩
/-- x.f of a kept one, of the class m -/
def tXk (C : Addr) (f : Str) (te : TE) : TE := fun σ H Q => te σ H fun x H1 => ∃ (a dd : Addr) (fs : List (Str × V)) (v : V), x = .ref a ∧ H1 a = some (excO a C (some dd)) ∧ H1 dd = some (.xd fs) ∧ fs.lookup f = some v ∧ Q v H1
theorem pe_xk {te : TE} {f : Str} (T : XfC X.K C) (hno : PySem.W.findIn X.K (.ref C) f = some none) (he : PE X e te) (hb : attributeBase e f X.env (eval e X.env) = eval e X.env) : PE X (.Attribute e f pos) (tXk C f te) := by
  refine ⟨fun pins s σ H Q I h => attr_of hb (thn (he.run pins s σ H _ I h) ?_)⟩
  rintro u s1 ⟨x, H1, I1, rx, a, dd, fs, v, rfl, ex, ea, l, q⟩
  cases rx
  obtain ⟨⟨oe, vs, h1, h2, h3, h4⟩, _⟩ := (show ObjOk X.prog X.w H1 s1.heap a (excO a C (some dd)) from I1.hok a _ ex)
  obtain ⟨mA, hns, hr⟩ := (show ObjOk X.prog X.w H1 s1.heap dd (.xd fs) from I1.hok dd _ ea)
  obtain ⟨od, ho, hl⟩ := lookIn_ns hns
  obtain ⟨u, hu, ru⟩ := RelO.some_of (v := v) (o := mA f) (by rw [← l]; exact hr f)
  have J : PySem.W.InstAt s1.heap a oe C (some od) := ⟨h1, h2, by unfold PySem.W.notCls; rw [h4] <;> rfl, by rw [h3]; exact ho⟩
  exact HandSPX.exc_get I1.kIn J T.ga T.gg T.exC (PySem.W.findObj_own T.hdC hno rfl (by rw [hl, hu])) (handed_of ru) ⟨v, H1, I1.tok _, ru, q⟩
def dXk (m f : Str) (da : DT) : DT := fun ρ O Q => da ρ O fun x O1 => ∃ a dd fs v, x = .ref a ∧ O1 a = some (.exc a m (some dd)) ∧ O1 dd = some (.xd fs) ∧ fs.lookup f = some v ∧ Q v O1
theorem de_xk {f : Str} (h0 : ClsAt X.K m C) (T : XfC X.K C) (hno : PySem.W.findIn X.K (.ref C) f = some none) (h : DE X e da) (hb : attributeBase e f X.env (eval e X.env) = eval e X.env := by rfl) : DE X (.Attribute e f pos) (dXk m f da) := by
  obtain ⟨t, p, fa⟩ := h
  refine ⟨_, pe_xk T hno p hb, fun ρ σ w Q' Q hw he lk h => ?_⟩
  refine fa ρ σ w _ _ hw he (fun x vx w1 hw1 f1 rx ⟨a, dd, fs, v, ex, ea, ed, el, h1⟩ => ?_) h
  subst ex
  obtain ⟨_, hh, e1, C', ca, e2⟩ := hw1.own a _ ea
  obtain rfl := ca.inj h0
  subst e2
  obtain ⟨_, hh2, e3, gs, e4, rf⟩ := hw1.own dd _ ed
  subst e4
  obtain ⟨u, eu, ru⟩ := rf.get el
  exact ⟨a, dd, gs, u, rx.ref_of, e1, e3, eu, lk v u w1 hw1 f1 ru h1⟩
end
theorem ExT.mono {k : Int} {O O' : Ow} {Ex : ExW} (h : ExT k O Ex) (l : O.le O') : ExT k O' Ex := fun O1 a l1 ha => h O1 a (fun b u hb => l1 b u (l b u hb)) ha
theorem rlc_go {gd : D → DEnv → Option DEnv} {te : DT} {r : DRX} {stay : Ow → Prop} {ρ : DEnv} {Ex : ExW} : ∀ (items : List D) (I : Nat → Ow → Prop)
    (_ : ∀ i (hi : i < items.length) O (Q : Ow → Prop), I i O → (∀ O2, I (i + 1) O2 → Q O2) → ∃ ρ', gd items[i] ρ = some ρ' ∧ (r Ex ρ' O ∨ te ρ' O fun _ O2 => stay O2 ∧ Q O2))
    (_ : ∀ O, ¬ I items.length O) (O : Ow), I 0 O → rLc gd te r stay ρ Ex items O
  | [], I, _, last, O, h => last O h
  | d :: l, I, step, last, O, h => by
    obtain ⟨ρ', e, z⟩ := step 0 (by simp) O (fun O2 => rLc gd te r stay ρ Ex l O2) h fun O2 h2 =>
      rlc_go l (fun i O => I (i + 1) O) (fun i hi O Q h q => step (i + 1) (by simp; omega) O Q h q) (fun O z => last O z) O2 h2
    exact ⟨ρ', e, z⟩
theorem rloop_go {gd : D → DEnv → Option DEnv} {body : DS'} {r : DRt} {fs : List Nat} {stay : Ow → Prop} {Ex : DXQ} : ∀ (items : List D) (I : Nat → DEnv → Ow → Prop)
    (_ : ∀ i (hi : i < items.length) ρ O (N : DEnv → Ow → Prop), I i ρ O → (∀ ρ2 O2 O3, Ow.le O3 O2 → stay O3 → I (i + 1) (forget ρ2 fs) O3 → N ρ2 O2) → ∃ ρ', gd items[i] ρ = some ρ' ∧ (r Ex ρ' O ∨ body { nx := N, ct := N, rt := fun _ _ => False, bk := fun _ _ => False } ρ' O))
    (_ : ∀ ρ O, ¬ I items.length ρ O) (ρ : DEnv) (O : Ow), I 0 ρ O → rLoop gd body r fs stay Ex items ρ O
  | [], I, _, last, ρ, O, h => last ρ O h
  | d :: l, I, step, last, ρ, O, h => by
    obtain ⟨ρ', e, z⟩ := step 0 (by simp) ρ O (fun ρ2 O2 => ∃ O3, Ow.le O3 O2 ∧ stay O3 ∧ rLoop gd body r fs stay Ex l (forget ρ2 fs) O3) h fun ρ2 O2 O3 l3 s3 h2 =>
      ⟨O3, l3, s3, rloop_go l (fun i ρ O => I (i + 1) ρ O) (fun i hi ρ O N h q => step (i + 1) (by simp; omega) ρ O N h q) (fun ρ O z => last ρ O z) _ O3 h2⟩
    exact ⟨ρ', e, z⟩
def spR_read_names : DLX := fun ds O Ex => ∃ (z w : Str) (names : List Str), ds = [.str z] ∧ z.length ≤ 90000 ∧ Asc z ∧ Txt.split z ⟨#[32]⟩ = w :: names ∧ ¬ (tl w = tl worldsS ∧ NamesOk names) ∧ ExT 0 O Ex
theorem lnR_read_names : ∀ ds O Ex, spR_read_names ds O Ex → ds.length = 1 := by rintro ds O Q ⟨a, b, c, rfl, _⟩; rfl
def spR_read_offer : DLX := fun ds O Ex => ∃ (z : Str) (pn : Addr) (k : Int) (names : List Str), ds = [.ref pn, .str z, .int k] ∧ z.length ≤ 90000 ∧ Asc z ∧ O pn = some (.lst (strsD names)) ∧ names.length ≤ 12 ∧ Words names ∧ (12 < k ∨ rowP names (Txt.split z ⟨#[32]⟩) = none) ∧ ExT k O Ex
theorem lnR_read_offer : ∀ ds O Ex, spR_read_offer ds O Ex → ds.length = 3 := by rintro ds O Q ⟨a, b, c, d, rfl, _⟩; rfl
def BR_read_names : DRt :=
  (drSkip (dAsg (dMake "Row" sp_Row___init__ (dCons (dVar 0) (dCons (dC (.int 0)) dNil))) (tgN 1))
  (drOr (drIf (dOr (dTest (dOp dNe (dMeth "Row" "next_word" sp_Row_next_word (dVar 1) dNil) (dC (.str (Str.ofString "worlds"))))) (dNot (dTest (dChain dLe dLe (dC (.int 2)) (dBu dLen (dCons (dFld "Row" "rest" (dVar 1)) dNil)) (dC (.int 12)))))) (drOfX (drMeth0 "Row" "refuse" spR_Row_refuse (dVar 1))) drNever) (drSkip (dIfS (dOr (dTest (dOp dNe (dMeth "Row" "next_word" sp_Row_next_word (dVar 1) dNil) (dC (.str (Str.ofString "worlds"))))) (dNot (dTest (dChain dLe dLe (dC (.int 2)) (dBu dLen (dCons (dFld "Row" "rest" (dVar 1)) dNil)) (dC (.int 12)))))) (dDrop (dMeth "Row" "refuse" sp_Row_refuse (dVar 1) dNil)) dNext)
  (drSkip (dAsg (dLst mkO dNil) (tgN 2))
  (drWhile (dTest (dOp dGt (dBu dLen (dCons (dFld "Row" "rest" (dVar 1)) dNil)) (dC (.int 0))))
  (dThen (dAsg (dMeth "Row" "next_word" sp_Row_next_word (dVar 1) dNil) (tgN 3))
  (dThen (dIfS (dOr (dNot (dTest (dCall sp_is_name (dCons (dVar 3) dNil)))) (dTest (dOp (dInN false) (dVar 3) (dVar 2)))) (dDrop (dMeth "Row" "refuse" sp_Row_refuse (dVar 1) dNil)) dNext)
  (dDrop (dMt "list" (dVar 2) (dCons (dVar 3) dNil) dAppend))))
  (drOr (drOfX (drMeth0 "Row" "next_word" spR_Row_next_word (dVar 1))) (drSkip (dAsg (dMeth "Row" "next_word" sp_Row_next_word (dVar 1) dNil) (tgN 3))
  (drIf (dOr (dNot (dTest (dCall sp_is_name (dCons (dVar 3) dNil)))) (dTest (dOp (dInN false) (dVar 3) (dVar 2)))) (drOfX (drMeth0 "Row" "refuse" spR_Row_refuse (dVar 1))) drNever))) [0, 3])))))
def BR_read_offer : DRt :=
  (drSkip (dAsg (dMake "Row" sp_Row___init__ (dCons (dVar 1) (dCons (dVar 2) dNil))) (tgN 3))
  (drOr (drIf (dOr (dTest (dOp dNe (dMeth "Row" "next_word" sp_Row_next_word (dVar 3) dNil) (dC (.str (Str.ofString "offer"))))) (dTest (dOp dGt (dVar 2) (dC (.int 12))))) (drOfX (drMeth0 "Row" "refuse" spR_Row_refuse (dVar 3))) drNever) (drSkip (dIfS (dOr (dTest (dOp dNe (dMeth "Row" "next_word" sp_Row_next_word (dVar 3) dNil) (dC (.str (Str.ofString "offer"))))) (dTest (dOp dGt (dVar 2) (dC (.int 12))))) (dDrop (dMeth "Row" "refuse" sp_Row_refuse (dVar 3) dNil)) dNext)
  (drOr (drLc (dSeq (dVar 0)) (tgN 7) (dMeth "Row" "next_ratio" sp_Row_next_ratio (dVar 3) dNil) (drMeth0 "Row" "next_ratio" spR_Row_next_ratio (dVar 3)) [7]) (drSkip (dAsg (dBu dTuple (dCons (dLc mkF (dSeq (dVar 0)) (tgN 7) dYes (dMeth "Row" "next_ratio" sp_Row_next_ratio (dVar 3) dNil) [7]) dNil)) (tgN 4))
  (drOr (drMeth "Row" "price_behind" spR_Row_price_behind (dVar 3) (dCons (dC (.str (Str.ofString "ask"))) dNil)) (drSkip (dAsg (dMeth "Row" "price_behind" sp_Row_price_behind (dVar 3) (dCons (dC (.str (Str.ofString "ask"))) dNil)) (tgN 5))
  (drOr (drMeth "Row" "price_behind" spR_Row_price_behind (dVar 3) (dCons (dC (.str (Str.ofString "bid"))) dNil)) (drSkip (dAsg (dMeth "Row" "price_behind" sp_Row_price_behind (dVar 3) (dCons (dC (.str (Str.ofString "bid"))) dNil)) (tgN 6))
  (drArg (dVar 4) (drArg (dVar 5) (drArg (dVar 6) (drMeth "Row" "event_behind" spR_Row_event_behind (dVar 3) (dCons (dVar 0) dNil))))))))))))))
theorem hbR_read_names : ∀ ds O Ex, spR_read_names ds O Ex → BR_read_names (fun n d _ O' => Ex n d O') (startD 4 ds) O := by
  rintro ds O Ex ⟨z, w, names, rfl, hz, az, hs, hbad, q⟩
  have wd := words_split hz az (y := ⟨#[32]⟩)
  unfold BR_read_names drSkip rEnds
  walk_at "tx"
  refine mkrow hz fun r p O1 o1 o2 le1 hp0 hr0 => ?_
  rw [hs] at o2 wd
  have n1 : r ≠ p := fun y => by rw [y, o2] at o1; cases o1
  have le2 : ∀ l, O.le (O1.set p l) := fun l a u ha => by
    have : a ≠ p := fun y => by rw [y, hp0] at ha; cases ha
    rw [Ow.set_ne this]; exact le1 _ _ ha
  have o3 : (O1.set p (.lst (strsD names))) r = some (rowO p 0) := by rw [Ow.set_ne n1]; exact o1
  have ww := (wd w (List.mem_cons_self ..)).2
  unfold drOr
  by_cases h1 : tl w = tl worldsS ∧ 2 ≤ names.length ∧ names.length ≤ 12
  rotate_left
  · refine .inl ?_
    unfold drIf drOfX drMeth0
    walk_at "tx"
    refine ⟨r, _, rfl, o1, rfl, ?_⟩
    refine ⟨r, p, 0, w, names, rfl, o1, o2, ?_⟩
    refine dNe_str_ap ww asc_worlds ?_
    by_cases h2 : tl w = tl worldsS
    · rw [decide_eq_true (show tl w = tl (Str.ofString "worlds") from h2)]
      walk_at "tx"
      refine fldr rfl o3 lk_rest ?_
      refine len_lv (lv_ref Ow.set_same) ?_
      rw [strs_len]
      walk_at "tx"
      have h3 : ¬ (2 ≤ names.length ∧ names.length ≤ 12) := fun z => h1 ⟨h2, z⟩
      by_cases h4 : 2 ≤ names.length
      · rw [decide_eq_true (show (2 : Int) ≤ (names.length : Int) by omega)]
        walk_at "tx"
        rw [decide_eq_false (show ¬ (names.length : Int) ≤ 12 by omega)]
        walk_at "tx"
        exact ⟨r, _, rfl, o3, rfl, r, p, 0, rfl, o3, fun a ha => q _ a (le2 _) ha⟩
      · rw [decide_eq_false (show ¬ (2 : Int) ≤ (names.length : Int) by omega)]
        walk_at "tx"
        exact ⟨r, _, rfl, o3, rfl, r, p, 0, rfl, o3, fun a ha => q _ a (le2 _) ha⟩
    · rw [decide_eq_false (show ¬ tl w = tl (Str.ofString "worlds") from h2)]
      walk_at "tx"
      exact ⟨r, _, rfl, o3, rfl, r, p, 0, rfl, o3, fun a ha => q _ a (le2 _) ha⟩
  obtain ⟨hw, h2, h12⟩ := h1
  have hbad : ∀ (_ : ∀ y ∈ names, nameW y = true), ¬ (names.map tl).Nodup := fun h3 h4 => hbad ⟨hw, h2, h12, h3, h4⟩
  refine .inr ?_
  walk_at "tx"
  refine ⟨r, _, rfl, o1, rfl, ?_⟩
  refine ⟨r, p, 0, w, names, rfl, o1, o2, ?_⟩
  refine dNe_str_ap ww asc_worlds ?_
  rw [decide_eq_true (show tl w = tl (Str.ofString "worlds") from hw)]
  walk_at "tx"
  refine fldr rfl o3 lk_rest ?_
  refine len_lv (lv_ref Ow.set_same) ?_
  rw [strs_len]
  walk_at "tx"
  rw [decide_eq_true (show (2 : Int) ≤ (names.length : Int) by omega)]
  walk_at "tx"
  rw [decide_eq_true (show (names.length : Int) ≤ 12 by omega)]
  walk_at "tx"
  intro pn hpn
  have m1 : pn ≠ p := fun y => by rw [y, Ow.set_same] at hpn; cases hpn
  have hpn1 : O1 pn = none := by rw [Ow.set_ne m1] at hpn; exact hpn
  have m2 : pn ≠ r := fun y => by rw [y, o1] at hpn1; cases hpn1
  have hpn0 : O pn = none := by
    cases e : O pn with
    | none => rfl
    | some u => rw [le1 _ _ e] at hpn1; cases hpn1
  have le3 : ∀ l l', O.le ((O1.set p l).set pn l') := fun l l' a u ha => by
    have : a ≠ pn := fun y => by rw [y, hpn0] at ha; cases ha
    rw [Ow.set_ne this]; exact le2 l a u ha
  refine ⟨fun μ ρ O' => ∃ (vs built : List Str), μ = vs.length ∧ built ++ vs = names ∧ (∀ y ∈ built, nameW y = true) ∧ (built.map tl).Nodup ∧ O' = (O1.set p (.lst (strsD vs))).set pn (.lst (strsD built)) ∧ ρ = [none, some (.ref r), some (.ref pn), none], ⟨_, names, [], rfl, rfl, (fun y hy => nomatch hy), by simp, rfl, rfl⟩, ?_⟩
  rintro μ ρ O' ⟨vs, built, rfl, hb, hbn, hbd, rfl, rfl⟩
  have o4 : ((O1.set p (.lst (strsD vs))).set pn (.lst (strsD built))) r = some (rowO p 0) := by rw [Ow.set_ne m2.symm, Ow.set_ne n1]; exact o1
  have o5 : ((O1.set p (.lst (strsD vs))).set pn (.lst (strsD built))) p = some (.lst (strsD vs)) := by rw [Ow.set_ne m1.symm, Ow.set_same]
  walk_at "tx"
  refine fldr rfl o4 lk_rest ?_
  refine len_lv (lv_ref o5) ?_
  rw [strs_len]
  match vs, hb, o4, o5 with
  | [], hb, o4, o5 =>
    rw [List.append_nil] at hb
    subst hb
    exact (hbad hbn hbd).elim
  | v :: vs, hb, o4, o5 =>
    refine ⟨decide_eq_true (by simp), ?_⟩
    have e3 : (((O1.set p (.lst (strsD (v :: vs)))).set pn (.lst (strsD built))).set p (.lst (strsD vs))) = (O1.set p (.lst (strsD vs))).set pn (.lst (strsD built)) := set_swp m1.symm
    have o6 : ((O1.set p (.lst (strsD vs))).set pn (.lst (strsD built))) pn = some (.lst (strsD built)) := Ow.set_same
    have o7 : ((O1.set p (.lst (strsD vs))).set pn (.lst (strsD built))) r = some (rowO p 0) := by rw [Ow.set_ne m2.symm, Ow.set_ne n1]; exact o1
    have vl : v.length ≤ 90000 := (wd v (by rw [← hb]; simp)).1
    by_cases hg : nameW v = true ∧ idxW built v = none
    rotate_left
    · refine .inl (.inr ?_)
      unfold drIf drOfX drMeth0
      walk_at "tx"
      refine ⟨r, _, rfl, o4, rfl, ?_⟩
      refine ⟨r, p, 0, v, vs, rfl, o4, o5, ?_⟩
      rw [e3]
      walk_at "tx"
      refine ⟨v, rfl, by omega, ?_⟩
      by_cases vn : nameW v = true
      · rw [vn]
        walk_at "tx"
        refine ⟨_, qv_of_lv (lv_ref o6), rfl, flat_strs, ?_⟩
        have : (idxW built v).isSome = true := by
          cases e : idxW built v with
          | none => exact absurd ⟨vn, e⟩ hg
          | some j => rfl
        rw [inD_idx, this]
        walk_at "tx"
        exact ⟨r, _, rfl, o7, rfl, r, p, 0, rfl, o7, fun a ha => q _ a (le3 _ _) ha⟩
      · rw [Bool.eq_false_iff.mpr vn]
        walk_at "tx"
        exact ⟨r, _, rfl, o7, rfl, r, p, 0, rfl, o7, fun a ha => q _ a (le3 _ _) ha⟩
    · obtain ⟨vn, ni⟩ := hg
      refine .inr ?_
      walk_at "tx"
      refine ⟨r, _, rfl, o4, rfl, ?_⟩
      refine ⟨r, p, 0, v, vs, rfl, o4, o5, ?_⟩
      rw [e3]
      walk_at "tx"
      refine ⟨v, rfl, by omega, ?_⟩
      rw [vn]
      walk_at "tx"
      refine ⟨_, qv_of_lv (lv_ref o6), rfl, flat_strs, ?_⟩
      rw [inD_idx, ni]
      walk_at "tx"
      have bl : built.length ≤ 12 := by rw [← hb] at h12; simp at h12; omega
      refine ⟨by rw [strs_len]; omega, ?_⟩
      refine ⟨_, vs.length, Ow.le.refl _, by simp, vs, built ++ [v], rfl, by rw [List.append_assoc]; exact hb, fun y hy => ?_, ?_, ?_⟩
      · rcases List.mem_append.mp hy with z | z
        · exact hbn y z
        · rw [List.mem_singleton.mp z]; exact vn
      · rw [List.map_append, List.nodup_append]
        refine ⟨hbd, by simp, fun a ha b hb2 e => ?_⟩
        have eb : b = tl v := by simpa using hb2
        obtain ⟨y, hy, ey⟩ := List.mem_map.mp ha
        unfold idxW at ni
        rw [List.findIdx?_eq_none_iff] at ni
        have := ni y hy
        rw [decide_eq_true (show tl y = tl v by rw [ey, e, eb])] at this
        cases this
      · unfold strsD
        rw [List.map_append]; rfl
theorem hbR_read_offer : ∀ ds O Ex, spR_read_offer ds O Ex → BR_read_offer (fun n d _ O' => Ex n d O') (startD 8 ds) O := by
  rintro ds O Ex ⟨z, pn, k, names, rfl, hz, az, hn, nl, hnw, hbad, q⟩
  have wd := words_split hz az (y := ⟨#[32]⟩)
  have cnt := split_count (z := z) (y := ⟨#[32]⟩)
  unfold BR_read_offer drSkip rEnds
  walk_at "tx"
  refine mkrow hz fun r p O1 o1 o2 le1 hp0 hr0 => ?_
  have n1 : r ≠ p := fun y => by rw [y, o2] at o1; cases o1
  have n2 : pn ≠ p := fun y => by rw [y, hp0] at hn; cases hn
  have o3 := le1 _ _ hn
  have le2 : ∀ l, O.le (O1.set p l) := fun l a u ha => by
    have : a ≠ p := fun y => by rw [y, hp0] at ha; cases ha
    rw [Ow.set_ne this]; exact le1 _ _ ha
  have o4 : ∀ l, (O1.set p (.lst l)) pn = some (.lst (strsD names)) := fun l => by rw [Ow.set_ne n2]; exact o3
  have o5 : ∀ l, (O1.set p (.lst l)) r = some (rowO p k) := fun l => by rw [Ow.set_ne n1]; exact o1
  have qx : ∀ l, RowX p k (O1.set p l) Ex := fun l ws => by rw [Ow.set_set]; exact q.mono (le2 _)
  have hsn := split_ne (x := z) (y := ⟨#[32]⟩)
  generalize Txt.split z ⟨#[32]⟩ = wsA at *
  match wsA, hsn, hbad, o2, wd, cnt with
  | [], hsn, hbad, o2, wd, cnt => exact absurd rfl hsn
  | w :: ws, hsn, hbad, o2, wd, cnt =>
    have ww := (wd w (List.mem_cons_self ..)).2
    simp only [List.length_cons] at cnt
    unfold drOr
    by_cases h0 : tl w = tl offerS ∧ k ≤ 12
    rotate_left
    · refine .inl ?_
      unfold drIf drOfX drMeth0
      walk_at "tx"
      refine ⟨r, _, rfl, o1, rfl, ?_⟩
      refine ⟨r, p, k, w, ws, rfl, o1, o2, ?_⟩
      refine dNe_str_ap ww asc_offer ?_
      by_cases hw : tl w = tl offerS
      · rw [decide_eq_true (show tl w = tl (Str.ofString "offer") from hw)]
        walk_at "tx"
        rw [decide_eq_true (show (12 : Int) < k from Int.not_le.mp fun z => h0 ⟨hw, z⟩)]
        walk_at "tx"
        exact ⟨r, _, rfl, o5 _, rfl, r, p, k, rfl, o5 _, fun a ha => q _ a (le2 _) ha⟩
      · rw [decide_eq_false (show ¬ tl w = tl (Str.ofString "offer") from hw)]
        walk_at "tx"
        exact ⟨r, _, rfl, o5 _, rfl, r, p, k, rfl, o5 _, fun a ha => q _ a (le2 _) ha⟩
    obtain ⟨hw, k12⟩ := h0
    have hbad : (if tl w = tl offerS then match takeN names.length ws with
      | none => none
      | some (rs, w1) => match takeP askS w1 with
        | none => none
        | some (x, w2) => match takeP bidS w2 with
          | none => none
          | some (y, w3) => (evP names w3).map fun e => (⟨rs, x, y, e⟩ : Off)
      else none) = none := hbad.resolve_left (by omega)
    rw [if_pos hw] at hbad
    have wd0 : Words ws := fun a ha => wd a (List.mem_cons_of_mem _ ha)
    refine .inr ?_
    walk_at "tx"
    refine ⟨r, _, rfl, o1, rfl, ?_⟩
    refine ⟨r, p, k, w, ws, rfl, o1, o2, ?_⟩
    refine dNe_str_ap ww asc_offer ?_
    rw [decide_eq_true (show tl w = tl (Str.ofString "offer") from hw)]
    walk_at "tx"
    rw [decide_eq_false (show ¬ (12 : Int) < k by omega)]
    walk_at "tx"
    cases h1 : takeN names.length ws with
    | none =>
      refine .inl ?_
      unfold drLc
      walk_at "tx"
      refine ⟨_, qv_of_lv (lv_ref (o4 _)), by rw [strs_len]; omega, qv_of_lv (lv_ref (o4 _)), ?_⟩
      refine rlc_go _ (fun i O' => ∃ (rest : List Str), i ≤ names.length ∧ O' = O1.set p (.lst (strsD rest)) ∧ takeN (names.length - i) rest = none ∧ Words rest) ?_ ?_ _ ⟨ws, Nat.zero_le _, rfl, by simpa using h1, wd0⟩
      · rintro i hi O' Q ⟨rest, _, rfl, ht, hrw⟩ hQ
        rw [strs_len] at hi
        refine ⟨_, rfl, ?_⟩
        rw [show names.length - i = (names.length - (i + 1)) + 1 by omega] at ht
        match rest, ht, hrw with
        | [], ht, hrw =>
          refine .inl ?_
          unfold drMeth0
          walk_at "tx"
          exact ⟨r, _, rfl, o5 _, rfl, r, p, k, [], rfl, o5 _, Ow.set_same, hrw, (fun _ _ z => nomatch z), qx _⟩
        | a :: rest, ht, hrw =>
          have aw := hrw a (List.mem_cons_self ..)
          cases ha : rdRat a with
          | none =>
            refine .inl ?_
            unfold drMeth0
            walk_at "tx"
            exact ⟨r, _, rfl, o5 _, rfl, r, p, k, a :: rest, rfl, o5 _, Ow.set_same, hrw, (fun w' l' z => by cases z; exact ha), qx _⟩
          | some x =>
            have ht2 : takeN (names.length - (i + 1)) rest = none := by
              unfold takeN at ht
              rw [ha] at ht
              cases e : takeN (names.length - (i + 1)) rest with
              | none => rfl
              | some t => obtain ⟨t1, t2⟩ := t; rw [e] at ht; cases ht
            refine .inr ?_
            walk_at "tx"
            refine ⟨r, _, rfl, o5 _, rfl, ?_⟩
            refine ⟨r, p, k, a, rest, x, rfl, o5 _, Ow.set_same, aw.1, aw.2, ha, ?_⟩
            rw [Ow.set_set]
            exact ⟨qv_of_lv (lv_ref (o4 _)), hQ _ ⟨rest, by omega, rfl, ht2, fun b hb => hrw b (List.mem_cons_of_mem _ hb)⟩⟩
      · rintro O' ⟨rest, _, rfl, ht, _⟩
        rw [strs_len, Nat.sub_self] at ht
        cases ht
    | some t1 =>
      obtain ⟨rs, w1⟩ := t1
      rw [h1] at hbad
      obtain ⟨rl, us1, e1⟩ := takeN_len h1
      have wd1 : Words w1 := Words.sub (us := us1) (by rw [← e1]; exact wd0)
      have c1 : ws.length = us1.length + w1.length := by rw [e1, List.length_append]
      refine .inr ?_
      walk_at "tx"
      refine ⟨_, qv_of_lv (lv_ref (o4 _)), by rw [strs_len]; omega, qv_of_lv (lv_ref (o4 _)), ?_⟩
      refine lc_idx (fun i acc O' => ∃ (rest : List Str), i ≤ names.length ∧ acc = (rs.take i).map rat ∧ O' = O1.set p (.lst (strsD rest)) ∧ takeN (names.length - i) rest = some (rs.drop i, w1) ∧ Words rest ∧ rest.length ≤ 90001) ?_ ?_ ⟨ws, Nat.zero_le _, rfl, rfl, by simpa using h1, wd0, by omega⟩
      · rintro i hi acc O' R ⟨rest, _, rfl, rfl, ht, hrw, hrl⟩ hR
        rw [strs_len] at hi
        refine ⟨_, rfl, ?_⟩
        walk_at "tx"
        have hi2 : i < rs.length := by omega
        rw [show names.length - i = (names.length - (i + 1)) + 1 by omega, List.drop_eq_getElem_cons hi2] at ht
        match rest, ht, hrw, hrl with
        | [], ht, _, _ => cases ht
        | a :: rest, ht, hrw, hrl =>
          obtain ⟨t1, t2⟩ := takeN_step ht
          have aw := hrw a (List.mem_cons_self ..)
          refine ⟨r, _, rfl, o5 _, rfl, ?_⟩
          refine ⟨r, p, k, a, rest, rs[i], rfl, o5 _, Ow.set_same, aw.1, aw.2, t1, ?_⟩
          rw [Ow.set_set]
          refine ⟨qv_of_lv (lv_ref (o4 _)), hR _ _ ⟨rest, by omega, ?_, rfl, t2, fun b hb => hrw b (List.mem_cons_of_mem _ hb), by simp at hrl; omega⟩⟩
          rw [List.take_succ_eq_append_getElem hi2, List.map_append]; rfl
      · rintro acc O' ⟨rest, _, rfl, rfl, ht, hrw, hrl⟩
        rw [strs_len] at ht
        rw [Nat.sub_self] at ht
        have er : rest = w1 := by
          have ht : some (([] : List Rat), rest) = some (rs.drop names.length, w1) := ht
          exact (Prod.mk.inj (Option.some.inj ht)).2
        subst er
        rw [strs_len, List.take_of_length_le (by omega)]
        rw [show D.tup (rs.map rat) = rowD rs from rfl]
        walk_at "tx"
        cases h2 : takeP askS rest with
        | none =>
          refine .inl ?_
          unfold drMeth
          walk_at "tx"
          exact ⟨r, _, rfl, o5 _, rfl, r, p, k, askS, rest, rfl, o5 _, Ow.set_same, by omega, asc_ask, wd1, h2, qx _⟩
        | some t2 =>
          obtain ⟨x, w2⟩ := t2
          have hbad : (match takeP askS rest with
            | none => none
            | some (x, w2) => match takeP bidS w2 with
              | none => none
              | some (y, w3) => (evP names w3).map fun e => (⟨rs, x, y, e⟩ : Off)) = none := hbad
          rw [h2] at hbad
          have hbad : (match takeP bidS w2 with
              | none => none
              | some (y, w3) => (evP names w3).map fun e => (⟨rs, x, y, e⟩ : Off)) = none := hbad
          obtain ⟨us2, e2⟩ := takeP_sub h2
          have wd2 : Words w2 := Words.sub (us := us2) (by rw [← e2]; exact wd1)
          have c2 : rest.length = us2.length + w2.length := by rw [e2, List.length_append]
          refine .inr ?_
          walk_at "tx"
          refine ⟨r, _, rfl, o5 _, rfl, ?_⟩
          refine ⟨r, p, k, askS, rest, w2, x, rfl, o5 _, Ow.set_same, by omega, asc_ask, wd1, h2, ?_⟩
          rw [Ow.set_set]
          walk_at "tx"
          cases h3 : takeP bidS w2 with
          | none =>
            refine .inl ?_
            unfold drMeth
            walk_at "tx"
            exact ⟨r, _, rfl, o5 _, rfl, r, p, k, bidS, w2, rfl, o5 _, Ow.set_same, by omega, asc_bid, wd2, h3, qx _⟩
          | some t3 =>
            obtain ⟨y, w3⟩ := t3
            rw [h3] at hbad
            obtain ⟨us3, e3⟩ := takeP_sub h3
            have wd3 : Words w3 := Words.sub (us := us3) (by rw [← e3]; exact wd2)
            have c3 : w2.length = us3.length + w3.length := by rw [e3, List.length_append]
            refine .inr ?_
            walk_at "tx"
            refine ⟨r, _, rfl, o5 _, rfl, ?_⟩
            refine ⟨r, p, k, bidS, w2, w3, y, rfl, o5 _, Ow.set_same, by omega, asc_bid, wd2, h3, ?_⟩
            rw [Ow.set_set]
            unfold drArg drMeth
            walk_at "tx"
            have hev : evP names w3 = none := by
              have hbad : (evP names w3).map (fun e => (⟨rs, x, y, e⟩ : Off)) = none := hbad
              simpa using hbad
            exact ⟨r, _, rfl, o5 _, rfl, r, p, pn, k, w3, names, rfl, o5 _, Ow.set_same, o4 _, n2, by omega, wd3, by omega, hnw, hev, qx _⟩
/-- the first bad row of a text -/
def BadAt (names : List Str) (lines : List Str) (j : Nat) : Prop := (∀ i l, i < j → lines[i]? = some l → i < 12 ∧ ∃ o, rowP names (Txt.split l ⟨#[32]⟩) = some o) ∧ ∃ l, lines[j]? = some l ∧ (12 ≤ j ∨ rowP names (Txt.split l ⟨#[32]⟩) = none)
def spR_read : DLX := fun ds O Ex => ∃ (z f w : Str) (lines names : List Str), ds = [.str z] ∧ z.length ≤ 90000 ∧ Asc z ∧ Txt.split z ⟨#[10]⟩ = f :: lines ∧ lines.length ≤ 1000 ∧ Txt.split f ⟨#[32]⟩ = w :: names ∧
  ((¬ (tl w = tl worldsS ∧ NamesOk names) ∧ ExT 0 O Ex) ∨ ((tl w = tl worldsS ∧ NamesOk names) ∧ ∃ j : Nat, BadAt names lines j ∧ ExT ((j + 1 : Nat) : Int) O Ex))
theorem lnR_read : ∀ ds O Ex, spR_read ds O Ex → ds.length = 1 := by rintro ds O Q ⟨a, b, c, d, e, rfl, _⟩; rfl
def BR_read : DRt :=
  (drSkip (dAsg (dMt "str" (dVar 0) (dCons (dC (.str (Str.ofString "\n"))) dNil) (dSplit mkF)) (tgN 1))
  (drOr (drCall spR_read_names (dCons (dOp dIx (dVar 1) (dC (.int 0))) dNil)) (drSkip (dAsg (dCall sp_read_names (dCons (dOp dIx (dVar 1) (dC (.int 0))) dNil)) (tgN 2))
  (drSkip (dAsg (dLst mkO dNil) (tgN 3))
  (drFor (dRng2 (dCons (dC (.int 1)) (dCons (dBu dLen (dCons (dVar 1) dNil)) dNil))) (tgN 4)
  (dDrop (dMt "list" (dVar 3) (dCons (dCall sp_read_offer (dCons (dVar 2) (dCons (dOp dIx (dVar 1) (dVar 4)) (dCons (dVar 4) dNil)))) dNil) dAppend))
  (drMtA "list" (dVar 3) (drCall spR_read_offer (dCons (dVar 2) (dCons (dOp dIx (dVar 1) (dVar 4)) (dCons (dVar 4) dNil))))) [0, 4])))))
theorem hbR_read : ∀ ds O Ex, spR_read ds O Ex → BR_read (fun n d _ O' => Ex n d O') (startD 5 ds) O := by
  rintro ds O Ex ⟨z, f, w, lines, names, rfl, hz, az, hs, lL, hf, hh⟩
  have enl : Str.ofString "\n" = ⟨#[10]⟩ := by rfl
  have wd := words_split hz az (y := ⟨#[10]⟩)
  rw [hs] at wd
  obtain ⟨fl, fa⟩ := wd f (List.mem_cons_self ..)
  unfold BR_read drSkip rEnds
  walk_at "tx"
  rw [enl]
  refine ⟨rfl, by have := line100000; omega, ?_⟩
  rw [hs]
  walk_at "tx"
  unfold drOr
  rcases hh with ⟨hbad, q⟩ | ⟨⟨hw, hN⟩, j, ⟨hj, lj, hlj, hbj⟩, q⟩
  · refine .inl ?_
    unfold drCall
    walk_at "tx"
    refine ⟨.str f, at0, ?_⟩
    exact ⟨f, w, names, rfl, fl, fa, hf, hbad, q⟩
  have hnw : Words names := fun a ha => ⟨by have := (nameW_asc (hN.2.2.1 a ha)).1; omega, (nameW_asc (hN.2.2.1 a ha)).2⟩
  refine .inr ?_
  walk_at "tx"
  refine ⟨.str f, at0, ?_⟩
  refine ⟨f, w, names, rfl, fl, fa, hf, hw, hN, fun pn hpn => ?_⟩
  walk_at "tx"
  intro po hpo
  have m1 : pn ≠ po := fun y => by rw [← y, Ow.set_same] at hpo; cases hpo
  have hpo0 : O po = none := by rw [Ow.set_ne m1.symm] at hpo; exact hpo
  have o1 : (O.set pn (.lst (strsD names))) pn = some (.lst (strsD names)) := Ow.set_same
  have leO : O.le (O.set pn (.lst (strsD names))) := Ow.le_set hpn
  generalize O.set pn (.lst (strsD names)) = O1 at *
  unfold drFor
  walk_at "tx"
  rw [strs_len]
  refine ⟨⟨by decide, by decide, by simp; omega, by simp; omega⟩, ?_⟩
  have jl : j < lines.length := by
    rcases Nat.lt_or_ge j lines.length with z | z
    · exact z
    · rw [List.getElem?_eq_none z] at hlj; cases hlj
  have leP : ∀ l, O.le (O1.set po l) := fun l a u ha => by
    have : a ≠ po := fun z => by rw [z, hpo0] at ha; cases ha
    rw [Ow.set_ne this]; exact leO a u ha
  refine rloop_go _ (fun i ρ O' => ∃ l : List D, i ≤ j ∧ l.length = i ∧ O' = O1.set po (.lst l) ∧ ρ = [none, some (.lst (strsD (f :: lines))), some (.ref pn), some (.ref po), none]) ?_ ?_ _ _ ⟨[], Nat.zero_le _, rfl, rfl, rfl⟩
  · rintro i hi ρ O' N ⟨l, hij, hll, rfl, rfl⟩ hN2
    rw [rangeD_len] at hi
    have hi2 : i < lines.length := by simp at hi; omega
    rw [show (rangeD 1 (((f :: lines).length : Int) - 1).toNat)[i]'(by rw [rangeD_len]; exact hi) = .int ((i + 1 : Nat) : Int) by simp [rangeD]; omega]
    refine ⟨_, rfl, ?_⟩
    obtain ⟨la, lb⟩ := wd lines[i] (List.mem_cons_of_mem _ (List.getElem_mem hi2))
    have ati : atI (strsD (f :: lines)) ((i + 1 : Nat) : Int) = some (.str lines[i]) := by
      unfold atI ixN
      rw [if_pos (by omega), if_pos (by rw [strs_len]; simp; omega)]
      show (strsD (f :: lines))[((i + 1 : Nat) : Int).toNat]? = _
      rw [Int.toNat_natCast]
      unfold strsD
      rw [List.getElem?_map, List.getElem?_cons_succ, List.getElem?_eq_getElem hi2]; rfl
    have on : (O1.set po (.lst l)) pn = some (.lst (strsD names)) := by rw [Ow.set_ne m1]; exact o1
    by_cases hijn : i = j
    · subst hijn
      refine .inl ?_
      unfold drMtA drCall
      walk_at "tx"
      refine ⟨.str lines[i], ati, ?_⟩
      have el : lines[i] = lj := by
        rw [List.getElem?_eq_getElem hi2] at hlj; exact Option.some.inj hlj
      rw [el] at la lb ⊢
      refine ⟨lj, pn, _, names, rfl, la, lb, on, by have := hN.2.1; omega, hnw, ?_, q.mono (leP _)⟩
      rcases hbj with z | z
      · exact .inl (by omega)
      · exact .inr z
    · have hlt : i < j := by omega
      obtain ⟨i12, o, ho⟩ := hj i lines[i] hlt (List.getElem?_eq_getElem hi2)
      refine .inr ?_
      walk_at "tx"
      refine ⟨.str lines[i], ati, ?_⟩
      refine ⟨lines[i], pn, _, names, o, rfl, la, lb, by omega, on, by have := hN.2.1; omega, hnw, ho, ?_⟩
      walk_at "tx"
      refine ⟨by omega, ?_⟩
      refine hN2 _ _ _ (Ow.le.refl _) trivial ⟨l ++ [offD o], by omega, by simp [hll], rfl, rfl⟩
  · rintro ρ O' ⟨l, hij, _⟩
    rw [rangeD_len] at hij
    simp at hij
    omega
def Bd (d V : Nat) (q : Rat) : Prop := 0 < d ∧ ∃ A : Int, q = Rat.divInt A (d : Int) ∧ A.natAbs ≤ V * d
def BdL (d V : Nat) (r : List Rat) : Prop := ∀ q ∈ r, Bd d V q
theorem Bd.pos {d V : Nat} {q : Rat} (h : Bd d V q) : 0 < d := h.1
theorem Bd.mono {d V W : Nat} {q : Rat} (h : Bd d V q) (l : V ≤ W) : Bd d W q := let ⟨h0, A, e, b⟩ := h; ⟨h0, A, e, Nat.le_trans b (Nat.mul_le_mul_right d l)⟩
theorem Bd.add {d V W : Nat} {a b : Rat} (ha : Bd d V a) (hb : Bd d W b) : Bd d (V + W) (a + b) := by
  obtain ⟨h0, A, rfl, la⟩ := ha
  obtain ⟨_, B, rfl, lb⟩ := hb
  refine ⟨h0, A + B, ?_, ?_⟩
  · rw [Rat.divInt_eq_div, Rat.divInt_eq_div, Rat.divInt_eq_div, Rat.intCast_add]; grind
  · rw [Nat.add_mul]; omega
theorem Bd.neg {d V : Nat} {a : Rat} (ha : Bd d V a) : Bd d V (-a) := by
  obtain ⟨h0, A, rfl, la⟩ := ha
  refine ⟨h0, -A, ?_, by omega⟩
  rw [Rat.divInt_eq_div, Rat.divInt_eq_div, Rat.intCast_neg]; grind
theorem Bd.sub {d V W : Nat} {a b : Rat} (ha : Bd d V a) (hb : Bd d W b) : Bd d (V + W) (a - b) := by
  rw [Rat.sub_eq_add_neg]; exact ha.add hb.neg
theorem Bd.mul {d e V W : Nat} {a b : Rat} (ha : Bd d V a) (hb : Bd e W b) : Bd (d * e) (V * W) (a * b) := by
  obtain ⟨h0, A, rfl, la⟩ := ha
  obtain ⟨h1, B, rfl, lb⟩ := hb
  refine ⟨Nat.mul_pos h0 h1, A * B, ?_, ?_⟩
  · rw [Rat.divInt_mul_divInt, Int.natCast_mul]
  · rw [Int.natAbs_mul, show V * W * (d * e) = (V * d) * (W * e) by rw [Nat.mul_assoc, Nat.mul_left_comm W d e, ← Nat.mul_assoc]]
    exact Nat.mul_le_mul la lb
theorem Bd.int {n : Int} {V : Nat} (h : n.natAbs ≤ V) : Bd 1 V (n : Rat) := ⟨by decide, n, by rw [Rat.divInt_eq_div]; simp; grind, by omega⟩
theorem Bd.sz {d V n : Nat} {q : Rat} (h : Bd d V q) (hb : V * d < 2 ^ n) (hd : d < 2 ^ n) : SzR n q := by
  obtain ⟨h0, A, rfl, la⟩ := h
  refine .divInt (show A.natAbs < _ by omega) (show (d : Int).natAbs < _ by rw [Int.natAbs_natCast]; exact hd) (by omega)
theorem BdL.sz {d V n : Nat} {r : List Rat} (h : BdL d V r) (hb : V * d < 2 ^ n) (hd : d < 2 ^ n) : SzL n r := fun q hq => (h q hq).sz hb hd
abbrev sp_l_ratio_ee4f := sp_ratio
theorem ln_l_ratio_ee4f : ∀ ds O Q, sp_l_ratio_ee4f ds O Q → ds.length = 2 := ln_ratio
def B_l_ratio_ee4f : DS' :=
  (dThen (dAsg (dBu dAbs (dCons (dVar 0) dNil)) (tgN 2))
  (dThen (dAsg (dBu dAbs (dCons (dVar 1) dNil)) (tgN 3))
  (dThen (dWhile (dTest (dOp dGt (dVar 2) (dC (.int 0))))
  (dThen (dAsg (dOp dMod (dVar 3) (dVar 2)) (tgN 4))
  (dThen (dAsg (dVar 2) (tgN 3))
  (dAsg (dVar 4) (tgN 2)))) [4])
  (dThen (dIfS (dTest (dOp dLt (dVar 1) (dC (.int 0)))) (dAsg (dUn dNeg (dVar 3)) (tgN 3)) dNext)
  (dRet (dTup (dCons (dOp dFdiv (dVar 0) (dVar 3)) (dCons (dOp dFdiv (dVar 1) (dVar 3)) dNil))))))))
theorem hb_l_ratio_ee4f : ∀ ds O Q, sp_l_ratio_ee4f ds O Q → B_l_ratio_ee4f (rtEnds Q) (startD 5 ds) O := by
  rintro ds O Q ⟨t, b, rfl, h, ht, hb, q⟩
  unfold B_l_ratio_ee4f
  walk_at "ds"
  refine ⟨fun m ρ O' => ∃ x y : Int, ρ = [some (.int t), some (.int b), some (.int y), some (.int x), none] ∧ 0 ≤ x ∧ 0 ≤ y ∧ m = y.toNat ∧ O' = O ∧ Int.gcd x y = Int.gcd t b, ⟨_, (b.natAbs : Int), (t.natAbs : Int), rfl, by omega, by omega, rfl, rfl, by rw [Int.gcd_comm]; simp [Int.gcd]⟩, ?_⟩
  rintro m ρ O' ⟨x, y, rfl, hx, hy, rfl, rfl, e⟩
  walk_at "ds"
  split
  · rename_i h
    have h := of_decide_eq_true h
    have e1 : x.fmod y = x % y := Int.fmod_eq_emod_of_nonneg x hy
    have h1 := Int.emod_nonneg x (show y ≠ 0 by omega)
    have h2 := Int.emod_lt_of_pos x h
    refine ⟨by omega, O', _, Ow.le.refl _, ?_, y, x % y, by rw [e1], hy, h1, rfl, rfl, ?_⟩
    · omega
    · rw [← e, Int.gcd_comm x y]
      exact gcd_step hx hy
  · rename_i h'
    have h0 : y = 0 := by
      have := of_decide_eq_false (Bool.eq_false_iff.mpr h')
      omega
    subst h0
    have ex : x = ((Int.gcd t b : Nat) : Int) := by
      rw [← e]; simp [Int.gcd]; omega
    rw [ex]
    exact ratio_fin (Q := (rtEnds Q).rt) h ht hb (rt_here q)
def sp_l_bag_db21 : DL := fun ds O Q => ∃ c : Int, ds = [.int c] ∧ Sz 1048576 c ∧ ∀ p a m, O p = none → okB 1 a m → Q (.ref p) (O.set p (bagD a m))
theorem ln_l_bag_db21 : ∀ ds O Q, sp_l_bag_db21 ds O Q → ds.length = 1 := by rintro ds O Q ⟨a, rfl, _⟩; rfl
theorem bag3_ap {c : Int} {O : Ow} {Q : DQ} (h : Sz 1048576 c) (q : ∀ p a m, O p = none → okB 1 a m → Q (.ref p) (O.set p (bagD a m))) : sp_l_bag_db21 [.int c] O Q := ⟨c, rfl, h, q⟩
def B_l_bag_db21 : DS' :=
  (dThen (dIfS (dTest (dOp dLt (dVar 0) (dOp dPow (dC (.int 10)) (dC (.int 18))))) (dRet (dLst mkO (dCons (dVar 0) (dCons (dC (.int 1)) dNil)))) dNext)
  (dRet (dLst mkO (dCons (dVar 0) (dCons (dC (.int 0)) dNil)))))
theorem hb_l_bag_db21 : ∀ ds O Q, sp_l_bag_db21 ds O Q → B_l_bag_db21 (rtEnds Q) (startD 1 ds) O := by
  rintro ds O Q ⟨c, rfl, hc, q⟩
  unfold B_l_bag_db21
  have e0 : ∀ p, O p = none → (rtEnds Q).rt (.ref p) (O.set p (.lst [.int c, .int 0])) := fun p hp => rt_here (q p _ 0 hp ⟨hc.mono (by decide), by decide, by decide⟩)
  have e1 : ∀ p, O p = none → (rtEnds Q).rt (.ref p) (O.set p (.lst [.int c, .int 1])) := fun p hp => rt_here (q p _ 1 hp ⟨hc.mono (by decide), by decide, by decide⟩)
  walk_at "ds"
  refine ⟨by decide, ?_⟩
  split
  · exact e1
  · exact e0
/-- numbers that are drawn: tops to a million, bottoms to 7 -/
def Sml (q : Rat) : Prop := Bd 420 1000000 q
def SmlL (r : List Rat) : Prop := BdL 420 1000000 r
theorem Sml.sz {q : Rat} (h : Sml q) : SzR 30 q := Bd.sz h (by decide) (by decide)
theorem SmlL.sz {r : List Rat} (h : SmlL r) : SzL 30 r := BdL.sz h (by decide) (by decide)
def priceW (key : Str) : Option Rat → List Str
  | none => []
  | some q => [key, showS q]
def eventW (names : List Str) : Option (List Nat) → List Str
  | none => []
  | some l => ifS :: l.map fun j => names.getD j Str.empty
def wordsOf (names : List Str) (o : Off) : List Str := (offerS :: o.row.map showS) ++ priceW askS o.ask ++ priceW bidS o.bid ++ eventW names o.ev
def lineS (names : List Str) (o : Off) : Str := Txt.join ⟨#[32]⟩ (wordsOf names o)
def headS (names : List Str) : Str := Str.ofString "worlds " ++ Txt.join ⟨#[32]⟩ names
/-- an offer of few and short words -/
structure OffW (c : Nat) (o : Off) : Prop where
  len : o.row.length = c
  row : ∀ q ∈ o.row, SzR 1900 q
  ask : ∀ q, o.ask = some q → SzR 1900 q
  bid : ∀ q, o.bid = some q → SzR 1900 q
  ev : ∀ l, o.ev = some l → l.length ≤ c ∧ ∀ j ∈ l, j < c
theorem showR_len {q : Rat} (h : SzR 1900 q) : (showS q).length ≤ 1403 := by
  have l1 := str_len h.1
  have l2 := str_len h.2
  rw [len_tl, tl_str] at l1 l2
  rw [len_tl, tl_show]
  unfold showR
  split
  · omega
  · rw [List.length_append, List.length_cons]; omega
theorem sum_len {l : List Str} {B : Nat} (h : ∀ w ∈ l, w.length ≤ B) : (l.map (·.length)).sum ≤ l.length * B := by
  induction l with
  | nil => simp
  | cons a l ih =>
    have h1 := h a (List.mem_cons_self ..)
    have h2 := ih fun w hw => h w (List.mem_cons_of_mem _ hw)
    rw [List.map_cons, List.sum_cons, List.length_cons, Nat.add_mul, Nat.one_mul]
    omega
theorem priceW_ok {key : Str} {x : Option Rat} (hk : key.length ≤ 8) (h : ∀ q, x = some q → SzR 1900 q) : (priceW key x).length ≤ 2 ∧ ∀ w ∈ priceW key x, w.length ≤ 1403 := by
  cases x with
  | none => exact ⟨by simp [priceW], fun w hw => nomatch hw⟩
  | some q => exact ⟨by simp [priceW], fun w hw => by
      unfold priceW at hw
      rcases List.mem_cons.mp hw with rfl | hw
      · omega
      · rw [List.mem_singleton.mp hw]; exact showR_len (h q rfl)⟩
theorem key_len : offerS.length ≤ 8 ∧ askS.length ≤ 8 ∧ bidS.length ≤ 8 ∧ ifS.length ≤ 8 ∧ worldsS.length ≤ 8 := by
  refine ⟨?_, ?_, ?_, ?_, ?_⟩ <;> rw [len_tl] <;> decide +kernel
theorem words_ok {c : Nat} {names : List Str} {o : Off} (hN : ∀ w ∈ names, w.length ≤ 8) (hc : names.length = c) (c12 : c ≤ 12) (h : OffW c o) : (wordsOf names o).length ≤ 30 ∧ ∀ w ∈ wordsOf names o, w.length ≤ 1403 := by
  obtain ⟨k1, k2, k3, k4, _⟩ := key_len
  obtain ⟨a1, a2⟩ := priceW_ok k2 h.ask
  obtain ⟨b1, b2⟩ := priceW_ok k3 h.bid
  have e : (eventW names o.ev).length ≤ 13 ∧ ∀ w ∈ eventW names o.ev, w.length ≤ 1403 := by
    cases hev : o.ev with
    | none => exact ⟨by simp [eventW], fun w hw => nomatch hw⟩
    | some l =>
      obtain ⟨l1, l2⟩ := h.ev l hev
      refine ⟨by simp [eventW]; omega, fun w hw => ?_⟩
      unfold eventW at hw
      rcases List.mem_cons.mp hw with rfl | hw
      · omega
      · obtain ⟨j, hj, rfl⟩ := List.mem_map.mp hw
        have := l2 j hj
        rw [List.getD_eq_getElem?_getD, List.getElem?_eq_getElem (by omega)]
        have := hN _ (List.getElem_mem (l := names) (n := j) (by omega))
        show (names[j]).length ≤ 1403
        omega
  have hl := h.len
  unfold wordsOf
  refine ⟨by simp; omega, fun w hw => ?_⟩
  rcases List.mem_append.mp hw with hw | hw
  · rcases List.mem_append.mp hw with hw | hw
    · rcases List.mem_append.mp hw with hw | hw
      · rcases List.mem_cons.mp hw with rfl | hw
        · omega
        · obtain ⟨q, hq, rfl⟩ := List.mem_map.mp hw
          exact showR_len (h.row q hq)
      · exact a2 w hw
    · exact b2 w hw
  · exact e.2 w hw
theorem joinL_le {c : List Nat} {l : List (List Nat)} {B : Nat} (h : ∀ x ∈ l, x.length ≤ B) : (joinL c l).length ≤ l.length * (B + c.length) := by
  cases l with
  | nil => simp [joinL]
  | cons x l =>
    rw [joinL_flat, List.length_append]
    have hx := h x (List.mem_cons_self ..)
    have : ∀ (l : List (List Nat)), (∀ x ∈ l, x.length ≤ B) → ((l.map fun p => c ++ p).flatten).length ≤ l.length * (B + c.length) := fun l => by
      induction l with
      | nil => intro _; simp
      | cons a l ih =>
        intro hl
        have h1 := hl a (List.mem_cons_self ..)
        have h2 := ih fun w hw => hl w (List.mem_cons_of_mem _ hw)
        rw [List.map_cons, List.flatten_cons, List.length_append, List.length_append, List.length_cons, Nat.add_mul, Nat.one_mul]
        omega
    have := this l fun w hw => h w (List.mem_cons_of_mem _ hw)
    rw [List.length_cons, Nat.add_mul, Nat.one_mul]
    omega
theorem join_len {sep : Str} {l : List Str} {B : Nat} (h : ∀ x ∈ l, x.length ≤ B) : (Txt.join sep l).length ≤ l.length * (B + sep.length) := by
  rw [len_tl, tl_join]
  have := joinL_le (c := tl sep) (l := l.map tl) (B := B) fun x hx => by
    obtain ⟨y, hy, rfl⟩ := List.mem_map.mp hx
    rw [← len_tl]; exact h y hy
  rw [List.length_map, ← len_tl] at this
  exact this
theorem head_len {names : List Str} (hN : ∀ w ∈ names, w.length ≤ 8) (hc : names.length ≤ 12) : (headS names).length ≤ 200 := by
  have h := join_len (sep := ⟨#[32]⟩) hN
  have e1 : (⟨#[32]⟩ : Str).length = 1 := rfl
  rw [e1] at h
  have e2 : (tl (Str.ofString "worlds ")).length = 7 := by decide +kernel
  unfold headS
  rw [len_tl, tl_app, List.length_append, e2, ← len_tl]
  omega
def R30 (q : Rat) : Prop := q.num.natAbs < 10 ^ 30 ∧ q.den < 10 ^ 30
theorem showI_sign {i : Int} : ∀ c ∈ showI i, c = 45 ∨ (48 ≤ c ∧ c ≤ 57) := fun c hc => by
  unfold showI at hc
  split at hc
  · rcases List.mem_cons.mp hc with rfl | h
    · exact .inl rfl
    · exact .inr (showN_all c h)
  · exact .inr (showN_all c hc)
theorem head_digit {n : Nat} : ∃ d l, showN n = d :: l ∧ 48 ≤ d ∧ d ≤ 57 := by
  cases e : showN n with
  | nil => exact absurd e showN_ne
  | cons d l =>
    have := showN_all (n := n) d (by rw [e]; simp)
    exact ⟨d, l, rfl, this⟩
theorem figs_show {z : Str} {i : Int} (h : tl z = showI i) : figs z = showN i.natAbs := by
  unfold figs
  rw [h]
  unfold showI
  split
  · rw [List.head?_cons, if_pos rfl]; rfl
  · obtain ⟨d, l, e, h1, h2⟩ := head_digit (n := i.natAbs)
    rw [e, List.head?_cons, if_neg (by simp; omega)]
theorem whole_show {z : Str} {i : Int} (h : tl z = showI i) (hb : i.natAbs < 10 ^ 30) : wholeW z = true := by
  have hf := figs_show h
  have hl := showN_len (k := 30) (by decide) hb
  obtain ⟨d, l, e, d1, d2⟩ := head_digit (n := i.natAbs)
  unfold wholeW
  rw [hf]
  simp only [Bool.and_eq_true, decide_eq_true_eq, Bool.not_eq_true', decide_eq_false_iff_not, Bool.or_eq_true]
  refine ⟨⟨⟨⟨by rw [e]; simp, hl⟩, ?_⟩, ?_⟩, ?_⟩
  · rw [h]
    unfold showI
    split
    · intro z0
      have z1 : showN i.natAbs = [48] := (List.cons.inj z0).2
      have v := showN_val (n := i.natAbs)
      rw [z1] at v
      have : (0 : Nat) = i.natAbs := v
      omega
    · rw [e]
      intro z0
      have := (List.cons.inj z0).1
      omega
  · rw [List.all_eq_true]
    intro c hc
    have := showN_all c hc
    unfold digitB
    simp [this]
  · rcases showN_head (n := i.natAbs) with h1 | h1
    · exact .inl h1
    · exact .inr h1
theorem int_show {z : Str} {i : Int} (h : tl z = showI i) (hb : i.natAbs < 10 ^ 30) : intW z = i := by
  have hl := showN_len (k := 30) (by decide) hb
  unfold intW
  unfold showI at h
  split at h
  · rw [intText_neg (x := z) (cs := showN i.natAbs) h showN_all showN_ne (by rw [len_tl, h]; simp; omega), showN_val]
    show -((i.natAbs : Nat) : Int) = i
    omega
  · have hz : z.cps.toList = showN i.natAbs := h
    rw [intText_digits (x := z) (by rw [hz]; exact showN_all) (by rw [hz]; exact showN_ne) (by rw [len_tl, h]; omega), hz, showN_val]
    show ((i.natAbs : Nat) : Int) = i
    omega
theorem rd_show {q : Rat} (h : R30 q) : rdRat (showS q) = some q := by
  obtain ⟨h1, h2⟩ := h
  unfold rdRat
  by_cases hd : q.den = 1
  · have e : tl (showS q) = showI q.num := by rw [tl_show]; unfold showR; rw [if_pos hd]
    have sp : Txt.split (showS q) ⟨#[47]⟩ = [showS q] := split_one (by
      rw [e]
      intro hc
      have := showI_sign 47 hc
      omega)
    rw [sp]
    rw [if_pos (by simp [whole_show e h1])]
    show some ((intW (showS q) : Int) : Rat) = some q
    rw [int_show e h1]
    congr 1
    have := Rat.num_divInt_den q
    rw [hd] at this
    rw [Rat.divInt_eq_div] at this
    have c1 : ((((1 : Nat) : Int)) : Rat) = 1 := rfl
    rw [c1] at this
    generalize ((q.num : Int) : Rat) = y at *
    grind
  · have e1 : tl (⟨(showI q.num).toArray⟩ : Str) = showI q.num := tl_mk
    have e2 : tl (⟨(showI (q.den : Int)).toArray⟩ : Str) = showI (q.den : Int) := tl_mk
    have sp : Txt.split (showS q) ⟨#[47]⟩ = [⟨(showI q.num).toArray⟩, ⟨(showI (q.den : Int)).toArray⟩] := by
      have := split_join (c := 47) (ys := [⟨(showI q.num).toArray⟩, ⟨(showI (q.den : Int)).toArray⟩]) (by simp) (fun y hy => by
        rcases List.mem_cons.mp hy with rfl | hy
        · rw [e1]; intro hc; have := showI_sign 47 hc; omega
        · rw [List.mem_singleton.mp hy, e2]; intro hc; have := showI_sign 47 hc; omega)
      have e : Txt.join ⟨#[47]⟩ [⟨(showI q.num).toArray⟩, ⟨(showI (q.den : Int)).toArray⟩] = showS q := tl_inj (by
        rw [tl_join, tl_show, List.map_cons, List.map_cons, List.map_nil, e1, e2]
        unfold showR
        rw [if_neg hd]
        simp [joinL, tl])
      rwa [e] at this
    have hden : ((q.den : Int)).natAbs < 10 ^ 30 := by rw [Int.natAbs_natCast]; exact h2
    rw [sp]
    rw [if_pos (by simp [whole_show e1 h1, whole_show e2 hden])]
    show (if intW _ < 2 then none else _) = some q
    rw [int_show e1 h1, int_show e2 hden]
    have := q.den_pos
    rw [if_neg (by omega), Rat.num_divInt_den, if_pos ⟨rfl, rfl⟩]
theorem R30.sz {q : Rat} (h : R30 q) : SzR 1900 q := by
  have e : (10 : Nat) ^ 30 ≤ 2 ^ 100 := by decide
  exact ⟨(show Sz 100 q.num from Nat.lt_of_lt_of_le h.1 e).mono (by decide), (show Sz 100 (q.den : Int) from Nat.lt_of_lt_of_le (by rw [Int.natAbs_natCast]; exact h.2) e).mono (by decide)⟩
/-- an offer that can be written -/
structure OffT (c : Nat) (o : Off) : Prop where
  len : o.row.length = c
  row : ∀ q ∈ o.row, R30 q
  ask : ∀ q, o.ask = some q → R30 q
  bid : ∀ q, o.bid = some q → R30 q
  ev : ∀ l, o.ev = some l → l ≠ [] ∧ l.Pairwise (· < ·) ∧ ∀ j ∈ l, j < c
theorem rise_len {c : Nat} : ∀ {l : List Nat} {b : Nat}, l.Pairwise (· < ·) → (∀ j ∈ l, b ≤ j ∧ j < c) → l.length ≤ c - b
  | [], _, _, _ => by simp
  | a :: l, b, h, hb => by
    obtain ⟨h1, h2⟩ := List.pairwise_cons.mp h
    have ha := hb a (List.mem_cons_self ..)
    have := rise_len (l := l) (b := a + 1) h2 fun j hj => ⟨h1 j hj, (hb j (List.mem_cons_of_mem _ hj)).2⟩
    rw [List.length_cons]
    omega
theorem OffT.W {c : Nat} {o : Off} (h : OffT c o) : OffW c o :=
  ⟨h.len, fun q hq => (h.row q hq).sz, fun q hq => (h.ask q hq).sz, fun q hq => (h.bid q hq).sz, fun l hl => ⟨by
    have := rise_len (b := 0) (h.ev l hl).2.1 fun j hj => ⟨Nat.zero_le _, (h.ev l hl).2.2 j hj⟩
    omega, (h.ev l hl).2.2⟩⟩
theorem takeN_show : ∀ {r : List Rat} {ws : List Str}, (∀ q ∈ r, R30 q) → takeN r.length (r.map showS ++ ws) = some (r, ws)
  | [], ws, _ => rfl
  | q :: r, ws, h => by
    show takeN (r.length + 1) (showS q :: (r.map showS ++ ws)) = _
    unfold takeN
    rw [rd_show (h q (List.mem_cons_self ..)), takeN_show fun x hx => h x (List.mem_cons_of_mem _ hx)]
theorem takeP_none {key : Str} : ∀ {ws : List Str}, (∀ w r, ws = w :: r → tl w ≠ tl key) → takeP key ws = some (none, ws)
  | [], _ => rfl
  | [w], h => by
    show (if tl w = tl key then none else some (none, [w])) = _
    rw [if_neg (h w [] rfl)]
  | w :: v :: r, h => by
    show (if tl w = tl key then (rdRat v).map fun q => (some q, r) else some (none, w :: v :: r)) = _
    rw [if_neg (h w _ rfl)]
theorem takeP_show {key : Str} {x : Option Rat} {ws : List Str} (hx : ∀ q, x = some q → R30 q) (h : ∀ w r, ws = w :: r → tl w ≠ tl key) : takeP key (priceW key x ++ ws) = some (x, ws) := by
  cases x with
  | none => exact takeP_none h
  | some q =>
    show (if tl key = tl key then (rdRat (showS q)).map fun q => (some q, ws) else _) = _
    rw [if_pos rfl, rd_show (hx q rfl)]; rfl
theorem idx_self {names : List Str} (hd : (names.map tl).Nodup) {j : Nat} (hj : j < names.length) : idxW names names[j] = some j := by
  unfold idxW
  rw [List.findIdx?_eq_some_iff_getElem]
  refine ⟨hj, by simp, fun m hm => ?_⟩
  simp only [Bool.not_eq_true, decide_eq_false_iff_not]
  intro e
  have h1 : (names.map tl)[m]'(by simp; omega) = (names.map tl)[j]'(by simpa using hj) := by simpa using e
  have := (List.getElem_inj hd).mp h1
  omega
theorem evW_show {names : List Str} (hd : (names.map tl).Nodup) : ∀ {l acc : List Nat}, (acc ++ l).Pairwise (· < ·) → (∀ j ∈ l, j < names.length) → evW names (l.map fun j => names.getD j Str.empty) acc = some (acc ++ l)
  | [], acc, _, _ => by simp [evW]
  | j :: l, acc, hp, hl => by
    have hj := hl j (List.mem_cons_self ..)
    show (match idxW names (names.getD j Str.empty) with | none => none | some j => if ∃ i, acc.getLast? = some i ∧ j ≤ i then none else evW names (l.map fun j => names.getD j Str.empty) (acc ++ [j])) = _
    have e : names.getD j Str.empty = names[j] := by rw [List.getD_eq_getElem?_getD, List.getElem?_eq_getElem hj]; rfl
    rw [e, idx_self hd hj]
    show (if ∃ i, acc.getLast? = some i ∧ j ≤ i then none else _) = _
    rw [if_neg]
    · rw [evW_show hd (l := l) (acc := acc ++ [j]) (by simpa using hp) fun x hx => hl x (List.mem_cons_of_mem _ hx)]
      simp
    · rintro ⟨i, hi, hle⟩
      have hm : i ∈ acc := List.mem_of_getLast? hi
      have := (List.pairwise_append.mp hp).2.2 i hm j (List.mem_cons_self ..)
      omega
theorem evP_show {names : List Str} {c : Nat} (hd : (names.map tl).Nodup) (hc : names.length = c) {e : Option (List Nat)} (h : ∀ l, e = some l → l ≠ [] ∧ l.Pairwise (· < ·) ∧ ∀ j ∈ l, j < c) : evP names (eventW names e) = some e := by
  cases e with
  | none => rfl
  | some l =>
    obtain ⟨h1, h2, h3⟩ := h l rfl
    show (if tl ifS = tl ifS ∧ (l.map fun j => names.getD j Str.empty) ≠ [] then (evW names (l.map fun j => names.getD j Str.empty) []).map some else none) = _
    rw [if_pos ⟨rfl, by simpa using h1⟩, evW_show hd (acc := []) (by simpa using h2) (by rw [hc]; exact h3)]
    rfl
theorem row_show {names : List Str} {c : Nat} {o : Off} (hd : (names.map tl).Nodup) (hc : names.length = c) (h : OffT c o) : rowP names (wordsOf names o) = some o := by
  have k1 : tl bidS ≠ tl askS := by decide +kernel
  have k2 : tl ifS ≠ tl askS := by decide +kernel
  have k3 : tl ifS ≠ tl bidS := by decide +kernel
  have hev : ∀ w r, eventW names o.ev = w :: r → w = ifS := fun w r e => by
    cases hx : o.ev with
    | none => rw [hx] at e; cases e
    | some l => rw [hx] at e; exact (List.cons.inj e).1.symm
  have e0 : wordsOf names o = offerS :: (o.row.map showS ++ (priceW askS o.ask ++ (priceW bidS o.bid ++ eventW names o.ev))) := by
    unfold wordsOf; simp
  rw [e0]
  unfold rowP
  have t1 := takeN_show (r := o.row) (ws := priceW askS o.ask ++ (priceW bidS o.bid ++ eventW names o.ev)) h.row
  rw [h.len, ← hc] at t1
  have t2 := takeP_show (key := askS) (x := o.ask) (ws := priceW bidS o.bid ++ eventW names o.ev) h.ask fun w r e => by
    cases hx : o.bid with
    | none =>
      rw [hx] at e
      rw [hev w r e]; exact k2
    | some q =>
      rw [hx] at e
      rw [← (List.cons.inj e).1]; exact k1
  have t3 := takeP_show (key := bidS) (x := o.bid) (ws := eventW names o.ev) h.bid fun w r e => by rw [hev w r e]; exact k3
  simp only [if_pos, t1, t2, t3, evP_show hd hc h.ev]
  rfl
section
variable {X : Cx} {K : PySem.W.Frag}
def vwD (O : Ow) (d : D) : D := match vw O d with
  | .lst l => .lst (l.map (vw O))
  | .tup l => .tup (l.map (vw O))
  | e => e
theorem dp_vwn {n : Nat} {w : Wd} {d : D} {v : V} (hw : Own K w) (r : Rep K w.G d v) (h : okE n (vw w.O d) = true) : Dp K w.H v (toP (vw w.O d)) := by
  cases d with
  | ref p =>
    unfold vw at h ⊢
    simp only at h ⊢
    split at h
    · rename_i l hl
      obtain ⟨_, x, hx, vs, e2, rs⟩ := hw.own p _ hl
      subst e2
      rw [r.ref_of]
      cases n with
      | zero => simp [okE] at h
      | succ n =>
        simp only [okE] at h
        simp only [toP]
        exact .lst (SqL.of hx) (dps_of hw.sub n l vs h rs)
    · cases n <;> simp [okE] at h
  | _ => exact dp_of hw.sub n _ v h r
theorem dps_vwn {n : Nat} {w : Wd} (hw : Own K w) : ∀ {l : List D} {vs : List V}, Reps K w.G l vs → okEs n (l.map (vw w.O)) = true → DpAll K w.H vs (toPs (l.map (vw w.O)))
  | [], vs, r, _ => by simp only [Reps] at r; subst r; simp only [List.map_nil, toPs]; exact .nil
  | x :: l, vs, r, h => by
    simp only [List.map_cons, okEs, Bool.and_eq_true] at h
    simp only [Reps] at r
    obtain ⟨v, us, e, r1, r2⟩ := r
    subst e
    simp only [List.map_cons, toPs]
    exact .cons (dp_vwn hw r1 h.1) (dps_vwn hw r2 h.2)
theorem dp_vwD {w : Wd} {d : D} {v : V} (hw : Own K w) (r : Rep K w.G d v) (h : okE 60 (vwD w.O d) = true) : Dp K w.H v (toP (vwD w.O d)) := by
  have key : ∀ l, lv w.O d = some l → okEs 59 (l.map (vw w.O)) = true → Dp K w.H v (.list (toPs (l.map (vw w.O)))) := fun l hl ho => by
    obtain ⟨a, vs, e1, q, rs⟩ := lv_rep hw r hl
    rw [e1]
    exact .lst q (dps_vwn hw rs ho)
  unfold vwD at h ⊢
  cases e : vw w.O d with
  | lst l =>
    rw [e] at h
    simp only [okE] at h
    simp only [toP]
    refine key l ?_ h
    cases d with
    | lst m => simp only [vw] at e; cases e; rfl
    | ref p =>
      unfold vw at e
      simp only at e
      split at e
      · rename_i m hm
        cases e
        simp only [lv, hm]
      · cases e
    | _ => simp [vw] at e
  | tup l =>
    rw [e] at h
    simp only [okE] at h
    simp only [toP]
    have hd : d = .tup l := by
      cases d with
      | ref p =>
        unfold vw at e
        simp only at e
        split at e
        · cases e
        · cases e
      | _ => simpa [vw] using e
    subst hd
    obtain ⟨a, vs, e1, q, rs⟩ := r.tup_of
    subst e1
    exact .tup (Same.seqT hw.sub q) (dps_vwn hw rs h)
  | _ =>
    rw [e] at h
    have h2 : okE 60 (vw w.O d) = true := by rw [e]; exact h
    have h3 := dp_vwn hw r h2
    rw [e] at h3
    exact h3
def dEqD : D2 := fun x y O Q => okE 60 (vwD O x) = true ∧ okE 60 (vwD O y) = true ∧ Q (.bl (eqv (vwD O x) (vwD O y))) O
theorem o_eqDp : Op2 K (rEqD K) dEqD := by
  intro w x y vx vy Q' Q hw rx ry lk ⟨h1, h2, h⟩
  refine ⟨_, _, dp_vwD hw rx h1, dp_vwD hw ry h2, okE_shaped h1, okE_shaped h2, ?_⟩
  rw [eqv_P 60 _ _ h1 h2]
  exact lk _ _ w hw (Fr.refl w) (.bl _) h
end
theorem dEqD_same {O : Ow} {x y d : D} {Q : DQ} (hx : vwD O x = d) (hy : vwD O y = d) (h : okE 60 d = true) (q : Q (.bl true) O) : dEqD x y O Q := by
  unfold dEqD
  rw [hx, hy, eqv_refl 60 d h]
  exact ⟨h, h, q⟩
def alphaS : Str := Str.ofString "abcdefghijklmnopqrstuvwxyz"
theorem alpha_tl : alphaS.cps.toList = List.range' 97 26 := by decide +kernel
theorem alpha_at {t : Int} (t0 : 0 ≤ t) (t1 : t < 26) : atI alphaS.cps.toList t = some (97 + t.toNat) := by
  rw [alpha_tl]
  unfold atI ixN
  rw [if_pos t0, if_pos (by rw [List.length_range']; omega)]
  show (List.range' 97 26)[t.toNat]? = _
  rw [List.getElem?_range' (by omega)]
  simp
theorem alpha_len : alphaS.length ≤ sizeLine := by
  have : alphaS.length = 26 := by rw [len_tl]; show alphaS.cps.toList.length = 26; rw [alpha_tl]; rfl
  have := line100000
  omega
theorem joinL_nil : ∀ {l : List (List Nat)}, joinL [] l = l.flatten
  | [] => rfl
  | x :: l => by
    rw [joinL_flat]
    simp
def sp_l_letters : DL := fun ds O Q => ∃ (p : Addr) (a m : Int) (n k : Nat), ds = [.ref p, .int (k : Int)] ∧ O p = some (bagD a m) ∧ okB n a m ∧ n < 900000000 ∧ 1 ≤ k ∧ k ≤ 8 ∧ ∀ z a' m', (tl z).all letterB = true → (tl z).length < k → okB (n + 20) a' m' → Q (.str z) (O.set p (bagD a' m'))
theorem ln_l_letters : ∀ ds O Q, sp_l_letters ds O Q → ds.length = 2 := by rintro ds O Q ⟨a, b, c, d, e, rfl, _⟩; rfl
def B_l_letters : DS' :=
  (dThen (dAsg (dC (.str (Str.ofString "abcdefghijklmnopqrstuvwxyz"))) (tgN 2))
  (dRet (dMt "str" (dC (.str (Str.ofString ""))) (dCons (dLc mkF (dRng1 (dCons (dCall sp_l_take (dCons (dVar 0) (dCons (dVar 1) dNil))) dNil)) (tgN 3) dYes (dOp dIx (dVar 2) (dCall sp_l_take (dCons (dVar 0) (dCons (dC (.int 26)) dNil)))) [3]) dNil) dJoin)))
theorem hb_l_letters : ∀ ds O Q, sp_l_letters ds O Q → B_l_letters (rtEnds Q) (startD 4 ds) O := by
  rintro ds O Q ⟨p, a, m, n, k, rfl, h, hb, hn, k1, k8, q⟩
  have e0 : (Str.ofString "").length = 0 := by rw [len_tl]; decide +kernel
  have et : tl (Str.ofString "") = [] := by decide +kernel
  unfold B_l_letters
  walk_at "tx"
  refine take_ap h hb (by omega) (by omega) (Sz.lt (b := 64) (by omega) (by omega) (by decide)) fun t a1 m1 t0 t1 hb1 => ?_
  walk_at "tx"
  refine ⟨by omega, by omega, by rw [rangeD_len]; omega, ?_⟩
  refine lc_idx (fun i acc O' => ∃ (ys : List Str) (a' m' : Int), acc = strsD ys ∧ ys.length = i ∧ (∀ y ∈ ys, ∃ c, tl y = [c] ∧ letterB c = true) ∧ okB (n + 1 + i) a' m' ∧ O' = O.set p (bagD a' m')) ?_ ?_ ⟨[], a1, m1, rfl, rfl, (fun y hy => nomatch hy), hb1, rfl⟩
  · rintro i hi acc O' R ⟨ys, a', m', rfl, hl, hy, hb', rfl⟩ hR
    rw [rangeD_len] at hi
    rw [rangeD_at]
    refine ⟨_, rfl, ?_⟩
    walk_at "tx"
    refine take_ap Ow.set_same hb' (by omega) (by omega) (by decide) fun u a2 m2 u0 u1 hb2 => ?_
    rw [Ow.set_set]
    refine ⟨alpha_len, _, alpha_at u0 u1, ?_⟩
    refine hR _ _ ⟨ys ++ [⟨#[97 + u.toNat]⟩], a2, m2, by unfold strsD; simp, by simp [hl], fun y hy' => ?_, hb2.mono (by omega), rfl⟩
    rcases List.mem_append.mp hy' with z | z
    · exact hy y z
    · rw [List.mem_singleton.mp z]
      refine ⟨97 + u.toNat, rfl, ?_⟩
      unfold letterB
      simp; omega
  · rintro acc O' ⟨ys, a', m', rfl, hl, hy, hb', rfl⟩
    rw [rangeD_len] at hl hb'
    walk_at "tx"
    have y1 : ∀ y ∈ ys, y.length ≤ 1 := fun y hy' => by
      obtain ⟨c, h1, _⟩ := hy y hy'
      rw [len_tl, h1]; simp
    refine ⟨ys, rfl, by have := sum_len y1; rw [e0]; omega, ?_⟩
    refine rt_here (q _ a' m' ?_ ?_ (hb'.mono (by omega)))
    · rw [tl_join, et, joinL_nil, List.all_flatten, List.all_map, List.all_eq_true]
      intro y hy'
      obtain ⟨c, h1, h2⟩ := hy y hy'
      simp [h1, h2]
    · have := join_len (sep := Str.ofString "") y1
      rw [← len_tl]
      rw [e0] at this
      omega
def lawWords : List Str := [Str.ofString "offer", Str.ofString "ask", Str.ofString "bid", Str.ofString "if", Str.ofString "worlds", Str.ofString "for", Str.ofString "book", Str.ofString "judge", Str.ofString "price", Str.ofString "join", Str.ofString "thin", Str.ofString "learn"]
theorem lawWords_ok : (∀ w ∈ lawWords, nameW w = true) ∧ (lawWords.map tl).Nodup := by
  constructor
  · decide +kernel
  · decide +kernel
def sp_l_names : DL := fun ds O Q => ∃ (p : Addr) (a m : Int) (n c : Nat), ds = [.ref p, .int (c : Int)] ∧ O p = some (bagD a m) ∧ okB n a m ∧ n < 900000 ∧ 2 ≤ c ∧ c ≤ 12 ∧ ∀ names pn a' m', NamesOk names → names.length = c → okB (n + 100) a' m' → (O.set p (bagD a' m')) pn = none → Q (.ref pn) ((O.set p (bagD a' m')).set pn (.lst (strsD names)))
theorem ln_l_names : ∀ ds O Q, sp_l_names ds O Q → ds.length = 2 := by rintro ds O Q ⟨a, b, c, d, e, rfl, _⟩; rfl
def B_l_names_b1 : DS' :=
  (dIfS (dTest (dOp dEq (dVar 3) (dC (.int 0)))) (dDrop (dMt "list" (dVar 7) (dCons (dOp dIx (dVar 2) (dOp dMod (dOp (dAdd mkF) (dVar 6) (dOp dMul (dC (.int 5)) (dVar 8))) (dC (.int 12)))) dNil) dAppend)) (dThen (dAsg (dOp dIx (dC (.str (Str.ofString "abcdefghijklmnopqrstuvwxyz"))) (dOp dMod (dOp (dAdd mkF) (dVar 6) (dVar 8)) (dC (.int 26)))) (tgN 9))
  (dDrop (dMt "list" (dVar 7) (dCons (dOp (dAdd mkF) (dOp (dAdd mkF) (dSliceS (dVar 4) dNoP (dPart (dVar 5))) (dVar 9)) (dSliceS (dVar 4) (dPart (dVar 5)) dNoP)) dNil) dAppend))))
def B_l_names : DS' :=
  (dThen (dAsg (dLst mkF (dCons (dC (.str (Str.ofString "offer"))) (dCons (dC (.str (Str.ofString "ask"))) (dCons (dC (.str (Str.ofString "bid"))) (dCons (dC (.str (Str.ofString "if"))) (dCons (dC (.str (Str.ofString "worlds"))) (dCons (dC (.str (Str.ofString "for"))) (dCons (dC (.str (Str.ofString "book"))) (dCons (dC (.str (Str.ofString "judge"))) (dCons (dC (.str (Str.ofString "price"))) (dCons (dC (.str (Str.ofString "join"))) (dCons (dC (.str (Str.ofString "thin"))) (dCons (dC (.str (Str.ofString "learn"))) dNil))))))))))))) (tgN 2))
  (dThen (dAsg (dCall sp_l_take (dCons (dVar 0) (dCons (dC (.int 3)) dNil))) (tgN 3))
  (dThen (dAsg (dCall sp_l_letters (dCons (dVar 0) (dCons (dC (.int 8)) dNil))) (tgN 4))
  (dThen (dAsg (dCall sp_l_take (dCons (dVar 0) (dCons (dC (.int 8)) dNil))) (tgN 5))
  (dThen (dAsg (dCall sp_l_take (dCons (dVar 0) (dCons (dC (.int 12)) dNil))) (tgN 6))
  (dThen (dAsg (dLst mkO dNil) (tgN 7))
  (dThen (dFor (dRng1 (dCons (dVar 1) dNil)) (tgN 8)
  B_l_names_b1 [0, 1, 8, 9])
  (dRet (dVar 7)))))))))
theorem tl_to {z : Str} {k : Nat} : tl (cutS z none (some (k : Int))) = (tl z).take k := by
  unfold cutS
  rw [tl_mk, HT.sIx_nat, HT.sIx_none, len_tl, List.drop_zero, Nat.sub_zero]
  show (tl z).take _ = _
  rw [Nat.min_def]
  split
  · rfl
  · rw [List.take_of_length_le (Nat.le_refl _), List.take_of_length_le (by omega)]
theorem tl_from {z : Str} {k : Nat} : tl (cutS z (some (k : Int)) none) = (tl z).drop k := by
  unfold cutS
  rw [tl_mk, HT.sIx_nat, HT.sIx_none, len_tl]
  show ((tl z).drop _).take _ = _
  by_cases h : k ≤ (tl z).length
  · rw [Nat.min_eq_left h, List.take_of_length_le (by rw [List.length_drop]; omega)]
  · rw [Nat.min_eq_right (by omega), Nat.sub_self, List.take_zero, List.drop_of_length_le (by omega)]
/-- names that a rule makes, each another -/
theorem nodup_map {f : Nat → List Nat} {c : Nat} (h : ∀ i j, i < c → j < c → f i = f j → i = j) : ((List.range c).map f).Nodup := by
  unfold List.Nodup
  rw [List.pairwise_map]
  refine List.Pairwise.imp_of_mem (R := (· ≠ ·)) (fun {x y} hx hy z e => z (h x y (List.mem_range.mp hx) (List.mem_range.mp hy) e)) List.nodup_range
/-- the name that is made in a turn -/
def nameF (w f : Nat) (base : List Nat) (at' i : Nat) : Str := if w = 0 then lawWords.getD ((f + 5 * i) % 12) Str.empty else ⟨((base.take at' ++ [97 + (f + i) % 26]) ++ base.drop at').toArray⟩
theorem nameF_ok {w f at' : Nat} {base : List Nat} {c : Nat} (hf : f < 12) (c2 : 2 ≤ c) (c12 : c ≤ 12) (hb : base.all letterB = true) (hl : base.length < 8) : NamesOk ((List.range c).map (nameF w f base at')) := by
  refine ⟨by simp [c2], by simp [c12], fun x hx => ?_, ?_⟩
  · obtain ⟨i, hi, rfl⟩ := List.mem_map.mp hx
    unfold nameF
    by_cases hw : w = 0
    · rw [if_pos hw]
      refine lawWords_ok.1 _ ?_
      have : (f + 5 * i) % 12 < lawWords.length := Nat.mod_lt _ (by decide)
      rw [List.getD_eq_getElem?_getD, List.getElem?_eq_getElem this]
      exact List.getElem_mem _
    · rw [if_neg hw]
      unfold nameW
      rw [tl_mk]
      have e : (List.take at' base ++ [97 + (f + i) % 26] ++ List.drop at' base).length = base.length + 1 := by
        have h1 := congrArg List.length (List.take_append_drop at' base)
        rw [List.length_append] at h1
        simp only [List.length_append, List.length_cons, List.length_nil]
        omega
      rw [e]
      rw [List.all_eq_true] at hb
      simp only [Bool.and_eq_true, decide_eq_true_eq, List.all_eq_true]
      refine ⟨⟨by omega, by omega⟩, fun y hy => ?_⟩
      rcases List.mem_append.mp hy with hy | hy
      · rcases List.mem_append.mp hy with hy | hy
        · exact hb y (List.mem_of_mem_take hy)
        · rw [List.mem_singleton.mp hy]
          unfold letterB
          simp; omega
      · exact hb y (List.mem_of_mem_drop hy)
  · rw [List.map_map]
    refine nodup_map fun i j hi hj e => ?_
    unfold Function.comp nameF at e
    by_cases hw : w = 0
    · rw [if_pos hw, if_pos hw] at e
      have h1 : (f + 5 * i) % 12 < lawWords.length := Nat.mod_lt _ (by decide)
      have h2 : (f + 5 * j) % 12 < lawWords.length := Nat.mod_lt _ (by decide)
      rw [List.getD_eq_getElem?_getD, List.getElem?_eq_getElem h1, List.getD_eq_getElem?_getD, List.getElem?_eq_getElem h2] at e
      have e2 : (lawWords.map tl)[(f + 5 * i) % 12]'(by simpa using h1) = (lawWords.map tl)[(f + 5 * j) % 12]'(by simpa using h2) := by simpa using e
      have := (List.getElem_inj lawWords_ok.2).mp e2
      omega
    · rw [if_neg hw, if_neg hw, tl_mk, tl_mk, List.append_assoc, List.append_assoc] at e
      have e2 := List.append_cancel_left e
      have e3 := (List.cons.inj e2).1
      omega
theorem ix_words {i : Nat} {v : Int} (h : v = ((i % 12 : Nat) : Int)) : atI (strsD lawWords) v = some (.str (lawWords.getD (i % 12) Str.empty)) := by
  have h1 : i % 12 < lawWords.length := Nat.mod_lt _ (by decide)
  subst h
  rw [show atI (strsD lawWords) ((i % 12 : Nat) : Int) = _ from atI_map h1, List.getD_eq_getElem?_getD, List.getElem?_eq_getElem h1]
  rfl
theorem hb_l_names : ∀ ds O Q, sp_l_names ds O Q → B_l_names (rtEnds Q) (startD 10 ds) O := by
  rintro ds O Q ⟨p, a, m, n, c, rfl, h, hb, hn, c2, c12, q⟩
  unfold B_l_names
  walk_at "tx"
  refine take_ap h hb (by omega) (by omega) (Sz.lt (b := 64) (by omega) (by omega) (by decide)) fun w a1 m1 w0 w1 hb1 => ?_
  walk_at "tx"
  refine ⟨p, a1, m1, n + 1, 8, rfl, Ow.set_same, hb1, by omega, by omega, by omega, fun z a2 m2 hz hzl hb2 => ?_⟩
  rw [Ow.set_set]
  walk_at "tx"
  refine take_ap Ow.set_same hb2 (by omega) (by omega) (Sz.lt (b := 64) (by omega) (by omega) (by decide)) fun t a3 m3 t0 t1 hb3 => ?_
  rw [Ow.set_set]
  walk_at "tx"
  refine take_ap Ow.set_same hb3 (by omega) (by omega) (Sz.lt (b := 64) (by omega) (by omega) (by decide)) fun f a4 m4 f0 f1 hb4 => ?_
  rw [Ow.set_set]
  walk_at "tx"
  intro pn hpn
  obtain ⟨w', rfl⟩ := Int.eq_ofNat_of_zero_le w0
  obtain ⟨t', rfl⟩ := Int.eq_ofNat_of_zero_le t0
  obtain ⟨f', rfl⟩ := Int.eq_ofNat_of_zero_le f0
  refine ⟨by omega, by omega, ?_⟩
  refine for_idx (fun k ρ O' => k ≤ c ∧ O' = (O.set p (bagD a4 m4)).set pn (.lst (strsD ((List.range k).map (nameF w' f' (tl z) t')))) ∧ ρ = [none, none, some (.lst (strsD lawWords)), some (.int w'), some (.str z), some (.int t'), some (.int f'), some (.ref pn), none, none]) ?_ ?_ ⟨Nat.zero_le _, rfl, rfl⟩
  · rintro k hk ρ O' E' ⟨_, rfl, rfl⟩ hnx hct hrt hbk
    rw [rangeD_len] at hk
    rw [rangeD_at]
    refine ⟨_, rfl, ?_⟩
    unfold B_l_names_b1
    walk_at "tx"
    have hk : k < c := by omega
    have e0 : ∀ v : Str, v = nameF w' f' (tl z) t' k → strsD ((List.range k).map (nameF w' f' (tl z) t')) ++ [.str v] = strsD ((List.range (k + 1)).map (nameF w' f' (tl z) t')) := fun v e => by
      rw [List.range_succ, List.map_append, e]
      unfold strsD
      simp
    have l0 : (strsD ((List.range k).map (nameF w' f' (tl z) t'))).length < 100000 := by rw [strs_len]; simp; omega
    have zl : z.length < 8 := by rw [len_tl]; exact hzl
    have ln := line100000
    by_cases hw : w' = 0
    · rw [if_pos (by simp [hw])]
      refine ⟨Mok.of (n := 64) (m := 64) (by decide) (Sz.lt (b := 64) (by omega) (by omega) (by decide)) (by decide), by decide, _, ix_words (i := f' + 5 * k) (by rw [Int.fmod_eq_emod_of_nonneg _ (by decide)]; omega), l0, ?_⟩
      refine hnx _ _ _ (Ow.le.refl _) trivial ⟨by omega, ?_, rfl⟩
      rw [e0 _ (by unfold nameF; rw [if_pos hw])]
    · rw [if_neg (by simp; omega)]
      have ef : (f' + k : Int).fmod 26 = (((f' + k) % 26 : Nat) : Int) := by rw [Int.fmod_eq_emod_of_nonneg _ (by decide)]; omega
      have hu0 : (0 : Int) ≤ (((f' + k) % 26 : Nat) : Int) := by omega
      have hu1 : (((f' + k) % 26 : Nat) : Int) < 26 := by omega
      have lt : (cutS z none (some (t' : Int))).length ≤ 8 := by rw [len_tl, tl_to, List.length_take]; omega
      have lf : (cutS z (some (t' : Int)) none).length ≤ 8 := by rw [len_tl, tl_from, List.length_drop]; omega
      have l1 : ∀ x : Nat, (⟨#[x]⟩ : Str).length = 1 := fun _ => rfl
      rw [ef]
      refine ⟨by decide, alpha_len, _, alpha_at hu0 hu1, by omega, by rw [l1]; omega, by omega, ?_, l0, ?_⟩
      · rw [len_tl, tl_app, List.length_append, ← len_tl, ← len_tl, l1]; omega
      · refine hnx _ _ _ (Ow.le.refl _) trivial ⟨by omega, ?_, rfl⟩
        rw [e0]
        unfold nameF
        rw [if_neg hw]
        refine tl_inj ?_
        rw [tl_mk]
        rw [show (cutS z none (some (t' : Int)) ++ (⟨#[97 + (((f' + k) % 26 : Nat) : Int).toNat]⟩ : Str) ++ cutS z (some (t' : Int)) none).1.toList = tl (cutS z none (some (t' : Int)) ++ (⟨#[97 + (((f' + k) % 26 : Nat) : Int).toNat]⟩ : Str) ++ cutS z (some (t' : Int)) none) from rfl]
        rw [tl_app, tl_app, tl_to, tl_from, Int.toNat_natCast]
        rfl
  · rintro ρ O' ⟨_, rfl, rfl⟩
    rw [rangeD_len]
    walk_at "tx"
    rw [Int.toNat_natCast]
    refine rt_here (q _ pn a4 m4 (nameF_ok (by omega) c2 c12 hz hzl) (by simp) (hb4.mono (by omega)) hpn)
theorem divInt_le {t b : Int} (h0 : b ≠ 0) : (Rat.divInt t b).num.natAbs ≤ t.natAbs ∧ (Rat.divInt t b).den ≤ b.natAbs := by
  constructor
  · rw [Rat.num_divInt]
    have h1 : ((b.sign * t) / (b.gcd t : Int)).natAbs ≤ (b.sign * t).natAbs := Int.natAbs_ediv_le_natAbs _ _
    have h2 : (b.sign * t).natAbs ≤ t.natAbs := by
      rw [Int.natAbs_mul]
      rcases Int.lt_or_gt_of_ne h0 with h | h
      · rw [Int.sign_eq_neg_one_of_neg h]; simp
      · rw [Int.sign_eq_one_of_pos h]; simp
    exact Nat.le_trans h1 h2
  · rw [Rat.den_divInt, if_neg h0]
    exact Nat.div_le_self _ _
theorem R30.divInt {t b : Int} (ht : t.natAbs < 10 ^ 30) (hb : b.natAbs < 10 ^ 30) (h0 : b ≠ 0) : R30 (Rat.divInt t b) :=
  ⟨Nat.lt_of_le_of_lt (divInt_le h0).1 ht, Nat.lt_of_le_of_lt (divInt_le h0).2 hb⟩
def sp_l_part : DL := fun ds O Q => ∃ (p : Addr) (a m : Int) (n : Nat), ds = [.ref p] ∧ O p = some (bagD a m) ∧ okB n a m ∧ n < 900000000 ∧ ∀ q a' m', R30 q → okB (n + 3) a' m' → Q (rat q) (O.set p (bagD a' m'))
theorem ln_l_part : ∀ ds O Q, sp_l_part ds O Q → ds.length = 1 := by rintro ds O Q ⟨a, b, c, d, rfl, _⟩; rfl
theorem part_ap {p : Addr} {a m : Int} {n : Nat} {O : Ow} {Q : DQ} (h : O p = some (bagD a m)) (hb : okB n a m) (hn : n < 900000000) (q : ∀ q a' m', R30 q → okB (n + 3) a' m' → Q (rat q) (O.set p (bagD a' m'))) : sp_l_part [.ref p] O Q := ⟨p, a, m, n, rfl, h, hb, hn, q⟩
def B_l_part : DS' :=
  (dThen (dAsg (dCall sp_l_take (dCons (dVar 0) (dCons (dC (.int 4)) dNil))) (tgN 1))
  (dThen (dIfS (dTest (dOp dEq (dVar 1) (dC (.int 0)))) (dThen (dAsg (dOp dSub (dCall sp_l_take (dCons (dVar 0) (dCons (dOp dSub (dOp dMul (dC (.int 2)) (dOp dPow (dC (.int 10)) (dC (.int 30)))) (dC (.int 1))) dNil))) (dOp dSub (dOp dPow (dC (.int 10)) (dC (.int 30))) (dC (.int 1)))) (tgN 2))
  (dRet (dCall sp_l_ratio_ee4f (dCons (dVar 2) (dCons (dOp (dAdd mkF) (dC (.int 1)) (dCall sp_l_take (dCons (dVar 0) (dCons (dOp dSub (dOp dPow (dC (.int 10)) (dC (.int 30))) (dC (.int 1))) dNil)))) dNil))))) dNext)
  (dRet (dCall sp_l_ratio_ee4f (dCons (dOp dSub (dCall sp_l_take (dCons (dVar 0) (dCons (dC (.int 21)) dNil))) (dC (.int 10))) (dCons (dOp (dAdd mkF) (dC (.int 1)) (dCall sp_l_take (dCons (dVar 0) (dCons (dC (.int 6)) dNil)))) dNil))))))
theorem hb_l_part : ∀ ds O Q, sp_l_part ds O Q → B_l_part (rtEnds Q) (startD 3 ds) O := by
  rintro ds O Q ⟨p, a, m, n, rfl, h, hb, hn, q⟩
  unfold B_l_part
  walk_at "ds"
  refine take_ap h hb (by omega) (by omega) (Sz.lt (b := 64) (by omega) (by omega) (by decide)) fun w a1 m1 w0 w1 hb1 => ?_
  walk_at "ds"
  by_cases hw : w = 0
  · rw [if_pos (by simp [hw])]
    refine ⟨by decide, Mok.of (n := 64) (m := 128) (by decide) (by decide) (by decide), ?_⟩
    refine take_ap Ow.set_same hb1 (by omega) (by decide) ((show Sz 128 (2 * 10 ^ Int.toNat 30 - 1) by decide).mono (by decide)) fun t a2 m2 t0 t1 hb2 => ?_
    rw [Ow.set_set]
    refine ⟨by decide, ?_⟩
    refine ⟨by decide, ?_⟩
    refine take_ap Ow.set_same hb2 (by omega) (by decide) ((show Sz 128 (10 ^ Int.toNat 30 - 1) by decide).mono (by decide)) fun u a3 m3 u0 u1 hb3 => ?_
    rw [Ow.set_set]
    have e1 : (10 : Int) ^ Int.toNat 30 = 1000000000000000000000000000000 := by decide
    have e2 : (10 : Nat) ^ 30 = 1000000000000000000000000000000 := by decide
    rw [e1] at t1 u1
    have h1 : (t - (10 ^ Int.toNat 30 - 1)).natAbs < 10 ^ 30 := by rw [e1, e2]; omega
    have h2 : (1 + u).natAbs < 10 ^ 30 := by rw [e2]; omega
    have le : (10 : Nat) ^ 30 ≤ 2 ^ 100 := by decide
    exact ratio_ap (by omega) ((show Sz 100 _ from Nat.lt_of_lt_of_le h1 le).mono (by decide)) ((show Sz 100 _ from Nat.lt_of_lt_of_le h2 le).mono (by decide)) (rt_here (q _ a3 m3 (R30.divInt h1 h2 (by omega)) (hb3.mono (by omega))))
  · rw [if_neg (by simpa using hw)]
    refine take_ap Ow.set_same hb1 (by omega) (by omega) (Sz.lt (b := 64) (by omega) (by omega) (by decide)) fun t a2 m2 t0 t1 hb2 => ?_
    rw [Ow.set_set]
    refine take_ap Ow.set_same hb2 (by omega) (by omega) (Sz.lt (b := 64) (by omega) (by omega) (by decide)) fun u a3 m3 u0 u1 hb3 => ?_
    rw [Ow.set_set]
    have le : (10 : Nat) ^ 30 ≤ 2 ^ 100 := by decide
    have e2 : (10 : Nat) ^ 30 = 1000000000000000000000000000000 := by decide
    have h1 : (t - 10).natAbs < 10 ^ 30 := by rw [e2]; omega
    have h2 : (1 + u).natAbs < 10 ^ 30 := by rw [e2]; omega
    exact ratio_ap (by omega) ((show Sz 100 _ from Nat.lt_of_lt_of_le h1 le).mono (by decide)) ((show Sz 100 _ from Nat.lt_of_lt_of_le h2 le).mono (by decide)) (rt_here (q _ a3 m3 (R30.divInt h1 h2 (by omega)) (hb3.mono (by omega))))
def sp_l_show : DL := fun ds O Q => ∃ q : Rat, ds = [rat q] ∧ SzR 1900 q ∧ Q (.str (showS q)) O
theorem ln_l_show : ∀ ds O Q, sp_l_show ds O Q → ds.length = 1 := by rintro ds O Q ⟨a, rfl, _⟩; rfl
def B_l_show : DS' :=
  (dThen (dIfS (dTest (dOp dEq (dOp dIx (dVar 0) (dC (.int 1))) (dC (.int 1)))) (dRet (dBu dStr1 (dCons (dOp dIx (dVar 0) (dC (.int 0))) dNil))) dNext)
  (dRet (dOp (dAdd mkF) (dOp (dAdd mkF) (dBu dStr1 (dCons (dOp dIx (dVar 0) (dC (.int 0))) dNil)) (dC (.str (Str.ofString "/")))) (dBu dStr1 (dCons (dOp dIx (dVar 0) (dC (.int 1))) dNil)))))
theorem hb_l_show : ∀ ds O Q, sp_l_show ds O Q → B_l_show (rtEnds Q) (startD 1 ds) O := by
  rintro ds O Q ⟨r, rfl, hz, q⟩
  have l1 := str_len hz.1
  have l2 := str_len hz.2
  have e47 : tl (Str.ofString "/") = [47] := by decide +kernel
  have l3 : (Str.ofString "/").length = 1 := by rw [len_tl, e47]; rfl
  have l4 := line100000
  unfold B_l_show
  walk_at "tx"
  by_cases h : r.den = 1
  · have e : ((r.den : Int) == 1) = true := by simp [h]
    rw [e]
    walk_at "tx"
    refine ⟨sz_log hz.1, ?_⟩
    have : Str.ofString (toString r.num) = showS r := tl_inj (by rw [tl_str, tl_show]; unfold showR; rw [if_pos h])
    rw [this]
    exact rt_here q
  · have e : ((r.den : Int) == 1) = false := by
      rw [beq_eq_false_iff_ne]; omega
    rw [e]
    walk_at "tx"
    refine ⟨sz_log hz.1, by omega, sz_log hz.2, ?_, ?_⟩
    · have : (Str.ofString (toString r.num) ++ Str.ofString "/").length = (Str.ofString (toString r.num)).length + 1 := by
        rw [len_tl, tl_app, List.length_append, ← len_tl, ← len_tl, l3]
      omega
    · have : Str.ofString (toString r.num) ++ Str.ofString "/" ++ Str.ofString (toString (r.den : Int)) = showS r := tl_inj (by
        rw [tl_app, tl_app, tl_str, tl_str, tl_show, e47]; unfold showR; rw [if_neg h]; simp)
      rw [this]
      exact rt_here q
def sp_l_any_offer : DL := fun ds O Q => ∃ (p : Addr) (a m : Int) (n c : Nat), ds = [.ref p, .int (c : Int)] ∧ O p = some (bagD a m) ∧ okB n a m ∧ n < 800000000 ∧ 1 ≤ c ∧ c ≤ 12 ∧ ∀ o a' m', OffT c o → okB (n + 100) a' m' → Q (offD o) (O.set p (bagD a' m'))
theorem ln_l_any_offer : ∀ ds O Q, sp_l_any_offer ds O Q → ds.length = 2 := by rintro ds O Q ⟨a, b, c, d, e, rfl, _⟩; rfl
theorem any_offer_ap {p : Addr} {a m : Int} {n c : Nat} {O : Ow} {Q : DQ} (h : O p = some (bagD a m)) (hb : okB n a m) (hn : n < 800000000) (c1 : 1 ≤ c) (c12 : c ≤ 12) (q : ∀ o a' m', OffT c o → okB (n + 100) a' m' → Q (offD o) (O.set p (bagD a' m'))) : sp_l_any_offer [.ref p, .int (c : Int)] O Q := ⟨p, a, m, n, c, rfl, h, hb, hn, c1, c12, q⟩
def B_l_any_offer : DS' :=
  (dThen (dAsg (dBu dTuple (dCons (dLc mkF (dRng1 (dCons (dVar 1) dNil)) (tgN 7) dYes (dCall sp_l_part (dCons (dVar 0) dNil)) [7]) dNil)) (tgN 2))
  (dThen (dAsg (dOp dIx (dLst mkF (dCons (dC .non) (dCons (dCall sp_l_part (dCons (dVar 0) dNil)) dNil))) (dCall sp_l_take (dCons (dVar 0) (dCons (dC (.int 2)) dNil)))) (tgN 3))
  (dThen (dAsg (dOp dIx (dLst mkF (dCons (dC .non) (dCons (dCall sp_l_part (dCons (dVar 0) dNil)) dNil))) (dCall sp_l_take (dCons (dVar 0) (dCons (dC (.int 2)) dNil)))) (tgN 4))
  (dThen (dAsg (dC .non) (tgN 5))
  (dThen (dIfS (dTest (dOp dEq (dCall sp_l_take (dCons (dVar 0) (dCons (dC (.int 2)) dNil))) (dC (.int 0)))) (dThen (dAsg (dLc mkO (dRng1 (dCons (dVar 1) dNil)) (tgN 7) dYes (dCall sp_l_take (dCons (dVar 0) (dCons (dC (.int 2)) dNil))) [7]) (tgN 6))
  (dThen (dSetI (dC (.int 1)) (dVar 6) (dCall sp_l_take (dCons (dVar 0) (dCons (dVar 1) dNil))))
  (dAsg (dBu dTuple (dCons (dLc mkF (dRng1 (dCons (dVar 1) dNil)) (tgN 7) (dTest (dOp dEq (dOp dIx (dVar 6) (dVar 7)) (dC (.int 1)))) (dVar 7) [7]) dNil)) (tgN 5)))) dNext)
  (dRet (dTup (dCons (dVar 2) (dCons (dVar 3) (dCons (dVar 4) (dCons (dVar 5) dNil)))))))))))
theorem optD_pick {q : Rat} {t : Int} (t0 : 0 ≤ t) (t1 : t < 2) : ∃ x : Option Rat, atI [D.non, rat q] t = some (optD x) ∧ ∀ y, x = some y → y = q := by
  rcases (by omega : t = 0 ∨ t = 1) with rfl | rfl
  · exact ⟨none, rfl, fun y h => nomatch h⟩
  · exact ⟨some q, rfl, fun y h => (Option.some.inj h).symm⟩
theorem hb_l_any_offer : ∀ ds O Q, sp_l_any_offer ds O Q → B_l_any_offer (rtEnds Q) (startD 8 ds) O := by
  rintro ds O Q ⟨p, a, m, n, c, rfl, h, hb, hn, c1, c12, q⟩
  unfold B_l_any_offer
  walk_at "ds"
  refine ⟨by omega, by omega, by rw [rangeD_len]; omega, ?_⟩
  refine lc_idx (fun i acc O' => ∃ (r : List Rat) (a' m' : Int), acc = r.map rat ∧ r.length = i ∧ (∀ q ∈ r, R30 q) ∧ okB (n + 3 * i) a' m' ∧ O' = O.set p (bagD a' m')) ?_ ?_ ⟨[], a, m, rfl, rfl, (fun y hy => nomatch hy), hb, (Ow.set_id h).symm⟩
  · rintro i hi acc O' R ⟨r, a', m', rfl, hl, hr, hb', rfl⟩ hR
    rw [rangeD_len] at hi
    rw [rangeD_at]
    refine ⟨_, rfl, ?_⟩
    walk_at "ds"
    refine part_ap Ow.set_same hb' (by omega) fun x a2 m2 hx hb2 => ?_
    rw [Ow.set_set]
    refine hR _ _ ⟨r ++ [x], a2, m2, by simp, by simp [hl], fun y hy => ?_, hb2.mono (by omega), rfl⟩
    rcases List.mem_append.mp hy with z | z
    · exact hr y z
    · rw [List.mem_singleton.mp z]; exact hx
  · rintro acc O' ⟨r, a1, m1, rfl, hl, hr, hb1, rfl⟩
    rw [rangeD_len, Int.toNat_natCast] at hl hb1
    refine part_ap Ow.set_same hb1 (by omega) fun x1 a2 m2 hx1 hb2 => ?_
    rw [Ow.set_set]
    refine take_ap Ow.set_same hb2 (by omega) (by omega) (Sz.lt (b := 64) (by omega) (by omega) (by decide)) fun t1 a3 m3 t10 t11 hb3 => ?_
    rw [Ow.set_set]
    obtain ⟨y1, e1, hy1⟩ := optD_pick (q := x1) t10 t11
    refine dIx_lv rfl e1 ?_
    refine part_ap Ow.set_same hb3 (by omega) fun x2 a4 m4 hx2 hb4 => ?_
    rw [Ow.set_set]
    refine take_ap Ow.set_same hb4 (by omega) (by omega) (Sz.lt (b := 64) (by omega) (by omega) (by decide)) fun t2 a5 m5 t20 t21 hb5 => ?_
    rw [Ow.set_set]
    obtain ⟨y2, e2, hy2⟩ := optD_pick (q := x2) t20 t21
    refine dIx_lv rfl e2 ?_
    refine take_ap Ow.set_same hb5 (by omega) (by omega) (Sz.lt (b := 64) (by omega) (by omega) (by decide)) fun t3 a6 m6 t30 t31 hb6 => ?_
    rw [Ow.set_set]
    have fin : ∀ (e : Option (List Nat)), (∀ l, e = some l → l ≠ [] ∧ l.Pairwise (· < ·) ∧ ∀ j ∈ l, j < c) → OffT c ⟨r, y1, y2, e⟩ := fun e he => ⟨hl, hr, fun z hz => by rw [hy1 z hz]; exact hx1, fun z hz => by rw [hy2 z hz]; exact hx2, he⟩
    walk_at "ds"
    by_cases h3 : t3 = 0
    · rw [if_pos (by simp [h3])]
      refine ⟨by omega, by omega, by rw [rangeD_len]; omega, ?_⟩
      refine lc_idx (fun i acc O' => ∃ (bs : List Int) (a' m' : Int), acc = bs.map D.int ∧ bs.length = i ∧ okB (n + 50 + i) a' m' ∧ O' = O.set p (bagD a' m')) ?_ ?_ ⟨[], a6, m6, rfl, rfl, hb6.mono (by omega), rfl⟩
      · rintro i hi acc O' R ⟨bs, a', m', rfl, hbl, hb', rfl⟩ hR
        rw [rangeD_len] at hi
        rw [rangeD_at]
        refine ⟨_, rfl, ?_⟩
        walk_at "ds"
        refine take_ap Ow.set_same hb' (by omega) (by omega) (Sz.lt (b := 64) (by omega) (by omega) (by decide)) fun t a2 m2 t0 t1 hb2 => ?_
        rw [Ow.set_set]
        exact hR _ _ ⟨bs ++ [t], a2, m2, by simp, by simp [hbl], hb2.mono (by omega), rfl⟩
      · rintro acc O' ⟨bs, a7, m7, rfl, hbl, hb7, rfl⟩
        rw [rangeD_len, Int.toNat_natCast] at hbl hb7
        intro pb hpb
        have n1 : p ≠ pb := fun z => by rw [← z, Ow.set_same] at hpb; cases hpb
        have hpb0 : O pb = none := by rw [Ow.set_ne n1.symm] at hpb; exact hpb
        refine take_ap (by rw [Ow.set_ne n1, Ow.set_same]) hb7 (by omega) (by omega) (Sz.lt (b := 64) (by omega) (by omega) (by decide)) fun t a8 m8 t0 t1 hb8 => ?_
        obtain ⟨j, rfl⟩ := Int.eq_ofNat_of_zero_le t0
        have hj : j < bs.length := by omega
        have o1 : (((O.set p (bagD a7 m7)).set pb (.lst (bs.map D.int))).set p (bagD a8 m8)) pb = some (.lst (bs.map D.int)) := by rw [Ow.set_ne n1.symm, Ow.set_same]
        refine ⟨_, o1, j, by unfold ixN; rw [if_pos (by omega), if_pos (by simp; omega)]; rfl, by omega, by omega, by rw [rangeD_len]; omega, ?_⟩
        have eset : (bs.map D.int).set j (.int 1) = (bs.set j 1).map D.int := by rw [List.map_set]
        rw [eset]
        have er : rangeD 0 (c : Int).toNat = (List.range c).map fun (k : Nat) => D.int (k : Int) := by
          rw [Int.toNat_natCast]
          exact rangeD_map
        have ln : (bs.set j 1).length = c := by rw [List.length_set]; exact hbl
        rw [er]
        refine lc_filter (gd := tgN 7) (fun (k : Nat) => .int (k : Int)) (fun (k : Nat) => .int (k : Int)) (fun k => decide ((bs.set j 1).getD k 0 = 1)) trivial (List.range c) [] (fun k hk => ⟨_, rfl, fun R hR => ?_, fun R hR => ?_⟩) ?_
        · have hk := List.mem_range.mp hk
          have hk2 : k < (bs.set j 1).length := by omega
          walk_at "ds"
          refine ⟨.int ((bs.set j 1).getD k 0), ?_, ?_⟩
          · rw [show atI ((bs.set j 1).map D.int) (k : Int) = _ from atI_map hk2, List.getD_eq_getElem?_getD, List.getElem?_eq_getElem hk2]; rfl
          · walk_at "ds"
            exact hR
        · walk_at "ds"
          exact hR
        · refine ⟨O.set p (bagD a8 m8), fun a u ha => ?_, q ⟨r, y1, y2, some ((List.range c).filter fun k => decide ((bs.set j 1).getD k 0 = 1))⟩ a8 m8 (fin _ fun l hl => ?_) (hb8.mono (by omega))⟩
          · by_cases hx : a = pb
            · subst hx; rw [Ow.set_ne n1.symm, hpb0] at ha; cases ha
            · rw [Ow.set_ne hx]
              by_cases hy : a = p
              · subst hy; rw [Ow.set_same] at ha ⊢; exact ha
              · rw [Ow.set_ne hy] at ha ⊢
                rw [Ow.set_ne hx, Ow.set_ne hy]; exact ha
          · cases hl
            refine ⟨fun z => ?_, List.Pairwise.filter _ List.pairwise_lt_range, fun k hk => List.mem_range.mp (List.mem_filter.mp hk).1⟩
            have hm : j ∈ (List.range c).filter fun k => decide ((bs.set j 1).getD k 0 = 1) := List.mem_filter.mpr ⟨List.mem_range.mpr (by omega), by
              rw [List.getD_eq_getElem?_getD, List.getElem?_set_self hj]; rfl⟩
            rw [z] at hm
            cases hm
    · rw [if_neg (by simpa using h3)]
      exact rt_here (q _ a6 m6 (fin none fun l hl => nomatch hl) (hb6.mono (by omega)))
theorem joinL_snoc {c x : List Nat} : ∀ {l : List (List Nat)}, l ≠ [] → joinL c (l ++ [x]) = joinL c l ++ c ++ x
  | [], h => absurd rfl h
  | a :: l, _ => by
    rw [List.cons_append, joinL_flat, joinL_flat, List.map_append, List.flatten_append]
    simp
theorem join_snoc {ws : List Str} {w : Str} (h : ws ≠ []) : Txt.join ⟨#[32]⟩ ws ++ ⟨#[32]⟩ ++ w = Txt.join ⟨#[32]⟩ (ws ++ [w]) := tl_inj (by
  rw [tl_app, tl_app, tl_join, tl_join, List.map_append, List.map_cons, List.map_nil, joinL_snoc (by simpa using h)])
theorem join_one {w : Str} : Txt.join ⟨#[32]⟩ [w] = w := tl_inj (by rw [tl_join]; rfl)
/-- short words -/
def Short (ws : List Str) : Prop := ws.length ≤ 30 ∧ ∀ w ∈ ws, w.length ≤ 63
theorem Short.pre {a b : List Str} (h : Short (a ++ b)) : Short a := ⟨by have := h.1; rw [List.length_append] at this; omega, fun w hw => h.2 w (List.mem_append_left _ hw)⟩
theorem Short.len {a : List Str} (h : Short a) : (Txt.join ⟨#[32]⟩ a).length ≤ 1920 := by
  have := join_len (sep := ⟨#[32]⟩) h.2
  have e1 : (⟨#[32]⟩ : Str).length = 1 := rfl
  rw [e1] at this
  have h2 : a.length * (63 + 1) ≤ 30 * 64 := Nat.mul_le_mul_right _ h.1
  omega
theorem R30.len {q : Rat} (h : R30 q) : (showS q).length ≤ 63 := by
  have l1 := showI_len (i := q.num) (k := 30) (by decide) h.1
  have l2 := showI_len (i := (q.den : Int)) (k := 30) (by decide) (by rw [Int.natAbs_natCast]; exact h.2)
  rw [len_tl, tl_show]
  unfold showR
  split
  · omega
  · rw [List.length_append, List.length_cons]; omega
theorem priceW_short {key : Str} {x : Option Rat} (hk : key.length ≤ 8) (h : ∀ q, x = some q → R30 q) : ∀ w ∈ priceW key x, w.length ≤ 63 := by
  cases x with
  | none => intro w hw; cases hw
  | some q =>
    intro w hw
    rcases List.mem_cons.mp hw with rfl | hw
    · omega
    · rw [List.mem_singleton.mp hw]; exact (h q rfl).len
theorem words_short {c : Nat} {names : List Str} {o : Off} (hN : ∀ w ∈ names, w.length ≤ 8) (hc : names.length = c) (c12 : c ≤ 12) (h : OffT c o) : Short (wordsOf names o) := by
  obtain ⟨w1, _⟩ := words_ok hN hc c12 h.W
  obtain ⟨k1, k2, k3, k4, k5⟩ := key_len
  refine ⟨w1, fun w hw => ?_⟩
  unfold wordsOf at hw
  rcases List.mem_append.mp hw with hw | hw
  · rcases List.mem_append.mp hw with hw | hw
    · rcases List.mem_append.mp hw with hw | hw
      · rcases List.mem_cons.mp hw with rfl | hw
        · omega
        · obtain ⟨q, hq, rfl⟩ := List.mem_map.mp hw
          exact (h.row q hq).len
      · exact priceW_short k2 h.ask w hw
    · exact priceW_short k3 h.bid w hw
  · cases he : o.ev with
    | none => rw [he] at hw; cases hw
    | some l =>
      rw [he] at hw
      rcases List.mem_cons.mp hw with rfl | hw
      · omega
      · obtain ⟨j, hj, rfl⟩ := List.mem_map.mp hw
        have := (h.ev l he).2.2 j hj
        rw [List.getD_eq_getElem?_getD, List.getElem?_eq_getElem (by omega)]
        have := hN _ (List.getElem_mem (l := names) (n := j) (by omega))
        show (names[j]).length ≤ 63
        omega
def sp_l_line : DL := fun ds O Q => ∃ (c : Nat) (d : D) (names : List Str) (o : Off), ds = [d, offD o] ∧ lv O d = some (strsD names) ∧ (∀ w ∈ names, w.length ≤ 8) ∧ names.length = c ∧ c ≤ 12 ∧ OffT c o ∧ Q (.str (lineS names o)) O
theorem ln_l_line : ∀ ds O Q, sp_l_line ds O Q → ds.length = 2 := by rintro ds O Q ⟨a, b, c, d, rfl, _⟩; rfl
def B_l_line_b1 : DS' :=
  (dAsg (dOp (dAdd mkF) (dOp (dAdd mkF) (dVar 2) (dC (.str (Str.ofString " ")))) (dCall sp_l_show (dCons (dVar 3) dNil))) (tgN 2))
def B_l_line_b2 : DS' :=
  (dAsg (dOp (dAdd mkF) (dOp (dAdd mkF) (dVar 2) (dC (.str (Str.ofString " ")))) (dOp dIx (dVar 0) (dVar 4))) (tgN 2))
def B_l_line_r3 : DS' :=
  (dThen (dIfS (dTest (dOp dNotN (dOp dIx (dVar 1) (dC (.int 3))) (dC .non))) (dThen (dAsg (dOp (dAdd mkF) (dVar 2) (dC (.str (Str.ofString " if")))) (tgN 2))
  (dFor (dSeq (dOp dIx (dVar 1) (dC (.int 3)))) (tgN 4)
  B_l_line_b2 [1, 3, 4])) dNext)
  (dRet (dVar 2)))
def B_l_line_r4 : DS' :=
  (dThen (dIfS (dTest (dOp dNotN (dOp dIx (dVar 1) (dC (.int 2))) (dC .non))) (dAsg (dOp (dAdd mkF) (dOp (dAdd mkF) (dVar 2) (dC (.str (Str.ofString " bid ")))) (dCall sp_l_show (dCons (dOp dIx (dVar 1) (dC (.int 2))) dNil))) (tgN 2)) dNext)
  B_l_line_r3)
def B_l_line_r5 : DS' :=
  (dThen (dIfS (dTest (dOp dNotN (dOp dIx (dVar 1) (dC (.int 1))) (dC .non))) (dAsg (dOp (dAdd mkF) (dOp (dAdd mkF) (dVar 2) (dC (.str (Str.ofString " ask ")))) (dCall sp_l_show (dCons (dOp dIx (dVar 1) (dC (.int 1))) dNil))) (tgN 2)) dNext)
  B_l_line_r4)
def B_l_line : DS' :=
  (dThen (dAsg (dC (.str (Str.ofString "offer"))) (tgN 2))
  (dThen (dFor (dSeq (dOp dIx (dVar 1) (dC (.int 0)))) (tgN 3)
  B_l_line_b1 [3])
  B_l_line_r5))
theorem line_r3 {c : Nat} {d : D} {ws names : List Str} {o : Off} {O : Ow} {Q : DQ} {x3 : Option D} (hd : lv O d = some (strsD names)) (hc : names.length = c) (ho : OffT c o) (hn : ws ≠ []) (hs : Short (ws ++ eventW names o.ev)) (q : Q (.str (Txt.join ⟨#[32]⟩ (ws ++ eventW names o.ev))) O) :
    B_l_line_r3 (rtEnds Q) [some d, some (offD o), some (.str (Txt.join ⟨#[32]⟩ ws)), x3, none] O := by
  have ln := line100000
  have l1 := hs.pre.len
  have l3 : (Str.ofString " if").length = 3 := by rw [len_tl]; decide +kernel
  unfold B_l_line_r3
  cases he : o.ev with
  | none =>
    rw [he] at q
    rw [show eventW names none = [] from rfl, List.append_nil] at q
    unfold offD
    rw [he]
    walk_at "tx"
    exact rt_here q
  | some l =>
    rw [he] at q hs
    unfold offD
    rw [he]
    walk_at "tx"
    rw [if_pos (by rfl)]
    have eif : Txt.join ⟨#[32]⟩ ws ++ Str.ofString " if" = Txt.join ⟨#[32]⟩ (ws ++ [ifS]) := by
      rw [← join_snoc hn]
      refine tl_inj ?_
      rw [tl_app, tl_app, tl_app, List.append_assoc]
      congr 1
    rw [eif]
    refine ⟨by omega, natsD l, rfl, rfl, ?_⟩
    have hl := ho.ev l he
    refine for_idx (fun k ρ O' => k ≤ l.length ∧ O' = O ∧ ρ = [some d, none, some (.str (Txt.join ⟨#[32]⟩ (ws ++ ifS :: (l.take k).map fun j => names.getD j Str.empty))), none, none]) ?_ ?_ ⟨Nat.zero_le _, rfl, by rw [List.take_zero]; rfl⟩
    · rintro k hk ρ O' E' ⟨_, rfl, rfl⟩ hnx hct hrt hbk
      have hk : k < l.length := by simpa [natsD] using hk
      have ek : (natsD l)[k]'(by simpa [natsD] using hk) = .int (l[k] : Int) := by simp [natsD]
      rw [ek]
      refine ⟨_, rfl, ?_⟩
      have hj : l[k] < names.length := by rw [hc]; exact hl.2.2 _ (List.getElem_mem hk)
      have sub : ws ++ eventW names (some l) = (ws ++ ifS :: (l.take (k + 1)).map fun j => names.getD j Str.empty) ++ (l.drop (k + 1)).map fun j => names.getD j Str.empty := by
        show ws ++ ifS :: (l.map fun j => names.getD j Str.empty) = _
        rw [List.append_assoc, List.cons_append, ← List.map_append, List.take_append_drop]
      have sh := (sub ▸ hs).pre
      have e2 : (ws ++ ifS :: (l.take (k + 1)).map fun j => names.getD j Str.empty) = (ws ++ ifS :: (l.take k).map fun j => names.getD j Str.empty) ++ [names[l[k]]] := by
        rw [List.take_succ_eq_append_getElem hk, List.map_append, List.map_cons, List.map_nil, List.getD_eq_getElem?_getD, List.getElem?_eq_getElem hj]
        simp
      have ha : atI (strsD names) (l[k] : Int) = some (.str names[l[k]]) := atI_map hj
      have s1 := (e2 ▸ sh).pre.len
      have s2 := (e2 ▸ sh).2 names[l[k]] (by simp)
      have one : (⟨#[32]⟩ : Str).length = 1 := rfl
      have s3 : (Txt.join ⟨#[32]⟩ (ws ++ ifS :: (l.take k).map fun j => names.getD j Str.empty) ++ ⟨#[32]⟩).length ≤ 1921 := by
        rw [len_tl, tl_app, List.length_append, ← len_tl, ← len_tl, one]; omega
      unfold B_l_line_b2
      walk_at "tx"
      rw [sp32]
      refine ⟨by rw [one]; omega, ?_⟩
      refine dIx_lv hd ha ?_
      walk_at "tx"
      refine ⟨by omega, ?_⟩
      rw [join_snoc (by simp), ← e2]
      exact hnx _ _ _ (Ow.le.refl _) rfl ⟨hk, rfl, rfl⟩
    · rintro ρ O' ⟨_, rfl, rfl⟩
      rw [show (natsD l).length = l.length by simp [natsD], List.take_length]
      walk_at "tx"
      exact rt_here q
theorem line_r4 {c : Nat} {d : D} {ws names : List Str} {o : Off} {O : Ow} {Q : DQ} {x3 : Option D} (hd : lv O d = some (strsD names)) (hc : names.length = c) (ho : OffT c o) (hn : ws ≠ []) (hs : Short (ws ++ priceW bidS o.bid ++ eventW names o.ev)) (q : Q (.str (Txt.join ⟨#[32]⟩ (ws ++ priceW bidS o.bid ++ eventW names o.ev))) O) :
    B_l_line_r4 (rtEnds Q) [some d, some (offD o), some (.str (Txt.join ⟨#[32]⟩ ws)), x3, none] O := by
  have ln := line100000
  have l1 := hs.pre.pre.len
  have l3 : (Str.ofString " bid ").length = 5 := by rw [len_tl]; decide +kernel
  unfold B_l_line_r4
  cases he : o.bid with
  | none =>
    rw [he] at q hs
    rw [show priceW bidS none = [] from rfl, List.append_nil] at q hs
    have := line_r3 (x3 := x3) hd hc ho hn hs q
    unfold offD at this ⊢
    rw [he] at this ⊢
    walk_at "tx"
    exact this
  | some b =>
    rw [he] at q hs
    have eb : Txt.join ⟨#[32]⟩ ws ++ Str.ofString " bid " ++ showS b = Txt.join ⟨#[32]⟩ (ws ++ priceW bidS (some b)) := by
      rw [show ws ++ priceW bidS (some b) = (ws ++ [bidS]) ++ [showS b] by simp [priceW], ← join_snoc (by simp), ← join_snoc hn]
      refine tl_inj ?_
      have e5 : tl (Str.ofString " bid ") = tl (⟨#[32]⟩ : Str) ++ tl bidS ++ tl (⟨#[32]⟩ : Str) := by decide +kernel
      simp only [tl_app, e5, List.append_assoc]
    have := line_r3 (x3 := x3) hd hc ho (by simp [hn]) hs q
    unfold offD at this ⊢
    rw [he] at this ⊢
    have rl := (ho.bid b he).len
    have s3 : (Txt.join ⟨#[32]⟩ ws ++ Str.ofString " bid ").length ≤ 1925 := by
      rw [len_tl, tl_app, List.length_append, ← len_tl, ← len_tl, l3]; omega
    walk_at "tx"
    refine ⟨by omega, b, rfl, (ho.bid b he).sz, ?_⟩
    walk_at "tx"
    refine ⟨by omega, ?_⟩
    rw [eb]
    exact this
theorem line_r5 {c : Nat} {d : D} {ws names : List Str} {o : Off} {O : Ow} {Q : DQ} {x3 : Option D} (hd : lv O d = some (strsD names)) (hc : names.length = c) (ho : OffT c o) (hn : ws ≠ []) (hs : Short (ws ++ priceW askS o.ask ++ priceW bidS o.bid ++ eventW names o.ev)) (q : Q (.str (Txt.join ⟨#[32]⟩ (ws ++ priceW askS o.ask ++ priceW bidS o.bid ++ eventW names o.ev))) O) :
    B_l_line_r5 (rtEnds Q) [some d, some (offD o), some (.str (Txt.join ⟨#[32]⟩ ws)), x3, none] O := by
  have ln := line100000
  have l1 := hs.pre.pre.pre.len
  have l3 : (Str.ofString " ask ").length = 5 := by rw [len_tl]; decide +kernel
  unfold B_l_line_r5
  cases he : o.ask with
  | none =>
    rw [he] at q hs
    rw [show priceW askS none = [] from rfl, List.append_nil] at q hs
    have := line_r4 (x3 := x3) hd hc ho hn hs q
    unfold offD at this ⊢
    rw [he] at this ⊢
    walk_at "tx"
    exact this
  | some b =>
    rw [he] at q hs
    have eb : Txt.join ⟨#[32]⟩ ws ++ Str.ofString " ask " ++ showS b = Txt.join ⟨#[32]⟩ (ws ++ priceW askS (some b)) := by
      rw [show ws ++ priceW askS (some b) = (ws ++ [askS]) ++ [showS b] by simp [priceW], ← join_snoc (by simp), ← join_snoc hn]
      refine tl_inj ?_
      have e5 : tl (Str.ofString " ask ") = tl (⟨#[32]⟩ : Str) ++ tl askS ++ tl (⟨#[32]⟩ : Str) := by decide +kernel
      simp only [tl_app, e5, List.append_assoc]
    have := line_r4 (x3 := x3) hd hc ho (by simp [hn]) hs q
    unfold offD at this ⊢
    rw [he] at this ⊢
    have rl := (ho.ask b he).len
    have s3 : (Txt.join ⟨#[32]⟩ ws ++ Str.ofString " ask ").length ≤ 1925 := by
      rw [len_tl, tl_app, List.length_append, ← len_tl, ← len_tl, l3]; omega
    walk_at "tx"
    refine ⟨by omega, b, rfl, (ho.ask b he).sz, ?_⟩
    walk_at "tx"
    refine ⟨by omega, ?_⟩
    rw [eb]
    exact this
theorem off_row {o : Off} {O : Ow} {Q : DQ} (h : Q (rowD o.row) O) : dIx (offD o) (.int 0) O Q := by
  unfold offD
  rw [dIx_tup]
  exact ⟨_, rfl, h⟩
theorem hb_l_line : ∀ ds O Q, sp_l_line ds O Q → B_l_line (rtEnds Q) (startD 5 ds) O := by
  rintro ds O Q ⟨c, d, names, o, rfl, hd, hN, hc, c12, ho, q⟩
  have ws := words_short hN hc c12 ho
  have ln := line100000
  unfold B_l_line
  walk_at "tx"
  refine off_row ?_
  refine ⟨o.row.map rat, rfl, rfl, ?_⟩
  refine for_idx (fun k ρ O' => k ≤ o.row.length ∧ O' = O ∧ ρ = [some d, some (offD o), some (.str (Txt.join ⟨#[32]⟩ (offerS :: (o.row.take k).map showS))), none, none]) ?_ ?_ ⟨Nat.zero_le _, rfl, by rw [List.take_zero, List.map_nil, join_one]; try rfl⟩
  · rintro k hk ρ O' E' ⟨_, rfl, rfl⟩ hnx hct hrt hbk
    have hk : k < o.row.length := by simpa using hk
    rw [List.getElem_map]
    refine ⟨_, rfl, ?_⟩
    have sub : wordsOf names o = (offerS :: (o.row.take (k + 1)).map showS) ++ ((o.row.drop (k + 1)).map showS ++ priceW askS o.ask ++ priceW bidS o.bid ++ eventW names o.ev) := by
      unfold wordsOf
      rw [show o.row.map showS = (o.row.take (k + 1)).map showS ++ (o.row.drop (k + 1)).map showS by rw [← List.map_append, List.take_append_drop]]
      simp only [List.cons_append, List.append_assoc]
    have sh := (sub ▸ ws).pre
    have e2 : offerS :: (o.row.take (k + 1)).map showS = (offerS :: (o.row.take k).map showS) ++ [showS o.row[k]] := by
      rw [List.take_succ_eq_append_getElem hk, List.map_append]; simp
    have s1 := (e2 ▸ sh).pre.len
    have hr := ho.row _ (List.getElem_mem hk)
    have s2 := hr.len
    have one : (⟨#[32]⟩ : Str).length = 1 := rfl
    have s3 : (Txt.join ⟨#[32]⟩ (offerS :: (o.row.take k).map showS) ++ ⟨#[32]⟩).length ≤ 1921 := by
      rw [len_tl, tl_app, List.length_append, ← len_tl, ← len_tl, one]; omega
    unfold B_l_line_b1
    walk_at "tx"
    rw [sp32]
    refine ⟨by rw [one]; omega, _, rfl, hr.sz, ?_⟩
    walk_at "tx"
    refine ⟨by omega, ?_⟩
    rw [join_snoc (by simp), ← e2]
    exact hnx _ _ _ (Ow.le.refl _) rfl ⟨hk, rfl, rfl⟩
  · rintro ρ O' ⟨_, rfl, rfl⟩
    rw [List.length_map, List.take_length]
    exact line_r5 hd hc ho (by simp) ws q
def sp_l_lines : DL := fun ds O Q => ∃ (c : Nat) (d e : D) (names : List Str) (offs : List Off), ds = [d, e] ∧ lv O d = some (strsD names) ∧ stays d (strsD names) O ∧ lv O e = some (offs.map offD) ∧ stays e (offs.map offD) O ∧ (∀ w ∈ names, w.length ≤ 8) ∧ names.length = c ∧ 1 ≤ c ∧ c ≤ 12 ∧ offs.length ≤ 12 ∧ (∀ o ∈ offs, OffT c o) ∧ mkA (strsD (headS names :: offs.map (lineS names))) O Q
theorem ln_l_lines : ∀ ds O Q, sp_l_lines ds O Q → ds.length = 2 := by rintro ds O Q ⟨a, b, c, d, e, rfl, _⟩; rfl
def B_l_lines : DS' :=
  (dThen (dAsg (dC (.str (Str.ofString "worlds"))) (tgN 2))
  (dThen (dFor (dSeq (dVar 0)) (tgN 3)
  (dAsg (dOp (dAdd mkF) (dOp (dAdd mkF) (dVar 2) (dC (.str (Str.ofString " ")))) (dVar 3)) (tgN 2)) [3])
  (dRet (dOp (dAdd mkA) (dLst mkF (dCons (dVar 2) dNil)) (dLc mkF (dSeq (dVar 1)) (tgN 4) dYes (dCall sp_l_line (dCons (dVar 0) (dCons (dVar 4) dNil))) [4])))))
theorem hb_l_lines : ∀ ds O Q, sp_l_lines ds O Q → B_l_lines (rtEnds Q) (startD 5 ds) O := by
  rintro ds O Q ⟨c, d, e, names, offs, rfl, hd, sd, he, se, hN, hc, c1, c12, hl, ho, q⟩
  have ln := line100000
  have hh : headS names = Txt.join ⟨#[32]⟩ (worldsS :: names) := by
    cases names with
    | nil => simp at hc; omega
    | cons a r =>
      refine tl_inj ?_
      unfold headS
      rw [tl_app, tl_join, tl_join, List.map_cons, List.map_cons, List.map_cons, joinL_flat, joinL_flat, List.map_cons, List.flatten_cons]
      have e7 : tl (Str.ofString "worlds ") = tl worldsS ++ tl (⟨#[32]⟩ : Str) := by decide +kernel
      rw [e7]
      simp only [List.append_assoc]
  have sw : Short (worldsS :: names) := ⟨by rw [List.length_cons]; omega, fun w hw => by
    rcases List.mem_cons.mp hw with rfl | hw
    · have := key_len; omega
    · have := hN w hw; omega⟩
  unfold B_l_lines
  walk_at "tx"
  refine ⟨strsD names, qv_of_lv hd, sd, ?_⟩
  refine for_idx (fun k ρ O' => k ≤ names.length ∧ O' = O ∧ ρ = [some d, some e, some (.str (Txt.join ⟨#[32]⟩ (worldsS :: names.take k))), none, none]) ?_ ?_ ⟨Nat.zero_le _, rfl, by rw [List.take_zero, join_one]; try rfl⟩
  · rintro k hk ρ O' E' ⟨_, rfl, rfl⟩ hnx hct hrt hbk
    have hk : k < names.length := by simpa [strsD] using hk
    rw [strs_get hk]
    refine ⟨_, rfl, ?_⟩
    have sub : worldsS :: names = (worldsS :: names.take (k + 1)) ++ names.drop (k + 1) := by
      rw [List.cons_append, List.take_append_drop]
    have sh := (sub ▸ sw).pre
    have e2 : worldsS :: names.take (k + 1) = (worldsS :: names.take k) ++ [names[k]] := by
      rw [List.take_succ_eq_append_getElem hk]; rfl
    have s1 := (e2 ▸ sh).pre.len
    have s2 := hN _ (List.getElem_mem hk)
    have one : (⟨#[32]⟩ : Str).length = 1 := rfl
    have s3 : (Txt.join ⟨#[32]⟩ (worldsS :: names.take k) ++ ⟨#[32]⟩).length ≤ 1921 := by
      rw [len_tl, tl_app, List.length_append, ← len_tl, ← len_tl, one]; omega
    walk_at "tx"
    rw [sp32]
    refine ⟨by rw [one]; omega, by omega, ?_⟩
    rw [join_snoc (by simp), ← e2]
    exact hnx _ _ _ (Ow.le.refl _) sd ⟨hk, rfl, rfl⟩
  · rintro ρ O' ⟨_, rfl, rfl⟩
    rw [strs_len, List.take_length, ← hh]
    walk_at "tx"
    refine ⟨_, qv_of_lv he, by rw [List.length_map]; omega, se, ?_⟩
    refine lc_map (gd := tgN 4) offD (fun o => .str (lineS names o)) se offs [] (fun o hm => ⟨_, rfl, fun R hR => ?_⟩) ?_
    · walk_at "tx"
      exact ⟨c, d, names, o, rfl, hd, hN, hc, c12, ho o hm, hR⟩
    · refine ⟨by simp; omega, ?_⟩
      have : D.str (headS names) :: ([] ++ offs.map fun o => D.str (lineS names o)) = strsD (headS names :: offs.map (lineS names)) := by
        unfold strsD
        simp
      rw [this]
      exact mkA_here q
theorem show_sign {q : Rat} : ∀ c ∈ tl (showS q), c = 45 ∨ (47 ≤ c ∧ c ≤ 57) := fun c hc => by
  rw [tl_show] at hc
  unfold showR at hc
  split at hc
  · rcases showI_sign c hc with h | h <;> omega
  · rcases List.mem_append.mp hc with hc | hc
    · rcases showI_sign c hc with h | h <;> omega
    · rcases List.mem_cons.mp hc with h | hc
      · omega
      · rcases showI_sign c hc with h | h <;> omega
def PlainW (w : Str) : Prop := ∀ c ∈ tl w, c ≠ 10 ∧ c ≠ 32 ∧ c < 200
theorem join_all {P : Nat → Prop} {sep : Str} {ws : List Str} (hs : ∀ c ∈ tl sep, P c) (hw : ∀ w ∈ ws, ∀ c ∈ tl w, P c) : ∀ c ∈ tl (Txt.join sep ws), P c := by
  rw [tl_join]
  cases ws with
  | nil => intro c hc; cases hc
  | cons a r =>
    intro c hc
    rw [List.map_cons, joinL_flat] at hc
    rcases List.mem_append.mp hc with hc | hc
    · exact hw a (List.mem_cons_self ..) c hc
    · obtain ⟨l, hl, hc⟩ := List.mem_flatten.mp hc
      obtain ⟨x, hx, rfl⟩ := List.mem_map.mp hl
      obtain ⟨w, hw', rfl⟩ := List.mem_map.mp hx
      rcases List.mem_append.mp hc with hc | hc
      · exact hs c hc
      · exact hw w (List.mem_cons_of_mem _ hw') c hc
theorem head_join {names : List Str} (h : names ≠ []) : headS names = Txt.join ⟨#[32]⟩ (worldsS :: names) := by
  cases names with
  | nil => exact absurd rfl h
  | cons a r =>
    refine tl_inj ?_
    unfold headS
    rw [tl_app, tl_join, tl_join, List.map_cons, List.map_cons, List.map_cons, joinL_flat, joinL_flat, List.map_cons, List.flatten_cons]
    have e7 : tl (Str.ofString "worlds ") = tl worldsS ++ tl (⟨#[32]⟩ : Str) := by decide +kernel
    rw [e7]
    simp only [List.append_assoc]
theorem plain_keys : PlainW worldsS ∧ PlainW offerS ∧ PlainW askS ∧ PlainW bidS ∧ PlainW ifS := by
  unfold PlainW
  refine ⟨?_, ?_, ?_, ?_, ?_⟩ <;> decide +kernel
theorem plain_name {w : Str} (h : nameW w = true) : PlainW w := fun c hc => by
  unfold nameW at h
  simp only [Bool.and_eq_true, List.all_eq_true] at h
  have := h.2 c hc
  unfold letterB at this
  simp only [Bool.and_eq_true, decide_eq_true_eq] at this
  omega
theorem plain_show {q : Rat} : PlainW (showS q) := fun c hc => by rcases show_sign c hc with h | h <;> omega
theorem plain_price {key : Str} {x : Option Rat} (hk : PlainW key) : ∀ w ∈ priceW key x, PlainW w := by
  cases x with
  | none => intro w hw; cases hw
  | some q =>
    intro w hw
    rcases List.mem_cons.mp hw with rfl | hw
    · exact hk
    · rw [List.mem_singleton.mp hw]; exact plain_show
theorem plain_words {c : Nat} {names : List Str} {o : Off} (hN : ∀ w ∈ names, nameW w = true) (hc : names.length = c) (h : OffT c o) : ∀ w ∈ wordsOf names o, PlainW w := fun w hw => by
  obtain ⟨k1, k2, k3, k4, k5⟩ := plain_keys
  unfold wordsOf at hw
  rcases List.mem_append.mp hw with hw | hw
  · rcases List.mem_append.mp hw with hw | hw
    · rcases List.mem_append.mp hw with hw | hw
      · rcases List.mem_cons.mp hw with rfl | hw
        · exact k2
        · obtain ⟨q, hq, rfl⟩ := List.mem_map.mp hw
          exact plain_show
      · exact plain_price k3 w hw
    · exact plain_price k4 w hw
  · cases he : o.ev with
    | none => rw [he] at hw; cases hw
    | some l =>
      rw [he] at hw
      rcases List.mem_cons.mp hw with rfl | hw
      · exact k5
      · obtain ⟨j, hj, rfl⟩ := List.mem_map.mp hw
        have := (h.ev l he).2.2 j hj
        rw [List.getD_eq_getElem?_getD, List.getElem?_eq_getElem (by omega)]
        exact plain_name (hN _ (List.getElem_mem (l := names) (n := j) (by omega)))
theorem line_signs {ws : List Str} (h : ∀ w ∈ ws, PlainW w) : ∀ c ∈ tl (Txt.join ⟨#[32]⟩ ws), c ≠ 10 ∧ c < 200 :=
  join_all (P := fun c => c ≠ 10 ∧ c < 200) (fun c hc => by
    have : c = 32 := List.mem_singleton.mp hc
    omega) fun w hw c hc => by
    have := h w hw c hc
    omega
theorem text_signs {c : Nat} {names : List Str} {offs : List Off} (hN : NamesOk names) (hc : names.length = c) (ho : ∀ o ∈ offs, OffT c o) : ∀ l ∈ headS names :: offs.map (lineS names), ∀ x ∈ tl l, x ≠ 10 ∧ x < 200 := fun l hl => by
  rcases List.mem_cons.mp hl with rfl | hl
  · rw [head_join (fun z => by have := hN.1; rw [z] at this; simp at this)]
    exact line_signs fun w hw => by
      rcases List.mem_cons.mp hw with rfl | hw
      · exact plain_keys.1
      · exact plain_name (hN.2.2.1 w hw)
  · obtain ⟨o, h1, rfl⟩ := List.mem_map.mp hl
    exact line_signs (plain_words hN.2.2.1 hc (ho o h1))
theorem names_short {names : List Str} (hN : ∀ w ∈ names, nameW w = true) : ∀ w ∈ names, w.length ≤ 8 := fun w hw => (nameW_asc (hN w hw)).1
theorem lines_len {c : Nat} {names : List Str} {offs : List Off} (hN : NamesOk names) (hc : names.length = c) (ho : ∀ o ∈ offs, OffT c o) : ∀ l ∈ headS names :: offs.map (lineS names), l.length ≤ 1920 := fun l hl => by
  have h12 := hN.2.1
  have ns := names_short hN.2.2.1
  rcases List.mem_cons.mp hl with rfl | hl
  · have := head_len ns h12
    omega
  · obtain ⟨o, h1, rfl⟩ := List.mem_map.mp hl
    exact (words_short ns hc (by omega) (ho o h1)).len
def badWords (b : Str) : List Str :=
  [Str.ofString "", Str.ofString "-", Str.ofString "-0", Str.ofString "+1", Str.ofString "01", Str.ofString "-01", Str.ofString "1.0", Str.ofString "x", Str.ofString "1/", Str.ofString "/2", Str.ofString "1/0", Str.ofString "1/1", Str.ofString "2/4", Str.ofString "0/5", Str.ofString "1/-2", Str.ofString "1/02",
   Str.ofString "--1", Str.ofString "1/2/3", Str.ofString "1x", Str.ofString "1" ++ Txt.zfill b 30, Str.ofString "-1" ++ Txt.zfill b 30, Str.ofString "1/1" ++ Txt.zfill b 30,
   b ++ Str.ofString "/1", Str.ofString "0/" ++ b, Str.ofString "-0/3", Str.ofString "1//2", Str.ofString "-/2", Str.ofString "3/3", Str.ofString "00", Str.ofString "1_0", Str.ofString "1/1_1", Str.ofString "1 "]
/-- figures of a number from 2 on, thirty at the most -/
structure Big (b : Str) (n : Nat) : Prop where
  tl_ : tl b = showN n
  two : 2 ≤ n
  len : (tl b).length ≤ 30
theorem big_of {n : Nat} (h2 : 2 ≤ n) (h : n < 10 ^ 30) : Big (Str.ofString (toString (n : Int))) n := by
  have e : tl (Str.ofString (toString (n : Int))) = showN n := by
    rw [tl_str]; unfold showI; rw [if_neg (by omega)]; simp
  exact ⟨e, h2, by rw [e]; exact showN_len (by decide) h⟩
theorem Big.digit {b : Str} {n : Nat} (h : Big b n) : ∀ c ∈ tl b, 48 ≤ c ∧ c ≤ 57 := fun c hc => by
  rw [h.tl_] at hc
  exact showN_all c hc
theorem zfill_tl {b : Str} {n : Nat} (h : Big b n) : tl (Txt.zfill b 30) = List.replicate (30 - (tl b).length) 48 ++ tl b := by
  have hl := h.len
  unfold Txt.zfill
  rw [len_tl]
  by_cases h1 : (30 : Int) ≤ ((tl b).length : Int)
  · rw [if_pos h1]
    have : 30 - (tl b).length = 0 := by omega
    rw [this]; rfl
  · rw [if_neg h1]
    have e : zfilled b ((30 : Int).toNat - (tl b).length) = PySem.Builtin.Str.padded b ((30 : Int).toNat - (tl b).length) 0 48 := by
      unfold zfilled
      have hne : tl b ≠ [] := by rw [h.tl_]; exact showN_ne
      obtain ⟨d, l, e⟩ := List.exists_cons_of_ne_nil hne
      have hd := h.digit d (by rw [e]; simp)
      have e0 : b.cps[0]? = some d := by
        have : b.cps.toList[0]? = some d := by
          have e : b.cps.toList = d :: l := e
          rw [e]; rfl
        rwa [Array.getElem?_toList] at this
      rw [e0]
      split
      · rename_i q; cases q; omega
      · rename_i q; cases q; omega
      · rfl
    rw [e]
    unfold PySem.Builtin.Str.padded
    simp [tl]
theorem wholeW_long {z : Str} (h : 30 < (figs z).length) : wholeW z = false := by
  unfold wholeW
  rw [decide_eq_false (show ¬ (figs z).length ≤ 30 by omega)]
  simp
theorem rd_none {z : Str} {ys : List Str} (e : Txt.split z ⟨#[47]⟩ = ys) (h : ∃ y ∈ ys, wholeW y = false) : rdRat z = none := by
  unfold rdRat
  rw [e]
  obtain ⟨y, hy, hw⟩ := h
  rw [if_neg]
  intro q
  rw [List.all_eq_true] at q
  rw [q y hy] at hw
  cases hw
theorem split2 {a b : Str} (ha : 47 ∉ tl a) (hb : 47 ∉ tl b) {z : Str} (e : tl z = tl a ++ 47 :: tl b) : Txt.split z ⟨#[47]⟩ = [a, b] := by
  have ez : z = Txt.join ⟨#[47]⟩ [a, b] := tl_inj (by rw [e, tl_join]; simp [joinL_flat]; rfl)
  rw [ez]
  exact split_join (by simp) (by simp [ha, hb])
theorem bad_none {b : Str} {n : Nat} (h : Big b n) : ∀ w ∈ badWords b, rdRat w = none := by
  have hz := zfill_tl h
  have zl : (tl (Txt.zfill b 30)).length = 30 := by rw [hz, List.length_append, List.length_replicate]; have := h.len; omega
  have z47 : 47 ∉ tl (Txt.zfill b 30) := fun z => by
    rw [hz] at z
    rcases List.mem_append.mp z with q | q
    · have := (List.mem_replicate.mp q).2; omega
    · have := h.digit _ q; omega
  have b47 : 47 ∉ tl b := fun z => by have := h.digit _ z; omega
  have t1 : tl (Str.ofString "1") = [49] := by rfl
  have tm : tl (Str.ofString "-1") = [45, 49] := by rfl
  have t3 : tl (Str.ofString "1/1") = [49, 47, 49] := by rfl
  have t4 : tl (Str.ofString "/1") = [47, 49] := by rfl
  have t5 : tl (Str.ofString "0/") = [48, 47] := by rfl
  have t0 : tl (Str.ofString "0") = [48] := by rfl
  unfold badWords
  simp only [List.forall_mem_cons]
  refine ⟨by decide +kernel, by decide +kernel, by decide +kernel, by decide +kernel, by decide +kernel, by decide +kernel, by decide +kernel, by decide +kernel, by decide +kernel, by decide +kernel, by decide +kernel, by decide +kernel, by decide +kernel, by decide +kernel, by decide +kernel, by decide +kernel,
    by decide +kernel, by decide +kernel, by decide +kernel, ?_, ?_, ?_, ?_, ?_, by decide +kernel, by decide +kernel, by decide +kernel, by decide +kernel, by decide +kernel, by decide +kernel, by decide +kernel, by decide +kernel, fun w hw => nomatch hw⟩
  · refine rd_none (split_one (by rw [tl_app, t1]; simp; exact z47)) ⟨_, List.mem_singleton.mpr rfl, wholeW_long ?_⟩
    unfold figs
    rw [tl_app, t1]
    simp [zl]
  · refine rd_none (split_one (by rw [tl_app, tm]; simp; exact z47)) ⟨_, List.mem_singleton.mpr rfl, wholeW_long ?_⟩
    unfold figs
    rw [tl_app, tm]
    simp [zl]
  · refine rd_none (split2 (a := Str.ofString "1") (b := Str.ofString "1" ++ Txt.zfill b 30) (by rw [t1]; simp) (by rw [tl_app, t1]; simp; exact z47) (by rw [tl_app, tl_app, t1, t3]; rfl)) ⟨_, List.mem_cons_of_mem _ (List.mem_singleton.mpr rfl), wholeW_long ?_⟩
    unfold figs
    rw [tl_app, t1]
    simp [zl]
  · unfold rdRat
    rw [split2 (a := b) (b := Str.ofString "1") b47 (by rw [t1]; simp) (by rw [tl_app, t1, t4])]
    split
    · show (if intW (Str.ofString "1") < 2 then none else _) = none
      rw [if_pos (by decide +kernel)]
    · rfl
  · unfold rdRat
    rw [split2 (a := Str.ofString "0") (b := b) (by rw [t0]; simp) b47 (by rw [tl_app, t0, t5]; rfl)]
    split
    · have ei : intW b = (n : Int) := int_show (by rw [h.tl_]; unfold showI; rw [if_neg (by omega)]; simp) (by
        have := h.len
        rw [h.tl_] at this
        have hv : NumText.digitsVal (showN n) < 10 ^ (showN n).length := digits_lt _ _ rfl showN_all
        rw [showN_val] at hv
        rw [Int.natAbs_natCast]
        exact Nat.lt_of_lt_of_le hv (Nat.pow_le_pow_right (by decide) this))
      have e0 : intW (Str.ofString "0") = 0 := by decide +kernel
      show (if intW b < 2 then none else if (Rat.divInt (intW (Str.ofString "0")) (intW b)).num = intW (Str.ofString "0") ∧ ((Rat.divInt (intW (Str.ofString "0")) (intW b)).den : Int) = intW b then some (Rat.divInt (intW (Str.ofString "0")) (intW b)) else none) = none
      rw [ei, e0, Rat.zero_divInt]
      have h2 := h.two
      rw [if_neg (by omega), if_neg]
      rintro ⟨_, q⟩
      have : ((0 : Rat).den : Int) = 1 := rfl
      omega
    · rfl
/-- what signs they are made of -/
theorem bad_plain {b : Str} {n : Nat} (h : Big b n) : ∀ w ∈ badWords b, (∀ c ∈ tl w, c ≠ 10 ∧ c < 200) ∧ w.length ≤ 33 ∧ (w = Str.ofString "1 " ∨ 32 ∉ tl w) := by
  have hz := zfill_tl h
  have zl : (tl (Txt.zfill b 30)).length = 30 := by rw [hz, List.length_append, List.length_replicate]; have := h.len; omega
  have zd : ∀ c ∈ tl (Txt.zfill b 30), 48 ≤ c ∧ c ≤ 57 := fun c z => by
    rw [hz] at z
    rcases List.mem_append.mp z with q | q
    · have := (List.mem_replicate.mp q).2; omega
    · exact h.digit _ q
  have bl := h.len
  have two : ∀ (a z : Str) (l : List Nat), tl a = l → (l.all fun c => decide (c ≠ 10) && decide (c < 200) && decide (c ≠ 32)) = true → l.length ≤ 3 → (∀ c ∈ tl z, 48 ≤ c ∧ c ≤ 57) → (tl z).length ≤ 30 →
      (∀ c ∈ tl (a ++ z), c ≠ 10 ∧ c < 200) ∧ (a ++ z).length ≤ 33 ∧ (a ++ z = Str.ofString "1 " ∨ 32 ∉ tl (a ++ z)) := fun a z l ea hl l3 hd hz => by
    have al : ∀ c ∈ tl a, c ≠ 10 ∧ c < 200 ∧ c ≠ 32 := fun c hc => by
      rw [ea] at hc
      have := List.all_eq_true.mp hl c hc
      simp only [Bool.and_eq_true, decide_eq_true_eq] at this
      exact ⟨this.1.1, this.1.2, this.2⟩
    rw [len_tl, tl_app]
    refine ⟨fun c hc => ?_, by rw [List.length_append, ea]; omega, .inr fun z => ?_⟩
    · rcases List.mem_append.mp hc with q | q
      · exact ⟨(al c q).1, (al c q).2.1⟩
      · have := hd c q; omega
    · rcases List.mem_append.mp z with q | q
      · exact (al _ q).2.2 rfl
      · have := hd _ q; omega
  have lit : ∀ (a : Str), ((tl a).all (fun c => decide (c ≠ 10) && decide (c < 200) && decide (c ≠ 32)) && decide ((tl a).length ≤ 33)) = true → (∀ c ∈ tl a, c ≠ 10 ∧ c < 200) ∧ a.length ≤ 33 ∧ (a = Str.ofString "1 " ∨ 32 ∉ tl a) := fun a q => by
    rw [Bool.and_eq_true, decide_eq_true_eq, List.all_eq_true] at q
    have al : ∀ c ∈ tl a, c ≠ 10 ∧ c < 200 ∧ c ≠ 32 := fun c hc => by
      have := q.1 c hc
      simp only [Bool.and_eq_true, decide_eq_true_eq] at this
      exact ⟨this.1.1, this.1.2, this.2⟩
    rw [len_tl]
    exact ⟨fun c hc => ⟨(al c hc).1, (al c hc).2.1⟩, q.2, .inr fun z => (al _ z).2.2 rfl⟩
  unfold badWords
  simp only [List.forall_mem_cons]
  refine ⟨lit _ (by decide +kernel), lit _ (by decide +kernel), lit _ (by decide +kernel), lit _ (by decide +kernel), lit _ (by decide +kernel), lit _ (by decide +kernel), lit _ (by decide +kernel), lit _ (by decide +kernel), lit _ (by decide +kernel), lit _ (by decide +kernel), lit _ (by decide +kernel), lit _ (by decide +kernel), lit _ (by decide +kernel), lit _ (by decide +kernel), lit _ (by decide +kernel), lit _ (by decide +kernel),
    lit _ (by decide +kernel), lit _ (by decide +kernel), lit _ (by decide +kernel), two _ _ [49] (by rfl) (by decide) (by decide) zd (by omega), two _ _ [45, 49] (by rfl) (by decide) (by decide) zd (by omega), two _ _ [49, 47, 49] (by rfl) (by decide) (by decide) zd (by omega), ?_, two _ _ [48, 47] (by rfl) (by decide) (by decide) h.digit bl,
    lit _ (by decide +kernel), lit _ (by decide +kernel), lit _ (by decide +kernel), lit _ (by decide +kernel), lit _ (by decide +kernel), lit _ (by decide +kernel), lit _ (by decide +kernel), ⟨by decide +kernel, by decide +kernel, by first | exact .inl rfl | exact .inl trivial⟩, fun w hw => nomatch hw⟩
  have t4 : tl (Str.ofString "/1") = [47, 49] := by rfl
  rw [len_tl, tl_app, t4]
  refine ⟨fun c hc => ?_, by rw [List.length_append]; simp; omega, .inr fun z => ?_⟩
  · rcases List.mem_append.mp hc with q | q
    · have := h.digit c q; omega
    · simp at q; omega
  · rcases List.mem_append.mp z with q | q
    · have := h.digit _ q; omega
    · simp at q
def oneS : Str := Str.ofString "1"
def worthsS (c : Nat) : Str := Txt.mul (Str.ofString " 1") (c : Int)
def goodS (c : Nat) : Str := Str.ofString "offer" ++ worthsS c
/-- words, each behind a blank -/
def FW (L : List Str) : List Nat := (L.map fun w => 32 :: tl w).flatten
theorem FW_app {a b : List Str} : FW (a ++ b) = FW a ++ FW b := by unfold FW; rw [List.map_append, List.flatten_append]
theorem FW_cons {w : Str} {l : List Str} : FW (w :: l) = 32 :: (tl w ++ FW l) := rfl
theorem FW_nil : FW [] = [] := rfl
theorem split_line {z w0 : Str} {L : List Str} (e : tl z = tl w0 ++ FW L) (h0 : 32 ∉ tl w0) (h : ∀ w ∈ L, 32 ∉ tl w) : Txt.split z ⟨#[32]⟩ = w0 :: L := by
  have ez : z = Txt.join ⟨#[32]⟩ (w0 :: L) := tl_inj (by
    rw [e, tl_join, List.map_cons, joinL_flat]
    unfold FW
    rw [List.map_map]; rfl)
  rw [ez]
  exact split_join (by simp) fun y hy => by
    rcases List.mem_cons.mp hy with q | q
    · rw [q]; exact h0
    · exact h y q
theorem mul_tl {c : Nat} : tl (worthsS c) = FW (List.replicate c oneS) := by
  have e1 : tl (Str.ofString " 1") = [32, 49] := by rfl
  have key : ∀ (k : Nat) (acc : Array Nat), ((List.replicate k (Str.ofString " 1").cps).foldl (· ++ ·) acc).toList = acc.toList ++ FW (List.replicate k oneS) := by
    intro k
    induction k with
    | zero => intro acc; simp [FW]
    | succ k ih =>
      intro acc
      rw [List.replicate_succ, List.foldl_cons, ih, List.replicate_succ, FW_cons, Array.toList_append]
      have e2 : (Str.ofString " 1").cps.toList = [32, 49] := e1
      have e3 : tl oneS = [49] := by rfl
      rw [e2, e3]
      simp
  unfold worthsS Txt.mul
  by_cases h1 : (c : Int) < 1
  · rw [if_pos h1]
    have : c = 0 := by omega
    subst this; rfl
  · rw [if_neg h1]
    split
    · rename_i h2
      have h3 : (Str.ofString " 1").length = 2 := by rfl
      rw [h3] at h2
      simp at h2
      have : c = 1 := by omega
      subst this; rfl
    · have := key c #[]
      simp at this
      unfold tl
      rw [Int.toNat_natCast]
      exact this
theorem cut_tl {c : Nat} : tl (cutS (worthsS c) (some 2) none) = FW (List.replicate (c - 1) oneS) := by
  have := tl_from (z := worthsS c) (k := 2)
  rw [show ((2 : Nat) : Int) = 2 from rfl] at this
  rw [this, mul_tl]
  cases c with
  | zero => rfl
  | succ c => rw [List.replicate_succ, FW_cons]; rfl
theorem good_tl {c : Nat} : tl (goodS c) = tl (Str.ofString "offer") ++ FW (List.replicate c oneS) := by unfold goodS; rw [tl_app, mul_tl]
theorem one_free {k : Nat} : ∀ w ∈ List.replicate k oneS, 32 ∉ tl w := fun w hw => by rw [(List.mem_replicate.mp hw).2]; decide +kernel
theorem rep_one {c : Nat} (h : 1 ≤ c) {v : Str} : List.replicate (c - 1) oneS ++ [Str.ofString "1", v] = List.replicate c oneS ++ [v] := by
  obtain ⟨k, rfl⟩ : ∃ k, c = k + 1 := ⟨c - 1, by omega⟩
  rw [Nat.add_sub_cancel, List.replicate_succ', List.append_assoc]; rfl
theorem rd_one : rdRat oneS = some 1 := by decide +kernel
theorem takeN_ones {ws : List Str} : ∀ {k m : Nat}, takeN (k + m) (List.replicate k oneS ++ ws) = (takeN m ws).map fun p => (List.replicate k 1 ++ p.1, p.2)
  | 0, m => by simp
  | k + 1, m => by
    rw [show k + 1 + m = (k + m) + 1 by omega, List.replicate_succ, List.cons_append]
    show (match rdRat oneS, takeN (k + m) (List.replicate k oneS ++ ws) with
      | some q, some (r, ws') => some (q :: r, ws')
      | _, _ => none) = _
    rw [rd_one, takeN_ones]
    cases takeN m ws with
    | none => rfl
    | some p => rfl
theorem row_first {names L : List Str} {w0 : Str} (h : tl w0 ≠ tl offerS) : rowP names (w0 :: L) = none := by
  show (if tl w0 = tl offerS then _ else none) = none
  rw [if_neg h]
theorem row_few {names L ws : List Str} {c k : Nat} (hc : names.length = c) (hk : k < c) (e : L = List.replicate k oneS ++ ws) (h : ws = [] ∨ ∃ w l, ws = w :: l ∧ rdRat w = none) : rowP names (Str.ofString "offer" :: L) = none := by
  show (if tl (Str.ofString "offer") = tl offerS then match takeN names.length L with
      | none => none
      | some (rs, w1) => match takeP askS w1 with
        | none => none
        | some (x, w2) => match takeP bidS w2 with
          | none => none
          | some (y, w3) => (evP names w3).map fun e => (⟨rs, x, y, e⟩ : Off)
      else none) = none
  rw [if_pos (show tl (Str.ofString "offer") = tl offerS from rfl), hc, e, show c = k + (c - k) by omega, takeN_ones, show c - k = (c - k - 1) + 1 by omega]
  have : takeN (c - k - 1 + 1) ws = none := by
    rcases h with rfl | ⟨w, l, rfl, hw⟩
    · rfl
    · unfold takeN; rw [hw]
  rw [this]; rfl
def tailP (names ws : List Str) (rs : List Rat) : Option Off := match takeP askS ws with
  | none => none
  | some (x, w2) => match takeP bidS w2 with
    | none => none
    | some (y, w3) => (evP names w3).map fun e => (⟨rs, x, y, e⟩ : Off)
def TailN (names ws : List Str) : Prop := ∀ rs, tailP names ws rs = none
theorem row_tail {names ws : List Str} {c : Nat} (hc : names.length = c) (h : TailN names ws) : rowP names (Str.ofString "offer" :: (List.replicate c oneS ++ ws)) = none := by
  show (if tl (Str.ofString "offer") = tl offerS then match takeN names.length (List.replicate c oneS ++ ws) with
      | none => none
      | some (rs, w1) => tailP names w1 rs
      else none) = none
  have e : takeN c (List.replicate c oneS ++ ws) = some (List.replicate c 1 ++ [], ws) := by
    have := takeN_ones (k := c) (m := 0) (ws := ws)
    rw [Nat.add_zero] at this
    rw [this]; rfl
  rw [if_pos (show tl (Str.ofString "offer") = tl offerS from rfl), hc, e]
  exact h _
theorem tail1 {names ws : List Str} (h : takeP askS ws = none) : TailN names ws := fun rs => by unfold tailP; rw [h]
theorem tail2 {names ws w2 : List Str} {x : Option Rat} (h : takeP askS ws = some (x, w2)) (h2 : takeP bidS w2 = none) : TailN names ws := fun rs => by
  unfold tailP; rw [h]
  show (match takeP bidS w2 with
    | none => none
    | some (y, w3) => (evP names w3).map fun e => (⟨rs, x, y, e⟩ : Off)) = none
  rw [h2]
theorem tail0 {names ws w2 w3 : List Str} {x y : Option Rat} (h : takeP askS ws = some (x, w2)) (h2 : takeP bidS w2 = some (y, w3)) (h3 : evP names w3 = none) : TailN names ws := fun rs => by
  unfold tailP; rw [h]
  show (match takeP bidS w2 with
    | none => none
    | some (y, w3) => (evP names w3).map fun e => (⟨rs, x, y, e⟩ : Off)) = none
  rw [h2]
  show (evP names w3).map _ = none
  rw [h3]; rfl
theorem take_ne {key w : Str} {l : List Str} (h : tl w ≠ tl key) : takeP key (w :: l) = some (none, w :: l) := takeP_none fun w' r e => by cases e; exact h
theorem take_bad {key w v : Str} {l : List Str} (h : tl w = tl key) (hv : rdRat v = none) : takeP key (w :: v :: l) = none := by
  show (if tl w = tl key then (rdRat v).map fun q => (some q, l) else _) = none
  rw [if_pos h, hv]; rfl
theorem take_one {key w : Str} {l : List Str} (h : tl w = tl key) : takeP key (w :: Str.ofString "1" :: l) = some (some 1, l) := by
  show (if tl w = tl key then (rdRat (Str.ofString "1")).map fun q => (some q, l) else _) = _
  rw [if_pos h, show rdRat (Str.ofString "1") = some 1 from rd_one]; rfl
theorem ev_ne {names : List Str} {w : Str} {l : List Str} (h : tl w ≠ tl ifS) : evP names (w :: l) = none := by
  show (if tl w = tl ifS ∧ l ≠ [] then _ else none) = none
  rw [if_neg fun z => h z.1]
/-- what is bad whatever the names are -/
def endB : List Str → Bool
  | [] => false
  | w :: l => !decide (tl w = tl ifS) || l.isEmpty
theorem endB_ev {names : List Str} : ∀ {l : List Str}, endB l = true → evP names l = none
  | [], h => by cases h
  | w :: l, h => by
    show (if tl w = tl ifS ∧ l ≠ [] then (evW names l []).map some else none) = none
    rw [if_neg]
    rintro ⟨h1, h2⟩
    have h : (!decide (tl w = tl ifS) || l.isEmpty) = true := h
    rw [decide_eq_true h1] at h
    cases l with
    | nil => exact h2 rfl
    | cons a b => simp at h
def tailB (ws : List Str) : Bool := match takeP askS ws with
  | none => true
  | some (_, w2) => match takeP bidS w2 with
    | none => true
    | some (_, w3) => endB w3
theorem tail_const {names ws : List Str} (h : tailB ws = true) : TailN names ws := by
  unfold tailB at h
  cases h1 : takeP askS ws with
  | none => exact tail1 h1
  | some p =>
    obtain ⟨x, w2⟩ := p
    rw [h1] at h
    have h : (match takeP bidS w2 with
      | none => true
      | some (_, w3) => endB w3) = true := h
    cases h2 : takeP bidS w2 with
    | none => exact tail2 h1 h2
    | some p =>
      obtain ⟨y, w3⟩ := p
      rw [h2] at h
      exact tail0 h1 h2 (endB_ev h)
theorem tail_first {names l : List Str} {w : Str} (h1 : tl w ≠ tl askS) (h2 : tl w ≠ tl bidS) (h3 : tl w ≠ tl ifS) : TailN names (w :: l) := tail0 (take_ne h1) (take_ne h2) (ev_ne h3)
theorem tail_bid {names l : List Str} {w : Str} (h3 : tl w ≠ tl ifS) : TailN names (Str.ofString "bid" :: Str.ofString "1" :: w :: l) := tail0 (take_ne (by decide +kernel)) (take_one rfl) (ev_ne h3)
theorem tail_if {names l : List Str} (h : evW names l [] = none) : TailN names (Str.ofString "if" :: l) :=
  tail0 (x := none) (y := none) (w2 := Str.ofString "if" :: l) (w3 := Str.ofString "if" :: l) (take_ne (by decide +kernel)) (take_ne (by decide +kernel)) (by
    show (if tl (Str.ofString "if") = tl ifS ∧ l ≠ [] then (evW names l []).map some else none) = none
    rw [h]; split <;> rfl)
theorem evW_none {names : List Str} : ∀ {ws : List Str} {acc : List Nat}, (∃ w ∈ ws, idxW names w = none) → evW names ws acc = none
  | [], _, ⟨_, h, _⟩ => nomatch h
  | v :: ws, acc, ⟨w, h, e⟩ => by
    show (match idxW names v with
      | none => none
      | some j => if ∃ i, acc.getLast? = some i ∧ j ≤ i then none else evW names ws (acc ++ [j])) = none
    cases hv : idxW names v with
    | none => rfl
    | some j =>
      show (if ∃ i, acc.getLast? = some i ∧ j ≤ i then none else evW names ws (acc ++ [j])) = none
      split
      · rfl
      · refine evW_none ⟨w, ?_, e⟩
        rcases List.mem_cons.mp h with z | z
        · rw [z, hv] at e; cases e
        · exact z
theorem nameW_tl {a b : Str} (h : tl a = tl b) : nameW a = nameW b := by unfold nameW; rw [h]
theorem ev_bad {names ws : List Str} {acc : List Nat} (hN : NamesOk names) (h : ∃ w ∈ ws, nameW w = false) : evW names ws acc = none := by
  obtain ⟨w, hw, hb⟩ := h
  refine evW_none ⟨w, hw, ?_⟩
  unfold idxW
  rw [List.findIdx?_eq_none_iff]
  intro y hy
  rw [decide_eq_false]
  intro z
  have := hN.2.2.1 y hy
  rw [nameW_tl z, hb] at this
  cases this
theorem idx_at {names : List Str} (hN : NamesOk names) {j : Nat} {w : Str} (h : names[j]? = some w) : idxW names w = some j := by
  obtain ⟨hj, rfl⟩ := List.getElem?_eq_some_iff.mp h
  exact idx_self hN.2.2.2 hj
theorem ev_two {names : List Str} {a b : Str} {i j : Nat} (ha : idxW names a = some i) (hb : idxW names b = some j) (h : j ≤ i) : evW names [a, b] [] = none := by
  show (match idxW names a with
      | none => none
      | some j => if ∃ i, ([] : List Nat).getLast? = some i ∧ j ≤ i then none else evW names [b] ([] ++ [j])) = none
  rw [ha]
  show (if ∃ k, ([] : List Nat).getLast? = some k ∧ i ≤ k then none else evW names [b] ([] ++ [i])) = none
  rw [if_neg (by rintro ⟨_, q, _⟩; cases q)]
  show (match idxW names b with
      | none => none
      | some j => if ∃ k, ([i] : List Nat).getLast? = some k ∧ j ≤ k then none else evW names [] ([i] ++ [j])) = none
  rw [hb]
  show (if ∃ k, ([i] : List Nat).getLast? = some k ∧ j ≤ k then none else evW names [] ([i] ++ [j])) = none
  rw [if_pos ⟨i, rfl, h⟩]
theorem ev_down {names : List Str} {one last : Str} {c : Nat} (hN : NamesOk names) (hc : names.length = c) (h1 : names[0]? = some one) (hl : names[c - 1]? = some last) : evW names [last, one] [] = none := ev_two (idx_at hN hl) (idx_at hN h1) (Nat.zero_le _)
theorem ev_twice {names : List Str} {one : Str} (hN : NamesOk names) (h1 : names[0]? = some one) : evW names [one, one] [] = none := ev_two (idx_at hN h1) (idx_at hN h1) (Nat.le_refl _)
theorem name_A {w : Str} : nameW (w ++ Str.ofString "A") = false := by
  have e : tl (Str.ofString "A") = [65] := by rfl
  unfold nameW
  rw [tl_app, e, List.all_append]
  have : ([65] : List Nat).all letterB = false := by decide
  rw [this]; simp
theorem free_A {w : Str} (h : 32 ∉ tl w) : 32 ∉ tl (w ++ Str.ofString "A") := by
  have e : tl (Str.ofString "A") = [65] := by rfl
  rw [tl_app, e]
  simp; exact h
theorem bl0 : tl (Str.ofString "") = [] := by rfl
theorem bl1 : tl (Str.ofString "offer") = [111, 102, 102, 101, 114] := by rfl
theorem bl2 : tl (Str.ofString "Offer") = [79, 102, 102, 101, 114] := by rfl
theorem bl3 : tl (Str.ofString "offers") = [111, 102, 102, 101, 114, 115] := by rfl
theorem bl4 : tl (Str.ofString " ") = [32] := by rfl
theorem bl5 : tl (Str.ofString " 1") = [32, 49] := by rfl
theorem bl6 : tl (Str.ofString "worlds ") = [119, 111, 114, 108, 100, 115, 32] := by rfl
theorem bl7 : tl (Str.ofString " ask") = [32, 97, 115, 107] := by rfl
theorem bl8 : tl (Str.ofString " bid") = [32, 98, 105, 100] := by rfl
theorem bl9 : tl (Str.ofString " ask bid") = [32, 97, 115, 107, 32, 98, 105, 100] := by rfl
theorem bl10 : tl (Str.ofString " if") = [32, 105, 102] := by rfl
theorem bl11 : tl (Str.ofString " bid 1 ask 2") = [32, 98, 105, 100, 32, 49, 32, 97, 115, 107, 32, 50] := by rfl
theorem bl12 : tl (Str.ofString " ask 1 ask 2") = [32, 97, 115, 107, 32, 49, 32, 97, 115, 107, 32, 50] := by rfl
theorem bl13 : tl (Str.ofString " bid 1 bid 1") = [32, 98, 105, 100, 32, 49, 32, 98, 105, 100, 32, 49] := by rfl
theorem bl14 : tl (Str.ofString " ask 1 2") = [32, 97, 115, 107, 32, 49, 32, 50] := by rfl
theorem bl15 : tl (Str.ofString " Ask 1") = [32, 65, 115, 107, 32, 49] := by rfl
theorem bl16 : tl (Str.ofString " if ") = [32, 105, 102, 32] := by rfl
theorem bl17 : tl (Str.ofString " if abcdefghi") = [32, 105, 102, 32, 97, 98, 99, 100, 101, 102, 103, 104, 105] := by rfl
theorem bl18 : tl (Str.ofString "A") = [65] := by rfl
theorem bl19 : tl (Str.ofString " bid 1 2") = [32, 98, 105, 100, 32, 49, 32, 50] := by rfl
theorem bl20 : tl (Str.ofString " ask 1  bid 2") = [32, 97, 115, 107, 32, 49, 32, 32, 98, 105, 100, 32, 50] := by rfl
theorem bl21 : tl (Str.ofString "offer ") = [111, 102, 102, 101, 114, 32] := by rfl
theorem bl22 : tl (Str.ofString " if  ") = [32, 105, 102, 32, 32] := by rfl
theorem bl23 : tl (Str.ofString " if 1") = [32, 105, 102, 32, 49] := by rfl
theorem bl24 : tl (Str.ofString " ask 1 if") = [32, 97, 115, 107, 32, 49, 32, 105, 102] := by rfl
theorem bl25 : tl (Str.ofString "  if ") = [32, 32, 105, 102, 32] := by rfl
theorem bl26 : tl (Str.ofString " ask ") = [32, 97, 115, 107, 32] := by rfl
theorem bl27 : tl (Str.ofString " bid ") = [32, 98, 105, 100, 32] := by rfl
theorem bl28 : tl (Str.ofString " ask 1 bid ") = [32, 97, 115, 107, 32, 49, 32, 98, 105, 100, 32] := by rfl
theorem bl29 : tl (Str.ofString "1") = [49] := by rfl
theorem bl30 : tl (Str.ofString "2") = [50] := by rfl
theorem bl31 : tl (Str.ofString "ask") = [97, 115, 107] := by rfl
theorem bl32 : tl (Str.ofString "bid") = [98, 105, 100] := by rfl
theorem bl33 : tl (Str.ofString "if") = [105, 102] := by rfl
theorem bl34 : tl (Str.ofString "worlds") = [119, 111, 114, 108, 100, 115] := by rfl
theorem bl35 : tl (Str.ofString "abcdefghi") = [97, 98, 99, 100, 101, 102, 103, 104, 105] := by rfl
theorem bl36 : tl (Str.ofString "Ask") = [65, 115, 107] := by rfl
theorem bl37 : tl (Str.ofString "1 ") = [49, 32] := by rfl
theorem bl_one : tl oneS = [49] := by rfl
theorem ll0 : (Str.ofString "").length = 0 := by rfl
theorem ll1 : (Str.ofString "offer").length = 5 := by rfl
theorem ll2 : (Str.ofString "Offer").length = 5 := by rfl
theorem ll3 : (Str.ofString "offers").length = 6 := by rfl
theorem ll4 : (Str.ofString " ").length = 1 := by rfl
theorem ll5 : (Str.ofString " 1").length = 2 := by rfl
theorem ll6 : (Str.ofString "worlds ").length = 7 := by rfl
theorem ll7 : (Str.ofString " ask").length = 4 := by rfl
theorem ll8 : (Str.ofString " bid").length = 4 := by rfl
theorem ll9 : (Str.ofString " ask bid").length = 8 := by rfl
theorem ll10 : (Str.ofString " if").length = 3 := by rfl
theorem ll11 : (Str.ofString " bid 1 ask 2").length = 12 := by rfl
theorem ll12 : (Str.ofString " ask 1 ask 2").length = 12 := by rfl
theorem ll13 : (Str.ofString " bid 1 bid 1").length = 12 := by rfl
theorem ll14 : (Str.ofString " ask 1 2").length = 8 := by rfl
theorem ll15 : (Str.ofString " Ask 1").length = 6 := by rfl
theorem ll16 : (Str.ofString " if ").length = 4 := by rfl
theorem ll17 : (Str.ofString " if abcdefghi").length = 13 := by rfl
theorem ll18 : (Str.ofString "A").length = 1 := by rfl
theorem ll19 : (Str.ofString " bid 1 2").length = 8 := by rfl
theorem ll20 : (Str.ofString " ask 1  bid 2").length = 13 := by rfl
theorem ll21 : (Str.ofString "offer ").length = 6 := by rfl
theorem ll22 : (Str.ofString " if  ").length = 5 := by rfl
theorem ll23 : (Str.ofString " if 1").length = 5 := by rfl
theorem ll24 : (Str.ofString " ask 1 if").length = 9 := by rfl
theorem ll25 : (Str.ofString "  if ").length = 5 := by rfl
theorem ll26 : (Str.ofString " ask ").length = 5 := by rfl
theorem ll27 : (Str.ofString " bid ").length = 5 := by rfl
theorem ll28 : (Str.ofString " ask 1 bid ").length = 11 := by rfl
theorem ll29 : (Str.ofString "1").length = 1 := by rfl
theorem ll30 : (Str.ofString "2").length = 1 := by rfl
theorem ll31 : (Str.ofString "ask").length = 3 := by rfl
theorem ll32 : (Str.ofString "bid").length = 3 := by rfl
theorem ll33 : (Str.ofString "if").length = 2 := by rfl
theorem ll34 : (Str.ofString "worlds").length = 6 := by rfl
theorem ll35 : (Str.ofString "abcdefghi").length = 9 := by rfl
theorem ll36 : (Str.ofString "Ask").length = 3 := by rfl
theorem ll37 : (Str.ofString "1 ").length = 2 := by rfl
theorem len_app {x y : Str} : (x ++ y).length = x.length + y.length := by rw [len_tl, tl_app, List.length_append, ← len_tl, ← len_tl]
theorem fr_nil : ∀ w ∈ ([] : List Str), 32 ∉ tl w := fun _ h => nomatch h
theorem fr_cons {a : Str} {l : List Str} (h : 32 ∉ tl a) (g : ∀ w ∈ l, 32 ∉ tl w) : ∀ w ∈ a :: l, 32 ∉ tl w := List.forall_mem_cons.mpr ⟨h, g⟩
theorem fr_app {a b : List Str} (h : ∀ w ∈ a, 32 ∉ tl w) (g : ∀ w ∈ b, 32 ∉ tl w) : ∀ w ∈ a ++ b, 32 ∉ tl w := List.forall_mem_append.mpr ⟨h, g⟩
local macro_rules | `(tactic| walk_at "bad") => `(tactic| (simp only [tl_app, good_tl, mul_tl, cut_tl, FW_app, FW_cons, FW_nil, bl0, bl1, bl2, bl3, bl4, bl5, bl6, bl7, bl8, bl9, bl10, bl11, bl12, bl13, bl14, bl15, bl16, bl17, bl18, bl19, bl20, bl21, bl22, bl23, bl24, bl25, bl26, bl27, bl28, bl29, bl30, bl31, bl32, bl33, bl34, bl35, bl36, bl37, bl_one, List.append_assoc, List.cons_append, List.nil_append, List.append_nil]))
def badP0 (c : Nat) (one last word : Str) : List Str := [Str.ofString "", Str.ofString "offer", Str.ofString "Offer" ++ worthsS c, Str.ofString "offers" ++ worthsS c, goodS c ++ Str.ofString " ", Str.ofString " " ++ goodS c, goodS c ++ Str.ofString " 1"]
def badP1 (c : Nat) (one last word : Str) : List Str := [Str.ofString "offer" ++ cutS (worthsS c) (some 2) none, Str.ofString "worlds " ++ one ++ Str.ofString " " ++ last, goodS c ++ Str.ofString " ask", goodS c ++ Str.ofString " bid"]
def badP2 (c : Nat) (one last word : Str) : List Str := [goodS c ++ Str.ofString " ask bid", goodS c ++ Str.ofString " if", goodS c ++ Str.ofString " bid 1 ask 2", goodS c ++ Str.ofString " ask 1 ask 2"]
def badP3 (c : Nat) (one last word : Str) : List Str := [goodS c ++ Str.ofString " bid 1 bid 1", goodS c ++ Str.ofString " ask 1 2", goodS c ++ Str.ofString " Ask 1", goodS c ++ Str.ofString " if " ++ last ++ Str.ofString " " ++ one]
def badP4 (c : Nat) (one last word : Str) : List Str := [goodS c ++ Str.ofString " if " ++ one ++ Str.ofString " " ++ one, goodS c ++ Str.ofString " if abcdefghi", goodS c ++ Str.ofString " if " ++ one ++ Str.ofString "A"]
def badP5 (c : Nat) (one last word : Str) : List Str := [goodS c ++ Str.ofString " if " ++ one ++ Str.ofString " bid 1 2", goodS c ++ Str.ofString " ask 1  bid 2", Str.ofString "offer " ++ worthsS c]
def badP6 (c : Nat) (one last word : Str) : List Str := [goodS c ++ Str.ofString " if " ++ one ++ Str.ofString " ", goodS c ++ Str.ofString " if  " ++ one, goodS c ++ Str.ofString " if 1", goodS c ++ Str.ofString " ask 1 if"]
def badP7 (c : Nat) (one last word : Str) : List Str := [goodS c ++ Str.ofString "  if " ++ one, Str.ofString "offer " ++ word ++ cutS (worthsS c) (some 2) none, Str.ofString "offer" ++ cutS (worthsS c) (some 2) none ++ Str.ofString " " ++ word]
def badP8 (c : Nat) (one last word : Str) : List Str := [goodS c ++ Str.ofString " ask " ++ word, goodS c ++ Str.ofString " bid " ++ word ++ Str.ofString " if " ++ one, goodS c ++ Str.ofString " ask 1 bid " ++ word]
def badLines (c : Nat) (one last word : Str) : List Str :=
  badP0 c one last word ++ badP1 c one last word ++ badP2 c one last word ++ badP3 c one last word ++ badP4 c one last word ++ badP5 c one last word ++ badP6 c one last word ++ badP7 c one last word ++ badP8 c one last word
/-- what is asked of a bad line -/
def BadL (names : List Str) (z : Str) : Prop := rowP names (Txt.split z ⟨#[32]⟩) = none
theorem bad_of {names L : List Str} {z w0 : Str} (e : tl z = tl w0 ++ FW L) (h0 : 32 ∉ tl w0) (h : ∀ w ∈ L, 32 ∉ tl w) (r : rowP names (w0 :: L) = none) : BadL names z := by
  unfold BadL; rw [split_line e h0 h]; exact r
theorem bad0 {names : List Str} {c : Nat} {one last : Str} (hN : NamesOk names) (hc : names.length = c) (h1 : names[0]? = some one) (hl : names[c - 1]? = some last) (f1 : 32 ∉ tl one) (fl : 32 ∉ tl last) : BadL names (Str.ofString "") := by
  have c2 := hN.1
  exact bad_of (w0 := Str.ofString "") (L := ([] : List Str)) (by walk_at "bad") (by decide +kernel) fr_nil (row_first (by decide +kernel))
theorem bad1 {names : List Str} {c : Nat} {one last : Str} (hN : NamesOk names) (hc : names.length = c) (h1 : names[0]? = some one) (hl : names[c - 1]? = some last) (f1 : 32 ∉ tl one) (fl : 32 ∉ tl last) : BadL names (Str.ofString "offer") := by
  have c2 := hN.1
  exact bad_of (w0 := Str.ofString "offer") (L := ([] : List Str)) (by walk_at "bad") (by decide +kernel) fr_nil (row_few (k := 0) (ws := []) hc (by omega) rfl (.inl rfl))
theorem bad2 {names : List Str} {c : Nat} {one last : Str} (hN : NamesOk names) (hc : names.length = c) (h1 : names[0]? = some one) (hl : names[c - 1]? = some last) (f1 : 32 ∉ tl one) (fl : 32 ∉ tl last) : BadL names (Str.ofString "Offer" ++ worthsS c) := by
  have c2 := hN.1
  exact bad_of (w0 := Str.ofString "Offer") (L := List.replicate (c) oneS) (by walk_at "bad") (by decide +kernel) one_free (row_first (by decide +kernel))
theorem bad3 {names : List Str} {c : Nat} {one last : Str} (hN : NamesOk names) (hc : names.length = c) (h1 : names[0]? = some one) (hl : names[c - 1]? = some last) (f1 : 32 ∉ tl one) (fl : 32 ∉ tl last) : BadL names (Str.ofString "offers" ++ worthsS c) := by
  have c2 := hN.1
  exact bad_of (w0 := Str.ofString "offers") (L := List.replicate (c) oneS) (by walk_at "bad") (by decide +kernel) one_free (row_first (by decide +kernel))
theorem bad4 {names : List Str} {c : Nat} {one last : Str} (hN : NamesOk names) (hc : names.length = c) (h1 : names[0]? = some one) (hl : names[c - 1]? = some last) (f1 : 32 ∉ tl one) (fl : 32 ∉ tl last) : BadL names (goodS c ++ Str.ofString " ") := by
  have c2 := hN.1
  exact bad_of (w0 := Str.ofString "offer") (L := List.replicate (c) oneS ++ [Str.ofString ""]) (by walk_at "bad") (by decide +kernel) (fr_app one_free (fr_cons (by decide +kernel) fr_nil)) (row_tail hc (tail_const (by decide +kernel)))
theorem bad5 {names : List Str} {c : Nat} {one last : Str} (hN : NamesOk names) (hc : names.length = c) (h1 : names[0]? = some one) (hl : names[c - 1]? = some last) (f1 : 32 ∉ tl one) (fl : 32 ∉ tl last) : BadL names (Str.ofString " " ++ goodS c) := by
  have c2 := hN.1
  exact bad_of (w0 := Str.ofString "") (L := [Str.ofString "offer"] ++ List.replicate (c) oneS) (by walk_at "bad") (by decide +kernel) (fr_app (fr_cons (by decide +kernel) fr_nil) one_free) (row_first (by decide +kernel))
theorem bad6 {names : List Str} {c : Nat} {one last : Str} (hN : NamesOk names) (hc : names.length = c) (h1 : names[0]? = some one) (hl : names[c - 1]? = some last) (f1 : 32 ∉ tl one) (fl : 32 ∉ tl last) : BadL names (goodS c ++ Str.ofString " 1") := by
  have c2 := hN.1
  exact bad_of (w0 := Str.ofString "offer") (L := List.replicate (c) oneS ++ [Str.ofString "1"]) (by walk_at "bad") (by decide +kernel) (fr_app one_free (fr_cons (by decide +kernel) fr_nil)) (row_tail hc (tail_const (by decide +kernel)))
theorem bad7 {names : List Str} {c : Nat} {one last : Str} (hN : NamesOk names) (hc : names.length = c) (h1 : names[0]? = some one) (hl : names[c - 1]? = some last) (f1 : 32 ∉ tl one) (fl : 32 ∉ tl last) : BadL names (Str.ofString "offer" ++ cutS (worthsS c) (some 2) none) := by
  have c2 := hN.1
  exact bad_of (w0 := Str.ofString "offer") (L := List.replicate (c - 1) oneS) (by walk_at "bad") (by decide +kernel) one_free (row_few (k := c - 1) (ws := []) hc (by omega) (by rw [List.append_nil]) (.inl rfl))
theorem bad8 {names : List Str} {c : Nat} {one last : Str} (hN : NamesOk names) (hc : names.length = c) (h1 : names[0]? = some one) (hl : names[c - 1]? = some last) (f1 : 32 ∉ tl one) (fl : 32 ∉ tl last) : BadL names (Str.ofString "worlds " ++ one ++ Str.ofString " " ++ last) := by
  have c2 := hN.1
  exact bad_of (w0 := Str.ofString "worlds") (L := [one, last]) (by walk_at "bad") (by decide +kernel) (fr_cons f1 (fr_cons fl fr_nil)) (row_first (by decide +kernel))
theorem bad9 {names : List Str} {c : Nat} {one last : Str} (hN : NamesOk names) (hc : names.length = c) (h1 : names[0]? = some one) (hl : names[c - 1]? = some last) (f1 : 32 ∉ tl one) (fl : 32 ∉ tl last) : BadL names (goodS c ++ Str.ofString " ask") := by
  have c2 := hN.1
  exact bad_of (w0 := Str.ofString "offer") (L := List.replicate (c) oneS ++ [Str.ofString "ask"]) (by walk_at "bad") (by decide +kernel) (fr_app one_free (fr_cons (by decide +kernel) fr_nil)) (row_tail hc (tail_const (by decide +kernel)))
theorem bad10 {names : List Str} {c : Nat} {one last : Str} (hN : NamesOk names) (hc : names.length = c) (h1 : names[0]? = some one) (hl : names[c - 1]? = some last) (f1 : 32 ∉ tl one) (fl : 32 ∉ tl last) : BadL names (goodS c ++ Str.ofString " bid") := by
  have c2 := hN.1
  exact bad_of (w0 := Str.ofString "offer") (L := List.replicate (c) oneS ++ [Str.ofString "bid"]) (by walk_at "bad") (by decide +kernel) (fr_app one_free (fr_cons (by decide +kernel) fr_nil)) (row_tail hc (tail_const (by decide +kernel)))
theorem bad11 {names : List Str} {c : Nat} {one last : Str} (hN : NamesOk names) (hc : names.length = c) (h1 : names[0]? = some one) (hl : names[c - 1]? = some last) (f1 : 32 ∉ tl one) (fl : 32 ∉ tl last) : BadL names (goodS c ++ Str.ofString " ask bid") := by
  have c2 := hN.1
  exact bad_of (w0 := Str.ofString "offer") (L := List.replicate (c) oneS ++ [Str.ofString "ask", Str.ofString "bid"]) (by walk_at "bad") (by decide +kernel) (fr_app one_free (fr_cons (by decide +kernel) (fr_cons (by decide +kernel) fr_nil))) (row_tail hc (tail_const (by decide +kernel)))
theorem bad12 {names : List Str} {c : Nat} {one last : Str} (hN : NamesOk names) (hc : names.length = c) (h1 : names[0]? = some one) (hl : names[c - 1]? = some last) (f1 : 32 ∉ tl one) (fl : 32 ∉ tl last) : BadL names (goodS c ++ Str.ofString " if") := by
  have c2 := hN.1
  exact bad_of (w0 := Str.ofString "offer") (L := List.replicate (c) oneS ++ [Str.ofString "if"]) (by walk_at "bad") (by decide +kernel) (fr_app one_free (fr_cons (by decide +kernel) fr_nil)) (row_tail hc (tail_const (by decide +kernel)))
theorem bad13 {names : List Str} {c : Nat} {one last : Str} (hN : NamesOk names) (hc : names.length = c) (h1 : names[0]? = some one) (hl : names[c - 1]? = some last) (f1 : 32 ∉ tl one) (fl : 32 ∉ tl last) : BadL names (goodS c ++ Str.ofString " bid 1 ask 2") := by
  have c2 := hN.1
  exact bad_of (w0 := Str.ofString "offer") (L := List.replicate (c) oneS ++ [Str.ofString "bid", Str.ofString "1", Str.ofString "ask", Str.ofString "2"]) (by walk_at "bad") (by decide +kernel) (fr_app one_free (fr_cons (by decide +kernel) (fr_cons (by decide +kernel) (fr_cons (by decide +kernel) (fr_cons (by decide +kernel) fr_nil))))) (row_tail hc (tail_const (by decide +kernel)))
theorem bad14 {names : List Str} {c : Nat} {one last : Str} (hN : NamesOk names) (hc : names.length = c) (h1 : names[0]? = some one) (hl : names[c - 1]? = some last) (f1 : 32 ∉ tl one) (fl : 32 ∉ tl last) : BadL names (goodS c ++ Str.ofString " ask 1 ask 2") := by
  have c2 := hN.1
  exact bad_of (w0 := Str.ofString "offer") (L := List.replicate (c) oneS ++ [Str.ofString "ask", Str.ofString "1", Str.ofString "ask", Str.ofString "2"]) (by walk_at "bad") (by decide +kernel) (fr_app one_free (fr_cons (by decide +kernel) (fr_cons (by decide +kernel) (fr_cons (by decide +kernel) (fr_cons (by decide +kernel) fr_nil))))) (row_tail hc (tail_const (by decide +kernel)))
theorem bad15 {names : List Str} {c : Nat} {one last : Str} (hN : NamesOk names) (hc : names.length = c) (h1 : names[0]? = some one) (hl : names[c - 1]? = some last) (f1 : 32 ∉ tl one) (fl : 32 ∉ tl last) : BadL names (goodS c ++ Str.ofString " bid 1 bid 1") := by
  have c2 := hN.1
  exact bad_of (w0 := Str.ofString "offer") (L := List.replicate (c) oneS ++ [Str.ofString "bid", Str.ofString "1", Str.ofString "bid", Str.ofString "1"]) (by walk_at "bad") (by decide +kernel) (fr_app one_free (fr_cons (by decide +kernel) (fr_cons (by decide +kernel) (fr_cons (by decide +kernel) (fr_cons (by decide +kernel) fr_nil))))) (row_tail hc (tail_const (by decide +kernel)))
theorem bad16 {names : List Str} {c : Nat} {one last : Str} (hN : NamesOk names) (hc : names.length = c) (h1 : names[0]? = some one) (hl : names[c - 1]? = some last) (f1 : 32 ∉ tl one) (fl : 32 ∉ tl last) : BadL names (goodS c ++ Str.ofString " ask 1 2") := by
  have c2 := hN.1
  exact bad_of (w0 := Str.ofString "offer") (L := List.replicate (c) oneS ++ [Str.ofString "ask", Str.ofString "1", Str.ofString "2"]) (by walk_at "bad") (by decide +kernel) (fr_app one_free (fr_cons (by decide +kernel) (fr_cons (by decide +kernel) (fr_cons (by decide +kernel) fr_nil)))) (row_tail hc (tail_const (by decide +kernel)))
theorem bad17 {names : List Str} {c : Nat} {one last : Str} (hN : NamesOk names) (hc : names.length = c) (h1 : names[0]? = some one) (hl : names[c - 1]? = some last) (f1 : 32 ∉ tl one) (fl : 32 ∉ tl last) : BadL names (goodS c ++ Str.ofString " Ask 1") := by
  have c2 := hN.1
  exact bad_of (w0 := Str.ofString "offer") (L := List.replicate (c) oneS ++ [Str.ofString "Ask", Str.ofString "1"]) (by walk_at "bad") (by decide +kernel) (fr_app one_free (fr_cons (by decide +kernel) (fr_cons (by decide +kernel) fr_nil))) (row_tail hc (tail_const (by decide +kernel)))
theorem bad18 {names : List Str} {c : Nat} {one last : Str} (hN : NamesOk names) (hc : names.length = c) (h1 : names[0]? = some one) (hl : names[c - 1]? = some last) (f1 : 32 ∉ tl one) (fl : 32 ∉ tl last) : BadL names (goodS c ++ Str.ofString " if " ++ last ++ Str.ofString " " ++ one) := by
  have c2 := hN.1
  exact bad_of (w0 := Str.ofString "offer") (L := List.replicate (c) oneS ++ [Str.ofString "if", last, one]) (by walk_at "bad") (by decide +kernel) (fr_app one_free (fr_cons (by decide +kernel) (fr_cons fl (fr_cons f1 fr_nil)))) (row_tail hc (tail_if (ev_down hN hc h1 hl)))
theorem bad19 {names : List Str} {c : Nat} {one last : Str} (hN : NamesOk names) (hc : names.length = c) (h1 : names[0]? = some one) (hl : names[c - 1]? = some last) (f1 : 32 ∉ tl one) (fl : 32 ∉ tl last) : BadL names (goodS c ++ Str.ofString " if " ++ one ++ Str.ofString " " ++ one) := by
  have c2 := hN.1
  exact bad_of (w0 := Str.ofString "offer") (L := List.replicate (c) oneS ++ [Str.ofString "if", one, one]) (by walk_at "bad") (by decide +kernel) (fr_app one_free (fr_cons (by decide +kernel) (fr_cons f1 (fr_cons f1 fr_nil)))) (row_tail hc (tail_if (ev_twice hN h1)))
theorem bad20 {names : List Str} {c : Nat} {one last : Str} (hN : NamesOk names) (hc : names.length = c) (h1 : names[0]? = some one) (hl : names[c - 1]? = some last) (f1 : 32 ∉ tl one) (fl : 32 ∉ tl last) : BadL names (goodS c ++ Str.ofString " if abcdefghi") := by
  have c2 := hN.1
  exact bad_of (w0 := Str.ofString "offer") (L := List.replicate (c) oneS ++ [Str.ofString "if", Str.ofString "abcdefghi"]) (by walk_at "bad") (by decide +kernel) (fr_app one_free (fr_cons (by decide +kernel) (fr_cons (by decide +kernel) fr_nil))) (row_tail hc (tail_if (ev_bad hN ⟨_, List.mem_cons_self .., (by decide +kernel : nameW (Str.ofString "abcdefghi") = false)⟩)))
theorem bad21 {names : List Str} {c : Nat} {one last : Str} (hN : NamesOk names) (hc : names.length = c) (h1 : names[0]? = some one) (hl : names[c - 1]? = some last) (f1 : 32 ∉ tl one) (fl : 32 ∉ tl last) : BadL names (goodS c ++ Str.ofString " if " ++ one ++ Str.ofString "A") := by
  have c2 := hN.1
  exact bad_of (w0 := Str.ofString "offer") (L := List.replicate (c) oneS ++ [Str.ofString "if", one ++ Str.ofString "A"]) (by walk_at "bad") (by decide +kernel) (fr_app one_free (fr_cons (by decide +kernel) (fr_cons (free_A f1) fr_nil))) (row_tail hc (tail_if (ev_bad hN ⟨_, List.mem_cons_self .., name_A⟩)))
theorem bad22 {names : List Str} {c : Nat} {one last : Str} (hN : NamesOk names) (hc : names.length = c) (h1 : names[0]? = some one) (hl : names[c - 1]? = some last) (f1 : 32 ∉ tl one) (fl : 32 ∉ tl last) : BadL names (goodS c ++ Str.ofString " if " ++ one ++ Str.ofString " bid 1 2") := by
  have c2 := hN.1
  exact bad_of (w0 := Str.ofString "offer") (L := List.replicate (c) oneS ++ [Str.ofString "if", one, Str.ofString "bid", Str.ofString "1", Str.ofString "2"]) (by walk_at "bad") (by decide +kernel) (fr_app one_free (fr_cons (by decide +kernel) (fr_cons f1 (fr_cons (by decide +kernel) (fr_cons (by decide +kernel) (fr_cons (by decide +kernel) fr_nil)))))) (row_tail hc (tail_if (ev_bad hN ⟨_, List.mem_cons_of_mem _ (List.mem_cons_of_mem _ (List.mem_cons_self ..)), (by decide +kernel : nameW (Str.ofString "1") = false)⟩)))
theorem bad23 {names : List Str} {c : Nat} {one last : Str} (hN : NamesOk names) (hc : names.length = c) (h1 : names[0]? = some one) (hl : names[c - 1]? = some last) (f1 : 32 ∉ tl one) (fl : 32 ∉ tl last) : BadL names (goodS c ++ Str.ofString " ask 1  bid 2") := by
  have c2 := hN.1
  exact bad_of (w0 := Str.ofString "offer") (L := List.replicate (c) oneS ++ [Str.ofString "ask", Str.ofString "1", Str.ofString "", Str.ofString "bid", Str.ofString "2"]) (by walk_at "bad") (by decide +kernel) (fr_app one_free (fr_cons (by decide +kernel) (fr_cons (by decide +kernel) (fr_cons (by decide +kernel) (fr_cons (by decide +kernel) (fr_cons (by decide +kernel) fr_nil)))))) (row_tail hc (tail_const (by decide +kernel)))
theorem bad24 {names : List Str} {c : Nat} {one last : Str} (hN : NamesOk names) (hc : names.length = c) (h1 : names[0]? = some one) (hl : names[c - 1]? = some last) (f1 : 32 ∉ tl one) (fl : 32 ∉ tl last) : BadL names (Str.ofString "offer " ++ worthsS c) := by
  have c2 := hN.1
  exact bad_of (w0 := Str.ofString "offer") (L := [Str.ofString ""] ++ List.replicate (c) oneS) (by walk_at "bad") (by decide +kernel) (fr_app (fr_cons (by decide +kernel) fr_nil) one_free) (row_few (k := 0) (ws := Str.ofString "" :: List.replicate c oneS) hc (by omega) rfl (.inr ⟨_, _, rfl, by decide +kernel⟩))
theorem bad25 {names : List Str} {c : Nat} {one last : Str} (hN : NamesOk names) (hc : names.length = c) (h1 : names[0]? = some one) (hl : names[c - 1]? = some last) (f1 : 32 ∉ tl one) (fl : 32 ∉ tl last) : BadL names (goodS c ++ Str.ofString " if " ++ one ++ Str.ofString " ") := by
  have c2 := hN.1
  exact bad_of (w0 := Str.ofString "offer") (L := List.replicate (c) oneS ++ [Str.ofString "if", one, Str.ofString ""]) (by walk_at "bad") (by decide +kernel) (fr_app one_free (fr_cons (by decide +kernel) (fr_cons f1 (fr_cons (by decide +kernel) fr_nil)))) (row_tail hc (tail_if (ev_bad hN ⟨_, List.mem_cons_of_mem _ (List.mem_cons_self ..), (by decide +kernel : nameW (Str.ofString "") = false)⟩)))
theorem bad26 {names : List Str} {c : Nat} {one last : Str} (hN : NamesOk names) (hc : names.length = c) (h1 : names[0]? = some one) (hl : names[c - 1]? = some last) (f1 : 32 ∉ tl one) (fl : 32 ∉ tl last) : BadL names (goodS c ++ Str.ofString " if  " ++ one) := by
  have c2 := hN.1
  exact bad_of (w0 := Str.ofString "offer") (L := List.replicate (c) oneS ++ [Str.ofString "if", Str.ofString "", one]) (by walk_at "bad") (by decide +kernel) (fr_app one_free (fr_cons (by decide +kernel) (fr_cons (by decide +kernel) (fr_cons f1 fr_nil)))) (row_tail hc (tail_if (ev_bad hN ⟨_, List.mem_cons_self .., (by decide +kernel : nameW (Str.ofString "") = false)⟩)))
theorem bad27 {names : List Str} {c : Nat} {one last : Str} (hN : NamesOk names) (hc : names.length = c) (h1 : names[0]? = some one) (hl : names[c - 1]? = some last) (f1 : 32 ∉ tl one) (fl : 32 ∉ tl last) : BadL names (goodS c ++ Str.ofString " if 1") := by
  have c2 := hN.1
  exact bad_of (w0 := Str.ofString "offer") (L := List.replicate (c) oneS ++ [Str.ofString "if", Str.ofString "1"]) (by walk_at "bad") (by decide +kernel) (fr_app one_free (fr_cons (by decide +kernel) (fr_cons (by decide +kernel) fr_nil))) (row_tail hc (tail_if (ev_bad hN ⟨_, List.mem_cons_self .., (by decide +kernel : nameW (Str.ofString "1") = false)⟩)))
theorem bad28 {names : List Str} {c : Nat} {one last : Str} (hN : NamesOk names) (hc : names.length = c) (h1 : names[0]? = some one) (hl : names[c - 1]? = some last) (f1 : 32 ∉ tl one) (fl : 32 ∉ tl last) : BadL names (goodS c ++ Str.ofString " ask 1 if") := by
  have c2 := hN.1
  exact bad_of (w0 := Str.ofString "offer") (L := List.replicate (c) oneS ++ [Str.ofString "ask", Str.ofString "1", Str.ofString "if"]) (by walk_at "bad") (by decide +kernel) (fr_app one_free (fr_cons (by decide +kernel) (fr_cons (by decide +kernel) (fr_cons (by decide +kernel) fr_nil)))) (row_tail hc (tail_const (by decide +kernel)))
theorem bad29 {names : List Str} {c : Nat} {one last : Str} (hN : NamesOk names) (hc : names.length = c) (h1 : names[0]? = some one) (hl : names[c - 1]? = some last) (f1 : 32 ∉ tl one) (fl : 32 ∉ tl last) : BadL names (goodS c ++ Str.ofString "  if " ++ one) := by
  have c2 := hN.1
  exact bad_of (w0 := Str.ofString "offer") (L := List.replicate (c) oneS ++ [Str.ofString "", Str.ofString "if", one]) (by walk_at "bad") (by decide +kernel) (fr_app one_free (fr_cons (by decide +kernel) (fr_cons (by decide +kernel) (fr_cons f1 fr_nil)))) (row_tail hc (tail_first (by decide +kernel) (by decide +kernel) (by decide +kernel)))
theorem bad30 {names : List Str} {c : Nat} {one last word : Str} (hN : NamesOk names) (hc : names.length = c) (h1 : names[0]? = some one) (hl : names[c - 1]? = some last) (f1 : 32 ∉ tl one) (fl : 32 ∉ tl last) (fw : word = Str.ofString "1 " ∨ 32 ∉ tl word) (hw : rdRat word = none) : BadL names (Str.ofString "offer " ++ word ++ cutS (worthsS c) (some 2) none) := by
  have c2 := hN.1
  rcases fw with rfl | fw
  · exact bad_of (w0 := Str.ofString "offer") (L := [Str.ofString "1", Str.ofString ""] ++ List.replicate (c - 1) oneS) (by walk_at "bad") (by decide +kernel) (fr_app (fr_cons (by decide +kernel) (fr_cons (by decide +kernel) fr_nil)) one_free) (row_few (k := 1) (ws := Str.ofString "" :: List.replicate (c - 1) oneS) hc (by omega) rfl (.inr ⟨_, _, rfl, by decide +kernel⟩))
  · exact bad_of (w0 := Str.ofString "offer") (L := [word] ++ List.replicate (c - 1) oneS) (by walk_at "bad") (by decide +kernel) (fr_app (fr_cons fw fr_nil) one_free) (row_few (k := 0) (ws := word :: List.replicate (c - 1) oneS) hc (by omega) rfl (.inr ⟨_, _, rfl, hw⟩))
theorem bad31 {names : List Str} {c : Nat} {one last word : Str} (hN : NamesOk names) (hc : names.length = c) (h1 : names[0]? = some one) (hl : names[c - 1]? = some last) (f1 : 32 ∉ tl one) (fl : 32 ∉ tl last) (fw : word = Str.ofString "1 " ∨ 32 ∉ tl word) (hw : rdRat word = none) : BadL names (Str.ofString "offer" ++ cutS (worthsS c) (some 2) none ++ Str.ofString " " ++ word) := by
  have c2 := hN.1
  rcases fw with rfl | fw
  · exact bad_of (w0 := Str.ofString "offer") (L := List.replicate (c - 1) oneS ++ [Str.ofString "1", Str.ofString ""]) (by walk_at "bad") (by decide +kernel) (fr_app one_free (fr_cons (by decide +kernel) (fr_cons (by decide +kernel) fr_nil))) (by rw [rep_one (by omega)]; exact row_tail hc (tail_const (by decide +kernel)))
  · exact bad_of (w0 := Str.ofString "offer") (L := List.replicate (c - 1) oneS ++ [word]) (by walk_at "bad") (by decide +kernel) (fr_app one_free (fr_cons fw fr_nil)) (row_few (k := c - 1) (ws := [word]) hc (by omega) rfl (.inr ⟨_, _, rfl, hw⟩))
theorem bad32 {names : List Str} {c : Nat} {one last word : Str} (hN : NamesOk names) (hc : names.length = c) (h1 : names[0]? = some one) (hl : names[c - 1]? = some last) (f1 : 32 ∉ tl one) (fl : 32 ∉ tl last) (fw : word = Str.ofString "1 " ∨ 32 ∉ tl word) (hw : rdRat word = none) : BadL names (goodS c ++ Str.ofString " ask " ++ word) := by
  have c2 := hN.1
  rcases fw with rfl | fw
  · exact bad_of (w0 := Str.ofString "offer") (L := List.replicate (c) oneS ++ [Str.ofString "ask", Str.ofString "1", Str.ofString ""]) (by walk_at "bad") (by decide +kernel) (fr_app one_free (fr_cons (by decide +kernel) (fr_cons (by decide +kernel) (fr_cons (by decide +kernel) fr_nil)))) (row_tail hc (tail_const (by decide +kernel)))
  · exact bad_of (w0 := Str.ofString "offer") (L := List.replicate (c) oneS ++ [Str.ofString "ask", word]) (by walk_at "bad") (by decide +kernel) (fr_app one_free (fr_cons (by decide +kernel) (fr_cons fw fr_nil))) (row_tail hc (tail1 (take_bad (by decide +kernel) hw)))
theorem bad33 {names : List Str} {c : Nat} {one last word : Str} (hN : NamesOk names) (hc : names.length = c) (h1 : names[0]? = some one) (hl : names[c - 1]? = some last) (f1 : 32 ∉ tl one) (fl : 32 ∉ tl last) (fw : word = Str.ofString "1 " ∨ 32 ∉ tl word) (hw : rdRat word = none) : BadL names (goodS c ++ Str.ofString " bid " ++ word ++ Str.ofString " if " ++ one) := by
  have c2 := hN.1
  rcases fw with rfl | fw
  · exact bad_of (w0 := Str.ofString "offer") (L := List.replicate (c) oneS ++ [Str.ofString "bid", Str.ofString "1", Str.ofString "", Str.ofString "if", one]) (by walk_at "bad") (by decide +kernel) (fr_app one_free (fr_cons (by decide +kernel) (fr_cons (by decide +kernel) (fr_cons (by decide +kernel) (fr_cons (by decide +kernel) (fr_cons f1 fr_nil)))))) (row_tail hc (tail_bid (by decide +kernel)))
  · exact bad_of (w0 := Str.ofString "offer") (L := List.replicate (c) oneS ++ [Str.ofString "bid", word, Str.ofString "if", one]) (by walk_at "bad") (by decide +kernel) (fr_app one_free (fr_cons (by decide +kernel) (fr_cons fw (fr_cons (by decide +kernel) (fr_cons f1 fr_nil))))) (row_tail hc (tail2 (take_ne (by decide +kernel)) (take_bad (by decide +kernel) hw)))
theorem bad34 {names : List Str} {c : Nat} {one last word : Str} (hN : NamesOk names) (hc : names.length = c) (h1 : names[0]? = some one) (hl : names[c - 1]? = some last) (f1 : 32 ∉ tl one) (fl : 32 ∉ tl last) (fw : word = Str.ofString "1 " ∨ 32 ∉ tl word) (hw : rdRat word = none) : BadL names (goodS c ++ Str.ofString " ask 1 bid " ++ word) := by
  have c2 := hN.1
  rcases fw with rfl | fw
  · exact bad_of (w0 := Str.ofString "offer") (L := List.replicate (c) oneS ++ [Str.ofString "ask", Str.ofString "1", Str.ofString "bid", Str.ofString "1", Str.ofString ""]) (by walk_at "bad") (by decide +kernel) (fr_app one_free (fr_cons (by decide +kernel) (fr_cons (by decide +kernel) (fr_cons (by decide +kernel) (fr_cons (by decide +kernel) (fr_cons (by decide +kernel) fr_nil)))))) (row_tail hc (tail_const (by decide +kernel)))
  · exact bad_of (w0 := Str.ofString "offer") (L := List.replicate (c) oneS ++ [Str.ofString "ask", Str.ofString "1", Str.ofString "bid", word]) (by walk_at "bad") (by decide +kernel) (fr_app one_free (fr_cons (by decide +kernel) (fr_cons (by decide +kernel) (fr_cons (by decide +kernel) (fr_cons fw fr_nil))))) (row_tail hc (tail2 (take_one (by decide +kernel)) (take_bad (by decide +kernel) hw)))
theorem bad_lines {names : List Str} {c : Nat} {one last word : Str} (hN : NamesOk names) (hc : names.length = c) (h1 : names[0]? = some one) (hl : names[c - 1]? = some last) (f1 : 32 ∉ tl one) (fl : 32 ∉ tl last) (fw : word = Str.ofString "1 " ∨ 32 ∉ tl word) (hw : rdRat word = none) : ∀ z ∈ badLines c one last word, BadL names z := by
  unfold badLines badP0 badP1 badP2 badP3 badP4 badP5 badP6 badP7 badP8
  simp only [List.forall_mem_append, List.forall_mem_cons]
  exact ⟨⟨⟨⟨⟨⟨⟨⟨⟨bad0 hN hc h1 hl f1 fl, bad1 hN hc h1 hl f1 fl, bad2 hN hc h1 hl f1 fl, bad3 hN hc h1 hl f1 fl, bad4 hN hc h1 hl f1 fl, bad5 hN hc h1 hl f1 fl, bad6 hN hc h1 hl f1 fl, fun _ h => nomatch h⟩, ⟨bad7 hN hc h1 hl f1 fl, bad8 hN hc h1 hl f1 fl, bad9 hN hc h1 hl f1 fl, bad10 hN hc h1 hl f1 fl, fun _ h => nomatch h⟩⟩, ⟨bad11 hN hc h1 hl f1 fl, bad12 hN hc h1 hl f1 fl, bad13 hN hc h1 hl f1 fl, bad14 hN hc h1 hl f1 fl, fun _ h => nomatch h⟩⟩, ⟨bad15 hN hc h1 hl f1 fl, bad16 hN hc h1 hl f1 fl, bad17 hN hc h1 hl f1 fl, bad18 hN hc h1 hl f1 fl, fun _ h => nomatch h⟩⟩, ⟨bad19 hN hc h1 hl f1 fl, bad20 hN hc h1 hl f1 fl, bad21 hN hc h1 hl f1 fl, fun _ h => nomatch h⟩⟩, ⟨bad22 hN hc h1 hl f1 fl, bad23 hN hc h1 hl f1 fl, bad24 hN hc h1 hl f1 fl, fun _ h => nomatch h⟩⟩, ⟨bad25 hN hc h1 hl f1 fl, bad26 hN hc h1 hl f1 fl, bad27 hN hc h1 hl f1 fl, bad28 hN hc h1 hl f1 fl, fun _ h => nomatch h⟩⟩, ⟨bad29 hN hc h1 hl f1 fl, bad30 hN hc h1 hl f1 fl fw hw, bad31 hN hc h1 hl f1 fl fw hw, fun _ h => nomatch h⟩⟩, ⟨bad32 hN hc h1 hl f1 fl fw hw, bad33 hN hc h1 hl f1 fl fw hw, bad34 hN hc h1 hl f1 fl fw hw, fun _ h => nomatch h⟩⟩
/-- plain signs, at most so many -/
def PL (k : Nat) (z : Str) : Prop := (∀ c ∈ tl z, c ≠ 10 ∧ c < 200) ∧ (tl z).length ≤ k
def plB (k : Nat) (z : Str) : Bool := ((tl z).all fun c => decide (c ≠ 10) && decide (c < 200)) && decide ((tl z).length ≤ k)
theorem pl_lit {k : Nat} {z : Str} (h : plB k z = true) : PL k z := by
  unfold plB at h
  rw [Bool.and_eq_true, decide_eq_true_eq, List.all_eq_true] at h
  exact ⟨fun c hc => by have := h.1 c hc; rw [Bool.and_eq_true, decide_eq_true_eq, decide_eq_true_eq] at this; exact this, h.2⟩
theorem pl_app {k m : Nat} {x y : Str} (h : PL k x) (g : PL m y) : PL (k + m) (x ++ y) := by
  unfold PL
  rw [tl_app, List.length_append]
  exact ⟨List.forall_mem_append.mpr ⟨h.1, g.1⟩, Nat.add_le_add h.2 g.2⟩
theorem PL.mono {k m : Nat} {z : Str} (h : PL k z) (l : k ≤ m) : PL m z := ⟨h.1, Nat.le_trans h.2 l⟩
theorem fw_one : ∀ {k : Nat}, FW (List.replicate k oneS) = (List.replicate k [32, 49]).flatten
  | 0 => rfl
  | k + 1 => by rw [List.replicate_succ, FW_cons, fw_one, bl_one, List.replicate_succ, List.flatten_cons]; rfl
theorem fw_pl {k : Nat} {x : Str} (e : tl x = FW (List.replicate k oneS)) (h : k ≤ 12) : PL 24 x := by
  unfold PL
  rw [e, fw_one]
  constructor
  · intro c hc
    obtain ⟨l, hl, h2⟩ := List.mem_flatten.mp hc
    rw [(List.mem_replicate.mp hl).2] at h2
    simp at h2; omega
  · rw [List.length_flatten, List.map_replicate, List.sum_replicate_nat]
    simp; omega
theorem pl_W {c : Nat} (h : c ≤ 12) : PL 24 (worthsS c) := fw_pl mul_tl h
theorem pl_C {c : Nat} (h : c ≤ 12) : PL 24 (cutS (worthsS c) (some 2) none) := fw_pl cut_tl (by omega)
theorem pl_G {c : Nat} (h : c ≤ 12) : PL 40 (goodS c) := (pl_app (pl_lit (k := 16) (by decide +kernel)) (pl_W h) : PL (16 + 24) _)
theorem bad_pl {c : Nat} {one last word : Str} (hc : c ≤ 12) (f1 : PL 9 one) (fl : PL 9 last) (fw : PL 33 word) : ∀ z ∈ badLines c one last word, PL 200 z := by
  unfold badLines badP0 badP1 badP2 badP3 badP4 badP5 badP6 badP7 badP8
  simp only [List.forall_mem_append, List.forall_mem_cons]
  exact ⟨⟨⟨⟨⟨⟨⟨⟨⟨(pl_lit (k := 16) (by decide +kernel)).mono (by decide), (pl_lit (k := 16) (by decide +kernel)).mono (by decide), (pl_app (pl_lit (k := 16) (by decide +kernel)) (pl_W hc)).mono (by decide), (pl_app (pl_lit (k := 16) (by decide +kernel)) (pl_W hc)).mono (by decide), (pl_app (pl_G hc) (pl_lit (k := 16) (by decide +kernel))).mono (by decide), (pl_app (pl_lit (k := 16) (by decide +kernel)) (pl_G hc)).mono (by decide), (pl_app (pl_G hc) (pl_lit (k := 16) (by decide +kernel))).mono (by decide), fun _ h => nomatch h⟩, ⟨(pl_app (pl_lit (k := 16) (by decide +kernel)) (pl_C hc)).mono (by decide), (pl_app (pl_app (pl_app (pl_lit (k := 16) (by decide +kernel)) f1) (pl_lit (k := 16) (by decide +kernel))) fl).mono (by decide), (pl_app (pl_G hc) (pl_lit (k := 16) (by decide +kernel))).mono (by decide), (pl_app (pl_G hc) (pl_lit (k := 16) (by decide +kernel))).mono (by decide), fun _ h => nomatch h⟩⟩, ⟨(pl_app (pl_G hc) (pl_lit (k := 16) (by decide +kernel))).mono (by decide), (pl_app (pl_G hc) (pl_lit (k := 16) (by decide +kernel))).mono (by decide), (pl_app (pl_G hc) (pl_lit (k := 16) (by decide +kernel))).mono (by decide), (pl_app (pl_G hc) (pl_lit (k := 16) (by decide +kernel))).mono (by decide), fun _ h => nomatch h⟩⟩, ⟨(pl_app (pl_G hc) (pl_lit (k := 16) (by decide +kernel))).mono (by decide), (pl_app (pl_G hc) (pl_lit (k := 16) (by decide +kernel))).mono (by decide), (pl_app (pl_G hc) (pl_lit (k := 16) (by decide +kernel))).mono (by decide), (pl_app (pl_app (pl_app (pl_app (pl_G hc) (pl_lit (k := 16) (by decide +kernel))) fl) (pl_lit (k := 16) (by decide +kernel))) f1).mono (by decide), fun _ h => nomatch h⟩⟩, ⟨(pl_app (pl_app (pl_app (pl_app (pl_G hc) (pl_lit (k := 16) (by decide +kernel))) f1) (pl_lit (k := 16) (by decide +kernel))) f1).mono (by decide), (pl_app (pl_G hc) (pl_lit (k := 16) (by decide +kernel))).mono (by decide), (pl_app (pl_app (pl_app (pl_G hc) (pl_lit (k := 16) (by decide +kernel))) f1) (pl_lit (k := 16) (by decide +kernel))).mono (by decide), fun _ h => nomatch h⟩⟩, ⟨(pl_app (pl_app (pl_app (pl_G hc) (pl_lit (k := 16) (by decide +kernel))) f1) (pl_lit (k := 16) (by decide +kernel))).mono (by decide), (pl_app (pl_G hc) (pl_lit (k := 16) (by decide +kernel))).mono (by decide), (pl_app (pl_lit (k := 16) (by decide +kernel)) (pl_W hc)).mono (by decide), fun _ h => nomatch h⟩⟩, ⟨(pl_app (pl_app (pl_app (pl_G hc) (pl_lit (k := 16) (by decide +kernel))) f1) (pl_lit (k := 16) (by decide +kernel))).mono (by decide), (pl_app (pl_app (pl_G hc) (pl_lit (k := 16) (by decide +kernel))) f1).mono (by decide), (pl_app (pl_G hc) (pl_lit (k := 16) (by decide +kernel))).mono (by decide), (pl_app (pl_G hc) (pl_lit (k := 16) (by decide +kernel))).mono (by decide), fun _ h => nomatch h⟩⟩, ⟨(pl_app (pl_app (pl_G hc) (pl_lit (k := 16) (by decide +kernel))) f1).mono (by decide), (pl_app (pl_app (pl_lit (k := 16) (by decide +kernel)) fw) (pl_C hc)).mono (by decide), (pl_app (pl_app (pl_app (pl_lit (k := 16) (by decide +kernel)) (pl_C hc)) (pl_lit (k := 16) (by decide +kernel))) fw).mono (by decide), fun _ h => nomatch h⟩⟩, ⟨(pl_app (pl_app (pl_G hc) (pl_lit (k := 16) (by decide +kernel))) fw).mono (by decide), (pl_app (pl_app (pl_app (pl_app (pl_G hc) (pl_lit (k := 16) (by decide +kernel))) fw) (pl_lit (k := 16) (by decide +kernel))) f1).mono (by decide), (pl_app (pl_app (pl_G hc) (pl_lit (k := 16) (by decide +kernel))) fw).mono (by decide), fun _ h => nomatch h⟩⟩
theorem op_mul_str {X : Cx} : OpR X (binaryOp .Mult) (fun x y H Q => ∃ z k, x = .str z ∧ y = .int k ∧ (z.length ≤ 16 ∧ 0 ≤ k ∧ k ≤ 1000) ∧ Q (.str (Txt.mul z k)) H) := by
  intro pins s σ H x y v u Q I rx ry h
  obtain ⟨z, k, rfl, rfl, ⟨hz, h0, h1⟩, q⟩ := h
  obtain ⟨t, rfl⟩ := rx
  obtain ⟨t', rfl⟩ := ry
  exact PySem.SB.mul (PyProof.Rows.mulOk_of 16 1000 hz (by omega) (by omega) (by decide) (by decide)) fun t' tk => ⟨.str (Txt.mul z k), H, I.tok _, ⟨_, rfl⟩, q⟩
def dMulS : D2 := fun x y O Q => match x, y with
  | .str z, .int k => (z.length ≤ 16 ∧ 0 ≤ k ∧ k ≤ 1000) ∧ Q (.str (Txt.mul z k)) O
  | _, _ => False
theorem o_mulS {K : PySem.W.Frag} : Op2 K (fun x y H Q => ∃ z k, x = V.str z ∧ y = V.int k ∧ (z.length ≤ 16 ∧ 0 ≤ k ∧ k ≤ 1000) ∧ Q (V.str (Txt.mul z k)) H) dMulS := by
  intro w x y vx vy Q' Q hw rx ry lk h
  cases x with
  | str z =>
    cases y with
    | int k => exact ⟨z, k, rx.str_of, ry.int_of, h.1, lk _ _ w hw (Fr.refl w) (.str _) h.2⟩
    | _ => exact h.elim
  | _ => exact h.elim
def sp_l_bad_words : DL := fun ds O Q => ∃ (b : Str) (n : Nat), ds = [.str b] ∧ Big b n ∧ Q (.lst (strsD (badWords b))) O
theorem ln_l_bad_words : ∀ ds O Q, sp_l_bad_words ds O Q → ds.length = 1 := by rintro ds O Q ⟨a, b, rfl, _⟩; rfl
def sp_l_bad_line : DL := fun ds O Q => ∃ (p : Addr) (a m : Int) (n c nb : Nat) (d : D) (names : List Str) (b : Str), ds = [.ref p, d, .str b] ∧ O p = some (bagD a m) ∧ okB n a m ∧ n < 800000000 ∧ d ≠ .ref p ∧ lv O d = some (strsD names) ∧ NamesOk names ∧ names.length = c ∧ Big b nb ∧
  ∀ z a' m', BadL names z → PL 200 z → okB (n + 2) a' m' → Q (.str z) (O.set p (bagD a' m'))
theorem ln_l_bad_line : ∀ ds O Q, sp_l_bad_line ds O Q → ds.length = 3 := by rintro ds O Q ⟨p, a, m, n, c, nb, d, names, b, rfl, _⟩; rfl
/-- the bad first rows -/
def abcS : List Str := [Str.ofString "a", Str.ofString "b", Str.ofString "c", Str.ofString "d", Str.ofString "e", Str.ofString "f", Str.ofString "g", Str.ofString "h", Str.ofString "i", Str.ofString "j", Str.ofString "k", Str.ofString "l", Str.ofString "m"]
def badHeads (one : Str) : List Str :=
  [Str.ofString "", Str.ofString "worlds", Str.ofString "worlds a", Str.ofString "worlds " ++ one, Str.ofString "World a b", Str.ofString "worlds a a", Str.ofString "worlds a  b"] ++
  [Str.ofString "worlds a b ", Str.ofString " worlds a b", Str.ofString "worlds A b", Str.ofString "worlds a1 b", Str.ofString "worlds abcdefghi b", Str.ofString "worlds a b a"] ++
  [Str.ofString "offer 1 1", Str.ofString "worldsa b", Str.ofString "world a b", Str.ofString "worlds a b -", Str.ofString "worlds 1 2"] ++ [Str.ofString "worlds " ++ Txt.join (Str.ofString " ") abcS]
def BadH (f : Str) : Prop := ∃ w names, Txt.split f ⟨#[32]⟩ = w :: names ∧ ¬ (tl w = tl worldsS ∧ NamesOk names)
def badHB (f : Str) : Bool := match Txt.split f ⟨#[32]⟩ with
  | [] => false
  | w :: names => !(decide (tl w = tl worldsS) && (decide (2 ≤ names.length) && decide (names.length ≤ 12) && names.all nameW && decide (names.map tl).Nodup))
theorem badH_of {f : Str} (h : badHB f = true) : BadH f := by
  unfold badHB at h
  cases e : Txt.split f ⟨#[32]⟩ with
  | nil => rw [e] at h; cases h
  | cons w names =>
    rw [e] at h
    refine ⟨w, names, e, ?_⟩
    rintro ⟨h1, h2, h3, h4, h5⟩
    have h : (!(decide (tl w = tl worldsS) && (decide (2 ≤ names.length) && decide (names.length ≤ 12) && names.all nameW && decide (names.map tl).Nodup))) = true := h
    rw [decide_eq_true h1, decide_eq_true h2, decide_eq_true h3, List.all_eq_true.mpr h4, decide_eq_true h5] at h
    cases h
theorem badH_one {one : Str} (f : 32 ∉ tl one) : BadH (Str.ofString "worlds " ++ one) := by
  refine ⟨Str.ofString "worlds", [one], ?_, fun z => ?_⟩
  · refine split_line ?_ (by decide +kernel) fun w hw => by rw [List.mem_singleton.mp hw]; exact f
    rw [tl_app, FW_cons, FW_nil, List.append_nil]
    have e7 : tl (Str.ofString "worlds ") = tl (Str.ofString "worlds") ++ [32] := by decide +kernel
    rw [e7, List.append_assoc]; rfl
  · have := z.2.1
    simp at this
theorem bad_heads {one : Str} (f1 : 32 ∉ tl one) (p1 : PL 9 one) : ∀ f ∈ badHeads one, BadH f ∧ PL 60 f := by
  have c : ∀ f : Str, (badHB f && plB 60 f) = true → BadH f ∧ PL 60 f := fun f h => by
    rw [Bool.and_eq_true] at h
    exact ⟨badH_of h.1, pl_lit h.2⟩
  unfold badHeads
  simp only [List.forall_mem_append, List.forall_mem_cons]
  refine ⟨⟨⟨⟨c _ (by decide +kernel), c _ (by decide +kernel), c _ (by decide +kernel), ⟨badH_one f1, (pl_app (pl_lit (k := 7) (by decide +kernel)) p1).mono (by decide)⟩, c _ (by decide +kernel), c _ (by decide +kernel), c _ (by decide +kernel), fun _ h => nomatch h⟩,
    c _ (by decide +kernel), c _ (by decide +kernel), c _ (by decide +kernel), c _ (by decide +kernel), c _ (by decide +kernel), c _ (by decide +kernel), fun _ h => nomatch h⟩, c _ (by decide +kernel), c _ (by decide +kernel), c _ (by decide +kernel), c _ (by decide +kernel), c _ (by decide +kernel), fun _ h => nomatch h⟩,
    c _ (by decide +kernel), fun _ h => nomatch h⟩
def sp_l_bad_heads : DL := fun ds O Q => ∃ (d : D) (one : Str) (rest : List Str), ds = [d] ∧ lv O d = some (strsD (one :: rest)) ∧ one.length ≤ 1000 ∧ Q (.lst (strsD (badHeads one))) O
theorem ln_l_bad_heads : ∀ ds O Q, sp_l_bad_heads ds O Q → ds.length = 1 := by rintro ds O Q ⟨a, b, c, rfl, _⟩; rfl
def B_l_bad_words : DS' :=
  (dThen (dAsg (dLst mkF (dCons (dC (.str (Str.ofString ""))) (dCons (dC (.str (Str.ofString "-"))) (dCons (dC (.str (Str.ofString "-0"))) (dCons (dC (.str (Str.ofString "+1"))) (dCons (dC (.str (Str.ofString "01"))) (dCons (dC (.str (Str.ofString "-01"))) (dCons (dC (.str (Str.ofString "1.0"))) (dCons (dC (.str (Str.ofString "x"))) (dCons (dC (.str (Str.ofString "1/"))) (dCons (dC (.str (Str.ofString "/2"))) (dCons (dC (.str (Str.ofString "1/0"))) (dCons (dC (.str (Str.ofString "1/1"))) (dCons (dC (.str (Str.ofString "2/4"))) (dCons (dC (.str (Str.ofString "0/5"))) (dCons (dC (.str (Str.ofString "1/-2"))) (dCons (dC (.str (Str.ofString "1/02"))) dNil))))))))))))))))) (tgN 1))
  (dThen (dAsg (dOp (dAdd mkF) (dVar 1) (dLst mkF (dCons (dC (.str (Str.ofString "--1"))) (dCons (dC (.str (Str.ofString "1/2/3"))) (dCons (dC (.str (Str.ofString "1x"))) (dCons (dOp (dAdd mkF) (dC (.str (Str.ofString "1"))) (dMt "str" (dVar 0) (dCons (dC (.int 30)) dNil) dZfill)) (dCons (dOp (dAdd mkF) (dC (.str (Str.ofString "-1"))) (dMt "str" (dVar 0) (dCons (dC (.int 30)) dNil) dZfill)) (dCons (dOp (dAdd mkF) (dC (.str (Str.ofString "1/1"))) (dMt "str" (dVar 0) (dCons (dC (.int 30)) dNil) dZfill)) dNil)))))))) (tgN 1))
  (dRet (dOp (dAdd mkF) (dVar 1) (dLst mkF (dCons (dOp (dAdd mkF) (dVar 0) (dC (.str (Str.ofString "/1")))) (dCons (dOp (dAdd mkF) (dC (.str (Str.ofString "0/"))) (dVar 0)) (dCons (dC (.str (Str.ofString "-0/3"))) (dCons (dC (.str (Str.ofString "1//2"))) (dCons (dC (.str (Str.ofString "-/2"))) (dCons (dC (.str (Str.ofString "3/3"))) (dCons (dC (.str (Str.ofString "00"))) (dCons (dC (.str (Str.ofString "1_0"))) (dCons (dC (.str (Str.ofString "1/1_1"))) (dCons (dC (.str (Str.ofString "1 "))) dNil)))))))))))))))
def B_l_bad_line : DS' :=
  (dThen (dAsg (dOp dMulS (dC (.str (Str.ofString " 1"))) (dBu dLen (dCons (dVar 1) dNil))) (tgN 3))
  (dThen (dAsg (dOp (dAdd mkF) (dC (.str (Str.ofString "offer"))) (dVar 3)) (tgN 4))
  (dThen (dAsg (dOp dIx (dVar 1) (dC (.int 0))) (tgN 5))
  (dThen (dAsg (dOp dIx (dVar 1) (dUn dNeg (dC (.int 1)))) (tgN 6))
  (dThen (dAsg (dLst mkF (dCons (dC (.str (Str.ofString ""))) (dCons (dC (.str (Str.ofString "offer"))) (dCons (dOp (dAdd mkF) (dC (.str (Str.ofString "Offer"))) (dVar 3)) (dCons (dOp (dAdd mkF) (dC (.str (Str.ofString "offers"))) (dVar 3)) (dCons (dOp (dAdd mkF) (dVar 4) (dC (.str (Str.ofString " ")))) (dCons (dOp (dAdd mkF) (dC (.str (Str.ofString " "))) (dVar 4)) (dCons (dOp (dAdd mkF) (dVar 4) (dC (.str (Str.ofString " 1")))) dNil)))))))) (tgN 7))
  (dThen (dAsg (dOp (dAdd mkF) (dVar 7) (dLst mkF (dCons (dOp (dAdd mkF) (dC (.str (Str.ofString "offer"))) (dSliceS (dVar 3) (dPart (dC (.int 2))) dNoP)) (dCons (dOp (dAdd mkF) (dOp (dAdd mkF) (dOp (dAdd mkF) (dC (.str (Str.ofString "worlds "))) (dVar 5)) (dC (.str (Str.ofString " ")))) (dVar 6)) (dCons (dOp (dAdd mkF) (dVar 4) (dC (.str (Str.ofString " ask")))) (dCons (dOp (dAdd mkF) (dVar 4) (dC (.str (Str.ofString " bid")))) dNil)))))) (tgN 7))
  (dThen (dAsg (dOp (dAdd mkF) (dVar 7) (dLst mkF (dCons (dOp (dAdd mkF) (dVar 4) (dC (.str (Str.ofString " ask bid")))) (dCons (dOp (dAdd mkF) (dVar 4) (dC (.str (Str.ofString " if")))) (dCons (dOp (dAdd mkF) (dVar 4) (dC (.str (Str.ofString " bid 1 ask 2")))) (dCons (dOp (dAdd mkF) (dVar 4) (dC (.str (Str.ofString " ask 1 ask 2")))) dNil)))))) (tgN 7))
  (dThen (dAsg (dOp (dAdd mkF) (dVar 7) (dLst mkF (dCons (dOp (dAdd mkF) (dVar 4) (dC (.str (Str.ofString " bid 1 bid 1")))) (dCons (dOp (dAdd mkF) (dVar 4) (dC (.str (Str.ofString " ask 1 2")))) (dCons (dOp (dAdd mkF) (dVar 4) (dC (.str (Str.ofString " Ask 1")))) (dCons (dOp (dAdd mkF) (dOp (dAdd mkF) (dOp (dAdd mkF) (dOp (dAdd mkF) (dVar 4) (dC (.str (Str.ofString " if ")))) (dVar 6)) (dC (.str (Str.ofString " ")))) (dVar 5)) dNil)))))) (tgN 7))
  (dThen (dAsg (dOp (dAdd mkF) (dVar 7) (dLst mkF (dCons (dOp (dAdd mkF) (dOp (dAdd mkF) (dOp (dAdd mkF) (dOp (dAdd mkF) (dVar 4) (dC (.str (Str.ofString " if ")))) (dVar 5)) (dC (.str (Str.ofString " ")))) (dVar 5)) (dCons (dOp (dAdd mkF) (dVar 4) (dC (.str (Str.ofString " if abcdefghi")))) (dCons (dOp (dAdd mkF) (dOp (dAdd mkF) (dOp (dAdd mkF) (dVar 4) (dC (.str (Str.ofString " if ")))) (dVar 5)) (dC (.str (Str.ofString "A")))) dNil))))) (tgN 7))
  (dThen (dAsg (dOp (dAdd mkF) (dVar 7) (dLst mkF (dCons (dOp (dAdd mkF) (dOp (dAdd mkF) (dOp (dAdd mkF) (dVar 4) (dC (.str (Str.ofString " if ")))) (dVar 5)) (dC (.str (Str.ofString " bid 1 2")))) (dCons (dOp (dAdd mkF) (dVar 4) (dC (.str (Str.ofString " ask 1  bid 2")))) (dCons (dOp (dAdd mkF) (dC (.str (Str.ofString "offer "))) (dVar 3)) dNil))))) (tgN 7))
  (dThen (dAsg (dOp (dAdd mkF) (dVar 7) (dLst mkF (dCons (dOp (dAdd mkF) (dOp (dAdd mkF) (dOp (dAdd mkF) (dVar 4) (dC (.str (Str.ofString " if ")))) (dVar 5)) (dC (.str (Str.ofString " ")))) (dCons (dOp (dAdd mkF) (dOp (dAdd mkF) (dVar 4) (dC (.str (Str.ofString " if  ")))) (dVar 5)) (dCons (dOp (dAdd mkF) (dVar 4) (dC (.str (Str.ofString " if 1")))) (dCons (dOp (dAdd mkF) (dVar 4) (dC (.str (Str.ofString " ask 1 if")))) dNil)))))) (tgN 7))
  (dThen (dAsg (dOp dIx (dCall sp_l_bad_words (dCons (dVar 2) dNil)) (dCall sp_l_take (dCons (dVar 0) (dCons (dC (.int 32)) dNil)))) (tgN 8))
  (dThen (dAsg (dOp (dAdd mkF) (dVar 7) (dLst mkF (dCons (dOp (dAdd mkF) (dOp (dAdd mkF) (dVar 4) (dC (.str (Str.ofString "  if ")))) (dVar 5)) (dCons (dOp (dAdd mkF) (dOp (dAdd mkF) (dC (.str (Str.ofString "offer "))) (dVar 8)) (dSliceS (dVar 3) (dPart (dC (.int 2))) dNoP)) (dCons (dOp (dAdd mkF) (dOp (dAdd mkF) (dOp (dAdd mkF) (dC (.str (Str.ofString "offer"))) (dSliceS (dVar 3) (dPart (dC (.int 2))) dNoP)) (dC (.str (Str.ofString " ")))) (dVar 8)) dNil))))) (tgN 7))
  (dThen (dAsg (dOp (dAdd mkF) (dVar 7) (dLst mkF (dCons (dOp (dAdd mkF) (dOp (dAdd mkF) (dVar 4) (dC (.str (Str.ofString " ask ")))) (dVar 8)) (dCons (dOp (dAdd mkF) (dOp (dAdd mkF) (dOp (dAdd mkF) (dOp (dAdd mkF) (dVar 4) (dC (.str (Str.ofString " bid ")))) (dVar 8)) (dC (.str (Str.ofString " if ")))) (dVar 5)) (dCons (dOp (dAdd mkF) (dOp (dAdd mkF) (dVar 4) (dC (.str (Str.ofString " ask 1 bid ")))) (dVar 8)) dNil))))) (tgN 7))
  (dRet (dOp dIx (dVar 7) (dCall sp_l_take (dCons (dVar 0) (dCons (dBu dLen (dCons (dVar 7) dNil)) dNil)))))))))))))))))))
def B_l_bad_heads : DS' :=
  (dThen (dAsg (dLst mkF (dCons (dC (.str (Str.ofString ""))) (dCons (dC (.str (Str.ofString "worlds"))) (dCons (dC (.str (Str.ofString "worlds a"))) (dCons (dOp (dAdd mkF) (dC (.str (Str.ofString "worlds "))) (dOp dIx (dVar 0) (dC (.int 0)))) (dCons (dC (.str (Str.ofString "World a b"))) (dCons (dC (.str (Str.ofString "worlds a a"))) (dCons (dC (.str (Str.ofString "worlds a  b"))) dNil)))))))) (tgN 1))
  (dThen (dAsg (dOp (dAdd mkF) (dVar 1) (dLst mkF (dCons (dC (.str (Str.ofString "worlds a b "))) (dCons (dC (.str (Str.ofString " worlds a b"))) (dCons (dC (.str (Str.ofString "worlds A b"))) (dCons (dC (.str (Str.ofString "worlds a1 b"))) (dCons (dC (.str (Str.ofString "worlds abcdefghi b"))) (dCons (dC (.str (Str.ofString "worlds a b a"))) dNil)))))))) (tgN 1))
  (dThen (dAsg (dOp (dAdd mkF) (dVar 1) (dLst mkF (dCons (dC (.str (Str.ofString "offer 1 1"))) (dCons (dC (.str (Str.ofString "worldsa b"))) (dCons (dC (.str (Str.ofString "world a b"))) (dCons (dC (.str (Str.ofString "worlds a b -"))) (dCons (dC (.str (Str.ofString "worlds 1 2"))) dNil))))))) (tgN 1))
  (dRet (dOp (dAdd mkF) (dVar 1) (dLst mkF (dCons (dOp (dAdd mkF) (dC (.str (Str.ofString "worlds "))) (dMt "str" (dC (.str (Str.ofString " "))) (dCons (dLc mkF (dRng1 (dCons (dC (.int 13)) dNil)) (tgN 2) dYes (dOp dIx (dC (.str (Str.ofString "abcdefghijklm"))) (dVar 2)) [2]) dNil) dJoin)) dNil)))))))
theorem hb_l_bad_words : ∀ ds O Q, sp_l_bad_words ds O Q → B_l_bad_words (rtEnds Q) (startD 2 ds) O := by
  rintro ds O Q ⟨b, n, rfl, hb, q⟩
  have ln := line100000
  have bl : b.length ≤ 30 := by rw [len_tl]; exact hb.len
  have zl : (Txt.zfill b 30).length = 30 := by
    rw [len_tl, zfill_tl hb, List.length_append, List.length_replicate]
    have := hb.len; omega
  have l1 : (Str.ofString "1").length = 1 := by rfl
  have l2 : (Str.ofString "-1").length = 2 := by rfl
  have l3 : (Str.ofString "1/1").length = 3 := by rfl
  have l4 : (Str.ofString "/1").length = 2 := by rfl
  have l5 : (Str.ofString "0/").length = 2 := by rfl
  unfold B_l_bad_words
  walk_at "tx"
  exact ⟨by decide, by omega, by decide, by omega, by decide, by omega, by omega, by omega, rt_here q⟩
theorem pl_name {w : Str} (h : nameW w = true) : PL 9 w := by
  unfold nameW at h
  simp only [Bool.and_eq_true, decide_eq_true_eq, List.all_eq_true] at h
  refine ⟨fun c hc => ?_, by omega⟩
  have := h.2 c hc
  unfold letterB at this
  simp only [Bool.and_eq_true, decide_eq_true_eq] at this
  omega
/-- what an expression surely tells -/
def Is (ρ : DEnv) (O : Ow) (da : DT) (v : D) (O1 : Ow) : Prop := ∀ K : DQ, K v O1 → da ρ O K
def IsA (ρ : DEnv) (O : Ow) (da : DTa) (v : List D) (O1 : Ow) : Prop := ∀ K : List D → Ow → Prop, K v O1 → da ρ O K
theorem nameW_free {w : Str} (h : nameW w = true) : 32 ∉ tl w := fun z => by
  unfold nameW at h
  simp only [Bool.and_eq_true, decide_eq_true_eq, List.all_eq_true] at h
  have := h.2 32 z
  revert this
  decide
theorem then_is {da : DT} {i : Nat} {R : DS'} {E : DEnds} {ρ : DEnv} {O O1 : Ow} {v : D} (h : Is ρ O da v O1) (q : R E (ρ.set i (some v)) O1) : dThen (dAsg da (tgN i)) R E ρ O :=
  h _ ⟨_, rfl, q⟩
theorem then_k {da : DT} {i : Nat} {R : DS'} {E : DEnds} {ρ : DEnv} {O : Ow} (h : ∀ K : DQ, (∀ v O1, R E (ρ.set i (some v)) O1 → K v O1) → da ρ O K) : dThen (dAsg da (tgN i)) R E ρ O := h _ fun _ _ q => ⟨_, rfl, q⟩
theorem ret_k {da : DT} {Q : DQ} {ρ : DEnv} {O : Ow} (h : ∀ K : DQ, (∀ v O1, Q v O1 → K v O1) → da ρ O K) : dRet da (rtEnds Q) ρ O := h _ fun _ _ q => rt_here q
section
variable {ρ : DEnv} {O O1 O2 : Ow} {a b : DT} {x y : Str} {l m : List D} {dl dm : DTa} {v : D}
theorem is_c : Is ρ O (dC v) v O := fun K k => k
theorem is_var {i : Nat} (h : ρ[i]? = some (some v)) : Is ρ O (dVar i) v O := fun K k => ⟨v, h, k⟩
theorem is_app (ha : Is ρ O a (.str x) O1) (hb : Is ρ O1 b (.str y) O2) (h : x.length + y.length ≤ sizeLine) : Is ρ O (dOp (dAdd mkF) a b) (.str (x ++ y)) O2 := fun K k => ha _ (hb _ ⟨h, k⟩)
theorem is_ladd (ha : Is ρ O a (.lst l) O1) (hb : Is ρ O1 b (.lst m) O2) (h : l.length + m.length ≤ 100000) : Is ρ O (dOp (dAdd mkF) a b) (.lst (l ++ m)) O2 := fun K k => ha _ (hb _ ⟨l, rfl, m, rfl, h, k⟩)
theorem is_lst (h : IsA ρ O dl l O1) (hl : l.length ≤ 1000) : Is ρ O (dLst mkF dl) (.lst l) O1 := fun K k => h _ ⟨hl, k⟩
theorem is_nil : IsA ρ O dNil [] O := fun K k => k
theorem is_cons (ha : Is ρ O a v O1) (h : IsA ρ O1 dl l O2) : IsA ρ O (dCons a dl) (v :: l) O2 := fun K k => ha _ (h _ k)
theorem is_sadd {z w : List Str} (ha : Is ρ O a (.lst (strsD z)) O1) (hb : Is ρ O1 b (.lst (strsD w)) O2) (h : z.length + w.length ≤ 100000) : Is ρ O (dOp (dAdd mkF) a b) (.lst (strsD (z ++ w))) O2 := by
  have := is_ladd ha hb (by unfold strsD; rw [List.length_map, List.length_map]; exact h)
  have e : strsD (z ++ w) = strsD z ++ strsD w := by unfold strsD; rw [List.map_append]
  rw [e]; exact this
theorem isd_eq {v' : D} (h : Is ρ O a v O1) (e : v = v') : Is ρ O a v' O1 := e ▸ h
theorem is_cut {i : Int} (ha : Is ρ O a (.str x) O1) (h : x.length ≤ sizeLine) : Is ρ O (dSliceS a (dPart (dC (.int i))) dNoP) (.str (cutS x (some i) none)) O1 := fun K k => ha _ ⟨h, k⟩
end
local macro_rules | `(tactic| walk_at "plen") => `(tactic| (simp only [len_app, ll0, ll1, ll2, ll3, ll4, ll5, ll6, ll7, ll8, ll9, ll10, ll11, ll12, ll13, ll14, ll15, ll16, ll17, ll18, ll19, ll20, ll21, ll22, ll23, ll24, ll25, ll26, ll27, ll28, ll29, ll30, ll31, ll32, ll33, ll34, ll35, ll36, ll37]; omega))
theorem hb_l_bad_line : ∀ ds O Q, sp_l_bad_line ds O Q → B_l_bad_line (rtEnds Q) (startD 9 ds) O := by
  rintro ds O Q ⟨p, a, m, n, c, nb, d, names, b, rfl, hp, hb, hn, hne, hd, hN, hc, hB, q⟩
  have ln := line100000
  have c12 : c ≤ 12 := by rw [← hc]; exact hN.2.1
  have c2 : 2 ≤ c := by rw [← hc]; exact hN.1
  obtain ⟨one, e1⟩ : ∃ one, names[0]? = some one := ⟨_, List.getElem?_eq_getElem (by omega)⟩
  obtain ⟨last, el⟩ : ∃ last, names[c - 1]? = some last := ⟨_, List.getElem?_eq_getElem (by omega)⟩
  have n1 := hN.2.2.1 one (List.mem_of_getElem? e1)
  have nl := hN.2.2.1 last (List.mem_of_getElem? el)
  have pW := (pl_W c12).2
  have pC := (pl_C c12).2
  have pG := (pl_G c12).2
  have p1 := (pl_name n1).2
  have pl := (pl_name nl).2
  rw [← len_tl] at pW pC pG p1 pl
  unfold B_l_bad_line
  have pw : ∀ w ∈ badWords b, PL 33 w ∧ rdRat w = none ∧ (w = Str.ofString "1 " ∨ 32 ∉ tl w) := fun w hw => ⟨⟨(bad_plain hB w hw).1, by rw [← len_tl]; exact (bad_plain hB w hw).2.1⟩, bad_none hB w hw, (bad_plain hB w hw).2.2⟩
  have pw : ∀ w ∈ badWords b, PL 33 w ∧ rdRat w = none ∧ (w = Str.ofString "1 " ∨ 32 ∉ tl w) := fun w hw => ⟨⟨(bad_plain hB w hw).1, by rw [← len_tl]; exact (bad_plain hB w hw).2.1⟩, bad_none hB w hw, (bad_plain hB w hw).2.2⟩
  simp (dsimp := false) only [startD, List.map_cons, List.map_nil, List.length_cons, List.length_nil, List.replicate_zero, List.replicate_succ, List.cons_append, List.nil_append, List.set_cons_zero, List.set_cons_succ, Nat.reduceAdd, Nat.reduceSub]
  refine then_is (v := .str (worthsS c)) (O1 := O) (fun K hK => ?_) ?_
  · walk_at "tx"
    refine len_lv hd ?_
    rw [strs_len, hc]
    exact ⟨⟨by decide, by omega, by omega⟩, hK⟩
  simp (dsimp := false) only [startD, List.map_cons, List.map_nil, List.length_cons, List.length_nil, List.replicate_zero, List.replicate_succ, List.cons_append, List.nil_append, List.set_cons_zero, List.set_cons_succ, Nat.reduceAdd, Nat.reduceSub]
  refine then_is (v := .str (goodS c)) (O1 := O) (is_app (x := Str.ofString "offer") (y := worthsS c) is_c (is_var rfl) (by walk_at "plen")) ?_
  simp (dsimp := false) only [startD, List.map_cons, List.map_nil, List.length_cons, List.length_nil, List.replicate_zero, List.replicate_succ, List.cons_append, List.nil_append, List.set_cons_zero, List.set_cons_succ, Nat.reduceAdd, Nat.reduceSub]
  refine then_is (v := .str one) (O1 := O) (fun K hK => ?_) ?_
  · walk_at "tx"
    exact ix_lv hd (by rw [show (0 : Int) = ((0 : Nat) : Int) from rfl]; exact atI_nat (by unfold strsD; rw [List.getElem?_map, e1]; rfl)) hK
  simp (dsimp := false) only [startD, List.map_cons, List.map_nil, List.length_cons, List.length_nil, List.replicate_zero, List.replicate_succ, List.cons_append, List.nil_append, List.set_cons_zero, List.set_cons_succ, Nat.reduceAdd, Nat.reduceSub]
  refine then_is (v := .str last) (O1 := O) (fun K hK => ?_) ?_
  · walk_at "tx"
    refine ix_lv hd (x := .str last) ?_ hK
    unfold atI ixN
    rw [if_neg (by decide), strs_len, hc]
    rw [if_pos (by omega)]
    show (strsD names)[((c : Int) + -1).toNat]? = _
    rw [show ((c : Int) + -1).toNat = c - 1 by omega]
    unfold strsD
    rw [List.getElem?_map, el]; rfl
  simp (dsimp := false) only [startD, List.map_cons, List.map_nil, List.length_cons, List.length_nil, List.replicate_zero, List.replicate_succ, List.cons_append, List.nil_append, List.set_cons_zero, List.set_cons_succ, Nat.reduceAdd, Nat.reduceSub]
  refine then_is (v := .lst (strsD (badP0 c one last Str.empty))) (O1 := O) ?_ ?_
  · refine isd_eq (is_lst (O1 := O) (l := strsD (badP0 c one last Str.empty)) ?_ (by simp [strsD, badP0, badP1, badP2, badP3, badP4, badP5, badP6, badP7, badP8])) rfl
    unfold strsD badP0
    repeat' first | exact is_nil | exact is_c | exact is_var rfl | apply is_cons | apply is_app | apply is_cut | omega | walk_at "plen"
  simp (dsimp := false) only [startD, List.map_cons, List.map_nil, List.length_cons, List.length_nil, List.replicate_zero, List.replicate_succ, List.cons_append, List.nil_append, List.set_cons_zero, List.set_cons_succ, Nat.reduceAdd, Nat.reduceSub]
  refine then_is (v := .lst (strsD (badP0 c one last Str.empty ++ badP1 c one last Str.empty))) (O1 := O) ?_ ?_
  · refine is_sadd (z := badP0 c one last Str.empty) (w := badP1 c one last Str.empty) (is_var rfl) ?_ (by simp [badP0, badP1, badP2, badP3, badP4, badP5, badP6, badP7, badP8])
    refine isd_eq (is_lst (O1 := O) (l := strsD (badP1 c one last Str.empty)) ?_ (by simp [strsD, badP0, badP1, badP2, badP3, badP4, badP5, badP6, badP7, badP8])) rfl
    unfold strsD badP1
    repeat' first | exact is_nil | exact is_c | exact is_var rfl | apply is_cons | apply is_app | apply is_cut | omega | walk_at "plen"
  simp (dsimp := false) only [startD, List.map_cons, List.map_nil, List.length_cons, List.length_nil, List.replicate_zero, List.replicate_succ, List.cons_append, List.nil_append, List.set_cons_zero, List.set_cons_succ, Nat.reduceAdd, Nat.reduceSub]
  refine then_is (v := .lst (strsD (badP0 c one last Str.empty ++ badP1 c one last Str.empty ++ badP2 c one last Str.empty))) (O1 := O) ?_ ?_
  · refine is_sadd (z := badP0 c one last Str.empty ++ badP1 c one last Str.empty) (w := badP2 c one last Str.empty) (is_var rfl) ?_ (by simp [badP0, badP1, badP2, badP3, badP4, badP5, badP6, badP7, badP8])
    refine isd_eq (is_lst (O1 := O) (l := strsD (badP2 c one last Str.empty)) ?_ (by simp [strsD, badP0, badP1, badP2, badP3, badP4, badP5, badP6, badP7, badP8])) rfl
    unfold strsD badP2
    repeat' first | exact is_nil | exact is_c | exact is_var rfl | apply is_cons | apply is_app | apply is_cut | omega | walk_at "plen"
  simp (dsimp := false) only [startD, List.map_cons, List.map_nil, List.length_cons, List.length_nil, List.replicate_zero, List.replicate_succ, List.cons_append, List.nil_append, List.set_cons_zero, List.set_cons_succ, Nat.reduceAdd, Nat.reduceSub]
  refine then_is (v := .lst (strsD (badP0 c one last Str.empty ++ badP1 c one last Str.empty ++ badP2 c one last Str.empty ++ badP3 c one last Str.empty))) (O1 := O) ?_ ?_
  · refine is_sadd (z := badP0 c one last Str.empty ++ badP1 c one last Str.empty ++ badP2 c one last Str.empty) (w := badP3 c one last Str.empty) (is_var rfl) ?_ (by simp [badP0, badP1, badP2, badP3, badP4, badP5, badP6, badP7, badP8])
    refine isd_eq (is_lst (O1 := O) (l := strsD (badP3 c one last Str.empty)) ?_ (by simp [strsD, badP0, badP1, badP2, badP3, badP4, badP5, badP6, badP7, badP8])) rfl
    unfold strsD badP3
    repeat' first | exact is_nil | exact is_c | exact is_var rfl | apply is_cons | apply is_app | apply is_cut | omega | walk_at "plen"
  simp (dsimp := false) only [startD, List.map_cons, List.map_nil, List.length_cons, List.length_nil, List.replicate_zero, List.replicate_succ, List.cons_append, List.nil_append, List.set_cons_zero, List.set_cons_succ, Nat.reduceAdd, Nat.reduceSub]
  refine then_is (v := .lst (strsD (badP0 c one last Str.empty ++ badP1 c one last Str.empty ++ badP2 c one last Str.empty ++ badP3 c one last Str.empty ++ badP4 c one last Str.empty))) (O1 := O) ?_ ?_
  · refine is_sadd (z := badP0 c one last Str.empty ++ badP1 c one last Str.empty ++ badP2 c one last Str.empty ++ badP3 c one last Str.empty) (w := badP4 c one last Str.empty) (is_var rfl) ?_ (by simp [badP0, badP1, badP2, badP3, badP4, badP5, badP6, badP7, badP8])
    refine isd_eq (is_lst (O1 := O) (l := strsD (badP4 c one last Str.empty)) ?_ (by simp [strsD, badP0, badP1, badP2, badP3, badP4, badP5, badP6, badP7, badP8])) rfl
    unfold strsD badP4
    repeat' first | exact is_nil | exact is_c | exact is_var rfl | apply is_cons | apply is_app | apply is_cut | omega | walk_at "plen"
  simp (dsimp := false) only [startD, List.map_cons, List.map_nil, List.length_cons, List.length_nil, List.replicate_zero, List.replicate_succ, List.cons_append, List.nil_append, List.set_cons_zero, List.set_cons_succ, Nat.reduceAdd, Nat.reduceSub]
  refine then_is (v := .lst (strsD (badP0 c one last Str.empty ++ badP1 c one last Str.empty ++ badP2 c one last Str.empty ++ badP3 c one last Str.empty ++ badP4 c one last Str.empty ++ badP5 c one last Str.empty))) (O1 := O) ?_ ?_
  · refine is_sadd (z := badP0 c one last Str.empty ++ badP1 c one last Str.empty ++ badP2 c one last Str.empty ++ badP3 c one last Str.empty ++ badP4 c one last Str.empty) (w := badP5 c one last Str.empty) (is_var rfl) ?_ (by simp [badP0, badP1, badP2, badP3, badP4, badP5, badP6, badP7, badP8])
    refine isd_eq (is_lst (O1 := O) (l := strsD (badP5 c one last Str.empty)) ?_ (by simp [strsD, badP0, badP1, badP2, badP3, badP4, badP5, badP6, badP7, badP8])) rfl
    unfold strsD badP5
    repeat' first | exact is_nil | exact is_c | exact is_var rfl | apply is_cons | apply is_app | apply is_cut | omega | walk_at "plen"
  simp (dsimp := false) only [startD, List.map_cons, List.map_nil, List.length_cons, List.length_nil, List.replicate_zero, List.replicate_succ, List.cons_append, List.nil_append, List.set_cons_zero, List.set_cons_succ, Nat.reduceAdd, Nat.reduceSub]
  refine then_is (v := .lst (strsD (badP0 c one last Str.empty ++ badP1 c one last Str.empty ++ badP2 c one last Str.empty ++ badP3 c one last Str.empty ++ badP4 c one last Str.empty ++ badP5 c one last Str.empty ++ badP6 c one last Str.empty))) (O1 := O) ?_ ?_
  · refine is_sadd (z := badP0 c one last Str.empty ++ badP1 c one last Str.empty ++ badP2 c one last Str.empty ++ badP3 c one last Str.empty ++ badP4 c one last Str.empty ++ badP5 c one last Str.empty) (w := badP6 c one last Str.empty) (is_var rfl) ?_ (by simp [badP0, badP1, badP2, badP3, badP4, badP5, badP6, badP7, badP8])
    refine isd_eq (is_lst (O1 := O) (l := strsD (badP6 c one last Str.empty)) ?_ (by simp [strsD, badP0, badP1, badP2, badP3, badP4, badP5, badP6, badP7, badP8])) rfl
    unfold strsD badP6
    repeat' first | exact is_nil | exact is_c | exact is_var rfl | apply is_cons | apply is_app | apply is_cut | omega | walk_at "plen"
  simp (dsimp := false) only [startD, List.map_cons, List.map_nil, List.length_cons, List.length_nil, List.replicate_zero, List.replicate_succ, List.cons_append, List.nil_append, List.set_cons_zero, List.set_cons_succ, Nat.reduceAdd, Nat.reduceSub]
  refine then_k fun K hK => ?_
  walk_at "tx"
  refine ⟨b, nb, rfl, hB, ?_⟩
  walk_at "tx"
  refine take_ap hp hb (by omega) (by omega) (Sz.lt (b := 64) (by omega) (by omega) (by decide)) fun u a1 m1 u0 u1 hb1 => ?_
  have bl32 : (badWords b).length = 32 := rfl
  obtain ⟨word, hw⟩ : ∃ word, (badWords b)[u.toNat]? = some word := ⟨_, List.getElem?_eq_getElem (by omega)⟩
  have e2 : u = ((u.toNat : Nat) : Int) := by omega
  rw [e2]
  refine ix_lv (l := strsD (badWords b)) (x := .str word) rfl (atI_nat (by unfold strsD; rw [List.getElem?_map, hw]; rfl)) (hK _ _ ?_)
  clear hK K
  obtain ⟨pw1, pw2, pw3⟩ := pw word (List.mem_of_getElem? hw)
  have pwl := pw1.2
  rw [← len_tl] at pwl
  have e6 : strsD (badP0 c one last Str.empty ++ badP1 c one last Str.empty ++ badP2 c one last Str.empty ++ badP3 c one last Str.empty ++ badP4 c one last Str.empty ++ badP5 c one last Str.empty ++ badP6 c one last Str.empty) = strsD (badP0 c one last word ++ badP1 c one last word ++ badP2 c one last word ++ badP3 c one last word ++ badP4 c one last word ++ badP5 c one last word ++ badP6 c one last word) := rfl
  rw [e6]
  simp (dsimp := false) only [startD, List.map_cons, List.map_nil, List.length_cons, List.length_nil, List.replicate_zero, List.replicate_succ, List.cons_append, List.nil_append, List.set_cons_zero, List.set_cons_succ, Nat.reduceAdd, Nat.reduceSub]
  refine then_is (v := .lst (strsD (badP0 c one last word ++ badP1 c one last word ++ badP2 c one last word ++ badP3 c one last word ++ badP4 c one last word ++ badP5 c one last word ++ badP6 c one last word ++ badP7 c one last word))) (O1 := (O.set p (bagD a1 m1))) ?_ ?_
  · refine is_sadd (z := badP0 c one last word ++ badP1 c one last word ++ badP2 c one last word ++ badP3 c one last word ++ badP4 c one last word ++ badP5 c one last word ++ badP6 c one last word) (w := badP7 c one last word) (is_var rfl) ?_ (by simp [badP0, badP1, badP2, badP3, badP4, badP5, badP6, badP7, badP8])
    refine isd_eq (is_lst (O1 := (O.set p (bagD a1 m1))) (l := strsD (badP7 c one last word)) ?_ (by simp [strsD, badP0, badP1, badP2, badP3, badP4, badP5, badP6, badP7, badP8])) rfl
    unfold strsD badP7
    repeat' first | exact is_nil | exact is_c | exact is_var rfl | apply is_cons | apply is_app | apply is_cut | omega | walk_at "plen"
  simp (dsimp := false) only [startD, List.map_cons, List.map_nil, List.length_cons, List.length_nil, List.replicate_zero, List.replicate_succ, List.cons_append, List.nil_append, List.set_cons_zero, List.set_cons_succ, Nat.reduceAdd, Nat.reduceSub]
  refine then_is (v := .lst (strsD (badP0 c one last word ++ badP1 c one last word ++ badP2 c one last word ++ badP3 c one last word ++ badP4 c one last word ++ badP5 c one last word ++ badP6 c one last word ++ badP7 c one last word ++ badP8 c one last word))) (O1 := (O.set p (bagD a1 m1))) ?_ ?_
  · refine is_sadd (z := badP0 c one last word ++ badP1 c one last word ++ badP2 c one last word ++ badP3 c one last word ++ badP4 c one last word ++ badP5 c one last word ++ badP6 c one last word ++ badP7 c one last word) (w := badP8 c one last word) (is_var rfl) ?_ (by simp [badP0, badP1, badP2, badP3, badP4, badP5, badP6, badP7, badP8])
    refine isd_eq (is_lst (O1 := (O.set p (bagD a1 m1))) (l := strsD (badP8 c one last word)) ?_ (by simp [strsD, badP0, badP1, badP2, badP3, badP4, badP5, badP6, badP7, badP8])) rfl
    unfold strsD badP8
    repeat' first | exact is_nil | exact is_c | exact is_var rfl | apply is_cons | apply is_app | apply is_cut | omega | walk_at "plen"
  simp (dsimp := false) only [startD, List.map_cons, List.map_nil, List.length_cons, List.length_nil, List.replicate_zero, List.replicate_succ, List.cons_append, List.nil_append, List.set_cons_zero, List.set_cons_succ, Nat.reduceAdd, Nat.reduceSub]
  refine ret_k fun K hK => ?_
  have mem := bad_lines hN hc e1 el (nameW_free n1) (nameW_free nl) pw3 pw2
  have mpl := bad_pl c12 (pl_name n1) (pl_name nl) pw1
  have b35 : (badLines c one last word).length = 35 := rfl
  rw [show badP0 c one last word ++ badP1 c one last word ++ badP2 c one last word ++ badP3 c one last word ++ badP4 c one last word ++ badP5 c one last word ++ badP6 c one last word ++ badP7 c one last word ++ badP8 c one last word = badLines c one last word from rfl]
  generalize badLines c one last word = BL at mem mpl b35
  walk_at "tx"
  rw [strs_len, b35]
  refine take_ap Ow.set_same hb1 (by omega) (by omega) (Sz.lt (b := 64) (by omega) (by omega) (by decide)) fun v a2 m2 v0 v1 hb2 => ?_
  rw [Ow.set_set]
  obtain ⟨z, hz⟩ : ∃ z, BL[v.toNat]? = some z := ⟨_, List.getElem?_eq_getElem (by omega)⟩
  have e3 : v = ((v.toNat : Nat) : Int) := by omega
  rw [e3]
  exact ix_lv (l := strsD BL) (x := .str z) rfl (atI_nat (by unfold strsD; rw [List.getElem?_map, hz]; rfl)) (hK _ _ (q z a2 m2 (mem z (List.mem_of_getElem? hz)) (mpl z (List.mem_of_getElem? hz)) (hb2.mono (by omega))))
theorem abc_at : ∀ i : Nat, i < 13 → atI (Str.ofString "abcdefghijklm").cps.toList (i : Int) = some (97 + i) := by decide +kernel
theorem abc_tl : ∀ i, i < 13 → (abcS.map tl)[i]? = some [97 + i] := by decide +kernel
theorem abc_get {i : Nat} (h : i < 13) : abcS[i]? = some ⟨#[97 + i]⟩ := by
  have := abc_tl i h
  rw [List.getElem?_map] at this
  obtain ⟨x, hx, e⟩ := Option.map_eq_some_iff.mp this
  rw [hx, show x = ⟨#[97 + i]⟩ from tl_inj e]
theorem hb_l_bad_heads : ∀ ds O Q, sp_l_bad_heads ds O Q → B_l_bad_heads (rtEnds Q) (startD 3 ds) O := by
  rintro ds O Q ⟨d, one, rest, rfl, hd, h1, q⟩
  have ln := line100000
  have l0 : (Str.ofString "worlds ").length = 7 := by rfl
  have l1 : (Str.ofString "abcdefghijklm").length = 13 := by rfl
  unfold B_l_bad_heads
  walk_at "tx"
  refine ix_lv hd at0 ?_
  walk_at "tx"
  refine ⟨by omega, by decide, by decide, by decide, ?_⟩
  refine lc_idx (fun i acc O' => i ≤ 13 ∧ acc = strsD (abcS.take i) ∧ O' = O) ?_ ?_ ⟨Nat.zero_le _, rfl, rfl⟩
  · rintro i hi acc O' R ⟨_, rfl, rfl⟩ hR
    rw [rangeD_len] at hi
    have hi : i < 13 := hi
    rw [rangeD_at]
    refine ⟨_, rfl, ?_⟩
    walk_at "tx"
    refine ⟨by omega, _, abc_at i hi, ?_⟩
    refine hR _ _ ⟨hi, ?_, rfl⟩
    have hl : i < abcS.length := hi
    have e : abcS[i] = ⟨#[97 + i]⟩ := by
      have := abc_get hi
      rw [List.getElem?_eq_getElem hl] at this
      exact Option.some.inj this
    rw [List.take_succ_eq_append_getElem hl, e]
    unfold strsD
    rw [List.map_append]; rfl
  · rintro acc O' ⟨_, rfl, rfl⟩
    rw [rangeD_len, show (Int.toNat 13) = abcS.length from rfl, List.take_length]
    walk_at "tx"
    refine ⟨abcS, rfl, by decide +kernel, ?_, rt_here q⟩
    have : (Txt.join (Str.ofString " ") abcS).length = 25 := by rw [len_tl]; decide +kernel
    omega
def RefT (z : Str) (k : Int) : Prop := z.length ≤ 90000 ∧ Asc z ∧ ∃ (f w : Str) (lines names : List Str), Txt.split z ⟨#[10]⟩ = f :: lines ∧ lines.length ≤ 1000 ∧ Txt.split f ⟨#[32]⟩ = w :: names ∧
  ((¬ (tl w = tl worldsS ∧ NamesOk names) ∧ k = 0) ∨ ((tl w = tl worldsS ∧ NamesOk names) ∧ ∃ j : Nat, BadAt names lines j ∧ k = ((j + 1 : Nat) : Int)))
def TextL (ls : List Str) : Prop := ls.length ≤ 20 ∧ ∀ z ∈ ls, PL 2500 z
theorem TextL.join {f : Str} {ls : List Str} (h : TextL (f :: ls)) : (Txt.join ⟨#[10]⟩ (f :: ls)).length ≤ 90000 ∧ Asc (Txt.join ⟨#[10]⟩ (f :: ls)) ∧ Txt.split (Txt.join ⟨#[10]⟩ (f :: ls)) ⟨#[10]⟩ = f :: ls ∧ ((f :: ls).map fun x => x.length).sum + (f :: ls).length * (⟨#[10]⟩ : Str).length ≤ 16777216 := by
  obtain ⟨h1, h2⟩ := h
  have l2 : ∀ y ∈ f :: ls, y.length ≤ 2500 := fun y hy => by rw [len_tl]; exact (h2 y hy).2
  have s1 := sum_len l2
  have j1 := join_len (sep := ⟨#[10]⟩) l2
  have e10 : (⟨#[10]⟩ : Str).length = 1 := rfl
  have k1 : (f :: ls).length * 2500 ≤ 20 * 2500 := Nat.mul_le_mul_right _ h1
  have k2 : (f :: ls).length * (2500 + 1) ≤ 20 * (2500 + 1) := Nat.mul_le_mul_right _ h1
  rw [e10] at j1 ⊢
  refine ⟨by omega, ?_, split_join (by simp) fun y hy z => ((h2 y hy).1 10 z).1 rfl, by omega⟩
  intro c hc
  rw [tl_join, List.map_cons, joinL_flat] at hc
  have key : ∀ y ∈ f :: ls, ∀ c ∈ tl y, c < 1114112 := fun y hy c hc => by have := ((h2 y hy).1 c hc).2; omega
  rcases List.mem_append.mp hc with q | q
  · exact key f (List.mem_cons_self ..) c q
  · obtain ⟨l, hl, h3⟩ := List.mem_flatten.mp q
    simp only [List.mem_map] at hl
    obtain ⟨a, ⟨y, hy, rfl⟩, rfl⟩ := hl
    rcases List.mem_append.mp h3 with z | z
    · have : c = 10 := by simpa [tl] using z
      omega
    · exact key y (List.mem_cons_of_mem _ hy) c z
theorem refT_head {f : Str} {ls : List Str} (h : TextL (f :: ls)) (hb : BadH f) : RefT (Txt.join ⟨#[10]⟩ (f :: ls)) 0 := by
  obtain ⟨h1, h2, h3, _⟩ := h.join
  obtain ⟨w, names, e, n⟩ := hb
  have := h.1
  simp at this
  exact ⟨h1, h2, f, w, ls, names, h3, by omega, e, .inl ⟨n, rfl⟩⟩
theorem refT_row {f : Str} {ls names : List Str} {j : Nat} (h : TextL (f :: ls)) (e : Txt.split f ⟨#[32]⟩ = worldsS :: names) (hN : NamesOk names) (hb : BadAt names ls j) : RefT (Txt.join ⟨#[10]⟩ (f :: ls)) ((j + 1 : Nat) : Int) := by
  obtain ⟨h1, h2, h3, _⟩ := h.join
  have := h.1
  simp at this
  exact ⟨h1, h2, f, worldsS, ls, names, h3, by omega, e, .inr ⟨⟨rfl, hN⟩, j, hb, rfl⟩⟩
def sp_l_refusal_fdc7 : DL := fun ds O Q => ∃ (z : Str) (k : Int), ds = [.str z] ∧ RefT z k ∧ ∀ a dd O', O.le O' → O' a = some (.exc a "NoText" (some dd)) → O' dd = some (.xd [("at", .int k)]) → Q (.ref a) O'
theorem ln_l_refusal_fdc7 : ∀ ds O Q, sp_l_refusal_fdc7 ds O Q → ds.length = 1 := by rintro ds O Q ⟨a, b, rfl, _⟩; rfl
def B_l_refusal_fdc7 : DS' :=
  (dThen (dTryK (dDrop (dCall sp_read (dCons (dVar 0) dNil))) (drCall spR_read (dCons (dVar 0) dNil)) "NoText" 1 (dRet (dVar 1)))
  (dRet (dC .non)))
theorem hb_l_refusal_fdc7 : ∀ ds O Q, sp_l_refusal_fdc7 ds O Q → B_l_refusal_fdc7 (rtEnds Q) (startD 2 ds) O := by
  rintro ds O Q ⟨z, k, rfl, ⟨hz, az, f, w, lines, names, h1, h2, h3, h4⟩, q⟩
  unfold B_l_refusal_fdc7 dTryK
  refine .inr ?_
  unfold drCall
  walk_at "tx"
  have fin : ExT k O (fun m' d O' => m' = "NoText" ∧ ∀ a, O' a = none → (rtEnds Q).rt (.ref a) (O'.set a (.exc a "NoText" d))) := by
    intro O1 dd le1 hdd
    refine ⟨rfl, fun a ha => rt_here (q a dd _ ?_ Ow.set_same ?_)⟩
    · intro b u hb
      have n1 : b ≠ dd := fun y => by rw [← y, le1 b u hb] at hdd; cases hdd
      have n2 : b ≠ a := fun y => by rw [← y, Ow.set_ne n1, le1 b u hb] at ha; cases ha
      rw [Ow.set_ne n2, Ow.set_ne n1]; exact le1 b u hb
    · have n3 : dd ≠ a := fun y => by rw [← y, Ow.set_same] at ha; cases ha
      rw [Ow.set_ne n3, Ow.set_same]
  refine ⟨z, f, w, lines, names, rfl, hz, az, h1, h2, h3, ?_⟩
  rcases h4 with ⟨h5, rfl⟩ | ⟨h5, j, h6, rfl⟩
  · exact .inl ⟨h5, fin⟩
  · exact .inr ⟨h5, j, h6, fin⟩
def sp_l_refused_810f : DL := fun ds O Q => ∃ (z : Str) (k : Int), ds = [.str z, .int k] ∧ RefT z k ∧ Q (.bl true) O
theorem ln_l_refused_810f : ∀ ds O Q, sp_l_refused_810f ds O Q → ds.length = 2 := by rintro ds O Q ⟨a, b, rfl, _⟩; rfl
def B_l_refused_810f : DS' :=
  (dThen (dAsg (dCall sp_l_refusal_fdc7 (dCons (dVar 0) dNil)) (tgN 2))
  (dThen (dIfS (dOr (dNot (dTest (dIsK "NoText" true (dVar 2)))) (dNot (dTest (dIsK "NoText" true (dVar 2))))) (dRet (dC (.bl false))) dNext)
  (dThen (dIfS (dTest (dIsK "NoText" false (dVar 2))) (dRet (dC (.bl false))) dNext)
  (dRet (dAndV (dCall sp_l_whole (dCons (dXk "NoText" "at" (dVar 2)) dNil)) (dOp dEq (dXk "NoText" "at" (dVar 2)) (dVar 1)))))))
theorem hb_l_refused_810f : ∀ ds O Q, sp_l_refused_810f ds O Q → B_l_refused_810f (rtEnds Q) (startD 3 ds) O := by
  rintro ds O Q ⟨z, k, rfl, h, q⟩
  unfold B_l_refused_810f
  walk_at "tx"
  refine ⟨z, k, rfl, h, fun a dd O1 le1 ha hd => ?_⟩
  unfold dIsK dXk
  walk_at "tx"
  have x1 : XdTO O1 (some dd) := .inr ⟨dd, _, rfl, hd⟩
  refine ⟨a, _, rfl, ha, x1, a, _, rfl, ha, x1, a, _, rfl, ha, x1, a, dd, _, _, rfl, ha, hd, rfl, ?_⟩
  refine ⟨_, rfl, ?_⟩
  walk_at "tx"
  refine ⟨a, dd, _, _, rfl, ha, hd, rfl, ?_⟩
  walk_at "tx"
  exact ⟨O, le1, q⟩
def GoodR (names : List Str) (z : Str) : Prop := ∃ o, rowP names (Txt.split z ⟨#[32]⟩) = some o
structure SpOk (names : List Str) (rows : List Str) (bad : Option Nat) : Prop where
  len : rows.length ≤ 16
  pl : ∀ z ∈ rows, PL 2500 z
  st : match bad with
    | none => rows.length ≤ 12 ∧ ∀ z ∈ rows, GoodR names z
    | some j => BadAt names rows j
def badD : Option Nat → D
  | none => .non
  | some j => .int ((j + 1 : Nat) : Int)
theorem good_ones {names : List Str} {c : Nat} (hc : names.length = c) : GoodR names (goodS c) := by
  have e : Txt.split (goodS c) ⟨#[32]⟩ = Str.ofString "offer" :: List.replicate c oneS := split_line good_tl (by decide +kernel) one_free
  refine ⟨⟨List.replicate c 1, none, none, none⟩, ?_⟩
  rw [e]
  show (if tl (Str.ofString "offer") = tl offerS then match takeN names.length (List.replicate c oneS) with
      | none => none
      | some (rs, w1) => tailP names w1 rs
      else none) = _
  have e2 : takeN c (List.replicate c oneS) = some (List.replicate c 1, []) := by
    have := takeN_ones (k := c) (m := 0) (ws := [])
    rw [Nat.add_zero, List.append_nil] at this
    rw [this]; simp [takeN]
  rw [if_pos (show tl (Str.ofString "offer") = tl offerS from rfl), hc, e2]
  rfl
theorem SpOk.spoil {names rows : List Str} {bad : Option Nat} {i : Nat} {z : Str} (h : SpOk names rows bad) (hi : i < rows.length) (hz : BadL names z) (pz : PL 200 z) :
    SpOk names (rows.set i z) (match bad with | none => some i | some j => if i < j then some i else some j) := by
  have at_i : (rows.set i z)[i]? = some z := by simp [hi]
  have other : ∀ k, k ≠ i → (rows.set i z)[k]? = rows[k]? := fun k hk => by rw [List.getElem?_set_ne hk.symm]
  refine ⟨by rw [List.length_set]; exact h.len, fun y hy => ?_, ?_⟩
  · rcases List.mem_or_eq_of_mem_set hy with q | q
    · exact h.pl y q
    · rw [q]; exact pz.mono (by decide)
  cases bad with
  | none =>
    obtain ⟨h1, h2⟩ := h.st
    refine ⟨fun k l hk hl => ?_, z, at_i, .inr hz⟩
    rw [other k (by omega)] at hl
    have := (List.getElem?_eq_some_iff.mp hl).1
    exact ⟨by omega, h2 l (List.mem_of_getElem? hl)⟩
  | some j =>
    have h1 : BadAt names rows j := h.st
    show match (if i < j then some i else some j) with
      | none => (rows.set i z).length ≤ 12 ∧ ∀ y ∈ rows.set i z, GoodR names y
      | some j => BadAt names (rows.set i z) j
    by_cases hij : i < j
    · rw [if_pos hij]
      refine ⟨fun k l hk hl => ?_, z, at_i, .inr hz⟩
      rw [other k (by omega)] at hl
      exact h1.1 k l (by omega) hl
    · rw [if_neg hij]
      refine ⟨fun k l hk hl => ?_, ?_⟩
      · rw [other k (by omega)] at hl
        exact h1.1 k l hk hl
      · by_cases e : i = j
        · subst e
          exact ⟨z, at_i, .inr hz⟩
        · rw [other j (fun y => e y.symm)]
          exact h1.2
theorem SpOk.long {names rows : List Str} (hl : rows.length ≤ 16) (h13 : 13 ≤ rows.length) (pl : ∀ z ∈ rows, PL 2500 z) (hg : ∀ z ∈ rows, GoodR names z) : SpOk names rows (some 12) :=
  ⟨hl, pl, fun k l hk hl => ⟨hk, hg l (List.mem_of_getElem? hl)⟩, rows[12], List.getElem?_eq_getElem (by omega), .inl (Nat.le_refl _)⟩
theorem words_free {c : Nat} {names : List Str} {o : Off} (hN : NamesOk names) (hc : names.length = c) (h : OffT c o) : Txt.split (lineS names o) ⟨#[32]⟩ = wordsOf names o :=
  split_join (by unfold wordsOf; simp) fun w hw z => absurd rfl (plain_words hN.2.2.1 hc h w hw 32 z).2.1
theorem rows_ok {c : Nat} {names : List Str} {offs : List Off} (hN : NamesOk names) (hc : names.length = c) (hl : offs.length ≤ 12) (ho : ∀ o ∈ offs, OffT c o) : SpOk names (offs.map (lineS names)) none := by
  refine ⟨by rw [List.length_map]; omega, fun z hz => ?_, by rw [List.length_map]; exact hl, fun z hz => ?_⟩
  · have m := List.mem_cons_of_mem (headS names) hz
    refine ⟨text_signs hN hc ho z m, ?_⟩
    have := lines_len hN hc ho z m
    rw [len_tl] at this; omega
  · obtain ⟨o, ho2, rfl⟩ := List.mem_map.mp hz
    exact ⟨o, by rw [words_free hN hc (ho o ho2)]; exact row_show hN.2.2.2 hc (ho o ho2)⟩
theorem head_ok {c : Nat} {names : List Str} (hN : NamesOk names) (hc : names.length = c) : PL 2500 (headS names) ∧ Txt.split (headS names) ⟨#[32]⟩ = worldsS :: names := by
  have m : headS names ∈ headS names :: ([] : List Off).map (lineS names) := List.mem_cons_self ..
  refine ⟨⟨text_signs hN hc (by simp) _ m, ?_⟩, ?_⟩
  · have := lines_len hN hc (offs := []) (by simp) _ m
    rw [len_tl] at this; omega
  · rw [head_join (fun z => by have := hN.1; rw [z] at this; simp at this)]
    refine split_join (by simp) fun w hw z => ?_
    rcases List.mem_cons.mp hw with q | q
    · rw [q] at z; revert z; decide +kernel
    · exact nameW_free (hN.2.2.1 w q) z
def sp_l_spoilt_good : DL := fun ds O Q => ∃ (p : Addr) (a m : Int) (n c nb : Nat) (d e : D) (names : List Str) (offs : List Off) (b : Str), ds = [.ref p, d, e, .str b] ∧ O p = some (bagD a m) ∧ okB n a m ∧ n < 700000000 ∧ d ≠ .ref p ∧ e ≠ .ref p ∧
  lv O d = some (strsD names) ∧ lv O e = some (offs.map offD) ∧ NamesOk names ∧ names.length = c ∧ offs.length ≤ 12 ∧ (∀ o ∈ offs, OffT c o) ∧ Big b nb ∧
  ∀ a' m', okB (n + 100) a' m' → Q (.bl true) (O.set p (bagD a' m'))
theorem ln_l_spoilt_good : ∀ ds O Q, sp_l_spoilt_good ds O Q → ds.length = 4 := by rintro ds O Q ⟨p, a, m, n, c, nb, d, e, names, offs, b, rfl, _⟩; rfl
def B_l_spoilt_good_b1 : DS' :=
  (dDrop (dMt "list" (dVar 4) (dCons (dOp (dAdd mkF) (dC (.str (Str.ofString "offer"))) (dOp dMulS (dC (.str (Str.ofString " 1"))) (dBu dLen (dCons (dVar 1) dNil)))) dNil) dAppend))
def B_l_spoilt_good_b2 : DS' :=
  (dThen (dAsg (dOp (dAdd mkF) (dC (.int 1)) (dCall sp_l_take (dCons (dVar 0) (dCons (dBu dLen (dCons (dVar 4) dNil)) dNil)))) (tgN 7))
  (dIfS (dTest (dOp dLt (dVar 7) (dBu dLen (dCons (dVar 4) dNil)))) (dThen (dSetI (dCall sp_l_bad_line (dCons (dVar 0) (dCons (dVar 1) (dCons (dVar 3) dNil)))) (dVar 4) (dVar 7))
  (dIfS (dOr (dTest (dOp dIsN (dVar 5) (dC .non))) (dTest (dOp dLt (dVar 7) (dVar 5)))) (dAsg (dVar 7) (tgN 5)) dNext)) dNext))
def B_l_spoilt_good_r3 : DS' :=
  (dRet (dOrV (dOp dIsN (dVar 5) (dC .non)) (dCall sp_l_refused_810f (dCons (dMt "str" (dC (.str (Str.ofString "\n"))) (dCons (dVar 4) dNil) dJoin) (dCons (dVar 5) dNil)))))
def B_l_spoilt_good_r4 : DS' :=
  (dThen (dFor (dRng1 (dCons (dOp (dAdd mkF) (dC (.int 1)) (dCall sp_l_take (dCons (dVar 0) (dCons (dC (.int 2)) dNil)))) dNil)) (tgN 6)
  B_l_spoilt_good_b2 [2, 6, 7])
  B_l_spoilt_good_r3)
def B_l_spoilt_good : DS' :=
  (dThen (dAsg (dCall sp_l_lines (dCons (dVar 1) (dCons (dVar 2) dNil))) (tgN 4))
  (dThen (dAsg (dC .non) (tgN 5))
  (dThen (dIfS (dTest (dOp dEq (dCall sp_l_take (dCons (dVar 0) (dCons (dC (.int 4)) dNil))) (dC (.int 0)))) (dThen (dWhile (dTest (dOp dLt (dBu dLen (dCons (dVar 4) dNil)) (dOp (dAdd mkF) (dC (.int 14)) (dCall sp_l_take (dCons (dVar 0) (dCons (dC (.int 3)) dNil))))))
  B_l_spoilt_good_b1 [2, 5])
  (dAsg (dC (.int 13)) (tgN 5))) dNext)
  B_l_spoilt_good_r4)))
theorem lv_set_other {O : Ow} {p : Addr} {d : D} {x : OO} (h : d ≠ .ref p) : lv (O.set p x) d = lv O d := by
  cases d with
  | ref q =>
    have : q ≠ p := fun z => h (by rw [z])
    simp [lv, Ow.set_ne this]
  | _ => rfl
theorem spoilt_r3 {p pl : Addr} {names rows : List Str} {c : Nat} {bad : Option Nat} {O : Ow} {Q : DQ} {x1 x2 x3 x6 x7 : Option D} (hne : p ≠ pl) (hpl : O pl = none) (hN : NamesOk names) (hc : names.length = c) (h : SpOk names rows bad) (q : Q (.bl true) O) :
    B_l_spoilt_good_r3 (rtEnds Q) [some (.ref p), x1, x2, x3, some (.ref pl), some (badD bad), x6, x7] (O.set pl (.lst (strsD (headS names :: rows)))) := by
  obtain ⟨hp, hs⟩ := head_ok hN hc
  have T : TextL (headS names :: rows) := ⟨by have := h.len; simp; omega, fun z hz => by
    rcases List.mem_cons.mp hz with e | e
    · rw [e]; exact hp
    · exact h.pl z e⟩
  obtain ⟨t1, t2, t3, t4⟩ := T.join
  have ol := Ow.le_set (o := .lst (strsD (headS names :: rows))) hpl
  unfold B_l_spoilt_good_r3
  cases bad with
  | none =>
    unfold badD
    walk_at "tx"
    exact ⟨O, ol, q⟩
  | some j =>
    unfold badD
    walk_at "tx"
    have enl : Str.ofString "\n" = ⟨#[10]⟩ := by rfl
    rw [enl]
    exact ⟨headS names :: rows, rfl, t4, _, _, rfl, refT_row T hs hN h.st, O, ol, q⟩
theorem set_com {O : Ow} {p q : Addr} {a b : OO} (h : p ≠ q) : (O.set q b).set p a = (O.set p a).set q b := by
  funext x
  by_cases hx : x = p
  · subst hx; rw [Ow.set_same, Ow.set_ne h, Ow.set_same]
  · by_cases hy : x = q
    · subst hy; rw [Ow.set_ne hx, Ow.set_same, Ow.set_same]
    · rw [Ow.set_ne hx, Ow.set_ne hy, Ow.set_ne hy, Ow.set_ne hx]
theorem spoilt_r4 {p pl : Addr} {names rows : List Str} {c n nb : Nat} {a m : Int} {bad : Option Nat} {O : Ow} {Q : DQ} {d : D} {b : Str} {x2 x6 x7 : Option D} (hne : p ≠ pl) (hpl : O pl = none) (hN : NamesOk names) (hc : names.length = c) (hb : okB n a m) (hn : n < 790000000)
    (hd : lv O d = some (strsD names)) (nd : d ≠ .ref p) (nl : d ≠ .ref pl) (hB : Big b nb) (h : SpOk names rows bad) (q : ∀ a' m', okB (n + 10) a' m' → Q (.bl true) (O.set p (bagD a' m'))) :
    B_l_spoilt_good_r4 (rtEnds Q) [some (.ref p), some d, x2, some (.str b), some (.ref pl), some (badD bad), x6, x7] ((O.set p (bagD a m)).set pl (.lst (strsD (headS names :: rows)))) := by
  unfold B_l_spoilt_good_r4
  walk_at "tx"
  refine take_ap (by rw [Ow.set_ne hne, Ow.set_same]) hb (by omega) (by omega) (by decide) fun u a1 m1 u0 u1 hb1 => ?_
  rw [set_com hne, Ow.set_set]
  walk_at "tx"
  refine ⟨by omega, by omega, ?_⟩
  refine for_idx (fun i ρ O' => ∃ (rows : List Str) (bad : Option Nat) (a' m' : Int), SpOk names rows bad ∧ okB (n + 1 + 3 * i) a' m' ∧ O' = (O.set p (bagD a' m')).set pl (.lst (strsD (headS names :: rows))) ∧ ρ = [some (.ref p), some d, none, some (.str b), some (.ref pl), some (badD bad), none, none]) ?_ ?_ ⟨rows, bad, a1, m1, h, hb1, rfl, rfl⟩
  · clear h
    rintro i hi ρ O' E' ⟨rows, bad, a', m', h, hb', rfl, rfl⟩ hnx hct hrt hbk
    rw [rangeD_len] at hi
    refine ⟨_, rfl, ?_⟩
    unfold B_l_spoilt_good_b2
    have hp1 : ∀ x y, ((O.set p x).set pl y) p = some x := fun x y => by rw [Ow.set_ne hne, Ow.set_same]
    have ll : (strsD (headS names :: rows)).length = rows.length + 1 := by rw [strs_len]; rfl
    have hlen := h.len
    walk_at "tx"
    rw [ll]
    refine take_ap (hp1 _ _) hb' (by omega) (by omega) (Sz.lt (b := 64) (by omega) (by omega) (by decide)) fun v a2 m2 v0 v1 hb2 => ?_
    rw [set_com hne, Ow.set_set]
    walk_at "tx"
    obtain ⟨w, rfl⟩ := Int.eq_ofNat_of_zero_le v0
    rw [ll]
    by_cases hw : w < rows.length
    · rw [decide_eq_true (show (1 : Int) + (w : Int) < ((rows.length + 1 : Nat) : Int) by omega)]
      walk_at "tx"
      refine ⟨p, a2, m2, _, c, nb, d, names, b, rfl, hp1 _ _, hb2, by omega, nd, by rw [lv_set_other nl, lv_set_other nd]; exact hd, hN, hc, hB, fun z a3 m3 hz pz hb3 => ?_⟩
      rw [set_com hne, Ow.set_set]
      walk_at "tx"
      have ei : ixN (strsD (headS names :: rows)).length (1 + (w : Int)) = some (w + 1) := by
        unfold ixN
        rw [if_pos (by omega), if_pos (by rw [ll]; omega)]
        congr 1; omega
      have es : (strsD (headS names :: rows)).set (w + 1) (.str z) = strsD (headS names :: rows.set w z) := by
        unfold strsD
        rw [List.map_cons, List.set_cons_succ, List.map_cons, List.map_set]
      have sp := h.spoil hw hz pz
      refine ⟨_, ei, ?_⟩
      rw [es]
      have e1 : (1 : Int) + (w : Int) = ((w + 1 : Nat) : Int) := by omega
      cases bad with
      | none =>
        unfold badD
        walk_at "tx"
        exact hnx _ _ _ (Ow.le.refl _) trivial ⟨_, some w, a3, m3, sp, hb3.mono (by omega), rfl, by rw [e1]; rfl⟩
      | some j =>
        unfold badD
        walk_at "tx"
        by_cases hj : w < j
        · rw [decide_eq_true (show (1 : Int) + (w : Int) < ((j + 1 : Nat) : Int) by omega)]
          walk_at "tx"
          refine hnx _ _ _ (Ow.le.refl _) trivial ⟨_, some w, a3, m3, ?_, hb3.mono (by omega), rfl, by rw [e1]; rfl⟩
          have sp : SpOk names (rows.set w z) (if w < j then some w else some j) := sp
          rw [if_pos hj] at sp; exact sp
        · rw [decide_eq_false (show ¬ (1 : Int) + (w : Int) < ((j + 1 : Nat) : Int) by omega)]
          walk_at "tx"
          refine hnx _ _ _ (Ow.le.refl _) trivial ⟨_, some j, a3, m3, ?_, hb3.mono (by omega), rfl, rfl⟩
          have sp : SpOk names (rows.set w z) (if w < j then some w else some j) := sp
          rw [if_neg hj] at sp; exact sp
    · rw [decide_eq_false (show ¬ (1 : Int) + (w : Int) < ((rows.length + 1 : Nat) : Int) by omega)]
      walk_at "tx"
      exact hnx _ _ _ (Ow.le.refl _) trivial ⟨rows, bad, a2, m2, h, hb2.mono (by omega), rfl, rfl⟩
  · clear h
    rintro ρ O' ⟨rows, bad, a', m', h, hb', rfl, rfl⟩
    rw [rangeD_len] at hb'
    have hpl' : (O.set p (bagD a' m')) pl = none := by rw [Ow.set_ne hne.symm]; exact hpl
    exact spoilt_r3 hne hpl' hN hc h (q a' m' (hb'.mono (by omega)))
theorem hb_l_spoilt_good : ∀ ds O Q, sp_l_spoilt_good ds O Q → B_l_spoilt_good (rtEnds Q) (startD 8 ds) O := by
  rintro ds O Q ⟨p, a, m, n, c, nb, d, e, names, offs, b, rfl, hp, hb, hn, nd, ne, hd, he, hN, hc, hl, ho, hB, q⟩
  have c12 : c ≤ 12 := by rw [← hc]; exact hN.2.1
  have c2 : 2 ≤ c := by rw [← hc]; exact hN.1
  have hw8 := names_short hN.2.2.1
  unfold B_l_spoilt_good
  walk_at "tx"
  refine ⟨c, d, e, names, offs, rfl, hd, qv_of_lv hd, he, qv_of_lv he, hw8, hc, by omega, c12, hl, ho, .inl fun pl hpl => ?_⟩
  have n1 : p ≠ pl := fun y => by rw [← y, hp] at hpl; cases hpl
  walk_at "tx"
  refine take_ap (by rw [Ow.set_ne n1]; exact hp) hb (by omega) (by omega) (by decide) fun u a1 m1 u0 u1 hb1 => ?_
  walk_at "tx"
  have g0 := rows_ok hN hc hl ho
  rw [set_com n1]
  have nl : d ≠ .ref pl := fun y => by rw [y] at hd; simp [lv, hpl] at hd
  by_cases hu : u = 0
  · subst hu
    walk_at "tx"
    refine ⟨fun μ ρ O' => ∃ (rows : List Str) (a' m' : Int), μ = 17 - rows.length ∧ rows.length ≤ 16 ∧ (∀ z ∈ rows, PL 2500 z) ∧ (∀ z ∈ rows, GoodR names z) ∧ okB (n + 1 + rows.length) a' m' ∧ O' = (O.set p (bagD a' m')).set pl (.lst (strsD (headS names :: rows))) ∧ ρ = [some (.ref p), some d, none, some (.str b), some (.ref pl), none, none, none], ⟨_, _, a1, m1, rfl, g0.len, g0.pl, g0.st.2, hb1.mono (by omega), rfl, rfl⟩, ?_⟩
    rintro μ ρ O' ⟨rows, a2, m2, rfl, h16, hpl2, hg, hb2, rfl, rfl⟩
    have hp1 : ∀ x y, ((O.set p x).set pl y) p = some x := fun x y => by rw [Ow.set_ne n1, Ow.set_same]
    have ll : (strsD (headS names :: rows)).length = rows.length + 1 := by rw [strs_len]; rfl
    walk_at "tx"
    refine take_ap (hp1 _ _) hb2 (by omega) (by omega) (by decide) fun v a3 m3 v0 v1 hb3 => ?_
    rw [set_com n1, Ow.set_set]
    walk_at "tx"
    rw [ll]
    by_cases h14 : ((rows.length + 1 : Nat) : Int) < 14 + v
    · rw [decide_eq_true h14, if_pos rfl]
      unfold B_l_spoilt_good_b1
      walk_at "tx"
      have hd1 : lv ((O.set p (bagD a3 m3)).set pl (.lst (strsD (headS names :: rows)))) d = some (strsD names) := by rw [lv_set_other nl, lv_set_other nd]; exact hd
      refine len_lv hd1 ?_
      rw [strs_len, hc]
      refine ⟨⟨by decide, by omega, by omega⟩, ?_⟩
      rw [show Txt.mul (Str.ofString " 1") (c : Int) = worthsS c from rfl]
      walk_at "tx"
      have wl := (pl_W c12).2
      rw [← len_tl] at wl
      have ol : (Str.ofString "offer").length = 5 := by rfl
      have ln := line100000
      refine ⟨by omega, by rw [ll]; omega, _, 17 - (rows ++ [goodS c]).length, Ow.le.refl _, by rw [List.length_append]; simp; omega, rows ++ [goodS c], a3, m3, rfl, by rw [List.length_append]; simp; omega, fun z hz => ?_, fun z hz => ?_, hb3.mono (by rw [List.length_append]; simp; omega), ?_⟩
      · rcases List.mem_append.mp hz with y | y
        · exact hpl2 z y
        · rw [List.mem_singleton.mp y]; exact (pl_G c12).mono (by decide)
      · rcases List.mem_append.mp hz with y | y
        · exact hg z y
        · rw [List.mem_singleton.mp y]; exact good_ones hc
      · congr 2
        unfold strsD
        rw [List.map_cons, List.map_cons, List.map_append]; rfl
    · rw [decide_eq_false h14, if_neg (by simp)]
      have g1 := SpOk.long h16 (by omega) hpl2 hg
      exact spoilt_r4 n1 hpl hN hc hb3 (by omega) hd nd nl hB (bad := some 12) g1 fun a' m' hb' => q a' m' (hb'.mono (by omega))
  · rw [if_neg (by simpa using hu)]
    exact spoilt_r4 n1 hpl hN hc hb1 (by omega) hd nd nl hB (bad := none) g0 fun a' m' hb' => q a' m' (hb'.mono (by omega))
abbrev sp_law_k49 := spLaw
abbrev ln_law_k49 := lnLaw
def B_law_k49_b1 : DS' :=
  (dIfS (dNot (dTest (dCallZ sp_l_refused_810f (dCons (dOp (dAdd mkF) (dOp (dAdd mkF) (dOp dIx (dVar 6) (dC (.int 0))) (dC (.str (Str.ofString "\n")))) (dCallZ sp_l_bad_line (dCons (dVar 1) (dCons (dVar 3) (dCons (dVar 5) dNil))))) (dCons (dC (.int 1)) dNil))))) (dRet (dC (.bl false))) dNext)
def B_law_k49_b2 : DS' :=
  (dIfS (dOr (dNot (dTest (dCallZ sp_l_refused_810f (dCons (dVar 8) (dCons (dC (.int 0)) dNil))))) (dNot (dTest (dCallZ sp_l_refused_810f (dCons (dMt "str" (dC (.str (Str.ofString "\n"))) (dCons (dOp (dAdd mkF) (dLst mkF (dCons (dVar 8) dNil)) (dSlice mkF (dVar 6) (dPart (dC (.int 1))) dNoP)) dNil) dJoin) (dCons (dC (.int 0)) dNil)))))) (dRet (dC (.bl false))) dNext)
def B_law_k49_b3 : DS' :=
  (dIfS (dTest (dOp dNotN (dCallZ sp_read_ratio (dCons (dVar 9) dNil)) (dC .non))) (dRet (dC (.bl false))) dNext)
def B_law_k49_r4 : DS' :=
  (dRet (dOp dEqD (dCallZ sp_read (dCons (dMt "str" (dC (.str (Str.ofString "\n"))) (dCons (dVar 6) dNil) dJoin) dNil)) (dTup (dCons (dVar 3) (dCons (dVar 4) dNil)))))
def B_law_k49_r5 : DS' :=
  (dThen (dFor (dSeq (dCallZ sp_l_bad_words (dCons (dVar 5) dNil))) (tgN 9)
  B_law_k49_b3 [0, 1, 2, 5, 7, 8, 9])
  B_law_k49_r4)
def B_law_k49_r6 : DS' :=
  (dThen (dIfS (dNot (dTest (dCallZ sp_l_refused_810f (dCons (dMt "str" (dC (.str (Str.ofString "\n"))) (dCons (dOp (dAdd mkF) (dVar 6) (dLst mkF (dCons (dC (.str (Str.ofString ""))) dNil))) dNil) dJoin) (dCons (dBu dLen (dCons (dVar 6) dNil)) dNil))))) (dRet (dC (.bl false))) dNext)
  B_law_k49_r5)
def B_law_k49_r7 : DS' :=
  (dThen (dFor (dSeq (dCallZ sp_l_bad_heads (dCons (dVar 3) dNil))) (tgN 8)
  B_law_k49_b2 [0, 1, 2, 7, 8])
  B_law_k49_r6)
def B_law_k49_r8 : DS' :=
  (dThen (dFor (dRng1 (dCons (dC (.int 6)) dNil)) (tgN 7)
  B_law_k49_b1 [0, 2, 7])
  B_law_k49_r7)
def B_law_k49 : DS' :=
  (dThen (dAsg (dCallZ sp_l_bag_db21 (dCons (dCallZ sp_l_cell (dCons (dVar 0) (dCons (dC (.int 0)) dNil))) dNil)) (tgN 1))
  (dThen (dAsg (dOp (dAdd mkF) (dC (.int 2)) (dCallZ sp_l_take (dCons (dVar 1) (dCons (dC (.int 11)) dNil)))) (tgN 2))
  (dThen (dAsg (dCallZ sp_l_names (dCons (dVar 1) (dCons (dVar 2) dNil))) (tgN 3))
  (dThen (dAsg (dLc mkF (dRng1 (dCons (dCallZ sp_l_take (dCons (dVar 1) (dCons (dC (.int 13)) dNil))) dNil)) (tgN 7) dYes (dCallZ sp_l_any_offer (dCons (dVar 1) (dCons (dVar 2) dNil))) [7]) (tgN 4))
  (dThen (dAsg (dBu dStr1 (dCons (dOp (dAdd mkF) (dC (.int 2)) (dCallZ sp_l_take (dCons (dVar 1) (dCons (dOp dPow (dC (.int 10)) (dC (.int 29))) dNil)))) dNil)) (tgN 5))
  (dThen (dAsg (dCallZ sp_l_lines (dCons (dVar 3) (dCons (dVar 4) dNil))) (tgN 6))
  (dThen (dIfS (dNot (dTest (dCallZ sp_l_spoilt_good (dCons (dVar 1) (dCons (dVar 3) (dCons (dVar 4) (dCons (dVar 5) dNil))))))) (dRet (dC (.bl false))) dNext)
  B_law_k49_r8)))))))
theorem okEs_strs {n : Nat} : ∀ {l : List Str}, (∀ w ∈ l, Asc w) → okEs n (strsD l) = true
  | [], _ => by cases n <;> rfl
  | w :: l, h => by
    show (okE n (.str w) && okEs n (strsD l)) = true
    have h1 := okEs_strs (n := n) fun x hx => h x (List.mem_cons_of_mem _ hx)
    rw [h1, Bool.and_true]
    have := (h w (List.mem_cons_self ..)).ok
    cases n <;> simpa [okE] using this
theorem okE_strs {n : Nat} {l : List Str} (h : ∀ w ∈ l, Asc w) : okE (n + 1) (.lst (strsD l)) = true := by
  show okEs n (strsD l) = true
  exact okEs_strs h
abbrev O49 (O : Ow) (p pN : Addr) (names : List Str) (a m : Int) : Ow := (O.set p (bagD a m)).set pN (.lst (strsD names))
theorem text_ok {c : Nat} {names : List Str} {offs : List Off} (hN : NamesOk names) (hc : names.length = c) (hl : offs.length ≤ 12) (ho : ∀ o ∈ offs, OffT c o) : TextL (headS names :: offs.map (lineS names)) :=
  ⟨by simp; omega, fun z hz => by
    rcases List.mem_cons.mp hz with q | q
    · rw [q]; exact (head_ok hN hc).1
    · exact (rows_ok hN hc hl ho).pl z q⟩
section
variable {c n nb : Nat} {names : List Str} {offs : List Off} {b : Str} {O : Ow} {p pN : Addr} {Q : DQ} {a m : Int} {x0 x1 x2 x5 x7 x8 x9 : Option D}
theorem k49_r4 (hN : NamesOk names) (hc : names.length = c) (hl : offs.length ≤ 12) (ho : ∀ o ∈ offs, OffT c o) (hpN : O pN = some (.lst (strsD names))) (q : ∀ O', Q (.bl true) O') :
    B_law_k49_r4 (rtEnds Q) [x0, x1, x2, some (.ref pN), some (.lst (offs.map offD)), x5, some (.lst (strsD (headS names :: offs.map (lineS names)))), x7, x8, x9] O := by
  have T := text_ok hN hc hl ho
  obtain ⟨t1, t2, t3, t4⟩ := T.join
  have enl : Str.ofString "\n" = ⟨#[10]⟩ := by rfl
  unfold B_law_k49_r4
  walk_at "tx"
  rw [enl]
  refine ⟨_, rfl, t4, _, _, worldsS, _, names, offs, rfl, t1, t2, t3, by simpa using hl, (head_ok hN hc).2, rfl, hN, ?_, ?_⟩
  · rw [List.map_map]
    exact List.map_congr_left fun o h1 => by
      show rowP names (Txt.split (lineS names o) ⟨#[32]⟩) = some o
      rw [words_free hN hc (ho o h1)]
      exact row_show hN.2.2.2 hc (ho o h1)
  · walk_at "tx"
    have na : ∀ w ∈ names, Asc w := fun w hw => (nameW_asc (hN.2.2.1 w hw)).2
    have ok2 : okE 60 (.tup [.lst (strsD names), .lst (offs.map offD)]) = true := by
      have h1 : okE 59 (.lst (strsD names)) = true := okE_strs na
      have h2 : okE 59 (.lst (offs.map offD)) = true := by
        simp only [okE]
        exact okEs_map fun x _ => okE_off
      have e : okE 60 (.tup [.lst (strsD names), .lst (offs.map offD)]) = (okE 59 (.lst (strsD names)) && (okE 59 (.lst (offs.map offD)) && true)) := rfl
      rw [e, h1, h2]; rfl
    exact dEqD_same (d := .tup [.lst (strsD names), .lst (offs.map offD)]) (by simp [vwD, vw]) (by simp [vwD, vw, hpN]) ok2 (rt_here (q _))
theorem k49_r5 (hN : NamesOk names) (hc : names.length = c) (hl : offs.length ≤ 12) (ho : ∀ o ∈ offs, OffT c o) (hB : Big b nb) (hpN : O pN = some (.lst (strsD names))) (q : ∀ O', Q (.bl true) O') :
    B_law_k49_r5 (rtEnds Q) [x0, x1, x2, some (.ref pN), some (.lst (offs.map offD)), some (.str b), some (.lst (strsD (headS names :: offs.map (lineS names)))), x7, x8, x9] O := by
  unfold B_law_k49_r5
  walk_at "tx"
  refine ⟨b, nb, rfl, hB, ?_⟩
  walk_at "tx"
  refine ⟨rfl, ?_⟩
  refine for_idx (fun i ρ O' => O' = O ∧ ρ = [none, none, none, some (.ref pN), some (.lst (offs.map offD)), none, some (.lst (strsD (headS names :: offs.map (lineS names)))), none, none, none]) ?_ ?_ ⟨rfl, rfl⟩
  · rintro i hi ρ O' E' ⟨rfl, rfl⟩ hnx hct hrt hbk
    rw [strs_len] at hi
    rw [strs_get hi]
    refine ⟨_, rfl, ?_⟩
    unfold B_law_k49_b3
    walk_at "tx"
    have m := List.getElem_mem hi
    have pw := bad_plain hB _ m
    have hn := bad_none hB _ m
    refine ⟨_, rfl, by have := pw.2.1; omega, fun c' hc' => by have := (pw.1 c' hc').2; omega, ?_⟩
    rw [hn]
    walk_at "tx"
    rw [show isNon (optR none) = true from rfl]
    walk_at "tx"
    exact hnx _ _ _ (Ow.le.refl _) rfl ⟨rfl, rfl⟩
  · rintro ρ O' ⟨rfl, rfl⟩
    exact k49_r4 hN hc hl ho hpN q
theorem join_self {s f : Str} : Txt.join s [f] = f := tl_inj (by rw [tl_join]; simp [joinL_flat])
theorem bad_empty (hN : NamesOk names) (hc : names.length = c) : BadL names (Str.ofString "") := by
  have c2 := hN.1
  obtain ⟨one, e1⟩ : ∃ one, names[0]? = some one := ⟨_, List.getElem?_eq_getElem (by omega)⟩
  obtain ⟨last, el⟩ : ∃ last, names[c - 1]? = some last := ⟨_, List.getElem?_eq_getElem (by omega)⟩
  exact bad0 hN hc e1 el (nameW_free (hN.2.2.1 one (List.mem_of_getElem? e1))) (nameW_free (hN.2.2.1 last (List.mem_of_getElem? el)))
theorem k49_r6 (hN : NamesOk names) (hc : names.length = c) (hl : offs.length ≤ 12) (ho : ∀ o ∈ offs, OffT c o) (hB : Big b nb) (hpN : O pN = some (.lst (strsD names))) (q : ∀ O', Q (.bl true) O') :
    B_law_k49_r6 (rtEnds Q) [x0, x1, x2, some (.ref pN), some (.lst (offs.map offD)), some (.str b), some (.lst (strsD (headS names :: offs.map (lineS names)))), x7, x8, x9] O := by
  have T := text_ok hN hc hl ho
  have R := rows_ok hN hc hl ho
  have T2 : TextL (headS names :: (offs.map (lineS names) ++ [Str.ofString ""])) := ⟨by simp; omega, fun z hz => by
    rcases List.mem_cons.mp hz with y | y
    · exact T.2 z (y ▸ List.mem_cons_self ..)
    · rcases List.mem_append.mp y with w | w
      · exact T.2 z (List.mem_cons_of_mem _ w)
      · rw [List.mem_singleton.mp w]; exact pl_lit (by decide +kernel)⟩
  have hbad : BadAt names (offs.map (lineS names) ++ [Str.ofString ""]) offs.length := by
    refine ⟨fun i l hi e => ?_, Str.ofString "", by rw [List.getElem?_append_right (by simp)]; simp, .inr (bad_empty hN hc)⟩
    rw [List.getElem?_append_left (by simpa using hi)] at e
    exact ⟨by omega, R.st.2 l (List.mem_of_getElem? e)⟩
  obtain ⟨t1, t2, t3, t4⟩ := T2.join
  have enl : Str.ofString "\n" = ⟨#[10]⟩ := by rfl
  have es : strsD (headS names :: offs.map (lineS names)) ++ [D.str (Str.ofString "")] = strsD (headS names :: (offs.map (lineS names) ++ [Str.ofString ""])) := by
    unfold strsD; simp
  unfold B_law_k49_r6
  walk_at "tx"
  rw [es, enl, strs_len]
  refine ⟨by simp; omega, _, rfl, t4, ?_⟩
  refine ⟨_, _, rfl, by have := refT_row T2 (head_ok hN hc).2 hN hbad; simpa using this, ?_⟩
  walk_at "tx"
  exact k49_r5 hN hc hl ho hB hpN q
theorem k49_r7 (hN : NamesOk names) (hc : names.length = c) (hl : offs.length ≤ 12) (ho : ∀ o ∈ offs, OffT c o) (hB : Big b nb) (hpN : O pN = some (.lst (strsD names))) (q : ∀ O', Q (.bl true) O') :
    B_law_k49_r7 (rtEnds Q) [x0, x1, x2, some (.ref pN), some (.lst (offs.map offD)), some (.str b), some (.lst (strsD (headS names :: offs.map (lineS names)))), x7, x8, x9] O := by
  have T := text_ok hN hc hl ho
  have enl : Str.ofString "\n" = ⟨#[10]⟩ := by rfl
  obtain ⟨one, rest, en⟩ : ∃ one rest, names = one :: rest := by
    cases names with
    | nil => have := hN.1; simp at this
    | cons x l => exact ⟨x, l, rfl⟩
  have n1 := hN.2.2.1 one (by rw [en]; exact List.mem_cons_self ..)
  have H := bad_heads (nameW_free n1) (pl_name n1)
  unfold B_law_k49_r7
  walk_at "tx"
  refine ⟨_, one, rest, rfl, by rw [← en]; exact lv_ref hpN, by have := (pl_name n1).2; rw [← len_tl] at this; omega, ?_⟩
  walk_at "tx"
  refine ⟨rfl, ?_⟩
  refine for_idx (fun i ρ O' => O' = O ∧ ρ = [none, none, none, some (.ref pN), some (.lst (offs.map offD)), some (.str b), some (.lst (strsD (headS names :: offs.map (lineS names)))), none, none, x9]) ?_ ?_ ⟨rfl, rfl⟩
  · rintro i hi ρ O' E' ⟨rfl, rfl⟩ hnx hct hrt hbk
    rw [strs_len] at hi
    rw [strs_get hi]
    obtain ⟨hb1, hb2⟩ := H _ (List.getElem_mem hi)
    generalize (badHeads one)[i] = f at hb1 hb2
    refine ⟨_, rfl, ?_⟩
    have T1 : TextL [f] := ⟨by simp, fun z hz => by rw [List.mem_singleton.mp hz]; exact hb2.mono (by decide)⟩
    have T2 : TextL (f :: offs.map (lineS names)) := ⟨by simp; omega, fun z hz => by
      rcases List.mem_cons.mp hz with y | y
      · rw [y]; exact hb2.mono (by decide)
      · exact T.2 z (List.mem_cons_of_mem _ y)⟩
    have r1 := refT_head T1 hb1
    rw [join_self] at r1
    have r2 := refT_head T2 hb1
    obtain ⟨t1, t2, t3, t4⟩ := T2.join
    unfold B_law_k49_b2
    walk_at "tx"
    refine ⟨_, _, rfl, r1, ?_⟩
    walk_at "tx"
    have es : D.str f :: cutD (strsD (headS names :: offs.map (lineS names))) (some 1) none = strsD (f :: offs.map (lineS names)) := by
      have e2 := cutD_hi (l := strsD (headS names :: offs.map (lineS names))) (k := 1) (by rw [strs_len]; simp)
      rw [show ((1 : Nat) : Int) = 1 from rfl] at e2
      rw [e2]
      unfold strsD
      simp
    have el : (cutD (strsD (headS names :: offs.map (lineS names))) (some 1) none).length ≤ 12 := by
      have := congrArg List.length es
      rw [strs_len] at this
      simp at this; omega
    rw [es, enl]
    refine ⟨by omega, _, rfl, t4, ?_⟩
    refine ⟨_, _, rfl, r2, ?_⟩
    walk_at "tx"
    exact hnx _ _ _ (Ow.le.refl _) rfl ⟨rfl, rfl⟩
  · rintro ρ O' ⟨rfl, rfl⟩
    exact k49_r6 hN hc hl ho hB hpN q
theorem k49_r8 (hne : p ≠ pN) (hN : NamesOk names) (hc : names.length = c) (hl : offs.length ≤ 12) (ho : ∀ o ∈ offs, OffT c o) (hB : Big b nb) (hb : okB n a m) (hn : n < 10000) (q : ∀ O', Q (.bl true) O') :
    B_law_k49_r8 (rtEnds Q) [x0, some (.ref p), x2, some (.ref pN), some (.lst (offs.map offD)), some (.str b), some (.lst (strsD (headS names :: offs.map (lineS names)))), x7, x8, x9] (O49 O p pN names a m) := by
  have T := text_ok hN hc hl ho
  have enl : Str.ofString "\n" = ⟨#[10]⟩ := by rfl
  unfold B_law_k49_r8
  walk_at "tx"
  refine ⟨by decide, by decide, ?_⟩
  refine for_idx (fun i ρ O' => ∃ a' m', okB (n + 2 * i) a' m' ∧ O' = O49 O p pN names a' m' ∧ ρ = [none, some (.ref p), none, some (.ref pN), some (.lst (offs.map offD)), some (.str b), some (.lst (strsD (headS names :: offs.map (lineS names)))), none, x8, x9]) ?_ ?_ ⟨a, m, hb, rfl, rfl⟩
  · rintro i hi ρ O' E' ⟨a', m', hb', rfl, rfl⟩ hnx hct hrt hbk
    rw [rangeD_len] at hi
    have hi : i < 6 := hi
    refine ⟨_, rfl, ?_⟩
    unfold B_law_k49_b1 O49
    walk_at "tx"
    refine ⟨.str (headS names), at0, ?_⟩
    have hl1 : (headS names).length ≤ 2500 := by rw [len_tl]; exact (head_ok hN hc).1.2
    have ln := line100000
    have l1 : (Str.ofString "\n").length = 1 := by rfl
    refine ⟨by omega, ?_⟩
    refine ⟨p, a', m', _, c, nb, _, names, b, rfl, by rw [Ow.set_ne hne, Ow.set_same], hb', by omega, by simp; exact hne.symm, lv_ref Ow.set_same, hN, hc, hB, fun z a2 m2 hz pz hb2 => ?_⟩
    rw [set_com hne, Ow.set_set]
    have zl : z.length ≤ 200 := by rw [len_tl]; exact pz.2
    have T2 : TextL [headS names, z] := ⟨by simp, fun y hy => by
      rcases List.mem_cons.mp hy with e | e
      · rw [e]; exact (head_ok hN hc).1
      · rw [List.mem_singleton.mp e]; exact pz.mono (by decide)⟩
    have ej : headS names ++ Str.ofString "\n" ++ z = Txt.join ⟨#[10]⟩ [headS names, z] := tl_inj (by
      rw [tl_app, tl_app, tl_join, enl]
      simp [joinL_flat])
    have hbad : BadAt names [z] 0 := ⟨fun k l hk => by omega, z, rfl, .inr hz⟩
    have rr := refT_row T2 (head_ok hN hc).2 hN hbad
    rw [← ej] at rr
    walk_at "tx"
    refine ⟨by rw [len_app]; omega, _, _, rfl, rr, ?_⟩
    walk_at "tx"
    exact hnx _ _ _ (Ow.le.refl _) trivial ⟨a2, m2, hb2.mono (by omega), rfl, rfl⟩
  · rintro ρ O' ⟨a', m', hb', rfl, rfl⟩
    exact k49_r7 hN hc hl ho hB Ow.set_same q
end
theorem hb_law_k49 : ∀ ds O Q, sp_law_k49 ds O Q → B_law_k49 (rtEnds Q) (startD 10 ds) O := by
  rintro ds O Q ⟨ns, rfl, hl, hz, q⟩
  unfold B_law_k49
  walk_at "tx"
  refine cell_ap hl hz (by decide) (by decide) fun c0 hc0 => ?_
  walk_at "tx"
  refine bag3_ap hc0 fun p a m hp hb => ?_
  walk_at "tx"
  refine take_ap Ow.set_same hb (by omega) (by omega) (Sz.lt (b := 64) (by omega) (by omega) (by decide)) fun u a1 m1 u0 u1 hb1 => ?_
  rw [Ow.set_set]
  obtain ⟨u', rfl⟩ := Int.eq_ofNat_of_zero_le u0
  have ec : (2 : Int) + (u' : Int) = ((2 + u' : Nat) : Int) := by omega
  walk_at "tx"
  rw [ec]
  have c12 : 2 + u' ≤ 12 := by omega
  have c2 : 2 ≤ 2 + u' := by omega
  generalize 2 + u' = c at c12 c2
  refine ⟨p, a1, m1, _, c, rfl, Ow.set_same, hb1, by omega, c2, c12, fun names pN a2 m2 hN hc hb2 hpN => ?_⟩
  rw [Ow.set_set] at hpN ⊢
  have n1 : p ≠ pN := fun z => by rw [← z, Ow.set_same] at hpN; cases hpN
  have hpN0 : O pN = none := by rw [Ow.set_ne n1.symm] at hpN; exact hpN
  walk_at "tx"
  refine take_ap (by rw [Ow.set_ne n1, Ow.set_same]) hb2 (by omega) (by omega) (Sz.lt (b := 64) (by omega) (by omega) (by decide)) fun v a3 m3 v0 v1 hb3 => ?_
  rw [set_com n1, Ow.set_set]
  walk_at "tx"
  refine ⟨by omega, by omega, by rw [rangeD_len]; omega, ?_⟩
  refine lc_idx (fun i acc O' => ∃ (L : List Off) (a' m' : Int), acc = L.map offD ∧ L.length = i ∧ (∀ o ∈ L, OffT c o) ∧ okB (200 + 100 * i) a' m' ∧ O' = (O.set p (bagD a' m')).set pN (.lst (strsD names))) ?_ ?_ ⟨[], a3, m3, rfl, rfl, (fun _ h => nomatch h), hb3.mono (by omega), rfl⟩
  · rintro i hi acc O' R ⟨L, a', m', rfl, hl, hL, hb', rfl⟩ hR
    rw [rangeD_len] at hi
    rw [rangeD_at]
    refine ⟨_, rfl, ?_⟩
    walk_at "tx"
    refine any_offer_ap (by rw [Ow.set_ne n1, Ow.set_same]) hb' (by omega) (by omega) c12 fun o a4 m4 ho hb4 => ?_
    rw [set_com n1, Ow.set_set]
    walk_at "tx"
    refine hR _ _ ⟨L ++ [o], a4, m4, by simp, by simp [hl], fun y hy => ?_, hb4.mono (by omega), rfl⟩
    rcases List.mem_append.mp hy with z | z
    · exact hL y z
    · rw [List.mem_singleton.mp z]; exact ho
  rintro acc O' ⟨offs, a4, m4, rfl, hlo, ho, hb4, rfl⟩
  rw [rangeD_len] at hlo hb4
  have hlo : offs.length ≤ 12 := by omega
  have hb4 : okB 2000 a4 m4 := hb4.mono (by omega)
  walk_at "tx"
  refine ⟨by decide +kernel, ?_⟩
  refine take_ap (by rw [Ow.set_ne n1, Ow.set_same]) hb4 (by omega) (by decide +kernel) (by decide +kernel) fun w a5 m5 w0 w1 hb5 => ?_
  rw [set_com n1, Ow.set_set]
  walk_at "tx"
  obtain ⟨w', rfl⟩ := Int.eq_ofNat_of_zero_le w0
  have ew : (2 : Int) + (w' : Int) = ((2 + w' : Nat) : Int) := by omega
  rw [ew]
  have w30 : 2 + w' < 10 ^ 30 := by
    have e1 : (10 : Int) ^ Int.toNat 29 = ((10 ^ 29 : Nat) : Int) := by decide +kernel
    have e2 : (10 : Nat) ^ 30 = 10 * 10 ^ 29 := by decide +kernel
    rw [e1] at w1
    have : (10 : Nat) ≤ 10 ^ 29 := by decide +kernel
    omega
  have w2 : 2 ≤ 2 + w' := by omega
  generalize 2 + w' = W at w30 w2
  have hB := big_of w2 w30
  refine ⟨by have h1 : W < 2 ^ 1920 := Nat.lt_of_lt_of_le w30 (by decide +kernel)
             rw [Int.natAbs_natCast]; exact (Nat.log2_lt (by omega)).mpr h1, ?_⟩
  generalize Str.ofString (toString (W : Int)) = b at hB
  have o1 : ((O.set p (bagD a5 m5)).set pN (.lst (strsD names))) pN = some (.lst (strsD names)) := Ow.set_same
  refine ⟨c, _, _, names, offs, rfl, lv_ref o1, lv_ref o1, rfl, rfl, names_short hN.2.2.1, hc, by omega, c12, hlo, ho, .inr ?_⟩
  unfold mkF
  walk_at "tx"
  refine ⟨p, a5, m5, _, c, W, _, _, names, offs, b, rfl, by rw [Ow.set_ne n1, Ow.set_same], hb5, by omega, by simp; exact n1.symm, by simp, lv_ref o1, rfl, hN, hc, hlo, ho, hB, fun a6 m6 hb6 => ?_⟩
  rw [set_com n1, Ow.set_set]
  walk_at "tx"
  exact k49_r8 n1 hN hc hlo ho hB hb6 (by omega) q
theorem sc_common : FnScope ["one", "other", "rest"] ["one", "other"] (defScope (topS 9)) := ⟨rfl, rfl, rfl, by decide +kernel, rfl, by decide +kernel, by decide +kernel⟩
theorem sc_ratio : FnScope ["top", "bottom", "most"] ["top", "bottom"] (defScope (topS 10)) := ⟨rfl, rfl, rfl, by decide +kernel, rfl, by decide +kernel, by decide +kernel⟩
theorem sc_is_name : FnScope ["word", "sign"] ["word"] (defScope (topS 16)) := ⟨rfl, rfl, rfl, by decide +kernel, rfl, by decide +kernel, by decide +kernel⟩
theorem sc_is_whole_word : FnScope ["word", "figures", "sign"] ["word"] (defScope (topS 17)) := ⟨rfl, rfl, rfl, by decide +kernel, rfl, by decide +kernel, by decide +kernel⟩
theorem sc_read_ratio : FnScope ["text", "parts", "part", "one"] ["text"] (defScope (topS 18)) := ⟨rfl, rfl, rfl, by decide +kernel, rfl, by decide +kernel, by decide +kernel⟩
theorem sc_Row___init__ : FnScope ["self", "text", "at"] ["self", "text", "at"] (defScope (inClass (topS 22) 0)) := ⟨rfl, rfl, rfl, by decide +kernel, rfl, by decide +kernel, by decide +kernel⟩
theorem sc_Row_refuse : FnScope ["self"] ["self"] (defScope (inClass (topS 22) 1)) := ⟨rfl, rfl, rfl, by decide +kernel, rfl, by decide +kernel, by decide +kernel⟩
theorem sc_Row_next_word : FnScope ["self"] ["self"] (defScope (inClass (topS 22) 2)) := ⟨rfl, rfl, rfl, by decide +kernel, rfl, by decide +kernel, by decide +kernel⟩
theorem sc_Row_next_ratio : FnScope ["self", "one"] ["self"] (defScope (inClass (topS 22) 3)) := ⟨rfl, rfl, rfl, by decide +kernel, rfl, by decide +kernel, by decide +kernel⟩
theorem sc_Row_price_behind : FnScope ["self", "word"] ["self", "word"] (defScope (inClass (topS 22) 4)) := ⟨rfl, rfl, rfl, by decide +kernel, rfl, by decide +kernel, by decide +kernel⟩
theorem sc_Row_event_behind : FnScope ["self", "names", "worlds", "word"] ["self", "names"] (defScope (inClass (topS 22) 5)) := ⟨rfl, rfl, rfl, by decide +kernel, rfl, by decide +kernel, by decide +kernel⟩
theorem sc_read_names : FnScope ["text", "row", "names", "word"] ["text"] (defScope (topS 23)) := ⟨rfl, rfl, rfl, by decide +kernel, rfl, by decide +kernel, by decide +kernel⟩
theorem sc_read_offer : FnScope ["names", "text", "at", "row", "worths", "ask", "bid", "name"] ["names", "text", "at"] (defScope (topS 24)) := ⟨rfl, rfl, rfl, by decide +kernel, rfl, by decide +kernel, by decide +kernel⟩
theorem sc_read : FnScope ["text", "rows", "names", "offers", "at"] ["text"] (defScope (topS 25)) := ⟨rfl, rfl, rfl, by decide +kernel, rfl, by decide +kernel, by decide +kernel⟩
theorem sc_l_cell : FnScope ["_law_script", "_law_k", "_law_seed", "_law_some"] ["_law_script", "_law_k"] (defScope (topS 27)) := ⟨rfl, rfl, rfl, by decide +kernel, rfl, by decide +kernel, by decide +kernel⟩
theorem sc_l_whole : FnScope ["_law_found"] ["_law_found"] (defScope (topS 28)) := ⟨rfl, rfl, rfl, by decide +kernel, rfl, by decide +kernel, by decide +kernel⟩
theorem sc_l_ratio : FnScope ["_law_top", "_law_bottom", "_law_one", "_law_most", "_law_rest"] ["_law_top", "_law_bottom"] (defScope (topS 29)) := ⟨rfl, rfl, rfl, by decide +kernel, rfl, by decide +kernel, by decide +kernel⟩
theorem sc_l_bag : FnScope ["_law_cell_here"] ["_law_cell_here"] (defScope (topS 31)) := ⟨rfl, rfl, rfl, by decide +kernel, rfl, by decide +kernel, by decide +kernel⟩
theorem sc_l_take : FnScope ["_law_bag_here", "_law_many", "_law_told"] ["_law_bag_here", "_law_many"] (defScope (topS 32)) := ⟨rfl, rfl, rfl, by decide +kernel, rfl, by decide +kernel, by decide +kernel⟩
theorem sc_l_letters : FnScope ["_law_bag_here", "_law_most", "_law_letters_here", "_law_k"] ["_law_bag_here", "_law_most"] (defScope (topS 33)) := ⟨rfl, rfl, rfl, by decide +kernel, rfl, by decide +kernel, by decide +kernel⟩
theorem sc_l_names : FnScope ["_law_bag_here", "_law_count", "_law_words", "_law_way", "_law_base", "_law_at", "_law_first", "_law_names_here", "_law_k", "_law_sign"] ["_law_bag_here", "_law_count"] (defScope (topS 34)) := ⟨rfl, rfl, rfl, by decide +kernel, rfl, by decide +kernel, by decide +kernel⟩
theorem sc_l_part : FnScope ["_law_bag_here", "_law_way", "_law_top"] ["_law_bag_here"] (defScope (topS 35)) := ⟨rfl, rfl, rfl, by decide +kernel, rfl, by decide +kernel, by decide +kernel⟩
theorem sc_l_any_offer : FnScope ["_law_bag_here", "_law_count", "_law_row", "_law_ask", "_law_bid", "_law_event", "_law_bits", "_law_world"] ["_law_bag_here", "_law_count"] (defScope (topS 36)) := ⟨rfl, rfl, rfl, by decide +kernel, rfl, by decide +kernel, by decide +kernel⟩
theorem sc_l_show : FnScope ["_law_one"] ["_law_one"] (defScope (topS 37)) := ⟨rfl, rfl, rfl, by decide +kernel, rfl, by decide +kernel, by decide +kernel⟩
theorem sc_l_line : FnScope ["_law_names_here", "_law_offer", "_law_line_here", "_law_part_here", "_law_world"] ["_law_names_here", "_law_offer"] (defScope (topS 38)) := ⟨rfl, rfl, rfl, by decide +kernel, rfl, by decide +kernel, by decide +kernel⟩
theorem sc_l_lines : FnScope ["_law_names_here", "_law_offers", "_law_line_here", "_law_name", "_law_offer"] ["_law_names_here", "_law_offers"] (defScope (topS 39)) := ⟨rfl, rfl, rfl, by decide +kernel, rfl, by decide +kernel, by decide +kernel⟩
theorem sc_l_bad_words : FnScope ["_law_big", "_law_words"] ["_law_big"] (defScope (topS 40)) := ⟨rfl, rfl, rfl, by decide +kernel, rfl, by decide +kernel, by decide +kernel⟩
theorem sc_l_bad_line : FnScope ["_law_bag_here", "_law_names_here", "_law_big", "_law_worths", "_law_good", "_law_one", "_law_last", "_law_lines_here", "_law_word"] ["_law_bag_here", "_law_names_here", "_law_big"] (defScope (topS 41)) := ⟨rfl, rfl, rfl, by decide +kernel, rfl, by decide +kernel, by decide +kernel⟩
theorem sc_l_bad_heads : FnScope ["_law_names_here", "_law_some", "_law_k"] ["_law_names_here"] (defScope (topS 42)) := ⟨rfl, rfl, rfl, by decide +kernel, rfl, by decide +kernel, by decide +kernel⟩
theorem sc_l_refusal : FnScope ["_law_text", "e"] ["_law_text"] (defScope (topS 43)) := ⟨rfl, rfl, rfl, by decide +kernel, rfl, by decide +kernel, by decide +kernel⟩
theorem sc_l_refused : FnScope ["_law_text", "_law_at", "_law_some"] ["_law_text", "_law_at"] (defScope (topS 44)) := ⟨rfl, rfl, rfl, by decide +kernel, rfl, by decide +kernel, by decide +kernel⟩
theorem sc_l_spoilt_good : FnScope ["_law_bag_here", "_law_names_here", "_law_offers", "_law_big", "_law_lines_here", "_law_bad", "_law_k", "_law_at"] ["_law_bag_here", "_law_names_here", "_law_offers", "_law_big"] (defScope (topS 45)) := ⟨rfl, rfl, rfl, by decide +kernel, rfl, by decide +kernel, by decide +kernel⟩
theorem sc_law : FnScope ["_law_script", "_law_bag_here", "_law_count", "_law_names_here", "_law_offers", "_law_big", "_law_lines_here", "_law_k", "_law_head", "_law_word"] ["_law_script"] (defScope (topS 46)) := ⟨rfl, rfl, rfl, by decide +kernel, rfl, by decide +kernel, by decide +kernel⟩
theorem scI_NoText : FnScope ["self", "at"] ["self", "at"] (defScope (inClass (topS 5) 0)) := ⟨rfl, rfl, rfl, by decide +kernel, rfl, by decide +kernel, by decide +kernel⟩
structure Ad where
  x_NoChance : Addr
  x_NoFair : Addr
  x_NoName : Addr
  x_NoRatio : Addr
  x_NoRow : Addr
  x_NoText : Addr
  x_SureError : Addr
  j_NoText : Addr
  e_NoText : FuncData
  a_common : Addr
  d_common : FuncData
  a_ratio : Addr
  d_ratio : FuncData
  a_is_name : Addr
  d_is_name : FuncData
  a_is_whole_word : Addr
  d_is_whole_word : FuncData
  a_read_ratio : Addr
  d_read_ratio : FuncData
  a_Row___init__ : Addr
  d_Row___init__ : FuncData
  a_Row_refuse : Addr
  d_Row_refuse : FuncData
  a_Row_next_word : Addr
  d_Row_next_word : FuncData
  a_Row_next_ratio : Addr
  d_Row_next_ratio : FuncData
  a_Row_price_behind : Addr
  d_Row_price_behind : FuncData
  a_Row_event_behind : Addr
  d_Row_event_behind : FuncData
  a_read_names : Addr
  d_read_names : FuncData
  a_read_offer : Addr
  d_read_offer : FuncData
  a_read : Addr
  d_read : FuncData
  a_l_cell : Addr
  d_l_cell : FuncData
  a_l_whole : Addr
  d_l_whole : FuncData
  a_l_ratio : Addr
  d_l_ratio : FuncData
  a_l_bag : Addr
  d_l_bag : FuncData
  a_l_take : Addr
  d_l_take : FuncData
  a_l_letters : Addr
  d_l_letters : FuncData
  a_l_names : Addr
  d_l_names : FuncData
  a_l_part : Addr
  d_l_part : FuncData
  a_l_any_offer : Addr
  d_l_any_offer : FuncData
  a_l_show : Addr
  d_l_show : FuncData
  a_l_line : Addr
  d_l_line : FuncData
  a_l_lines : Addr
  d_l_lines : FuncData
  a_l_bad_words : Addr
  d_l_bad_words : FuncData
  a_l_bad_line : Addr
  d_l_bad_line : FuncData
  a_l_bad_heads : Addr
  d_l_bad_heads : FuncData
  a_l_refusal : Addr
  d_l_refusal : FuncData
  a_l_refused : Addr
  d_l_refused : FuncData
  a_l_spoilt_good : Addr
  d_l_spoilt_good : FuncData
  a_law : Addr
  d_law : FuncData
  t_FIGURES : Tok
  t_LETTERS : Tok
  t_MOST_FIGURES : Tok
  t_MOST_LETTERS : Tok
  t_MOST_OFFERS : Tok
  t_MOST_WORLDS : Tok
  c_Row : Addr
structure Tx (K : PySem.W.Frag) (mg : Str → Option Value) (A : Ad) : Prop where
  h_NoChance : mg "NoChance" = some (.ref A.x_NoChance)
  h_NoFair : mg "NoFair" = some (.ref A.x_NoFair)
  h_NoName : mg "NoName" = some (.ref A.x_NoName)
  h_NoRatio : mg "NoRatio" = some (.ref A.x_NoRatio)
  h_NoRow : mg "NoRow" = some (.ref A.x_NoRow)
  h_NoText : mg "NoText" = some (.ref A.x_NoText)
  h_SureError : mg "SureError" = some (.ref A.x_SureError)
  x_SureError : XCat K mg "SureError" A.x_SureError ["NoText"]
  f_NoText : XfC K A.x_NoText
  l_NoText : ClsAt K "NoText" A.x_NoText
  ec_NoText : ExcC K A.x_NoText
  ss_NoText : PySem.W.subIn K (.ref A.x_NoText) (.ref A.x_NoText) = some true
  ci_NoChance : PySem.W.isClsIn K A.x_NoChance = true
  ct_NoChance : PySem.W.typeIn K (.ref A.x_NoChance) = some (.type "type")
  ci_NoFair : PySem.W.isClsIn K A.x_NoFair = true
  ct_NoFair : PySem.W.typeIn K (.ref A.x_NoFair) = some (.type "type")
  ci_NoName : PySem.W.isClsIn K A.x_NoName = true
  ct_NoName : PySem.W.typeIn K (.ref A.x_NoName) = some (.type "type")
  ci_NoRatio : PySem.W.isClsIn K A.x_NoRatio = true
  ct_NoRatio : PySem.W.typeIn K (.ref A.x_NoRatio) = some (.type "type")
  ci_NoRow : PySem.W.isClsIn K A.x_NoRow = true
  ct_NoRow : PySem.W.typeIn K (.ref A.x_NoRow) = some (.type "type")
  ci_NoText : PySem.W.isClsIn K A.x_NoText = true
  ct_NoText : PySem.W.typeIn K (.ref A.x_NoText) = some (.type "type")
  su_NoText_NoChance : PySem.W.subIn K (.ref A.x_NoText) (.ref A.x_NoChance) = some false
  su_NoText_NoFair : PySem.W.subIn K (.ref A.x_NoText) (.ref A.x_NoFair) = some false
  su_NoText_NoName : PySem.W.subIn K (.ref A.x_NoText) (.ref A.x_NoName) = some false
  su_NoText_NoRatio : PySem.W.subIn K (.ref A.x_NoText) (.ref A.x_NoRatio) = some false
  su_NoText_NoRow : PySem.W.subIn K (.ref A.x_NoText) (.ref A.x_NoRow) = some false
  su_NoText_NoText : PySem.W.subIn K (.ref A.x_NoText) (.ref A.x_NoText) = some true
  sb_NoText_ValueError : PySem.W.subIn K (.ref A.x_NoText) (.type "ValueError") = some true
  y_SureError : BaseI K A.x_SureError
  i_NoText : XIni K "NoText" A.x_NoText A.j_NoText "at"
  FI_NoText : Fun K "__init__" "NoText.__init__" (inClass (topS 5) 0) A.j_NoText A.e_NoText
  bI_NoText : Binds K A.e_NoText ["self", "at"] []
  F_common : Fun K "common" "common" (topS 9) A.a_common A.d_common
  b_common : Binds K A.d_common ["one", "other"] []
  g_common : mg "common" = some (.ref A.a_common)
  F_ratio : Fun K "ratio" "ratio" (topS 10) A.a_ratio A.d_ratio
  b_ratio : Binds K A.d_ratio ["top", "bottom"] []
  g_ratio : mg "ratio" = some (.ref A.a_ratio)
  F_is_name : Fun K "is_name" "is_name" (topS 16) A.a_is_name A.d_is_name
  b_is_name : Binds K A.d_is_name ["word"] []
  g_is_name : mg "is_name" = some (.ref A.a_is_name)
  F_is_whole_word : Fun K "is_whole_word" "is_whole_word" (topS 17) A.a_is_whole_word A.d_is_whole_word
  b_is_whole_word : Binds K A.d_is_whole_word ["word"] []
  g_is_whole_word : mg "is_whole_word" = some (.ref A.a_is_whole_word)
  F_read_ratio : Fun K "read_ratio" "read_ratio" (topS 18) A.a_read_ratio A.d_read_ratio
  b_read_ratio : Binds K A.d_read_ratio ["text"] []
  g_read_ratio : mg "read_ratio" = some (.ref A.a_read_ratio)
  F_Row___init__ : Fun K "__init__" "Row.__init__" (inClass (topS 22) 0) A.a_Row___init__ A.d_Row___init__
  b_Row___init__ : Binds K A.d_Row___init__ ["self", "text", "at"] []
  k_Row : Mk K A.c_Row A.a_Row___init__
  F_Row_refuse : Fun K "refuse" "Row.refuse" (inClass (topS 22) 1) A.a_Row_refuse A.d_Row_refuse
  b_Row_refuse : Binds K A.d_Row_refuse ["self"] []
  m_Row_refuse : Meth K A.c_Row "refuse" A.a_Row_refuse
  F_Row_next_word : Fun K "next_word" "Row.next_word" (inClass (topS 22) 2) A.a_Row_next_word A.d_Row_next_word
  b_Row_next_word : Binds K A.d_Row_next_word ["self"] []
  m_Row_next_word : Meth K A.c_Row "next_word" A.a_Row_next_word
  F_Row_next_ratio : Fun K "next_ratio" "Row.next_ratio" (inClass (topS 22) 3) A.a_Row_next_ratio A.d_Row_next_ratio
  b_Row_next_ratio : Binds K A.d_Row_next_ratio ["self"] []
  m_Row_next_ratio : Meth K A.c_Row "next_ratio" A.a_Row_next_ratio
  F_Row_price_behind : Fun K "price_behind" "Row.price_behind" (inClass (topS 22) 4) A.a_Row_price_behind A.d_Row_price_behind
  b_Row_price_behind : Binds K A.d_Row_price_behind ["self", "word"] []
  m_Row_price_behind : Meth K A.c_Row "price_behind" A.a_Row_price_behind
  F_Row_event_behind : Fun K "event_behind" "Row.event_behind" (inClass (topS 22) 5) A.a_Row_event_behind A.d_Row_event_behind
  b_Row_event_behind : Binds K A.d_Row_event_behind ["self", "names"] []
  m_Row_event_behind : Meth K A.c_Row "event_behind" A.a_Row_event_behind
  F_read_names : Fun K "read_names" "read_names" (topS 23) A.a_read_names A.d_read_names
  b_read_names : Binds K A.d_read_names ["text"] []
  g_read_names : mg "read_names" = some (.ref A.a_read_names)
  F_read_offer : Fun K "read_offer" "read_offer" (topS 24) A.a_read_offer A.d_read_offer
  b_read_offer : Binds K A.d_read_offer ["names", "text", "at"] []
  g_read_offer : mg "read_offer" = some (.ref A.a_read_offer)
  F_read : Fun K "read" "read" (topS 25) A.a_read A.d_read
  b_read : Binds K A.d_read ["text"] []
  g_read : mg "read" = some (.ref A.a_read)
  F_l_cell : Fun K "_law_cell" "_law_cell" (topS 27) A.a_l_cell A.d_l_cell
  b_l_cell : Binds K A.d_l_cell ["_law_script", "_law_k"] []
  g_l_cell : mg "_law_cell" = some (.ref A.a_l_cell)
  F_l_whole : Fun K "_law_whole" "_law_whole" (topS 28) A.a_l_whole A.d_l_whole
  b_l_whole : Binds K A.d_l_whole ["_law_found"] []
  g_l_whole : mg "_law_whole" = some (.ref A.a_l_whole)
  F_l_ratio : Fun K "_law_ratio" "_law_ratio" (topS 29) A.a_l_ratio A.d_l_ratio
  b_l_ratio : Binds K A.d_l_ratio ["_law_top", "_law_bottom"] []
  g_l_ratio : mg "_law_ratio" = some (.ref A.a_l_ratio)
  F_l_bag : Fun K "_law_bag" "_law_bag" (topS 31) A.a_l_bag A.d_l_bag
  b_l_bag : Binds K A.d_l_bag ["_law_cell_here"] []
  g_l_bag : mg "_law_bag" = some (.ref A.a_l_bag)
  F_l_take : Fun K "_law_take" "_law_take" (topS 32) A.a_l_take A.d_l_take
  b_l_take : Binds K A.d_l_take ["_law_bag_here", "_law_many"] []
  g_l_take : mg "_law_take" = some (.ref A.a_l_take)
  F_l_letters : Fun K "_law_letters" "_law_letters" (topS 33) A.a_l_letters A.d_l_letters
  b_l_letters : Binds K A.d_l_letters ["_law_bag_here", "_law_most"] []
  g_l_letters : mg "_law_letters" = some (.ref A.a_l_letters)
  F_l_names : Fun K "_law_names" "_law_names" (topS 34) A.a_l_names A.d_l_names
  b_l_names : Binds K A.d_l_names ["_law_bag_here", "_law_count"] []
  g_l_names : mg "_law_names" = some (.ref A.a_l_names)
  F_l_part : Fun K "_law_part" "_law_part" (topS 35) A.a_l_part A.d_l_part
  b_l_part : Binds K A.d_l_part ["_law_bag_here"] []
  g_l_part : mg "_law_part" = some (.ref A.a_l_part)
  F_l_any_offer : Fun K "_law_any_offer" "_law_any_offer" (topS 36) A.a_l_any_offer A.d_l_any_offer
  b_l_any_offer : Binds K A.d_l_any_offer ["_law_bag_here", "_law_count"] []
  g_l_any_offer : mg "_law_any_offer" = some (.ref A.a_l_any_offer)
  F_l_show : Fun K "_law_show" "_law_show" (topS 37) A.a_l_show A.d_l_show
  b_l_show : Binds K A.d_l_show ["_law_one"] []
  g_l_show : mg "_law_show" = some (.ref A.a_l_show)
  F_l_line : Fun K "_law_line" "_law_line" (topS 38) A.a_l_line A.d_l_line
  b_l_line : Binds K A.d_l_line ["_law_names_here", "_law_offer"] []
  g_l_line : mg "_law_line" = some (.ref A.a_l_line)
  F_l_lines : Fun K "_law_lines" "_law_lines" (topS 39) A.a_l_lines A.d_l_lines
  b_l_lines : Binds K A.d_l_lines ["_law_names_here", "_law_offers"] []
  g_l_lines : mg "_law_lines" = some (.ref A.a_l_lines)
  F_l_bad_words : Fun K "_law_bad_words" "_law_bad_words" (topS 40) A.a_l_bad_words A.d_l_bad_words
  b_l_bad_words : Binds K A.d_l_bad_words ["_law_big"] []
  g_l_bad_words : mg "_law_bad_words" = some (.ref A.a_l_bad_words)
  F_l_bad_line : Fun K "_law_bad_line" "_law_bad_line" (topS 41) A.a_l_bad_line A.d_l_bad_line
  b_l_bad_line : Binds K A.d_l_bad_line ["_law_bag_here", "_law_names_here", "_law_big"] []
  g_l_bad_line : mg "_law_bad_line" = some (.ref A.a_l_bad_line)
  F_l_bad_heads : Fun K "_law_bad_heads" "_law_bad_heads" (topS 42) A.a_l_bad_heads A.d_l_bad_heads
  b_l_bad_heads : Binds K A.d_l_bad_heads ["_law_names_here"] []
  g_l_bad_heads : mg "_law_bad_heads" = some (.ref A.a_l_bad_heads)
  F_l_refusal : Fun K "_law_refusal" "_law_refusal" (topS 43) A.a_l_refusal A.d_l_refusal
  b_l_refusal : Binds K A.d_l_refusal ["_law_text"] []
  g_l_refusal : mg "_law_refusal" = some (.ref A.a_l_refusal)
  F_l_refused : Fun K "_law_refused" "_law_refused" (topS 44) A.a_l_refused A.d_l_refused
  b_l_refused : Binds K A.d_l_refused ["_law_text", "_law_at"] []
  g_l_refused : mg "_law_refused" = some (.ref A.a_l_refused)
  F_l_spoilt_good : Fun K "_law_spoilt_good" "_law_spoilt_good" (topS 45) A.a_l_spoilt_good A.d_l_spoilt_good
  b_l_spoilt_good : Binds K A.d_l_spoilt_good ["_law_bag_here", "_law_names_here", "_law_offers", "_law_big"] []
  g_l_spoilt_good : mg "_law_spoilt_good" = some (.ref A.a_l_spoilt_good)
  F_law : Fun K "law" "law" (topS 46) A.a_law A.d_law
  b_law : Binds K A.d_law ["_law_script"] []
  g_law : mg "law" = some (.ref A.a_law)
  c_Row : ClsOk K "Row" A.c_Row
  g_Row : mg "Row" = some (.ref A.c_Row)
  n_Row_rest : NoAttr K A.c_Row "rest"
  n_Row_at : NoAttr K A.c_Row "at"
  m_ValueError : mg "ValueError" = none
  m_abs : mg "abs" = none
  m_bool : mg "bool" = none
  m_int : mg "int" = none
  m_isinstance : mg "isinstance" = none
  m_len : mg "len" = none
  m_range : mg "range" = none
  m_str : mg "str" = none
  m_tuple : mg "tuple" = none
  g_FIGURES : mg "FIGURES" = some (.str (Str.ofString "0123456789") A.t_FIGURES)
  g_LETTERS : mg "LETTERS" = some (.str (Str.ofString "abcdefghijklmnopqrstuvwxyz") A.t_LETTERS)
  g_MOST_FIGURES : mg "MOST_FIGURES" = some (.int 30 A.t_MOST_FIGURES)
  g_MOST_LETTERS : mg "MOST_LETTERS" = some (.int 8 A.t_MOST_LETTERS)
  g_MOST_OFFERS : mg "MOST_OFFERS" = some (.int 12 A.t_MOST_OFFERS)
  g_MOST_WORLDS : mg "MOST_WORLDS" = some (.int 12 A.t_MOST_WORLDS)
section
variable {P : Program} {w : World} {K : PySem.W.Frag} {mg : Str → Option Value} {base : Heap} {A : Ad}
theorem Tx.okI_NoText (T : Tx K mg A) : FnOk P w K mg base CX0 1 A.j_NoText A.e_NoText ["self", "at"] (spIni A.x_NoText "at") :=
  ini_ok (k := 0) (m := Str.ofString "a row is written otherwise") T.FI_NoText scI_NoText T.i_NoText.ox T.i_NoText.no (fun cdv A2 outer s2 H E => pss_cons (ps_expr (pe_seinit T.y_SureError (by rfl) T.h_SureError (pa_cons (pe_var (i := 0) rfl (Or.inl rfl)) (pa_cons pe_str pa_nil)))) (pss_one (ps_ost (pe_var (i := 0) rfl (Or.inl rfl)) (pe_var (i := 1) rfl (Or.inl rfl)))))
theorem Tx.ok_common (T : Tx K mg A) : FnB P w K mg base true 1 A.a_common A.d_common ["one", "other"] (Prom K sp_common) := by
  refine fn_ok (k := 0) T.F_common sc_common ln_common (fun cdv A' outer s' H E c pn hc hr => ⟨B_common, ?_, hb_common⟩)
  exact (dss_cons (ds_while [2] PassesOwn.never (db_cmp op_gt o_gt (de_var 1) de_int (nomark _))
  (dss_cons (ds_set (i := 2) sc_common.nd rfl (by first | exact .inl rfl | exact .inr rfl) (de_op op_modN o_mod (de_var 0) (de_var 1)))
  (dss_cons (ds_set (i := 0) sc_common.nd rfl (by first | exact .inl rfl | exact .inr rfl) (de_var 1))
  (dss_one (ds_set (i := 1) sc_common.nd rfl (by first | exact .inl rfl | exact .inr rfl) (de_var 2))))))
  (dss_one (ds_ret (de_var 0))))
theorem Tx.ok_ratio (T : Tx K mg A) : FnB P w K mg base true 2 A.a_ratio A.d_ratio ["top", "bottom"] (Prom K sp_ratio) := by
  refine fn_ok (k := 1) T.F_ratio sc_ratio ln_ratio (fun cdv A' outer s' H E c pn hc hr => ⟨B_ratio, ?_, hb_ratio⟩)
  exact (dss_cons (ds_if (db_cmp (op_eqD hr.units) o_eq (de_var 1) de_int (nomark _)) (dss_one ds_never) dss_nil)
  (dss_cons (ds_set (i := 2) sc_ratio.nd rfl (by first | exact .inl rfl | exact .inr rfl) (de_call T.ok_common (hr.mono (by decide)) (by rfl) T.g_common T.F_common.kp T.b_common (da_cons (de_callB call_abs o_abs (by rfl) T.m_abs (by decide +kernel) (da_cons (de_var 0) da_nil)) (da_cons (de_callB call_abs o_abs (by rfl) T.m_abs (by decide +kernel) (da_cons (de_var 1) da_nil)) da_nil))))
  (dss_cons (ds_if (db_cmp op_lt o_lt (de_var 1) de_int (nomark _)) (dss_one (ds_set (i := 2) sc_ratio.nd rfl (by first | exact .inl rfl | exact .inr rfl) (de_un un_neg o_neg (de_var 2)))) dss_nil)
  (dss_one (ds_ret (de_tup (da_cons (de_op op_fdivX o_fdiv (de_var 0) (de_var 2)) (da_cons (de_op op_fdivX o_fdiv (de_var 1) (de_var 2)) da_nil))))))))
theorem Tx.ok_is_name (T : Tx K mg A) : FnB P w K mg base false 1 A.a_is_name A.d_is_name ["word"] (Prom K sp_is_name) := by
  refine fn_ok (k := 0) T.F_is_name sc_is_name ln_is_name (fun cdv A' outer s' H E c pn hc hr => ⟨B_is_name, ?_, hb_is_name⟩)
  obtain rfl := cold_of hc
  exact (dss_cons (ds_if (db_w (dw_or (db_cmp op_lt o_lt (de_callB call_lenA o_len (by rfl) T.m_len (by decide +kernel) (da_cons (de_var 0) da_nil)) de_int (nomark _)) (dw_or1 (db_cmp op_gt o_gt (de_callB call_lenA o_len (by rfl) T.m_len (by decide +kernel) (da_cons (de_var 0) da_nil)) (de_gint (by rfl) T.g_MOST_LETTERS) (nomark _))))) (dss_one (ds_ret de_bl)) dss_nil)
  (dss_cons (ds_for [1] PassesOwn.never hr.rdy (di_signs rfl (de_var 0)) (dg_name (i := 1) sc_is_name.nd rfl (by first | exact .inl rfl | exact .inr rfl))
  (dss_one (ds_if (db_cmp op_notIn_sign o_notInS (de_var 1) (de_gstr (by rfl) T.g_LETTERS) (by rfl)) (dss_one (ds_ret de_bl)) dss_nil)))
  (dss_one (ds_ret de_bl))))
theorem Tx.ok_is_whole_word (T : Tx K mg A) : FnB P w K mg base false 1 A.a_is_whole_word A.d_is_whole_word ["word"] (Prom K sp_is_whole_word) := by
  refine fn_ok (k := 0) T.F_is_whole_word sc_is_whole_word ln_is_whole_word (fun cdv A' outer s' H E c pn hc hr => ⟨B_is_whole_word, ?_, hb_is_whole_word⟩)
  obtain rfl := cold_of hc
  exact (dss_cons (ds_set (i := 1) sc_is_whole_word.nd rfl (by first | exact .inl rfl | exact .inr rfl) (de_var 0))
  (dss_cons (ds_if (db_val (de_bm PySem.F.plainAttrs_str PySem.F.slot_str_startswith PySem.F.type_str_startswith mt_startswith (fun _ _ _ h1 h2 h3 => tyV_str h1 h2 h3) o_starts (de_var 0) (da_cons de_str da_nil))) (dss_one (ds_set (i := 1) sc_is_whole_word.nd rfl (by first | exact .inl rfl | exact .inr rfl) (de_sliceS (de_var 0) (dpo_some de_int) dpo_none))) dss_nil)
  (dss_cons (ds_if (db_w (dw_or (db_cmp op_lt o_lt (de_callB call_lenA o_len (by rfl) T.m_len (by decide +kernel) (da_cons (de_var 1) da_nil)) de_int (nomark _)) (dw_or (db_cmp op_gt o_gt (de_callB call_lenA o_len (by rfl) T.m_len (by decide +kernel) (da_cons (de_var 1) da_nil)) (de_gint (by rfl) T.g_MOST_FIGURES) (nomark _)) (dw_or1 (db_cmp (op_eqD hr.units) o_eq (de_var 0) de_str (nomark _)))))) (dss_one (ds_ret de_bl)) dss_nil)
  (dss_cons (ds_for [0, 2] PassesOwn.never hr.rdy (di_signs rfl (de_var 1)) (dg_name (i := 2) sc_is_whole_word.nd rfl (by first | exact .inl rfl | exact .inr rfl))
  (dss_one (ds_if (db_cmp op_notIn_sign o_notInS (de_var 2) (de_gstr (by rfl) T.g_FIGURES) (by rfl)) (dss_one (ds_ret de_bl)) dss_nil)))
  (dss_one (ds_ret (de_or (de_cmp (op_eqD hr.units) o_eq (de_callB call_lenA o_len (by rfl) T.m_len (by decide +kernel) (da_cons (de_var 1) da_nil)) de_int (nomark _)) (de_one (de_cmp (op_neD hr.units) o_ne (de_ix (de_var 1) de_int (fun _ _ => rfl)) de_str (nomark _))))))))))
theorem Tx.ok_read_ratio (T : Tx K mg A) : FnB P w K mg base false 3 A.a_read_ratio A.d_read_ratio ["text"] (Prom K sp_read_ratio) := by
  refine fn_ok (k := 2) T.F_read_ratio sc_read_ratio ln_read_ratio (fun cdv A' outer s' H E c pn hc hr => ⟨B_read_ratio, ?_, hb_read_ratio⟩)
  obtain rfl := cold_of hc
  exact (dss_cons (ds_set (i := 1) sc_read_ratio.nd rfl (by first | exact .inl rfl | exact .inr rfl) (de_bm PySem.F.plainAttrs_str PySem.F.slot_str_split PySem.F.type_str_split mt_split (fun _ _ _ h1 h2 h3 => tyV_str h1 h2 h3) (o_split mk_F) (de_var 0) (da_cons de_str da_nil)))
  (dss_cons (ds_for [2] PassesOwn.never hr.rdy (di_seq (de_var 1)) (dg_name (i := 2) sc_read_ratio.nd rfl (by first | exact .inl rfl | exact .inr rfl))
  (dss_one (ds_if (db_not (db_val (de_call T.ok_is_whole_word (hr.mono (by decide)) (by rfl) T.g_is_whole_word T.F_is_whole_word.kp T.b_is_whole_word (da_cons (de_var 2) da_nil)))) (dss_one (ds_ret de_non)) dss_nil)))
  (dss_cons (ds_if (db_cmp (op_eqD hr.units) o_eq (de_callB call_lenA o_len (by rfl) T.m_len (by decide +kernel) (da_cons (de_var 1) da_nil)) de_int (nomark _)) (dss_one (ds_ret (de_tup (da_cons (de_callTy call_int_str o_intS (by rfl) T.m_int (by decide +kernel) (da_cons (de_var 0) da_nil)) (da_cons de_int da_nil))))) dss_nil)
  (dss_cons (ds_if (db_w (dw_or (db_cmp op_gt o_gt (de_callB call_lenA o_len (by rfl) T.m_len (by decide +kernel) (da_cons (de_var 1) da_nil)) de_int (nomark _)) (dw_or1 (db_cmp op_lt o_lt (de_callTy call_int_str o_intS (by rfl) T.m_int (by decide +kernel) (da_cons (de_ix (de_var 1) de_int (fun _ _ => rfl)) da_nil)) de_int (nomark _))))) (dss_one (ds_ret de_non)) dss_nil)
  (dss_cons (ds_set (i := 3) sc_read_ratio.nd rfl (by first | exact .inl rfl | exact .inr rfl) (de_tup (da_cons (de_callTy call_int_str o_intS (by rfl) T.m_int (by decide +kernel) (da_cons (de_ix (de_var 1) de_int (fun _ _ => rfl)) da_nil)) (da_cons (de_callTy call_int_str o_intS (by rfl) T.m_int (by decide +kernel) (da_cons (de_ix (de_var 1) de_int (fun _ _ => rfl)) da_nil)) da_nil))))
  (dss_cons (ds_if (db_cmp (op_neD hr.units) o_ne (de_call T.ok_ratio (hr.mono (by decide)) (by rfl) T.g_ratio T.F_ratio.kp T.b_ratio (da_cons (de_ix (de_var 3) de_int (fun _ _ => rfl)) (da_cons (de_ix (de_var 3) de_int (fun _ _ => rfl)) da_nil))) (de_var 3) (nomark _)) (dss_one (ds_ret de_non)) dss_nil)
  (dss_one (ds_ret (de_var 3)))))))))
theorem Tx.ok_Row___init__ (T : Tx K mg A) : FnB P w K mg base false 1 A.a_Row___init__ A.d_Row___init__ ["self", "text", "at"] (Prom K sp_Row___init__) := by
  refine fn_ok (k := 0) T.F_Row___init__ sc_Row___init__ ln_Row___init__ (fun cdv A' outer s' H E c pn hc hr => ⟨B_Row___init__, ?_, hb_Row___init__⟩)
  obtain rfl := cold_of hc
  exact (dss_cons (ds_fld T.c_Row T.n_Row_rest (de_bm PySem.F.plainAttrs_str PySem.F.slot_str_split PySem.F.type_str_split mt_split (fun _ _ _ h1 h2 h3 => tyV_str h1 h2 h3) (o_split mk_O) (de_var 1) (da_cons de_str da_nil)) (de_var 0))
  (dss_one (ds_fld T.c_Row T.n_Row_at (de_var 2) (de_var 0))))
theorem Tx.okR_Row_refuse (T : Tx K mg A) : FnOk P w K mg base (L2N.CX P w) 3 A.a_Row_refuse A.d_Row_refuse ["self"] (PromR K spR_Row_refuse) := by
  refine fnR_ok (k := 2) T.F_Row_refuse sc_Row_refuse lnR_Row_refuse (fun cdv A' outer s' H E hr po => ⟨BR_Row_refuse, ?_, hbR_Row_refuse⟩)
  exact (drs_here (drs_raiseI T.i_NoText T.okI_NoText (hr.mono (by decide)) T.bI_NoText rfl (by rfl) T.h_NoText (da_cons (de_fld T.c_Row T.n_Row_at (de_var 0)) da_nil)))
theorem Tx.ok_Row_refuse (T : Tx K mg A) : FnB P w K mg base true 3 A.a_Row_refuse A.d_Row_refuse ["self"] (Prom K sp_Row_refuse) := by
  refine fn_ok (k := 2) T.F_Row_refuse sc_Row_refuse ln_Row_refuse (fun cdv A' outer s' H E c pn hc hr => ⟨B_Row_refuse, ?_, hb_Row_refuse⟩)
  exact (dss_one ds_never)
theorem Tx.okR_Row_next_word (T : Tx K mg A) : FnOk P w K mg base (L2N.CX P w) 4 A.a_Row_next_word A.d_Row_next_word ["self"] (PromR K spR_Row_next_word) := by
  refine fnR_ok (k := 3) T.F_Row_next_word sc_Row_next_word lnR_Row_next_word (fun cdv A' outer s' H E hr po => ⟨BR_Row_next_word, ?_, hbR_Row_next_word⟩)
  exact (drs_here (drs_if (db_cmp (op_eqD hr.units) o_eq (de_callB call_lenA o_len (by rfl) T.m_len (by decide +kernel) (da_cons (de_fld T.c_Row T.n_Row_rest (de_var 0)) da_nil)) de_int (nomark _)) (drs_here (drs_expr (dre_ofX (dre_meth0 T.c_Row T.m_Row_refuse T.okR_Row_refuse (hr.mono (by decide)) rfl T.b_Row_refuse (de_var 0) _ (by rfl))))) drss_never))
theorem Tx.ok_Row_next_word (T : Tx K mg A) : FnB P w K mg base false 4 A.a_Row_next_word A.d_Row_next_word ["self"] (Prom K sp_Row_next_word) := by
  refine fn_ok (k := 3) T.F_Row_next_word sc_Row_next_word ln_Row_next_word (fun cdv A' outer s' H E c pn hc hr => ⟨B_Row_next_word, ?_, hb_Row_next_word⟩)
  obtain rfl := cold_of hc
  exact (dss_cons (ds_if (db_cmp (op_eqD hr.units) o_eq (de_callB call_lenA o_len (by rfl) T.m_len (by decide +kernel) (da_cons (de_fld T.c_Row T.n_Row_rest (de_var 0)) da_nil)) de_int (nomark _)) (dss_one (ds_expr (de_meth0 T.c_Row T.m_Row_refuse T.ok_Row_refuse (hr.mono (by decide)) rfl T.b_Row_refuse (de_var 0) (pl := _) (ht := by rfl)))) dss_nil)
  (dss_one (ds_ret (de_bm PySem.F.plainAttrs_list PySem.F.slot_list_pop PySem.F.type_list_pop mt_popAt (fun _ _ _ h1 h2 h3 => tyV_list h1 h2 h3) o_pop0 (de_fld T.c_Row T.n_Row_rest (de_var 0)) (da_cons de_int da_nil)))))
theorem Tx.okR_Row_next_ratio (T : Tx K mg A) : FnOk P w K mg base (L2N.CX P w) 5 A.a_Row_next_ratio A.d_Row_next_ratio ["self"] (PromR K spR_Row_next_ratio) := by
  refine fnR_ok (k := 4) T.F_Row_next_ratio sc_Row_next_ratio lnR_Row_next_ratio (fun cdv A' outer s' H E hr po => ⟨BR_Row_next_ratio, ?_, hbR_Row_next_ratio⟩)
  exact (drss_or (drs_here (drs_set (i := 1) sc_Row_next_ratio.nd rfl (by first | exact .inl rfl | exact .inr rfl) (dre_callA (by rfl) T.g_read_ratio T.F_read_ratio.kp (dra_here (dre_ofX (dre_meth0 T.c_Row T.m_Row_next_word T.okR_Row_next_word (hr.mono (by decide)) rfl T.b_Row_next_word (de_var 0) _ (by rfl))) da_nil)))) (drs_skip (ds_set (i := 1) sc_Row_next_ratio.nd rfl (by first | exact .inl rfl | exact .inr rfl) (de_call T.ok_read_ratio (hr.mono (by decide)) (by rfl) T.g_read_ratio T.F_read_ratio.kp T.b_read_ratio (da_cons (de_meth0 T.c_Row T.m_Row_next_word T.ok_Row_next_word (hr.mono (by decide)) rfl T.b_Row_next_word (de_var 0) (pl := _) (ht := by rfl)) da_nil)))
  (drs_here (drs_if (db_cmp op_isN o_isN (de_var 1) de_non (nomark _)) (drs_here (drs_expr (dre_ofX (dre_meth0 T.c_Row T.m_Row_refuse T.okR_Row_refuse (hr.mono (by decide)) rfl T.b_Row_refuse (de_var 0) _ (by rfl))))) drss_never))))
theorem Tx.ok_Row_next_ratio (T : Tx K mg A) : FnB P w K mg base false 5 A.a_Row_next_ratio A.d_Row_next_ratio ["self"] (Prom K sp_Row_next_ratio) := by
  refine fn_ok (k := 4) T.F_Row_next_ratio sc_Row_next_ratio ln_Row_next_ratio (fun cdv A' outer s' H E c pn hc hr => ⟨B_Row_next_ratio, ?_, hb_Row_next_ratio⟩)
  obtain rfl := cold_of hc
  exact (dss_cons (ds_set (i := 1) sc_Row_next_ratio.nd rfl (by first | exact .inl rfl | exact .inr rfl) (de_call T.ok_read_ratio (hr.mono (by decide)) (by rfl) T.g_read_ratio T.F_read_ratio.kp T.b_read_ratio (da_cons (de_meth0 T.c_Row T.m_Row_next_word T.ok_Row_next_word (hr.mono (by decide)) rfl T.b_Row_next_word (de_var 0) (pl := _) (ht := by rfl)) da_nil)))
  (dss_cons (ds_if (db_cmp op_isN o_isN (de_var 1) de_non (nomark _)) (dss_one (ds_expr (de_meth0 T.c_Row T.m_Row_refuse T.ok_Row_refuse (hr.mono (by decide)) rfl T.b_Row_refuse (de_var 0) (pl := _) (ht := by rfl)))) dss_nil)
  (dss_one (ds_ret (de_var 1)))))
theorem Tx.okR_Row_price_behind (T : Tx K mg A) : FnOk P w K mg base (L2N.CX P w) 6 A.a_Row_price_behind A.d_Row_price_behind ["self", "word"] (PromR K spR_Row_price_behind) := by
  refine fnR_ok (k := 5) T.F_Row_price_behind sc_Row_price_behind lnR_Row_price_behind (fun cdv A' outer s' H E hr po => ⟨BR_Row_price_behind, ?_, hbR_Row_price_behind⟩)
  exact (drs_skip (ds_if (db_w (dw_or (db_cmp (op_eqD hr.units) o_eq (de_callB call_lenA o_len (by rfl) T.m_len (by decide +kernel) (da_cons (de_fld T.c_Row T.n_Row_rest (de_var 0)) da_nil)) de_int (nomark _)) (dw_or1 (db_cmp (op_neD hr.units) o_ne (de_ix (de_fld T.c_Row T.n_Row_rest (de_var 0)) de_int (fun _ _ => rfl)) (de_var 1) (nomark _))))) (dss_one (ds_ret de_non)) dss_nil)
  (drs_skip (ds_expr (de_bm PySem.F.plainAttrs_list PySem.F.slot_list_pop PySem.F.type_list_pop mt_popAt (fun _ _ _ h1 h2 h3 => tyV_list h1 h2 h3) o_pop0 (de_fld T.c_Row T.n_Row_rest (de_var 0)) (da_cons de_int da_nil)))
  (drs_here (drs_ret (dre_ofX (dre_meth0 T.c_Row T.m_Row_next_ratio T.okR_Row_next_ratio (hr.mono (by decide)) rfl T.b_Row_next_ratio (de_var 0) _ (by rfl)))))))
theorem Tx.ok_Row_price_behind (T : Tx K mg A) : FnB P w K mg base false 6 A.a_Row_price_behind A.d_Row_price_behind ["self", "word"] (Prom K sp_Row_price_behind) := by
  refine fn_ok (k := 5) T.F_Row_price_behind sc_Row_price_behind ln_Row_price_behind (fun cdv A' outer s' H E c pn hc hr => ⟨B_Row_price_behind, ?_, hb_Row_price_behind⟩)
  obtain rfl := cold_of hc
  exact (dss_cons (ds_if (db_w (dw_or (db_cmp (op_eqD hr.units) o_eq (de_callB call_lenA o_len (by rfl) T.m_len (by decide +kernel) (da_cons (de_fld T.c_Row T.n_Row_rest (de_var 0)) da_nil)) de_int (nomark _)) (dw_or1 (db_cmp (op_neD hr.units) o_ne (de_ix (de_fld T.c_Row T.n_Row_rest (de_var 0)) de_int (fun _ _ => rfl)) (de_var 1) (nomark _))))) (dss_one (ds_ret de_non)) dss_nil)
  (dss_cons (ds_expr (de_bm PySem.F.plainAttrs_list PySem.F.slot_list_pop PySem.F.type_list_pop mt_popAt (fun _ _ _ h1 h2 h3 => tyV_list h1 h2 h3) o_pop0 (de_fld T.c_Row T.n_Row_rest (de_var 0)) (da_cons de_int da_nil)))
  (dss_one (ds_ret (de_meth0 T.c_Row T.m_Row_next_ratio T.ok_Row_next_ratio (hr.mono (by decide)) rfl T.b_Row_next_ratio (de_var 0) (pl := _) (ht := by rfl))))))
theorem Tx.okR_Row_event_behind (T : Tx K mg A) : FnOk P w K mg base (L2N.CX P w) 5 A.a_Row_event_behind A.d_Row_event_behind ["self", "names"] (PromR K spR_Row_event_behind) := by
  refine fnR_ok (k := 4) T.F_Row_event_behind sc_Row_event_behind lnR_Row_event_behind (fun cdv A' outer s' H E hr po => ⟨BR_Row_event_behind, ?_, hbR_Row_event_behind⟩)
  exact (drs_skip (ds_if (db_cmp (op_eqD hr.units) o_eq (de_callB call_lenA o_len (by rfl) T.m_len (by decide +kernel) (da_cons (de_fld T.c_Row T.n_Row_rest (de_var 0)) da_nil)) de_int (nomark _)) (dss_one (ds_ret de_non)) dss_nil)
  (drss_or (drs_here (drs_if (db_w (dw_or (db_cmp (op_neD hr.units) o_ne (de_meth0 T.c_Row T.m_Row_next_word T.ok_Row_next_word (hr.mono (by decide)) rfl T.b_Row_next_word (de_var 0) (pl := _) (ht := by rfl)) de_str (nomark _)) (dw_or1 (db_cmp (op_eqD hr.units) o_eq (de_callB call_lenA o_len (by rfl) T.m_len (by decide +kernel) (da_cons (de_fld T.c_Row T.n_Row_rest (de_var 0)) da_nil)) de_int (nomark _))))) (drs_here (drs_expr (dre_ofX (dre_meth0 T.c_Row T.m_Row_refuse T.okR_Row_refuse (hr.mono (by decide)) rfl T.b_Row_refuse (de_var 0) _ (by rfl))))) drss_never)) (drs_skip (ds_if (db_w (dw_or (db_cmp (op_neD hr.units) o_ne (de_meth0 T.c_Row T.m_Row_next_word T.ok_Row_next_word (hr.mono (by decide)) rfl T.b_Row_next_word (de_var 0) (pl := _) (ht := by rfl)) de_str (nomark _)) (dw_or1 (db_cmp (op_eqD hr.units) o_eq (de_callB call_lenA o_len (by rfl) T.m_len (by decide +kernel) (da_cons (de_fld T.c_Row T.n_Row_rest (de_var 0)) da_nil)) de_int (nomark _))))) (dss_one (ds_expr (de_meth0 T.c_Row T.m_Row_refuse T.ok_Row_refuse (hr.mono (by decide)) rfl T.b_Row_refuse (de_var 0) (pl := _) (ht := by rfl)))) dss_nil)
  (drs_skip (ds_set (i := 2) sc_Row_event_behind.nd rfl (by first | exact .inl rfl | exact .inr rfl) (de_lst mk_O da_nil))
  (drs_here (drs_while [3] po (db_cmp op_gt o_gt (de_callB call_lenA o_len (by rfl) T.m_len (by decide +kernel) (da_cons (de_fld T.c_Row T.n_Row_rest (de_var 0)) da_nil)) de_int (nomark _)) (dss_cons (ds_set (i := 3) sc_Row_event_behind.nd rfl (by first | exact .inl rfl | exact .inr rfl) (de_meth0 T.c_Row T.m_Row_next_word T.ok_Row_next_word (hr.mono (by decide)) rfl T.b_Row_next_word (de_var 0) (pl := _) (ht := by rfl)))
  (dss_cons (ds_if (db_w (dw_or (db_cmp op_notIn_seq o_in (de_var 3) (de_var 1) (by rfl)) (dw_or1 (db_w (dw_and (db_cmp op_gt o_gt (de_callB call_lenA o_len (by rfl) T.m_len (by decide +kernel) (da_cons (de_var 2) da_nil)) de_int (nomark _)) (dw_and1 (db_cmp op_le o_le (de_bm PySem.F.plainAttrs_list PySem.F.slot_list_index PySem.F.type_list_index mt_index (fun _ _ _ h1 h2 h3 => tyV_list h1 h2 h3) o_index (de_var 1) (da_cons (de_var 3) da_nil)) (de_ix (de_var 2) (de_un un_neg o_neg de_int) (fun _ _ => rfl)) (nomark _)))))))) (dss_one (ds_expr (de_meth0 T.c_Row T.m_Row_refuse T.ok_Row_refuse (hr.mono (by decide)) rfl T.b_Row_refuse (de_var 0) (pl := _) (ht := by rfl)))) dss_nil)
  (dss_one (ds_expr (de_bm PySem.F.plainAttrs_list PySem.F.slot_list_append PySem.F.type_list_append mt_append (fun _ _ _ h1 h2 h3 => tyV_list h1 h2 h3) o_append (de_var 2) (da_cons (de_bm PySem.F.plainAttrs_list PySem.F.slot_list_index PySem.F.type_list_index mt_index (fun _ _ _ h1 h2 h3 => tyV_list h1 h2 h3) o_index (de_var 1) (da_cons (de_var 3) da_nil)) da_nil)))))) (drss_or (drs_here (drs_set (i := 3) sc_Row_event_behind.nd rfl (by first | exact .inl rfl | exact .inr rfl) (dre_ofX (dre_meth0 T.c_Row T.m_Row_next_word T.okR_Row_next_word (hr.mono (by decide)) rfl T.b_Row_next_word (de_var 0) _ (by rfl))))) (drs_skip (ds_set (i := 3) sc_Row_event_behind.nd rfl (by first | exact .inl rfl | exact .inr rfl) (de_meth0 T.c_Row T.m_Row_next_word T.ok_Row_next_word (hr.mono (by decide)) rfl T.b_Row_next_word (de_var 0) (pl := _) (ht := by rfl)))
  (drs_here (drs_if (db_w (dw_or (db_cmp op_notIn_seq o_in (de_var 3) (de_var 1) (by rfl)) (dw_or1 (db_w (dw_and (db_cmp op_gt o_gt (de_callB call_lenA o_len (by rfl) T.m_len (by decide +kernel) (da_cons (de_var 2) da_nil)) de_int (nomark _)) (dw_and1 (db_cmp op_le o_le (de_bm PySem.F.plainAttrs_list PySem.F.slot_list_index PySem.F.type_list_index mt_index (fun _ _ _ h1 h2 h3 => tyV_list h1 h2 h3) o_index (de_var 1) (da_cons (de_var 3) da_nil)) (de_ix (de_var 2) (de_un un_neg o_neg de_int) (fun _ _ => rfl)) (nomark _)))))))) (drs_here (drs_expr (dre_ofX (dre_meth0 T.c_Row T.m_Row_refuse T.okR_Row_refuse (hr.mono (by decide)) rfl T.b_Row_refuse (de_var 0) _ (by rfl))))) drss_never))))))))))
theorem Tx.ok_Row_event_behind (T : Tx K mg A) : FnB P w K mg base false 5 A.a_Row_event_behind A.d_Row_event_behind ["self", "names"] (Prom K sp_Row_event_behind) := by
  refine fn_ok (k := 4) T.F_Row_event_behind sc_Row_event_behind ln_Row_event_behind (fun cdv A' outer s' H E c pn hc hr => ⟨B_Row_event_behind, ?_, hb_Row_event_behind⟩)
  obtain rfl := cold_of hc
  exact (dss_cons (ds_if (db_cmp (op_eqD hr.units) o_eq (de_callB call_lenA o_len (by rfl) T.m_len (by decide +kernel) (da_cons (de_fld T.c_Row T.n_Row_rest (de_var 0)) da_nil)) de_int (nomark _)) (dss_one (ds_ret de_non)) dss_nil)
  (dss_cons (ds_if (db_w (dw_or (db_cmp (op_neD hr.units) o_ne (de_meth0 T.c_Row T.m_Row_next_word T.ok_Row_next_word (hr.mono (by decide)) rfl T.b_Row_next_word (de_var 0) (pl := _) (ht := by rfl)) de_str (nomark _)) (dw_or1 (db_cmp (op_eqD hr.units) o_eq (de_callB call_lenA o_len (by rfl) T.m_len (by decide +kernel) (da_cons (de_fld T.c_Row T.n_Row_rest (de_var 0)) da_nil)) de_int (nomark _))))) (dss_one (ds_expr (de_meth0 T.c_Row T.m_Row_refuse T.ok_Row_refuse (hr.mono (by decide)) rfl T.b_Row_refuse (de_var 0) (pl := _) (ht := by rfl)))) dss_nil)
  (dss_cons (ds_set (i := 2) sc_Row_event_behind.nd rfl (by first | exact .inl rfl | exact .inr rfl) (de_lst mk_O da_nil))
  (dss_cons (ds_while [3] PassesOwn.never (db_cmp op_gt o_gt (de_callB call_lenA o_len (by rfl) T.m_len (by decide +kernel) (da_cons (de_fld T.c_Row T.n_Row_rest (de_var 0)) da_nil)) de_int (nomark _))
  (dss_cons (ds_set (i := 3) sc_Row_event_behind.nd rfl (by first | exact .inl rfl | exact .inr rfl) (de_meth0 T.c_Row T.m_Row_next_word T.ok_Row_next_word (hr.mono (by decide)) rfl T.b_Row_next_word (de_var 0) (pl := _) (ht := by rfl)))
  (dss_cons (ds_if (db_w (dw_or (db_cmp op_notIn_seq o_in (de_var 3) (de_var 1) (by rfl)) (dw_or1 (db_w (dw_and (db_cmp op_gt o_gt (de_callB call_lenA o_len (by rfl) T.m_len (by decide +kernel) (da_cons (de_var 2) da_nil)) de_int (nomark _)) (dw_and1 (db_cmp op_le o_le (de_bm PySem.F.plainAttrs_list PySem.F.slot_list_index PySem.F.type_list_index mt_index (fun _ _ _ h1 h2 h3 => tyV_list h1 h2 h3) o_index (de_var 1) (da_cons (de_var 3) da_nil)) (de_ix (de_var 2) (de_un un_neg o_neg de_int) (fun _ _ => rfl)) (nomark _)))))))) (dss_one (ds_expr (de_meth0 T.c_Row T.m_Row_refuse T.ok_Row_refuse (hr.mono (by decide)) rfl T.b_Row_refuse (de_var 0) (pl := _) (ht := by rfl)))) dss_nil)
  (dss_one (ds_expr (de_bm PySem.F.plainAttrs_list PySem.F.slot_list_append PySem.F.type_list_append mt_append (fun _ _ _ h1 h2 h3 => tyV_list h1 h2 h3) o_append (de_var 2) (da_cons (de_bm PySem.F.plainAttrs_list PySem.F.slot_list_index PySem.F.type_list_index mt_index (fun _ _ _ h1 h2 h3 => tyV_list h1 h2 h3) o_index (de_var 1) (da_cons (de_var 3) da_nil)) da_nil)))))))
  (dss_one (ds_ret (de_callTy call_tuple_of o_tuple (by rfl) T.m_tuple (by decide +kernel) (da_cons (de_var 2) da_nil))))))))
theorem Tx.okR_read_names (T : Tx K mg A) : FnOk P w K mg base (L2N.CX P w) 5 A.a_read_names A.d_read_names ["text"] (PromR K spR_read_names) := by
  refine fnR_ok (k := 4) T.F_read_names sc_read_names lnR_read_names (fun cdv A' outer s' H E hr po => ⟨BR_read_names, ?_, hbR_read_names⟩)
  exact (drs_skip (ds_set (i := 1) sc_read_names.nd rfl (by first | exact .inl rfl | exact .inr rfl) (de_make T.c_Row T.k_Row T.ok_Row___init__ (hr.mono (by decide)) (by rfl) T.g_Row T.b_Row___init__ (da_cons (de_var 0) (da_cons de_int da_nil))))
  (drss_or (drs_here (drs_if (db_w (dw_or (db_cmp (op_neD hr.units) o_ne (de_meth0 T.c_Row T.m_Row_next_word T.ok_Row_next_word (hr.mono (by decide)) rfl T.b_Row_next_word (de_var 1) (pl := _) (ht := by rfl)) de_str (nomark _)) (dw_or1 (db_not (db_chain op_le op_le o_le o_le de_int (de_callB call_lenA o_len (by rfl) T.m_len (by decide +kernel) (da_cons (de_fld T.c_Row T.n_Row_rest (de_var 1)) da_nil)) (de_gint (by rfl) T.g_MOST_WORLDS)))))) (drs_here (drs_expr (dre_ofX (dre_meth0 T.c_Row T.m_Row_refuse T.okR_Row_refuse (hr.mono (by decide)) rfl T.b_Row_refuse (de_var 1) _ (by rfl))))) drss_never)) (drs_skip (ds_if (db_w (dw_or (db_cmp (op_neD hr.units) o_ne (de_meth0 T.c_Row T.m_Row_next_word T.ok_Row_next_word (hr.mono (by decide)) rfl T.b_Row_next_word (de_var 1) (pl := _) (ht := by rfl)) de_str (nomark _)) (dw_or1 (db_not (db_chain op_le op_le o_le o_le de_int (de_callB call_lenA o_len (by rfl) T.m_len (by decide +kernel) (da_cons (de_fld T.c_Row T.n_Row_rest (de_var 1)) da_nil)) (de_gint (by rfl) T.g_MOST_WORLDS)))))) (dss_one (ds_expr (de_meth0 T.c_Row T.m_Row_refuse T.ok_Row_refuse (hr.mono (by decide)) rfl T.b_Row_refuse (de_var 1) (pl := _) (ht := by rfl)))) dss_nil)
  (drs_skip (ds_set (i := 2) sc_read_names.nd rfl (by first | exact .inl rfl | exact .inr rfl) (de_lst mk_O da_nil))
  (drs_here (drs_while [0, 3] po (db_cmp op_gt o_gt (de_callB call_lenA o_len (by rfl) T.m_len (by decide +kernel) (da_cons (de_fld T.c_Row T.n_Row_rest (de_var 1)) da_nil)) de_int (nomark _)) (dss_cons (ds_set (i := 3) sc_read_names.nd rfl (by first | exact .inl rfl | exact .inr rfl) (de_meth0 T.c_Row T.m_Row_next_word T.ok_Row_next_word (hr.mono (by decide)) rfl T.b_Row_next_word (de_var 1) (pl := _) (ht := by rfl)))
  (dss_cons (ds_if (db_w (dw_or (db_not (db_val (de_call T.ok_is_name (hr.mono (by decide)) (by rfl) T.g_is_name T.F_is_name.kp T.b_is_name (da_cons (de_var 3) da_nil)))) (dw_or1 (db_cmp op_in_seq o_in (de_var 3) (de_var 2) (by rfl))))) (dss_one (ds_expr (de_meth0 T.c_Row T.m_Row_refuse T.ok_Row_refuse (hr.mono (by decide)) rfl T.b_Row_refuse (de_var 1) (pl := _) (ht := by rfl)))) dss_nil)
  (dss_one (ds_expr (de_bm PySem.F.plainAttrs_list PySem.F.slot_list_append PySem.F.type_list_append mt_append (fun _ _ _ h1 h2 h3 => tyV_list h1 h2 h3) o_append (de_var 2) (da_cons (de_var 3) da_nil)))))) (drss_or (drs_here (drs_set (i := 3) sc_read_names.nd rfl (by first | exact .inl rfl | exact .inr rfl) (dre_ofX (dre_meth0 T.c_Row T.m_Row_next_word T.okR_Row_next_word (hr.mono (by decide)) rfl T.b_Row_next_word (de_var 1) _ (by rfl))))) (drs_skip (ds_set (i := 3) sc_read_names.nd rfl (by first | exact .inl rfl | exact .inr rfl) (de_meth0 T.c_Row T.m_Row_next_word T.ok_Row_next_word (hr.mono (by decide)) rfl T.b_Row_next_word (de_var 1) (pl := _) (ht := by rfl)))
  (drs_here (drs_if (db_w (dw_or (db_not (db_val (de_call T.ok_is_name (hr.mono (by decide)) (by rfl) T.g_is_name T.F_is_name.kp T.b_is_name (da_cons (de_var 3) da_nil)))) (dw_or1 (db_cmp op_in_seq o_in (de_var 3) (de_var 2) (by rfl))))) (drs_here (drs_expr (dre_ofX (dre_meth0 T.c_Row T.m_Row_refuse T.okR_Row_refuse (hr.mono (by decide)) rfl T.b_Row_refuse (de_var 1) _ (by rfl))))) drss_never))))))))))
theorem Tx.ok_read_names (T : Tx K mg A) : FnB P w K mg base false 5 A.a_read_names A.d_read_names ["text"] (Prom K sp_read_names) := by
  refine fn_ok (k := 4) T.F_read_names sc_read_names ln_read_names (fun cdv A' outer s' H E c pn hc hr => ⟨B_read_names, ?_, hb_read_names⟩)
  obtain rfl := cold_of hc
  exact (dss_cons (ds_set (i := 1) sc_read_names.nd rfl (by first | exact .inl rfl | exact .inr rfl) (de_make T.c_Row T.k_Row T.ok_Row___init__ (hr.mono (by decide)) (by rfl) T.g_Row T.b_Row___init__ (da_cons (de_var 0) (da_cons de_int da_nil))))
  (dss_cons (ds_if (db_w (dw_or (db_cmp (op_neD hr.units) o_ne (de_meth0 T.c_Row T.m_Row_next_word T.ok_Row_next_word (hr.mono (by decide)) rfl T.b_Row_next_word (de_var 1) (pl := _) (ht := by rfl)) de_str (nomark _)) (dw_or1 (db_not (db_chain op_le op_le o_le o_le de_int (de_callB call_lenA o_len (by rfl) T.m_len (by decide +kernel) (da_cons (de_fld T.c_Row T.n_Row_rest (de_var 1)) da_nil)) (de_gint (by rfl) T.g_MOST_WORLDS)))))) (dss_one (ds_expr (de_meth0 T.c_Row T.m_Row_refuse T.ok_Row_refuse (hr.mono (by decide)) rfl T.b_Row_refuse (de_var 1) (pl := _) (ht := by rfl)))) dss_nil)
  (dss_cons (ds_set (i := 2) sc_read_names.nd rfl (by first | exact .inl rfl | exact .inr rfl) (de_lst mk_O da_nil))
  (dss_cons (ds_while [0, 3] PassesOwn.never (db_cmp op_gt o_gt (de_callB call_lenA o_len (by rfl) T.m_len (by decide +kernel) (da_cons (de_fld T.c_Row T.n_Row_rest (de_var 1)) da_nil)) de_int (nomark _))
  (dss_cons (ds_set (i := 3) sc_read_names.nd rfl (by first | exact .inl rfl | exact .inr rfl) (de_meth0 T.c_Row T.m_Row_next_word T.ok_Row_next_word (hr.mono (by decide)) rfl T.b_Row_next_word (de_var 1) (pl := _) (ht := by rfl)))
  (dss_cons (ds_if (db_w (dw_or (db_not (db_val (de_call T.ok_is_name (hr.mono (by decide)) (by rfl) T.g_is_name T.F_is_name.kp T.b_is_name (da_cons (de_var 3) da_nil)))) (dw_or1 (db_cmp op_in_seq o_in (de_var 3) (de_var 2) (by rfl))))) (dss_one (ds_expr (de_meth0 T.c_Row T.m_Row_refuse T.ok_Row_refuse (hr.mono (by decide)) rfl T.b_Row_refuse (de_var 1) (pl := _) (ht := by rfl)))) dss_nil)
  (dss_one (ds_expr (de_bm PySem.F.plainAttrs_list PySem.F.slot_list_append PySem.F.type_list_append mt_append (fun _ _ _ h1 h2 h3 => tyV_list h1 h2 h3) o_append (de_var 2) (da_cons (de_var 3) da_nil)))))))
  (dss_one (ds_ret (de_var 2)))))))
theorem Tx.okR_read_offer (T : Tx K mg A) : FnOk P w K mg base (L2N.CX P w) 7 A.a_read_offer A.d_read_offer ["names", "text", "at"] (PromR K spR_read_offer) := by
  refine fnR_ok (k := 6) T.F_read_offer sc_read_offer lnR_read_offer (fun cdv A' outer s' H E hr po => ⟨BR_read_offer, ?_, hbR_read_offer⟩)
  exact (drs_skip (ds_set (i := 3) sc_read_offer.nd rfl (by first | exact .inl rfl | exact .inr rfl) (de_make T.c_Row T.k_Row T.ok_Row___init__ (hr.mono (by decide)) (by rfl) T.g_Row T.b_Row___init__ (da_cons (de_var 1) (da_cons (de_var 2) da_nil))))
  (drss_or (drs_here (drs_if (db_w (dw_or (db_cmp (op_neD hr.units) o_ne (de_meth0 T.c_Row T.m_Row_next_word T.ok_Row_next_word (hr.mono (by decide)) rfl T.b_Row_next_word (de_var 3) (pl := _) (ht := by rfl)) de_str (nomark _)) (dw_or1 (db_cmp op_gt o_gt (de_var 2) (de_gint (by rfl) T.g_MOST_OFFERS) (nomark _))))) (drs_here (drs_expr (dre_ofX (dre_meth0 T.c_Row T.m_Row_refuse T.okR_Row_refuse (hr.mono (by decide)) rfl T.b_Row_refuse (de_var 3) _ (by rfl))))) drss_never)) (drs_skip (ds_if (db_w (dw_or (db_cmp (op_neD hr.units) o_ne (de_meth0 T.c_Row T.m_Row_next_word T.ok_Row_next_word (hr.mono (by decide)) rfl T.b_Row_next_word (de_var 3) (pl := _) (ht := by rfl)) de_str (nomark _)) (dw_or1 (db_cmp op_gt o_gt (de_var 2) (de_gint (by rfl) T.g_MOST_OFFERS) (nomark _))))) (dss_one (ds_expr (de_meth0 T.c_Row T.m_Row_refuse T.ok_Row_refuse (hr.mono (by decide)) rfl T.b_Row_refuse (de_var 3) (pl := _) (ht := by rfl)))) dss_nil)
  (drss_or (drs_here (drs_set (i := 4) sc_read_offer.nd rfl (by first | exact .inl rfl | exact .inr rfl) (dre_tyA (T := "tuple") (by rfl) T.m_tuple (by decide +kernel) (dra_here (dre_lc (own := [("name", 7)]) rfl sc_read_offer.nd (di_seq (de_var 0)) (blkOk_by (N := ["names", "text", "at", "row", "worths", "ask", "bid", "name"]) (sc := defScope (topS 24)) (by decide +kernel)) (fun _ _ _ _ _ _ _ up3 => ⟨(dg_name (i := 7) sc_read_offer.nd rfl (by first | exact .inl rfl | exact .inr rfl)), (de_meth0 T.c_Row T.m_Row_next_ratio T.ok_Row_next_ratio ((up3 _ hr).mono (by decide)) rfl T.b_Row_next_ratio (de_var 3) (pl := _) (ht := by rfl)), (dre_meth0 T.c_Row T.m_Row_next_ratio T.okR_Row_next_ratio ((up3 _ hr).mono (by decide)) rfl T.b_Row_next_ratio (de_var 3) _ (by rfl))⟩)) da_nil)))) (drs_skip (ds_set (i := 4) sc_read_offer.nd rfl (by first | exact .inl rfl | exact .inr rfl) (de_callTy call_tuple_of o_tuple (by rfl) T.m_tuple (by decide +kernel) (da_cons (de_lc (own := [("name", 7)]) mk_F hr.rdy sc_read_offer.nd (di_seq (de_var 0)) (blkOk_by (N := ["names", "text", "at", "row", "worths", "ask", "bid", "name"]) (sc := defScope (topS 24)) (by decide +kernel)) (fun _ _ _ _ _ _ up4 => ⟨(dg_name (i := 7) sc_read_offer.nd rfl (by first | exact .inl rfl | exact .inr rfl)), dts_nil, (de_meth0 T.c_Row T.m_Row_next_ratio T.ok_Row_next_ratio ((up4 _ hr).mono (by decide)) rfl T.b_Row_next_ratio (de_var 3) (pl := _) (ht := by rfl))⟩)) da_nil)))
  (drss_or (drs_here (drs_set (i := 5) sc_read_offer.nd rfl (by first | exact .inl rfl | exact .inr rfl) (dre_meth T.c_Row T.m_Row_price_behind T.okR_Row_price_behind (hr.mono (by decide)) rfl T.b_Row_price_behind (de_var 3) (da_cons de_str da_nil) _ (by rfl)))) (drs_skip (ds_set (i := 5) sc_read_offer.nd rfl (by first | exact .inl rfl | exact .inr rfl) (de_meth T.c_Row T.m_Row_price_behind T.ok_Row_price_behind (hr.mono (by decide)) T.b_Row_price_behind (de_var 3) (da_cons de_str da_nil) (pl := _) (ht := by rfl)))
  (drss_or (drs_here (drs_set (i := 6) sc_read_offer.nd rfl (by first | exact .inl rfl | exact .inr rfl) (dre_meth T.c_Row T.m_Row_price_behind T.okR_Row_price_behind (hr.mono (by decide)) rfl T.b_Row_price_behind (de_var 3) (da_cons de_str da_nil) _ (by rfl)))) (drs_skip (ds_set (i := 6) sc_read_offer.nd rfl (by first | exact .inl rfl | exact .inr rfl) (de_meth T.c_Row T.m_Row_price_behind T.ok_Row_price_behind (hr.mono (by decide)) T.b_Row_price_behind (de_var 3) (da_cons de_str da_nil) (pl := _) (ht := by rfl)))
  (drs_here (drs_ret (dre_tup (dra_skip (de_var 4) (dra_skip (de_var 5) (dra_skip (de_var 6) (dra_here (dre_meth T.c_Row T.m_Row_event_behind T.okR_Row_event_behind (hr.mono (by decide)) rfl T.b_Row_event_behind (de_var 3) (da_cons (de_var 0) da_nil) _ (by rfl)) da_nil))))))))))))))))
theorem Tx.ok_read_offer (T : Tx K mg A) : FnB P w K mg base false 7 A.a_read_offer A.d_read_offer ["names", "text", "at"] (Prom K sp_read_offer) := by
  refine fn_ok (k := 6) T.F_read_offer sc_read_offer ln_read_offer (fun cdv A' outer s' H E c pn hc hr => ⟨B_read_offer, ?_, hb_read_offer⟩)
  obtain rfl := cold_of hc
  exact (dss_cons (ds_set (i := 3) sc_read_offer.nd rfl (by first | exact .inl rfl | exact .inr rfl) (de_make T.c_Row T.k_Row T.ok_Row___init__ (hr.mono (by decide)) (by rfl) T.g_Row T.b_Row___init__ (da_cons (de_var 1) (da_cons (de_var 2) da_nil))))
  (dss_cons (ds_if (db_w (dw_or (db_cmp (op_neD hr.units) o_ne (de_meth0 T.c_Row T.m_Row_next_word T.ok_Row_next_word (hr.mono (by decide)) rfl T.b_Row_next_word (de_var 3) (pl := _) (ht := by rfl)) de_str (nomark _)) (dw_or1 (db_cmp op_gt o_gt (de_var 2) (de_gint (by rfl) T.g_MOST_OFFERS) (nomark _))))) (dss_one (ds_expr (de_meth0 T.c_Row T.m_Row_refuse T.ok_Row_refuse (hr.mono (by decide)) rfl T.b_Row_refuse (de_var 3) (pl := _) (ht := by rfl)))) dss_nil)
  (dss_cons (ds_set (i := 4) sc_read_offer.nd rfl (by first | exact .inl rfl | exact .inr rfl) (de_callTy call_tuple_of o_tuple (by rfl) T.m_tuple (by decide +kernel) (da_cons (de_lc (own := [("name", 7)]) mk_F hr.rdy sc_read_offer.nd (di_seq (de_var 0)) (blkOk_by (N := ["names", "text", "at", "row", "worths", "ask", "bid", "name"]) (sc := defScope (topS 24)) (by decide +kernel)) (fun _ _ _ _ _ _ up2 => ⟨(dg_name (i := 7) sc_read_offer.nd rfl (by first | exact .inl rfl | exact .inr rfl)), dts_nil, (de_meth0 T.c_Row T.m_Row_next_ratio T.ok_Row_next_ratio ((up2 _ hr).mono (by decide)) rfl T.b_Row_next_ratio (de_var 3) (pl := _) (ht := by rfl))⟩)) da_nil)))
  (dss_cons (ds_set (i := 5) sc_read_offer.nd rfl (by first | exact .inl rfl | exact .inr rfl) (de_meth T.c_Row T.m_Row_price_behind T.ok_Row_price_behind (hr.mono (by decide)) T.b_Row_price_behind (de_var 3) (da_cons de_str da_nil) (pl := _) (ht := by rfl)))
  (dss_cons (ds_set (i := 6) sc_read_offer.nd rfl (by first | exact .inl rfl | exact .inr rfl) (de_meth T.c_Row T.m_Row_price_behind T.ok_Row_price_behind (hr.mono (by decide)) T.b_Row_price_behind (de_var 3) (da_cons de_str da_nil) (pl := _) (ht := by rfl)))
  (dss_one (ds_ret (de_tup (da_cons (de_var 4) (da_cons (de_var 5) (da_cons (de_var 6) (da_cons (de_meth T.c_Row T.m_Row_event_behind T.ok_Row_event_behind (hr.mono (by decide)) T.b_Row_event_behind (de_var 3) (da_cons (de_var 0) da_nil) (pl := _) (ht := by rfl)) da_nil))))))))))))
theorem Tx.okR_read (T : Tx K mg A) : FnOk P w K mg base (L2N.CX P w) 8 A.a_read A.d_read ["text"] (PromR K spR_read) := by
  refine fnR_ok (k := 7) T.F_read sc_read lnR_read (fun cdv A' outer s' H E hr po => ⟨BR_read, ?_, hbR_read⟩)
  exact (drs_skip (ds_set (i := 1) sc_read.nd rfl (by first | exact .inl rfl | exact .inr rfl) (de_bm PySem.F.plainAttrs_str PySem.F.slot_str_split PySem.F.type_str_split mt_split (fun _ _ _ h1 h2 h3 => tyV_str h1 h2 h3) (o_split mk_F) (de_var 0) (da_cons de_str da_nil)))
  (drss_or (drs_here (drs_set (i := 2) sc_read.nd rfl (by first | exact .inl rfl | exact .inr rfl) (dre_call T.okR_read_names (hr.mono (by decide)) rfl (by rfl) T.g_read_names T.F_read_names.kp T.b_read_names (da_cons (de_ix (de_var 1) de_int (fun _ _ => rfl)) da_nil)))) (drs_skip (ds_set (i := 2) sc_read.nd rfl (by first | exact .inl rfl | exact .inr rfl) (de_call T.ok_read_names (hr.mono (by decide)) (by rfl) T.g_read_names T.F_read_names.kp T.b_read_names (da_cons (de_ix (de_var 1) de_int (fun _ _ => rfl)) da_nil)))
  (drs_skip (ds_set (i := 3) sc_read.nd rfl (by first | exact .inl rfl | exact .inr rfl) (de_lst mk_O da_nil))
  (drs_here (drs_for [0, 4] po rfl (di_range2 (by rfl) T.m_range (da_cons de_int (da_cons (de_callB call_lenA o_len (by rfl) T.m_len (by decide +kernel) (da_cons (de_var 1) da_nil)) da_nil))) (dg_name (i := 4) sc_read.nd rfl (by first | exact .inl rfl | exact .inr rfl)) (dss_one (ds_expr (de_bm PySem.F.plainAttrs_list PySem.F.slot_list_append PySem.F.type_list_append mt_append (fun _ _ _ h1 h2 h3 => tyV_list h1 h2 h3) o_append (de_var 3) (da_cons (de_call T.ok_read_offer (hr.mono (by decide)) (by rfl) T.g_read_offer T.F_read_offer.kp T.b_read_offer (da_cons (de_var 2) (da_cons (de_ix (de_var 1) (de_var 4) (fun _ _ => rfl)) (da_cons (de_var 4) da_nil)))) da_nil)))) (drs_here (drs_expr (dre_bmA PySem.F.plainAttrs_list PySem.F.slot_list_append PySem.F.type_list_append mt_append (fun _ _ _ h1 h2 h3 => tyV_list h1 h2 h3) (de_var 3) (dra_here (dre_call T.okR_read_offer (hr.mono (by decide)) rfl (by rfl) T.g_read_offer T.F_read_offer.kp T.b_read_offer (da_cons (de_var 2) (da_cons (de_ix (de_var 1) (de_var 4) (fun _ _ => rfl)) (da_cons (de_var 4) da_nil)))) da_nil))))))))))
theorem Tx.ok_read (T : Tx K mg A) : FnB P w K mg base false 8 A.a_read A.d_read ["text"] (Prom K sp_read) := by
  refine fn_ok (k := 7) T.F_read sc_read ln_read (fun cdv A' outer s' H E c pn hc hr => ⟨B_read, ?_, hb_read⟩)
  obtain rfl := cold_of hc
  exact (dss_cons (ds_set (i := 1) sc_read.nd rfl (by first | exact .inl rfl | exact .inr rfl) (de_bm PySem.F.plainAttrs_str PySem.F.slot_str_split PySem.F.type_str_split mt_split (fun _ _ _ h1 h2 h3 => tyV_str h1 h2 h3) (o_split mk_F) (de_var 0) (da_cons de_str da_nil)))
  (dss_cons (ds_set (i := 2) sc_read.nd rfl (by first | exact .inl rfl | exact .inr rfl) (de_call T.ok_read_names (hr.mono (by decide)) (by rfl) T.g_read_names T.F_read_names.kp T.b_read_names (da_cons (de_ix (de_var 1) de_int (fun _ _ => rfl)) da_nil)))
  (dss_cons (ds_set (i := 3) sc_read.nd rfl (by first | exact .inl rfl | exact .inr rfl) (de_lst mk_O da_nil))
  (dss_cons (ds_for [0, 4] PassesOwn.never hr.rdy (di_range2 (by rfl) T.m_range (da_cons de_int (da_cons (de_callB call_lenA o_len (by rfl) T.m_len (by decide +kernel) (da_cons (de_var 1) da_nil)) da_nil))) (dg_name (i := 4) sc_read.nd rfl (by first | exact .inl rfl | exact .inr rfl))
  (dss_one (ds_expr (de_bm PySem.F.plainAttrs_list PySem.F.slot_list_append PySem.F.type_list_append mt_append (fun _ _ _ h1 h2 h3 => tyV_list h1 h2 h3) o_append (de_var 3) (da_cons (de_call T.ok_read_offer (hr.mono (by decide)) (by rfl) T.g_read_offer T.F_read_offer.kp T.b_read_offer (da_cons (de_var 2) (da_cons (de_ix (de_var 1) (de_var 4) (fun _ _ => rfl)) (da_cons (de_var 4) da_nil)))) da_nil)))))
  (dss_freeze 3 (dss_freeze 2 (dss_one (ds_ret (de_tup (da_cons (de_var 2) (da_cons (de_var 3) da_nil)))))))))))
theorem Tx.ok_l_cell (T : Tx K mg A) : FnB P w K mg base true 1 A.a_l_cell A.d_l_cell ["_law_script", "_law_k"] (Prom K sp_l_cell) := by
  refine fn_ok (k := 0) T.F_l_cell sc_l_cell ln_l_cell (fun cdv A' outer s' H E c pn hc hr => ⟨B_l_cell, ?_, hb_l_cell⟩)
  exact (dss_cons (ds_if (db_cmp op_lt o_lt (de_var 1) (de_callB call_lenA o_len (by rfl) T.m_len (by decide +kernel) (da_cons (de_var 0) da_nil)) (nomark _)) (dss_one (ds_ret (de_ix (de_var 0) (de_var 1) (fun _ _ => rfl)))) dss_nil)
  (dss_cons (ds_set (i := 2) sc_l_cell.nd rfl (by first | exact .inl rfl | exact .inr rfl) (de_op op_mulX o_mul (de_var 1) de_int))
  (dss_cons (ds_if (db_cmp op_gt o_gt (de_callB call_lenA o_len (by rfl) T.m_len (by decide +kernel) (da_cons (de_var 0) da_nil)) de_int (nomark _)) (dss_one (ds_set (i := 2) sc_l_cell.nd rfl (by first | exact .inl rfl | exact .inr rfl) (de_op op_addA (o_add mk_F) (de_var 2) (de_op op_modN o_mod (de_ix (de_var 0) (de_op op_modN o_mod (de_var 1) (de_callB call_lenA o_len (by rfl) T.m_len (by decide +kernel) (da_cons (de_var 0) da_nil))) (fun _ _ => rfl)) de_int)))) dss_nil)
  (dss_cons (ds_set (i := 3) sc_l_cell.nd rfl (by first | exact .inl rfl | exact .inr rfl) (de_op op_modN o_mod (de_op op_mulX o_mul (de_var 2) de_int) de_int))
  (dss_one (ds_ret (de_op op_modN o_mod (de_op op_fdivX o_fdiv (de_op op_mulX o_mul (de_var 3) (de_op op_addA (o_add mk_F) (de_op op_addA (o_add mk_F) (de_var 3) (de_op op_mulX o_mul de_int (de_var 1))) de_int)) de_int) de_int)))))))
theorem Tx.ok_l_whole (T : Tx K mg A) : FnB P w K mg base true 1 A.a_l_whole A.d_l_whole ["_law_found"] (Prom K sp_l_whole) := by
  refine fn_ok (k := 0) T.F_l_whole sc_l_whole ln_l_whole (fun cdv A' outer s' H E c pn hc hr => ⟨B_l_whole, ?_, hb_l_whole⟩)
  exact (dss_one (ds_ret (de_and (de_callB call_isi o_isi (by rfl) T.m_isinstance (by decide +kernel) (da_cons (de_var 0) (da_cons (de_bty (by rfl) T.m_int (by decide +kernel)) da_nil))) (de_one (de_not (de_callB call_isi o_isi (by rfl) T.m_isinstance (by decide +kernel) (da_cons (de_var 0) (da_cons (de_bty (by rfl) T.m_bool (by decide +kernel)) da_nil))))))))
theorem Tx.ok_l_ratio (T : Tx K mg A) : FnB P w K mg base true 1 A.a_l_ratio A.d_l_ratio ["_law_top", "_law_bottom"] (Prom K sp_l_ratio_ee4f) := by
  refine fn_ok (k := 0) T.F_l_ratio sc_l_ratio ln_l_ratio_ee4f (fun cdv A' outer s' H E c pn hc hr => ⟨B_l_ratio_ee4f, ?_, hb_l_ratio_ee4f⟩)
  exact (dss_cons (ds_set (i := 2) sc_l_ratio.nd rfl (by first | exact .inl rfl | exact .inr rfl) (de_callB call_abs o_abs (by rfl) T.m_abs (by decide +kernel) (da_cons (de_var 0) da_nil)))
  (dss_cons (ds_set (i := 3) sc_l_ratio.nd rfl (by first | exact .inl rfl | exact .inr rfl) (de_callB call_abs o_abs (by rfl) T.m_abs (by decide +kernel) (da_cons (de_var 1) da_nil)))
  (dss_cons (ds_while [4] PassesOwn.never (db_cmp op_gt o_gt (de_var 2) de_int (nomark _))
  (dss_cons (ds_set (i := 4) sc_l_ratio.nd rfl (by first | exact .inl rfl | exact .inr rfl) (de_op op_modN o_mod (de_var 3) (de_var 2)))
  (dss_cons (ds_set (i := 3) sc_l_ratio.nd rfl (by first | exact .inl rfl | exact .inr rfl) (de_var 2))
  (dss_one (ds_set (i := 2) sc_l_ratio.nd rfl (by first | exact .inl rfl | exact .inr rfl) (de_var 4))))))
  (dss_cons (ds_if (db_cmp op_lt o_lt (de_var 1) de_int (nomark _)) (dss_one (ds_set (i := 3) sc_l_ratio.nd rfl (by first | exact .inl rfl | exact .inr rfl) (de_un un_neg o_neg (de_var 3)))) dss_nil)
  (dss_one (ds_ret (de_tup (da_cons (de_op op_fdivX o_fdiv (de_var 0) (de_var 3)) (da_cons (de_op op_fdivX o_fdiv (de_var 1) (de_var 3)) da_nil)))))))))
theorem Tx.ok_l_bag (T : Tx K mg A) : FnB P w K mg base true 1 A.a_l_bag A.d_l_bag ["_law_cell_here"] (Prom K sp_l_bag_db21) := by
  refine fn_ok (k := 0) T.F_l_bag sc_l_bag ln_l_bag_db21 (fun cdv A' outer s' H E c pn hc hr => ⟨B_l_bag_db21, ?_, hb_l_bag_db21⟩)
  exact (dss_cons (ds_if (db_cmp op_lt o_lt (de_var 0) (de_op op_pow o_pow de_int de_int) (nomark _)) (dss_one (ds_ret (de_lst mk_O (da_cons (de_var 0) (da_cons de_int da_nil))))) dss_nil)
  (dss_one (ds_ret (de_lst mk_O (da_cons (de_var 0) (da_cons de_int da_nil))))))
theorem Tx.ok_l_take (T : Tx K mg A) : FnB P w K mg base true 1 A.a_l_take A.d_l_take ["_law_bag_here", "_law_many"] (Prom K sp_l_take) := by
  refine fn_ok (k := 0) T.F_l_take sc_l_take ln_l_take (fun cdv A' outer s' H E c pn hc hr => ⟨B_l_take, ?_, hb_l_take⟩)
  exact (dss_cons (ds_if (db_cmp (op_eqD hr.units) o_eq (de_ix (de_var 0) de_int (fun _ _ => rfl)) de_int (nomark _)) (dss_cons (ds_set (i := 2) sc_l_take.nd rfl (by first | exact .inl rfl | exact .inr rfl) (de_op op_modN o_mod (de_ix (de_var 0) de_int (fun _ _ => rfl)) (de_var 1)))
  (dss_cons (ds_setI (de_op op_fdivX o_fdiv (de_ix (de_var 0) de_int (fun _ _ => rfl)) (de_var 1)) (de_var 0) de_int)
  (dss_one (ds_ret (de_var 2))))) dss_nil)
  (dss_cons (ds_setI (de_op op_modN o_mod (de_op op_addA (o_add mk_F) (de_op op_addA (o_add mk_F) (de_op op_mulX o_mul (de_ix (de_var 0) de_int (fun _ _ => rfl)) de_int) (de_op op_mulX o_mul (de_op op_mulX o_mul de_int (de_ix (de_var 0) de_int (fun _ _ => rfl))) (de_ix (de_var 0) de_int (fun _ _ => rfl)))) de_int) de_int) (de_var 0) de_int)
  (dss_cons (ds_setI (de_op op_addA (o_add mk_F) (de_ix (de_var 0) de_int (fun _ _ => rfl)) de_int) (de_var 0) de_int)
  (dss_one (ds_ret (de_op op_modN o_mod (de_op op_modN o_mod (de_op op_mulX o_mul (de_ix (de_var 0) de_int (fun _ _ => rfl)) de_int) de_int) (de_var 1)))))))
theorem Tx.ok_l_letters (T : Tx K mg A) : FnB P w K mg base false 2 A.a_l_letters A.d_l_letters ["_law_bag_here", "_law_most"] (Prom K sp_l_letters) := by
  refine fn_ok (k := 1) T.F_l_letters sc_l_letters ln_l_letters (fun cdv A' outer s' H E c pn hc hr => ⟨B_l_letters, ?_, hb_l_letters⟩)
  obtain rfl := cold_of hc
  exact (dss_cons (ds_set (i := 2) sc_l_letters.nd rfl (by first | exact .inl rfl | exact .inr rfl) de_str)
  (dss_one (ds_ret (de_bm PySem.F.plainAttrs_str PySem.F.slot_str_join PySem.F.type_str_join mt_join (fun _ _ _ h1 h2 h3 => tyV_str h1 h2 h3) o_join de_str (da_cons (de_lc (own := [("_law_k", 3)]) mk_F hr.rdy sc_l_letters.nd (di_range1 (by rfl) T.m_range (da_cons (de_call T.ok_l_take (hr.mono (by decide)) (by rfl) T.g_l_take T.F_l_take.kp T.b_l_take (da_cons (de_var 0) (da_cons (de_var 1) da_nil))) da_nil)) (blkOk_by (N := ["_law_bag_here", "_law_most", "_law_letters_here", "_law_k"]) (sc := defScope (topS 33)) (by decide +kernel)) (fun _ _ _ _ _ _ up2 => ⟨(dg_name (i := 3) sc_l_letters.nd rfl (by first | exact .inl rfl | exact .inr rfl)), dts_nil, (de_ix (de_var 2) (de_call T.ok_l_take ((up2 _ hr).mono (by decide)) (by rfl) T.g_l_take T.F_l_take.kp T.b_l_take (da_cons (de_var 0) (da_cons de_int da_nil))) (fun _ _ => rfl))⟩)) da_nil)))))
theorem Tx.ok_l_names (T : Tx K mg A) : FnB P w K mg base false 3 A.a_l_names A.d_l_names ["_law_bag_here", "_law_count"] (Prom K sp_l_names) := by
  refine fn_ok (k := 2) T.F_l_names sc_l_names ln_l_names (fun cdv A' outer s' H E c pn hc hr => ⟨B_l_names, ?_, hb_l_names⟩)
  obtain rfl := cold_of hc
  exact (dss_cons (ds_set (i := 2) sc_l_names.nd rfl (by first | exact .inl rfl | exact .inr rfl) (de_lst mk_F (da_cons de_str (da_cons de_str (da_cons de_str (da_cons de_str (da_cons de_str (da_cons de_str (da_cons de_str (da_cons de_str (da_cons de_str (da_cons de_str (da_cons de_str (da_cons de_str da_nil))))))))))))))
  (dss_cons (ds_set (i := 3) sc_l_names.nd rfl (by first | exact .inl rfl | exact .inr rfl) (de_call T.ok_l_take (hr.mono (by decide)) (by rfl) T.g_l_take T.F_l_take.kp T.b_l_take (da_cons (de_var 0) (da_cons de_int da_nil))))
  (dss_cons (ds_set (i := 4) sc_l_names.nd rfl (by first | exact .inl rfl | exact .inr rfl) (de_call T.ok_l_letters (hr.mono (by decide)) (by rfl) T.g_l_letters T.F_l_letters.kp T.b_l_letters (da_cons (de_var 0) (da_cons de_int da_nil))))
  (dss_cons (ds_set (i := 5) sc_l_names.nd rfl (by first | exact .inl rfl | exact .inr rfl) (de_call T.ok_l_take (hr.mono (by decide)) (by rfl) T.g_l_take T.F_l_take.kp T.b_l_take (da_cons (de_var 0) (da_cons de_int da_nil))))
  (dss_cons (ds_set (i := 6) sc_l_names.nd rfl (by first | exact .inl rfl | exact .inr rfl) (de_call T.ok_l_take (hr.mono (by decide)) (by rfl) T.g_l_take T.F_l_take.kp T.b_l_take (da_cons (de_var 0) (da_cons de_int da_nil))))
  (dss_cons (ds_set (i := 7) sc_l_names.nd rfl (by first | exact .inl rfl | exact .inr rfl) (de_lst mk_O da_nil))
  (dss_cons (ds_for [0, 1, 8, 9] PassesOwn.never hr.rdy (di_range1 (by rfl) T.m_range (da_cons (de_var 1) da_nil)) (dg_name (i := 8) sc_l_names.nd rfl (by first | exact .inl rfl | exact .inr rfl))
  (dss_one (ds_if (db_cmp (op_eqD hr.units) o_eq (de_var 3) de_int (nomark _)) (dss_one (ds_expr (de_bm PySem.F.plainAttrs_list PySem.F.slot_list_append PySem.F.type_list_append mt_append (fun _ _ _ h1 h2 h3 => tyV_list h1 h2 h3) o_append (de_var 7) (da_cons (de_ix (de_var 2) (de_op op_modN o_mod (de_op op_addA (o_add mk_F) (de_var 6) (de_op op_mulX o_mul de_int (de_var 8))) de_int) (fun _ _ => rfl)) da_nil)))) (dss_cons (ds_set (i := 9) sc_l_names.nd rfl (by first | exact .inl rfl | exact .inr rfl) (de_ix de_str (de_op op_modN o_mod (de_op op_addA (o_add mk_F) (de_var 6) (de_var 8)) de_int) (fun _ _ => rfl)))
  (dss_one (ds_expr (de_bm PySem.F.plainAttrs_list PySem.F.slot_list_append PySem.F.type_list_append mt_append (fun _ _ _ h1 h2 h3 => tyV_list h1 h2 h3) o_append (de_var 7) (da_cons (de_op op_addA (o_add mk_F) (de_op op_addA (o_add mk_F) (de_sliceS (de_var 4) dpo_none (dpo_some (de_var 5))) (de_var 9)) (de_sliceS (de_var 4) (dpo_some (de_var 5)) dpo_none)) da_nil))))))))
  (dss_one (ds_ret (de_var 7))))))))))
theorem Tx.ok_l_part (T : Tx K mg A) : FnB P w K mg base true 2 A.a_l_part A.d_l_part ["_law_bag_here"] (Prom K sp_l_part) := by
  refine fn_ok (k := 1) T.F_l_part sc_l_part ln_l_part (fun cdv A' outer s' H E c pn hc hr => ⟨B_l_part, ?_, hb_l_part⟩)
  exact (dss_cons (ds_set (i := 1) sc_l_part.nd rfl (by first | exact .inl rfl | exact .inr rfl) (de_call T.ok_l_take (hr.mono (by decide)) (by rfl) T.g_l_take T.F_l_take.kp T.b_l_take (da_cons (de_var 0) (da_cons de_int da_nil))))
  (dss_cons (ds_if (db_cmp (op_eqD hr.units) o_eq (de_var 1) de_int (nomark _)) (dss_cons (ds_set (i := 2) sc_l_part.nd rfl (by first | exact .inl rfl | exact .inr rfl) (de_op op_sub o_sub (de_call T.ok_l_take (hr.mono (by decide)) (by rfl) T.g_l_take T.F_l_take.kp T.b_l_take (da_cons (de_var 0) (da_cons (de_op op_sub o_sub (de_op op_mulX o_mul de_int (de_op op_pow o_pow de_int de_int)) de_int) da_nil))) (de_op op_sub o_sub (de_op op_pow o_pow de_int de_int) de_int)))
  (dss_one (ds_ret (de_call T.ok_l_ratio (hr.mono (by decide)) (by rfl) T.g_l_ratio T.F_l_ratio.kp T.b_l_ratio (da_cons (de_var 2) (da_cons (de_op op_addA (o_add mk_F) de_int (de_call T.ok_l_take (hr.mono (by decide)) (by rfl) T.g_l_take T.F_l_take.kp T.b_l_take (da_cons (de_var 0) (da_cons (de_op op_sub o_sub (de_op op_pow o_pow de_int de_int) de_int) da_nil)))) da_nil)))))) dss_nil)
  (dss_one (ds_ret (de_call T.ok_l_ratio (hr.mono (by decide)) (by rfl) T.g_l_ratio T.F_l_ratio.kp T.b_l_ratio (da_cons (de_op op_sub o_sub (de_call T.ok_l_take (hr.mono (by decide)) (by rfl) T.g_l_take T.F_l_take.kp T.b_l_take (da_cons (de_var 0) (da_cons de_int da_nil))) de_int) (da_cons (de_op op_addA (o_add mk_F) de_int (de_call T.ok_l_take (hr.mono (by decide)) (by rfl) T.g_l_take T.F_l_take.kp T.b_l_take (da_cons (de_var 0) (da_cons de_int da_nil)))) da_nil)))))))
theorem Tx.ok_l_any_offer (T : Tx K mg A) : FnB P w K mg base true 3 A.a_l_any_offer A.d_l_any_offer ["_law_bag_here", "_law_count"] (Prom K sp_l_any_offer) := by
  refine fn_ok (k := 2) T.F_l_any_offer sc_l_any_offer ln_l_any_offer (fun cdv A' outer s' H E c pn hc hr => ⟨B_l_any_offer, ?_, hb_l_any_offer⟩)
  exact (dss_cons (ds_set (i := 2) sc_l_any_offer.nd rfl (by first | exact .inl rfl | exact .inr rfl) (de_callTy call_tuple_of o_tuple (by rfl) T.m_tuple (by decide +kernel) (da_cons (de_lc (own := [("_law_world", 7)]) mk_F hr.rdy sc_l_any_offer.nd (di_range1 (by rfl) T.m_range (da_cons (de_var 1) da_nil)) (blkOk_by (N := ["_law_bag_here", "_law_count", "_law_row", "_law_ask", "_law_bid", "_law_event", "_law_bits", "_law_world"]) (sc := defScope (topS 36)) (by decide +kernel)) (fun _ _ _ _ _ _ up4 => ⟨(dg_name (i := 7) sc_l_any_offer.nd rfl (by first | exact .inl rfl | exact .inr rfl)), dts_nil, (de_call T.ok_l_part ((up4 _ hr).mono (by decide)) (by rfl) T.g_l_part T.F_l_part.kp T.b_l_part (da_cons (de_var 0) da_nil))⟩)) da_nil)))
  (dss_cons (ds_set (i := 3) sc_l_any_offer.nd rfl (by first | exact .inl rfl | exact .inr rfl) (de_ix (de_lst mk_F (da_cons de_non (da_cons (de_call T.ok_l_part (hr.mono (by decide)) (by rfl) T.g_l_part T.F_l_part.kp T.b_l_part (da_cons (de_var 0) da_nil)) da_nil))) (de_call T.ok_l_take (hr.mono (by decide)) (by rfl) T.g_l_take T.F_l_take.kp T.b_l_take (da_cons (de_var 0) (da_cons de_int da_nil))) (fun _ _ => rfl)))
  (dss_cons (ds_set (i := 4) sc_l_any_offer.nd rfl (by first | exact .inl rfl | exact .inr rfl) (de_ix (de_lst mk_F (da_cons de_non (da_cons (de_call T.ok_l_part (hr.mono (by decide)) (by rfl) T.g_l_part T.F_l_part.kp T.b_l_part (da_cons (de_var 0) da_nil)) da_nil))) (de_call T.ok_l_take (hr.mono (by decide)) (by rfl) T.g_l_take T.F_l_take.kp T.b_l_take (da_cons (de_var 0) (da_cons de_int da_nil))) (fun _ _ => rfl)))
  (dss_cons (ds_set (i := 5) sc_l_any_offer.nd rfl (by first | exact .inl rfl | exact .inr rfl) de_non)
  (dss_cons (ds_if (db_cmp (op_eqD hr.units) o_eq (de_call T.ok_l_take (hr.mono (by decide)) (by rfl) T.g_l_take T.F_l_take.kp T.b_l_take (da_cons (de_var 0) (da_cons de_int da_nil))) de_int (nomark _)) (dss_cons (by first | exact ds_setLc (i := 6) (own := [("_law_world", 7)]) mk_O hr.rdy sc_l_any_offer.nd rfl rfl (sw_true rfl rfl rfl (by decide +kernel)) (di_range1 (by rfl) T.m_range (da_cons (de_var 1) da_nil)) (blkOk_by (N := ["_law_bag_here", "_law_count", "_law_row", "_law_ask", "_law_bid", "_law_event", "_law_bits", "_law_world"]) (sc := defScope (topS 36)) (by decide +kernel)) (fun _ _ _ _ _ _ up5 => ⟨(dg_name (i := 7) sc_l_any_offer.nd rfl (by first | exact .inl rfl | exact .inr rfl)), dts_nil, (de_call T.ok_l_take ((up5 _ hr).mono (by decide)) (by rfl) T.g_l_take T.F_l_take.kp T.b_l_take (da_cons (de_var 0) (da_cons de_int da_nil)))⟩) | exact ds_set (i := 6) sc_l_any_offer.nd rfl (by first | exact .inl rfl | exact .inr rfl) (de_lc (own := [("_law_world", 7)]) mk_O hr.rdy sc_l_any_offer.nd (di_range1 (by rfl) T.m_range (da_cons (de_var 1) da_nil)) (blkOk_by (N := ["_law_bag_here", "_law_count", "_law_row", "_law_ask", "_law_bid", "_law_event", "_law_bits", "_law_world"]) (sc := defScope (topS 36)) (by decide +kernel)) (fun _ _ _ _ _ _ up5 => ⟨(dg_name (i := 7) sc_l_any_offer.nd rfl (by first | exact .inl rfl | exact .inr rfl)), dts_nil, (de_call T.ok_l_take ((up5 _ hr).mono (by decide)) (by rfl) T.g_l_take T.F_l_take.kp T.b_l_take (da_cons (de_var 0) (da_cons de_int da_nil)))⟩)))
  (dss_cons (ds_setI de_int (de_var 6) (de_call T.ok_l_take (hr.mono (by decide)) (by rfl) T.g_l_take T.F_l_take.kp T.b_l_take (da_cons (de_var 0) (da_cons (de_var 1) da_nil))))
  (dss_one (ds_set (i := 5) sc_l_any_offer.nd rfl (by first | exact .inl rfl | exact .inr rfl) (de_callTy call_tuple_of o_tuple (by rfl) T.m_tuple (by decide +kernel) (da_cons (de_lc (own := [("_law_world", 7)]) mk_F hr.rdy sc_l_any_offer.nd (di_range1 (by rfl) T.m_range (da_cons (de_var 1) da_nil)) (blkOk_by (N := ["_law_bag_here", "_law_count", "_law_row", "_law_ask", "_law_bid", "_law_event", "_law_bits", "_law_world"]) (sc := defScope (topS 36)) (by decide +kernel)) (fun _ _ _ _ _ _ up6 => ⟨(dg_name (i := 7) sc_l_any_offer.nd rfl (by first | exact .inl rfl | exact .inr rfl)), (dts_one (db_cmp (op_eqD (up6 _ hr).units) o_eq (de_ix (de_var 6) (de_var 7) (fun _ _ => rfl)) de_int (nomark _))), (de_var 7)⟩)) da_nil)))))) dss_nil)
  (dss_one (ds_ret (de_tup (da_cons (de_var 2) (da_cons (de_var 3) (da_cons (de_var 4) (da_cons (de_var 5) da_nil))))))))))))
theorem Tx.ok_l_show (T : Tx K mg A) : FnB P w K mg base true 1 A.a_l_show A.d_l_show ["_law_one"] (Prom K sp_l_show) := by
  refine fn_ok (k := 0) T.F_l_show sc_l_show ln_l_show (fun cdv A' outer s' H E c pn hc hr => ⟨B_l_show, ?_, hb_l_show⟩)
  exact (dss_cons (ds_if (db_cmp (op_eqD hr.units) o_eq (de_ix (de_var 0) de_int (fun _ _ => rfl)) de_int (nomark _)) (dss_one (ds_ret (de_callTy call_str_int o_str1 (by rfl) T.m_str (by decide +kernel) (da_cons (de_ix (de_var 0) de_int (fun _ _ => rfl)) da_nil)))) dss_nil)
  (dss_one (ds_ret (de_op op_addA (o_add mk_F) (de_op op_addA (o_add mk_F) (de_callTy call_str_int o_str1 (by rfl) T.m_str (by decide +kernel) (da_cons (de_ix (de_var 0) de_int (fun _ _ => rfl)) da_nil)) de_str) (de_callTy call_str_int o_str1 (by rfl) T.m_str (by decide +kernel) (da_cons (de_ix (de_var 0) de_int (fun _ _ => rfl)) da_nil))))))
theorem Tx.ok_l_line (T : Tx K mg A) : FnB P w K mg base true 2 A.a_l_line A.d_l_line ["_law_names_here", "_law_offer"] (Prom K sp_l_line) := by
  refine fn_ok (k := 1) T.F_l_line sc_l_line ln_l_line (fun cdv A' outer s' H E c pn hc hr => ⟨B_l_line, ?_, hb_l_line⟩)
  exact (dss_cons (ds_set (i := 2) sc_l_line.nd rfl (by first | exact .inl rfl | exact .inr rfl) de_str)
  (dss_cons (ds_for [3] PassesOwn.never hr.rdy (di_seq (de_ix (de_var 1) de_int (fun _ _ => rfl))) (dg_name (i := 3) sc_l_line.nd rfl (by first | exact .inl rfl | exact .inr rfl))
  (dss_one (ds_set (i := 2) sc_l_line.nd rfl (by first | exact .inl rfl | exact .inr rfl) (de_op op_addA (o_add mk_F) (de_op op_addA (o_add mk_F) (de_var 2) de_str) (de_call T.ok_l_show (hr.mono (by decide)) (by rfl) T.g_l_show T.F_l_show.kp T.b_l_show (da_cons (de_var 3) da_nil))))))
  (dss_cons (ds_if (db_cmp op_notN o_notN (de_ix (de_var 1) de_int (fun _ _ => rfl)) de_non (nomark _)) (dss_one (ds_set (i := 2) sc_l_line.nd rfl (by first | exact .inl rfl | exact .inr rfl) (de_op op_addA (o_add mk_F) (de_op op_addA (o_add mk_F) (de_var 2) de_str) (de_call T.ok_l_show (hr.mono (by decide)) (by rfl) T.g_l_show T.F_l_show.kp T.b_l_show (da_cons (de_ix (de_var 1) de_int (fun _ _ => rfl)) da_nil))))) dss_nil)
  (dss_cons (ds_if (db_cmp op_notN o_notN (de_ix (de_var 1) de_int (fun _ _ => rfl)) de_non (nomark _)) (dss_one (ds_set (i := 2) sc_l_line.nd rfl (by first | exact .inl rfl | exact .inr rfl) (de_op op_addA (o_add mk_F) (de_op op_addA (o_add mk_F) (de_var 2) de_str) (de_call T.ok_l_show (hr.mono (by decide)) (by rfl) T.g_l_show T.F_l_show.kp T.b_l_show (da_cons (de_ix (de_var 1) de_int (fun _ _ => rfl)) da_nil))))) dss_nil)
  (dss_cons (ds_if (db_cmp op_notN o_notN (de_ix (de_var 1) de_int (fun _ _ => rfl)) de_non (nomark _)) (dss_cons (ds_set (i := 2) sc_l_line.nd rfl (by first | exact .inl rfl | exact .inr rfl) (de_op op_addA (o_add mk_F) (de_var 2) de_str))
  (dss_one (ds_for [1, 3, 4] PassesOwn.never hr.rdy (di_seq (de_ix (de_var 1) de_int (fun _ _ => rfl))) (dg_name (i := 4) sc_l_line.nd rfl (by first | exact .inl rfl | exact .inr rfl))
  (dss_one (ds_set (i := 2) sc_l_line.nd rfl (by first | exact .inl rfl | exact .inr rfl) (de_op op_addA (o_add mk_F) (de_op op_addA (o_add mk_F) (de_var 2) de_str) (de_ix (de_var 0) (de_var 4) (fun _ _ => rfl)))))))) dss_nil)
  (dss_one (ds_ret (de_var 2))))))))
theorem Tx.ok_l_lines (T : Tx K mg A) : FnB P w K mg base true 3 A.a_l_lines A.d_l_lines ["_law_names_here", "_law_offers"] (Prom K sp_l_lines) := by
  refine fn_ok (k := 2) T.F_l_lines sc_l_lines ln_l_lines (fun cdv A' outer s' H E c pn hc hr => ⟨B_l_lines, ?_, hb_l_lines⟩)
  exact (dss_cons (ds_set (i := 2) sc_l_lines.nd rfl (by first | exact .inl rfl | exact .inr rfl) de_str)
  (dss_cons (ds_for [3] PassesOwn.never hr.rdy (di_seq (de_var 0)) (dg_name (i := 3) sc_l_lines.nd rfl (by first | exact .inl rfl | exact .inr rfl))
  (dss_one (ds_set (i := 2) sc_l_lines.nd rfl (by first | exact .inl rfl | exact .inr rfl) (de_op op_addA (o_add mk_F) (de_op op_addA (o_add mk_F) (de_var 2) de_str) (de_var 3)))))
  (dss_one (ds_ret (de_op op_addA (o_add mk_A) (de_lst mk_F (da_cons (de_var 2) da_nil)) (de_lc (own := [("_law_offer", 4)]) mk_F hr.rdy sc_l_lines.nd (di_seq (de_var 1)) (blkOk_by (N := ["_law_names_here", "_law_offers", "_law_line_here", "_law_name", "_law_offer"]) (sc := defScope (topS 39)) (by decide +kernel)) (fun _ _ _ _ _ _ up2 => ⟨(dg_name (i := 4) sc_l_lines.nd rfl (by first | exact .inl rfl | exact .inr rfl)), dts_nil, (de_call T.ok_l_line ((up2 _ hr).mono (by decide)) (by rfl) T.g_l_line T.F_l_line.kp T.b_l_line (da_cons (de_var 0) (da_cons (de_var 4) da_nil)))⟩)))))))
theorem Tx.ok_l_bad_words (T : Tx K mg A) : FnB P w K mg base false 1 A.a_l_bad_words A.d_l_bad_words ["_law_big"] (Prom K sp_l_bad_words) := by
  refine fn_ok (k := 0) T.F_l_bad_words sc_l_bad_words ln_l_bad_words (fun cdv A' outer s' H E c pn hc hr => ⟨B_l_bad_words, ?_, hb_l_bad_words⟩)
  obtain rfl := cold_of hc
  exact (dss_cons (ds_set (i := 1) sc_l_bad_words.nd rfl (by first | exact .inl rfl | exact .inr rfl) (de_lst mk_F (da_cons de_str (da_cons de_str (da_cons de_str (da_cons de_str (da_cons de_str (da_cons de_str (da_cons de_str (da_cons de_str (da_cons de_str (da_cons de_str (da_cons de_str (da_cons de_str (da_cons de_str (da_cons de_str (da_cons de_str (da_cons de_str da_nil))))))))))))))))))
  (dss_cons (ds_set (i := 1) sc_l_bad_words.nd rfl (by first | exact .inl rfl | exact .inr rfl) (de_op op_addA (o_add mk_F) (de_var 1) (de_lst mk_F (da_cons de_str (da_cons de_str (da_cons de_str (da_cons (de_op op_addA (o_add mk_F) de_str (de_bm PySem.F.plainAttrs_str PySem.F.slot_str_zfill PySem.F.type_str_zfill mt_zfill (fun _ _ _ h1 h2 h3 => tyV_str h1 h2 h3) o_zfill (de_var 0) (da_cons de_int da_nil))) (da_cons (de_op op_addA (o_add mk_F) de_str (de_bm PySem.F.plainAttrs_str PySem.F.slot_str_zfill PySem.F.type_str_zfill mt_zfill (fun _ _ _ h1 h2 h3 => tyV_str h1 h2 h3) o_zfill (de_var 0) (da_cons de_int da_nil))) (da_cons (de_op op_addA (o_add mk_F) de_str (de_bm PySem.F.plainAttrs_str PySem.F.slot_str_zfill PySem.F.type_str_zfill mt_zfill (fun _ _ _ h1 h2 h3 => tyV_str h1 h2 h3) o_zfill (de_var 0) (da_cons de_int da_nil))) da_nil)))))))))
  (dss_one (ds_ret (de_op op_addA (o_add mk_F) (de_var 1) (de_lst mk_F (da_cons (de_op op_addA (o_add mk_F) (de_var 0) de_str) (da_cons (de_op op_addA (o_add mk_F) de_str (de_var 0)) (da_cons de_str (da_cons de_str (da_cons de_str (da_cons de_str (da_cons de_str (da_cons de_str (da_cons de_str (da_cons de_str da_nil))))))))))))))))
theorem Tx.ok_l_bad_line (T : Tx K mg A) : FnB P w K mg base false 2 A.a_l_bad_line A.d_l_bad_line ["_law_bag_here", "_law_names_here", "_law_big"] (Prom K sp_l_bad_line) := by
  refine fn_ok (k := 1) T.F_l_bad_line sc_l_bad_line ln_l_bad_line (fun cdv A' outer s' H E c pn hc hr => ⟨B_l_bad_line, ?_, hb_l_bad_line⟩)
  obtain rfl := cold_of hc
  exact (dss_cons (ds_set (i := 3) sc_l_bad_line.nd rfl (by first | exact .inl rfl | exact .inr rfl) (de_op op_mul_str o_mulS de_str (de_callB call_lenA o_len (by rfl) T.m_len (by decide +kernel) (da_cons (de_var 1) da_nil))))
  (dss_cons (ds_set (i := 4) sc_l_bad_line.nd rfl (by first | exact .inl rfl | exact .inr rfl) (de_op op_addA (o_add mk_F) de_str (de_var 3)))
  (dss_cons (ds_set (i := 5) sc_l_bad_line.nd rfl (by first | exact .inl rfl | exact .inr rfl) (de_ix (de_var 1) de_int (fun _ _ => rfl)))
  (dss_cons (ds_set (i := 6) sc_l_bad_line.nd rfl (by first | exact .inl rfl | exact .inr rfl) (de_ix (de_var 1) (de_un un_neg o_neg de_int) (fun _ _ => rfl)))
  (dss_cons (ds_set (i := 7) sc_l_bad_line.nd rfl (by first | exact .inl rfl | exact .inr rfl) (de_lst mk_F (da_cons de_str (da_cons de_str (da_cons (de_op op_addA (o_add mk_F) de_str (de_var 3)) (da_cons (de_op op_addA (o_add mk_F) de_str (de_var 3)) (da_cons (de_op op_addA (o_add mk_F) (de_var 4) de_str) (da_cons (de_op op_addA (o_add mk_F) de_str (de_var 4)) (da_cons (de_op op_addA (o_add mk_F) (de_var 4) de_str) da_nil)))))))))
  (dss_cons (ds_set (i := 7) sc_l_bad_line.nd rfl (by first | exact .inl rfl | exact .inr rfl) (de_op op_addA (o_add mk_F) (de_var 7) (de_lst mk_F (da_cons (de_op op_addA (o_add mk_F) de_str (de_sliceS (de_var 3) (dpo_some de_int) dpo_none)) (da_cons (de_op op_addA (o_add mk_F) (de_op op_addA (o_add mk_F) (de_op op_addA (o_add mk_F) de_str (de_var 5)) de_str) (de_var 6)) (da_cons (de_op op_addA (o_add mk_F) (de_var 4) de_str) (da_cons (de_op op_addA (o_add mk_F) (de_var 4) de_str) da_nil)))))))
  (dss_cons (ds_set (i := 7) sc_l_bad_line.nd rfl (by first | exact .inl rfl | exact .inr rfl) (de_op op_addA (o_add mk_F) (de_var 7) (de_lst mk_F (da_cons (de_op op_addA (o_add mk_F) (de_var 4) de_str) (da_cons (de_op op_addA (o_add mk_F) (de_var 4) de_str) (da_cons (de_op op_addA (o_add mk_F) (de_var 4) de_str) (da_cons (de_op op_addA (o_add mk_F) (de_var 4) de_str) da_nil)))))))
  (dss_cons (ds_set (i := 7) sc_l_bad_line.nd rfl (by first | exact .inl rfl | exact .inr rfl) (de_op op_addA (o_add mk_F) (de_var 7) (de_lst mk_F (da_cons (de_op op_addA (o_add mk_F) (de_var 4) de_str) (da_cons (de_op op_addA (o_add mk_F) (de_var 4) de_str) (da_cons (de_op op_addA (o_add mk_F) (de_var 4) de_str) (da_cons (de_op op_addA (o_add mk_F) (de_op op_addA (o_add mk_F) (de_op op_addA (o_add mk_F) (de_op op_addA (o_add mk_F) (de_var 4) de_str) (de_var 6)) de_str) (de_var 5)) da_nil)))))))
  (dss_cons (ds_set (i := 7) sc_l_bad_line.nd rfl (by first | exact .inl rfl | exact .inr rfl) (de_op op_addA (o_add mk_F) (de_var 7) (de_lst mk_F (da_cons (de_op op_addA (o_add mk_F) (de_op op_addA (o_add mk_F) (de_op op_addA (o_add mk_F) (de_op op_addA (o_add mk_F) (de_var 4) de_str) (de_var 5)) de_str) (de_var 5)) (da_cons (de_op op_addA (o_add mk_F) (de_var 4) de_str) (da_cons (de_op op_addA (o_add mk_F) (de_op op_addA (o_add mk_F) (de_op op_addA (o_add mk_F) (de_var 4) de_str) (de_var 5)) de_str) da_nil))))))
  (dss_cons (ds_set (i := 7) sc_l_bad_line.nd rfl (by first | exact .inl rfl | exact .inr rfl) (de_op op_addA (o_add mk_F) (de_var 7) (de_lst mk_F (da_cons (de_op op_addA (o_add mk_F) (de_op op_addA (o_add mk_F) (de_op op_addA (o_add mk_F) (de_var 4) de_str) (de_var 5)) de_str) (da_cons (de_op op_addA (o_add mk_F) (de_var 4) de_str) (da_cons (de_op op_addA (o_add mk_F) de_str (de_var 3)) da_nil))))))
  (dss_cons (ds_set (i := 7) sc_l_bad_line.nd rfl (by first | exact .inl rfl | exact .inr rfl) (de_op op_addA (o_add mk_F) (de_var 7) (de_lst mk_F (da_cons (de_op op_addA (o_add mk_F) (de_op op_addA (o_add mk_F) (de_op op_addA (o_add mk_F) (de_var 4) de_str) (de_var 5)) de_str) (da_cons (de_op op_addA (o_add mk_F) (de_op op_addA (o_add mk_F) (de_var 4) de_str) (de_var 5)) (da_cons (de_op op_addA (o_add mk_F) (de_var 4) de_str) (da_cons (de_op op_addA (o_add mk_F) (de_var 4) de_str) da_nil)))))))
  (dss_cons (ds_set (i := 8) sc_l_bad_line.nd rfl (by first | exact .inl rfl | exact .inr rfl) (de_ix (de_call T.ok_l_bad_words (hr.mono (by decide)) (by rfl) T.g_l_bad_words T.F_l_bad_words.kp T.b_l_bad_words (da_cons (de_var 2) da_nil)) (de_call T.ok_l_take (hr.mono (by decide)) (by rfl) T.g_l_take T.F_l_take.kp T.b_l_take (da_cons (de_var 0) (da_cons de_int da_nil))) (fun _ _ => rfl)))
  (dss_cons (ds_set (i := 7) sc_l_bad_line.nd rfl (by first | exact .inl rfl | exact .inr rfl) (de_op op_addA (o_add mk_F) (de_var 7) (de_lst mk_F (da_cons (de_op op_addA (o_add mk_F) (de_op op_addA (o_add mk_F) (de_var 4) de_str) (de_var 5)) (da_cons (de_op op_addA (o_add mk_F) (de_op op_addA (o_add mk_F) de_str (de_var 8)) (de_sliceS (de_var 3) (dpo_some de_int) dpo_none)) (da_cons (de_op op_addA (o_add mk_F) (de_op op_addA (o_add mk_F) (de_op op_addA (o_add mk_F) de_str (de_sliceS (de_var 3) (dpo_some de_int) dpo_none)) de_str) (de_var 8)) da_nil))))))
  (dss_cons (ds_set (i := 7) sc_l_bad_line.nd rfl (by first | exact .inl rfl | exact .inr rfl) (de_op op_addA (o_add mk_F) (de_var 7) (de_lst mk_F (da_cons (de_op op_addA (o_add mk_F) (de_op op_addA (o_add mk_F) (de_var 4) de_str) (de_var 8)) (da_cons (de_op op_addA (o_add mk_F) (de_op op_addA (o_add mk_F) (de_op op_addA (o_add mk_F) (de_op op_addA (o_add mk_F) (de_var 4) de_str) (de_var 8)) de_str) (de_var 5)) (da_cons (de_op op_addA (o_add mk_F) (de_op op_addA (o_add mk_F) (de_var 4) de_str) (de_var 8)) da_nil))))))
  (dss_one (ds_ret (de_ix (de_var 7) (de_call T.ok_l_take (hr.mono (by decide)) (by rfl) T.g_l_take T.F_l_take.kp T.b_l_take (da_cons (de_var 0) (da_cons (de_callB call_lenA o_len (by rfl) T.m_len (by decide +kernel) (da_cons (de_var 7) da_nil)) da_nil))) (fun _ _ => rfl))))))))))))))))))
theorem Tx.ok_l_bad_heads (T : Tx K mg A) : FnB P w K mg base false 1 A.a_l_bad_heads A.d_l_bad_heads ["_law_names_here"] (Prom K sp_l_bad_heads) := by
  refine fn_ok (k := 0) T.F_l_bad_heads sc_l_bad_heads ln_l_bad_heads (fun cdv A' outer s' H E c pn hc hr => ⟨B_l_bad_heads, ?_, hb_l_bad_heads⟩)
  obtain rfl := cold_of hc
  exact (dss_cons (ds_set (i := 1) sc_l_bad_heads.nd rfl (by first | exact .inl rfl | exact .inr rfl) (de_lst mk_F (da_cons de_str (da_cons de_str (da_cons de_str (da_cons (de_op op_addA (o_add mk_F) de_str (de_ix (de_var 0) de_int (fun _ _ => rfl))) (da_cons de_str (da_cons de_str (da_cons de_str da_nil)))))))))
  (dss_cons (ds_set (i := 1) sc_l_bad_heads.nd rfl (by first | exact .inl rfl | exact .inr rfl) (de_op op_addA (o_add mk_F) (de_var 1) (de_lst mk_F (da_cons de_str (da_cons de_str (da_cons de_str (da_cons de_str (da_cons de_str (da_cons de_str da_nil)))))))))
  (dss_cons (ds_set (i := 1) sc_l_bad_heads.nd rfl (by first | exact .inl rfl | exact .inr rfl) (de_op op_addA (o_add mk_F) (de_var 1) (de_lst mk_F (da_cons de_str (da_cons de_str (da_cons de_str (da_cons de_str (da_cons de_str da_nil))))))))
  (dss_one (ds_ret (de_op op_addA (o_add mk_F) (de_var 1) (de_lst mk_F (da_cons (de_op op_addA (o_add mk_F) de_str (de_bm PySem.F.plainAttrs_str PySem.F.slot_str_join PySem.F.type_str_join mt_join (fun _ _ _ h1 h2 h3 => tyV_str h1 h2 h3) o_join de_str (da_cons (de_lc (own := [("_law_k", 2)]) mk_F hr.rdy sc_l_bad_heads.nd (di_range1 (by rfl) T.m_range (da_cons de_int da_nil)) (blkOk_by (N := ["_law_names_here", "_law_some", "_law_k"]) (sc := defScope (topS 42)) (by decide +kernel)) (fun _ _ _ _ _ _ up2 => ⟨(dg_name (i := 2) sc_l_bad_heads.nd rfl (by first | exact .inl rfl | exact .inr rfl)), dts_nil, (de_ix de_str (de_var 2) (fun _ _ => rfl))⟩)) da_nil))) da_nil))))))))
theorem Tx.ok_l_refusal (T : Tx K mg A) : FnB P w K mg base false 9 A.a_l_refusal A.d_l_refusal ["_law_text"] (Prom K sp_l_refusal_fdc7) := by
  refine fn_ok (k := 8) T.F_l_refusal sc_l_refusal ln_l_refusal_fdc7 (fun cdv A' outer s' H E c pn hc hr => ⟨B_l_refusal_fdc7, ?_, hb_l_refusal_fdc7⟩)
  obtain rfl := cold_of hc
  exact (dss_cons (ds_tryK (i := 1) T.x_SureError T.l_NoText sc_l_refusal.nd rfl rfl (dss_one (ds_expr (de_call T.ok_read (hr.mono (by decide)) (by rfl) T.g_read T.F_read.kp T.b_read (da_cons (de_var 0) da_nil)))) (fun pn xe po => (drs_here (drs_expr (dre_call T.okR_read ((up_tr rfl _ hr).mono (by decide)) rfl (by rfl) T.g_read T.F_read.kp T.b_read (da_cons (de_var 0) da_nil))))) (fun a pn => (dss_one (ds_ret (de_var 1)))))
  (dss_one (ds_ret de_non)))
theorem Tx.ok_l_refused (T : Tx K mg A) : FnB P w K mg base false 10 A.a_l_refused A.d_l_refused ["_law_text", "_law_at"] (Prom K sp_l_refused_810f) := by
  refine fn_ok (k := 9) T.F_l_refused sc_l_refused ln_l_refused_810f (fun cdv A' outer s' H E c pn hc hr => ⟨B_l_refused_810f, ?_, hb_l_refused_810f⟩)
  obtain rfl := cold_of hc
  exact (dss_cons (ds_set (i := 2) sc_l_refused.nd rfl (by first | exact .inl rfl | exact .inr rfl) (de_call T.ok_l_refusal (hr.mono (by decide)) (by rfl) T.g_l_refusal T.F_l_refusal.kp T.b_l_refusal (da_cons (de_var 0) da_nil)))
  (dss_cons (ds_if (db_w (dw_or (db_not (db_val (de_isK1 T.l_NoText T.ec_NoText (de_var 2) (ca_own (by rfl) T.h_NoText) (kit_sub T.ci_NoText T.ct_NoText T.ss_NoText T.su_NoText_NoText) (by rfl) T.m_isinstance))) (dw_or1 (db_not (db_val (de_isK1 T.l_NoText T.ec_NoText (de_var 2) (ca_ty (by rfl) T.m_ValueError (by decide +kernel)) (kit_bi (by decide +kernel) T.sb_NoText_ValueError) (by rfl) T.m_isinstance)))))) (dss_one (ds_ret de_bl)) dss_nil)
  (dss_cons (ds_if (db_val (de_isKT T.l_NoText T.ec_NoText (de_var 2) (cas_cons (ca_own (by rfl) T.h_NoChance) (cas_cons (ca_own (by rfl) T.h_NoFair) (cas_cons (ca_own (by rfl) T.h_NoName) (cas_cons (ca_own (by rfl) T.h_NoRatio) (cas_cons (ca_own (by rfl) T.h_NoRow) cas_nil))))) (kany_no (kit_sub T.ci_NoChance T.ct_NoChance T.ss_NoText T.su_NoText_NoChance) (kany_no (kit_sub T.ci_NoFair T.ct_NoFair T.ss_NoText T.su_NoText_NoFair) (kany_no (kit_sub T.ci_NoName T.ct_NoName T.ss_NoText T.su_NoText_NoName) (kany_no (kit_sub T.ci_NoRatio T.ct_NoRatio T.ss_NoText T.su_NoText_NoRatio) (kany_no (kit_sub T.ci_NoRow T.ct_NoRow T.ss_NoText T.su_NoText_NoRow) kany_nil))))) (Nat.le_of_ble_eq_true rfl) (by rfl) T.m_isinstance)) (dss_one (ds_ret de_bl)) dss_nil)
  (dss_one (ds_ret (de_and (de_call T.ok_l_whole (hr.mono (by decide)) (by rfl) T.g_l_whole T.F_l_whole.kp T.b_l_whole (da_cons (de_xk T.l_NoText T.f_NoText T.i_NoText.no (de_var 2)) da_nil)) (de_one (de_cmp (op_eqD hr.units) o_eq (de_xk T.l_NoText T.f_NoText T.i_NoText.no (de_var 2)) (de_var 1) (nomark _)))))))))
theorem Tx.ok_l_spoilt_good (T : Tx K mg A) : FnB P w K mg base false 11 A.a_l_spoilt_good A.d_l_spoilt_good ["_law_bag_here", "_law_names_here", "_law_offers", "_law_big"] (Prom K sp_l_spoilt_good) := by
  refine fn_ok (k := 10) T.F_l_spoilt_good sc_l_spoilt_good ln_l_spoilt_good (fun cdv A' outer s' H E c pn hc hr => ⟨B_l_spoilt_good, ?_, hb_l_spoilt_good⟩)
  obtain rfl := cold_of hc
  exact (dss_cons (ds_set (i := 4) sc_l_spoilt_good.nd rfl (by first | exact .inl rfl | exact .inr rfl) (de_call T.ok_l_lines (hr.mono (by decide)) (by rfl) T.g_l_lines T.F_l_lines.kp T.b_l_lines (da_cons (de_var 1) (da_cons (de_var 2) da_nil))))
  (dss_cons (ds_set (i := 5) sc_l_spoilt_good.nd rfl (by first | exact .inl rfl | exact .inr rfl) de_non)
  (dss_cons (ds_if (db_cmp (op_eqD hr.units) o_eq (de_call T.ok_l_take (hr.mono (by decide)) (by rfl) T.g_l_take T.F_l_take.kp T.b_l_take (da_cons (de_var 0) (da_cons de_int da_nil))) de_int (nomark _)) (dss_cons (ds_while [2, 5] PassesOwn.never (db_cmp op_lt o_lt (de_callB call_lenA o_len (by rfl) T.m_len (by decide +kernel) (da_cons (de_var 4) da_nil)) (de_op op_addA (o_add mk_F) de_int (de_call T.ok_l_take (hr.mono (by decide)) (by rfl) T.g_l_take T.F_l_take.kp T.b_l_take (da_cons (de_var 0) (da_cons de_int da_nil)))) (nomark _))
  (dss_one (ds_expr (de_bm PySem.F.plainAttrs_list PySem.F.slot_list_append PySem.F.type_list_append mt_append (fun _ _ _ h1 h2 h3 => tyV_list h1 h2 h3) o_append (de_var 4) (da_cons (de_op op_addA (o_add mk_F) de_str (de_op op_mul_str o_mulS de_str (de_callB call_lenA o_len (by rfl) T.m_len (by decide +kernel) (da_cons (de_var 1) da_nil)))) da_nil)))))
  (dss_one (ds_set (i := 5) sc_l_spoilt_good.nd rfl (by first | exact .inl rfl | exact .inr rfl) de_int))) dss_nil)
  (dss_cons (ds_for [2, 6, 7] PassesOwn.never hr.rdy (di_range1 (by rfl) T.m_range (da_cons (de_op op_addA (o_add mk_F) de_int (de_call T.ok_l_take (hr.mono (by decide)) (by rfl) T.g_l_take T.F_l_take.kp T.b_l_take (da_cons (de_var 0) (da_cons de_int da_nil)))) da_nil)) (dg_name (i := 6) sc_l_spoilt_good.nd rfl (by first | exact .inl rfl | exact .inr rfl))
  (dss_cons (ds_set (i := 7) sc_l_spoilt_good.nd rfl (by first | exact .inl rfl | exact .inr rfl) (de_op op_addA (o_add mk_F) de_int (de_call T.ok_l_take (hr.mono (by decide)) (by rfl) T.g_l_take T.F_l_take.kp T.b_l_take (da_cons (de_var 0) (da_cons (de_callB call_lenA o_len (by rfl) T.m_len (by decide +kernel) (da_cons (de_var 4) da_nil)) da_nil)))))
  (dss_one (ds_if (db_cmp op_lt o_lt (de_var 7) (de_callB call_lenA o_len (by rfl) T.m_len (by decide +kernel) (da_cons (de_var 4) da_nil)) (nomark _)) (dss_cons (ds_setI (de_call T.ok_l_bad_line (hr.mono (by decide)) (by rfl) T.g_l_bad_line T.F_l_bad_line.kp T.b_l_bad_line (da_cons (de_var 0) (da_cons (de_var 1) (da_cons (de_var 3) da_nil)))) (de_var 4) (de_var 7))
  (dss_one (ds_if (db_w (dw_or (db_cmp op_isN o_isN (de_var 5) de_non (nomark _)) (dw_or1 (db_cmp op_lt o_lt (de_var 7) (de_var 5) (nomark _))))) (dss_one (ds_set (i := 5) sc_l_spoilt_good.nd rfl (by first | exact .inl rfl | exact .inr rfl) (de_var 7))) dss_nil))) dss_nil))))
  (dss_one (ds_ret (de_or (de_cmp op_isN o_isN (de_var 5) de_non (nomark _)) (de_one (de_call T.ok_l_refused (hr.mono (by decide)) (by rfl) T.g_l_refused T.F_l_refused.kp T.b_l_refused (da_cons (de_bm PySem.F.plainAttrs_str PySem.F.slot_str_join PySem.F.type_str_join mt_join (fun _ _ _ h1 h2 h3 => tyV_str h1 h2 h3) o_join de_str (da_cons (de_var 4) da_nil)) (da_cons (de_var 5) da_nil)))))))))))
theorem Tx.ok_law (T : Tx K mg A) : FnB P w K mg base false 12 A.a_law A.d_law ["_law_script"] (Prom K sp_law_k49) := by
  refine fn_ok (k := 11) T.F_law sc_law ln_law_k49 (fun cdv A' outer s' H E c pn hc hr => ⟨B_law_k49, ?_, hb_law_k49⟩)
  obtain rfl := cold_of hc
  exact (dss_cons (ds_set (i := 1) sc_law.nd rfl (by first | exact .inl rfl | exact .inr rfl) (de_call T.ok_l_bag (hr.mono (by decide)) (by rfl) T.g_l_bag T.F_l_bag.kp T.b_l_bag (da_cons (de_call T.ok_l_cell (hr.mono (by decide)) (by rfl) T.g_l_cell T.F_l_cell.kp T.b_l_cell (da_cons (de_var 0) (da_cons de_int da_nil))) da_nil)))
  (dss_cons (ds_set (i := 2) sc_law.nd rfl (by first | exact .inl rfl | exact .inr rfl) (de_op op_addA (o_add mk_F) de_int (de_call T.ok_l_take (hr.mono (by decide)) (by rfl) T.g_l_take T.F_l_take.kp T.b_l_take (da_cons (de_var 1) (da_cons de_int da_nil)))))
  (dss_cons (ds_set (i := 3) sc_law.nd rfl (by first | exact .inl rfl | exact .inr rfl) (de_call T.ok_l_names (hr.mono (by decide)) (by rfl) T.g_l_names T.F_l_names.kp T.b_l_names (da_cons (de_var 1) (da_cons (de_var 2) da_nil))))
  (dss_cons (by first | exact ds_setLc (i := 4) (own := [("_law_k", 7)]) mk_F hr.rdy sc_law.nd rfl rfl (sw_true rfl rfl rfl (by decide +kernel)) (di_range1 (by rfl) T.m_range (da_cons (de_call T.ok_l_take (hr.mono (by decide)) (by rfl) T.g_l_take T.F_l_take.kp T.b_l_take (da_cons (de_var 1) (da_cons de_int da_nil))) da_nil)) (blkOk_by (N := ["_law_script", "_law_bag_here", "_law_count", "_law_names_here", "_law_offers", "_law_big", "_law_lines_here", "_law_k", "_law_head", "_law_word"]) (sc := defScope (topS 46)) (by decide +kernel)) (fun _ _ _ _ _ _ up2 => ⟨(dg_name (i := 7) sc_law.nd rfl (by first | exact .inl rfl | exact .inr rfl)), dts_nil, (de_call T.ok_l_any_offer ((up2 _ hr).mono (by decide)) (by rfl) T.g_l_any_offer T.F_l_any_offer.kp T.b_l_any_offer (da_cons (de_var 1) (da_cons (de_var 2) da_nil)))⟩) | exact ds_set (i := 4) sc_law.nd rfl (by first | exact .inl rfl | exact .inr rfl) (de_lc (own := [("_law_k", 7)]) mk_F hr.rdy sc_law.nd (di_range1 (by rfl) T.m_range (da_cons (de_call T.ok_l_take (hr.mono (by decide)) (by rfl) T.g_l_take T.F_l_take.kp T.b_l_take (da_cons (de_var 1) (da_cons de_int da_nil))) da_nil)) (blkOk_by (N := ["_law_script", "_law_bag_here", "_law_count", "_law_names_here", "_law_offers", "_law_big", "_law_lines_here", "_law_k", "_law_head", "_law_word"]) (sc := defScope (topS 46)) (by decide +kernel)) (fun _ _ _ _ _ _ up2 => ⟨(dg_name (i := 7) sc_law.nd rfl (by first | exact .inl rfl | exact .inr rfl)), dts_nil, (de_call T.ok_l_any_offer ((up2 _ hr).mono (by decide)) (by rfl) T.g_l_any_offer T.F_l_any_offer.kp T.b_l_any_offer (da_cons (de_var 1) (da_cons (de_var 2) da_nil)))⟩)))
  (dss_cons (ds_set (i := 5) sc_law.nd rfl (by first | exact .inl rfl | exact .inr rfl) (de_callTy call_str_int o_str1 (by rfl) T.m_str (by decide +kernel) (da_cons (de_op op_addA (o_add mk_F) de_int (de_call T.ok_l_take (hr.mono (by decide)) (by rfl) T.g_l_take T.F_l_take.kp T.b_l_take (da_cons (de_var 1) (da_cons (de_op op_pow o_pow de_int de_int) da_nil)))) da_nil)))
  (dss_cons (ds_set (i := 6) sc_law.nd rfl (by first | exact .inl rfl | exact .inr rfl) (de_call T.ok_l_lines (hr.mono (by decide)) (by rfl) T.g_l_lines T.F_l_lines.kp T.b_l_lines (da_cons (de_var 3) (da_cons (de_var 4) da_nil))))
  (dss_cons (ds_if (db_not (db_val (de_call T.ok_l_spoilt_good (hr.mono (by decide)) (by rfl) T.g_l_spoilt_good T.F_l_spoilt_good.kp T.b_l_spoilt_good (da_cons (de_var 1) (da_cons (de_var 3) (da_cons (de_var 4) (da_cons (de_var 5) da_nil))))))) (dss_one (ds_ret de_bl)) dss_nil)
  (dss_cons (ds_for [0, 2, 7] PassesOwn.never hr.rdy (di_range1 (by rfl) T.m_range (da_cons de_int da_nil)) (dg_name (i := 7) sc_law.nd rfl (by first | exact .inl rfl | exact .inr rfl))
  (dss_one (ds_if (db_not (db_val (de_call T.ok_l_refused (hr.mono (by decide)) (by rfl) T.g_l_refused T.F_l_refused.kp T.b_l_refused (da_cons (de_op op_addA (o_add mk_F) (de_op op_addA (o_add mk_F) (de_ix (de_var 6) de_int (fun _ _ => rfl)) de_str) (de_call T.ok_l_bad_line (hr.mono (by decide)) (by rfl) T.g_l_bad_line T.F_l_bad_line.kp T.b_l_bad_line (da_cons (de_var 1) (da_cons (de_var 3) (da_cons (de_var 5) da_nil))))) (da_cons de_int da_nil))))) (dss_one (ds_ret de_bl)) dss_nil)))
  (dss_cons (ds_for [0, 1, 2, 7, 8] PassesOwn.never hr.rdy (di_seq (de_call T.ok_l_bad_heads (hr.mono (by decide)) (by rfl) T.g_l_bad_heads T.F_l_bad_heads.kp T.b_l_bad_heads (da_cons (de_var 3) da_nil))) (dg_name (i := 8) sc_law.nd rfl (by first | exact .inl rfl | exact .inr rfl))
  (dss_one (ds_if (db_w (dw_or (db_not (db_val (de_call T.ok_l_refused (hr.mono (by decide)) (by rfl) T.g_l_refused T.F_l_refused.kp T.b_l_refused (da_cons (de_var 8) (da_cons de_int da_nil))))) (dw_or1 (db_not (db_val (de_call T.ok_l_refused (hr.mono (by decide)) (by rfl) T.g_l_refused T.F_l_refused.kp T.b_l_refused (da_cons (de_bm PySem.F.plainAttrs_str PySem.F.slot_str_join PySem.F.type_str_join mt_join (fun _ _ _ h1 h2 h3 => tyV_str h1 h2 h3) o_join de_str (da_cons (de_op op_addA (o_add mk_F) (de_lst mk_F (da_cons (de_var 8) da_nil)) (de_slice mk_F (de_var 6) (dpo_some de_int) dpo_none)) da_nil)) (da_cons de_int da_nil)))))))) (dss_one (ds_ret de_bl)) dss_nil)))
  (dss_cons (ds_if (db_not (db_val (de_call T.ok_l_refused (hr.mono (by decide)) (by rfl) T.g_l_refused T.F_l_refused.kp T.b_l_refused (da_cons (de_bm PySem.F.plainAttrs_str PySem.F.slot_str_join PySem.F.type_str_join mt_join (fun _ _ _ h1 h2 h3 => tyV_str h1 h2 h3) o_join de_str (da_cons (de_op op_addA (o_add mk_F) (de_var 6) (de_lst mk_F (da_cons de_str da_nil))) da_nil)) (da_cons (de_callB call_lenA o_len (by rfl) T.m_len (by decide +kernel) (da_cons (de_var 6) da_nil)) da_nil))))) (dss_one (ds_ret de_bl)) dss_nil)
  (dss_cons (ds_for [0, 1, 2, 5, 7, 8, 9] PassesOwn.never hr.rdy (di_seq (de_call T.ok_l_bad_words (hr.mono (by decide)) (by rfl) T.g_l_bad_words T.F_l_bad_words.kp T.b_l_bad_words (da_cons (de_var 5) da_nil))) (dg_name (i := 9) sc_law.nd rfl (by first | exact .inl rfl | exact .inr rfl))
  (dss_one (ds_if (db_cmp op_notN o_notN (de_call T.ok_read_ratio (hr.mono (by decide)) (by rfl) T.g_read_ratio T.F_read_ratio.kp T.b_read_ratio (da_cons (de_var 9) da_nil)) de_non (nomark _)) (dss_one (ds_ret de_bl)) dss_nil)))
  (dss_one (ds_ret (de_cmp (op_eqD hr.units) o_eqDp (de_call T.ok_read (hr.mono (by decide)) (by rfl) T.g_read T.F_read.kp T.b_read (da_cons (de_bm PySem.F.plainAttrs_str PySem.F.slot_str_join PySem.F.type_str_join mt_join (fun _ _ _ h1 h2 h3 => tyV_str h1 h2 h3) o_join de_str (da_cons (de_var 6) da_nil)) da_nil)) (de_tup (da_cons (de_var 3) (da_cons (de_var 4) da_nil))) (nomark _)))))))))))))))
end
theorem all_mk {l : PySem.W.OpenLaw} {w : World} {K : PySem.W.Frag} {h : Heap} {mg : Str → Option Value} {fa : Addr} (X : K.In h) (G : h.Ns mainGlobals mg) (hfa : mg "law" = some (.ref fa))
    {X_SureError : Addr}
    {X_NoChance : Addr}
    {X_NoFair : Addr}
    {X_NoName : Addr}
    {X_NoRatio : Addr}
    {X_NoRow : Addr}
    {X_NoText : Addr}
    {nm_NoText qq_NoText : Str} {N_NoText : Addr} {bs_NoText : List Value} {sn_NoText : List Str} {sub_NoText : List Value} {ab_NoText : Bool} {col_NoText : Option Bool} {dd_NoText : Option Addr} {m0_NoText m1_NoText m2_NoText m3_NoText m5_NoText : Option Value} {fI_NoText : Addr} {odI_NoText anI_NoText : Option Addr} {slI_NoText : Array (Option Value)} {ocI_NoText kVI_NoText dcI_NoText pmI_NoText cdI_NoText ctI_NoText : Value}
    {C_Row : Addr}
    {f0 : Addr} {od0 an0 : Option Addr} {sl0 : Array (Option Value)} {oc0 kV0 dc0 pm0 cd0 ct0 : Value}
    {f1 : Addr} {od1 an1 : Option Addr} {sl1 : Array (Option Value)} {oc1 kV1 dc1 pm1 cd1 ct1 : Value}
    {f2 : Addr} {od2 an2 : Option Addr} {sl2 : Array (Option Value)} {oc2 kV2 dc2 pm2 cd2 ct2 : Value}
    {f3 : Addr} {od3 an3 : Option Addr} {sl3 : Array (Option Value)} {oc3 kV3 dc3 pm3 cd3 ct3 : Value}
    {f4 : Addr} {od4 an4 : Option Addr} {sl4 : Array (Option Value)} {oc4 kV4 dc4 pm4 cd4 ct4 : Value}
    {f5 : Addr} {od5 an5 : Option Addr} {sl5 : Array (Option Value)} {oc5 kV5 dc5 pm5 cd5 ct5 : Value}
    {f6 : Addr} {od6 an6 : Option Addr} {sl6 : Array (Option Value)} {oc6 kV6 dc6 pm6 cd6 ct6 : Value}
    {f7 : Addr} {od7 an7 : Option Addr} {sl7 : Array (Option Value)} {oc7 kV7 dc7 pm7 cd7 ct7 : Value}
    {f8 : Addr} {od8 an8 : Option Addr} {sl8 : Array (Option Value)} {oc8 kV8 dc8 pm8 cd8 ct8 : Value}
    {f9 : Addr} {od9 an9 : Option Addr} {sl9 : Array (Option Value)} {oc9 kV9 dc9 pm9 cd9 ct9 : Value}
    {f10 : Addr} {od10 an10 : Option Addr} {sl10 : Array (Option Value)} {oc10 kV10 dc10 pm10 cd10 ct10 : Value}
    {f11 : Addr} {od11 an11 : Option Addr} {sl11 : Array (Option Value)} {oc11 kV11 dc11 pm11 cd11 ct11 : Value}
    {f12 : Addr} {od12 an12 : Option Addr} {sl12 : Array (Option Value)} {oc12 kV12 dc12 pm12 cd12 ct12 : Value}
    {f13 : Addr} {od13 an13 : Option Addr} {sl13 : Array (Option Value)} {oc13 kV13 dc13 pm13 cd13 ct13 : Value}
    {f14 : Addr} {od14 an14 : Option Addr} {sl14 : Array (Option Value)} {oc14 kV14 dc14 pm14 cd14 ct14 : Value}
    {f15 : Addr} {od15 an15 : Option Addr} {sl15 : Array (Option Value)} {oc15 kV15 dc15 pm15 cd15 ct15 : Value}
    {f16 : Addr} {od16 an16 : Option Addr} {sl16 : Array (Option Value)} {oc16 kV16 dc16 pm16 cd16 ct16 : Value}
    {f17 : Addr} {od17 an17 : Option Addr} {sl17 : Array (Option Value)} {oc17 kV17 dc17 pm17 cd17 ct17 : Value}
    {f18 : Addr} {od18 an18 : Option Addr} {sl18 : Array (Option Value)} {oc18 kV18 dc18 pm18 cd18 ct18 : Value}
    {f19 : Addr} {od19 an19 : Option Addr} {sl19 : Array (Option Value)} {oc19 kV19 dc19 pm19 cd19 ct19 : Value}
    {f20 : Addr} {od20 an20 : Option Addr} {sl20 : Array (Option Value)} {oc20 kV20 dc20 pm20 cd20 ct20 : Value}
    {f21 : Addr} {od21 an21 : Option Addr} {sl21 : Array (Option Value)} {oc21 kV21 dc21 pm21 cd21 ct21 : Value}
    {f22 : Addr} {od22 an22 : Option Addr} {sl22 : Array (Option Value)} {oc22 kV22 dc22 pm22 cd22 ct22 : Value}
    {f23 : Addr} {od23 an23 : Option Addr} {sl23 : Array (Option Value)} {oc23 kV23 dc23 pm23 cd23 ct23 : Value}
    {f24 : Addr} {od24 an24 : Option Addr} {sl24 : Array (Option Value)} {oc24 kV24 dc24 pm24 cd24 ct24 : Value}
    {f25 : Addr} {od25 an25 : Option Addr} {sl25 : Array (Option Value)} {oc25 kV25 dc25 pm25 cd25 ct25 : Value}
    {f26 : Addr} {od26 an26 : Option Addr} {sl26 : Array (Option Value)} {oc26 kV26 dc26 pm26 cd26 ct26 : Value}
    {f27 : Addr} {od27 an27 : Option Addr} {sl27 : Array (Option Value)} {oc27 kV27 dc27 pm27 cd27 ct27 : Value}
    {f28 : Addr} {od28 an28 : Option Addr} {sl28 : Array (Option Value)} {oc28 kV28 dc28 pm28 cd28 ct28 : Value}
    {f29 : Addr} {od29 an29 : Option Addr} {sl29 : Array (Option Value)} {oc29 kV29 dc29 pm29 cd29 ct29 : Value}
    {f30 : Addr} {od30 an30 : Option Addr} {sl30 : Array (Option Value)} {oc30 kV30 dc30 pm30 cd30 ct30 : Value}
    {f31 : Addr} {od31 an31 : Option Addr} {sl31 : Array (Option Value)} {oc31 kV31 dc31 pm31 cd31 ct31 : Value}
    {f32 : Addr} {od32 an32 : Option Addr} {sl32 : Array (Option Value)} {oc32 kV32 dc32 pm32 cd32 ct32 : Value}
    {tk_FIGURES : Tok}
    {tk_LETTERS : Tok}
    {tk_MOST_FIGURES : Tok}
    {tk_MOST_LETTERS : Tok}
    {tk_MOST_OFFERS : Tok}
    {tk_MOST_WORLDS : Tok}
    (aX_SureError : PySem.W.nsIn K mainGlobals "SureError" = some (some (.ref X_SureError)))
    (rd_SureError : PySem.W.readsIn K X_SureError (.type "type") = true) (ga_SureError : PySem.W.specialIn K (.ref X_SureError) "__getattribute__" = some (some (.builtin "type.__getattribute__"))) (vi_SureError : PySem.W.findCls K (.ref X_SureError) (.type "type") "__init__" = some (.val (.builtin "ValueError.__init__")))
    (kX_SureError : PySem.W.keepIn K (.ref X_SureError) = true) (bX_SureError : PySem.W.subIn K (.ref X_SureError) (.type "BaseException") = some true) (tX_SureError : PySem.W.typeIn K (.ref X_SureError) = some (.type "type")) (iX_SureError : PySem.W.isClsIn K X_SureError = true)
    (aX_NoChance : PySem.W.nsIn K mainGlobals "NoChance" = some (some (.ref X_NoChance)))
    (kX_NoChance : PySem.W.keepIn K (.ref X_NoChance) = true) (bX_NoChance : PySem.W.subIn K (.ref X_NoChance) (.type "BaseException") = some true) (tX_NoChance : PySem.W.typeIn K (.ref X_NoChance) = some (.type "type")) (iX_NoChance : PySem.W.isClsIn K X_NoChance = true)
    (aX_NoFair : PySem.W.nsIn K mainGlobals "NoFair" = some (some (.ref X_NoFair)))
    (kX_NoFair : PySem.W.keepIn K (.ref X_NoFair) = true) (bX_NoFair : PySem.W.subIn K (.ref X_NoFair) (.type "BaseException") = some true) (tX_NoFair : PySem.W.typeIn K (.ref X_NoFair) = some (.type "type")) (iX_NoFair : PySem.W.isClsIn K X_NoFair = true)
    (aX_NoName : PySem.W.nsIn K mainGlobals "NoName" = some (some (.ref X_NoName)))
    (kX_NoName : PySem.W.keepIn K (.ref X_NoName) = true) (bX_NoName : PySem.W.subIn K (.ref X_NoName) (.type "BaseException") = some true) (tX_NoName : PySem.W.typeIn K (.ref X_NoName) = some (.type "type")) (iX_NoName : PySem.W.isClsIn K X_NoName = true)
    (aX_NoRatio : PySem.W.nsIn K mainGlobals "NoRatio" = some (some (.ref X_NoRatio)))
    (kX_NoRatio : PySem.W.keepIn K (.ref X_NoRatio) = true) (bX_NoRatio : PySem.W.subIn K (.ref X_NoRatio) (.type "BaseException") = some true) (tX_NoRatio : PySem.W.typeIn K (.ref X_NoRatio) = some (.type "type")) (iX_NoRatio : PySem.W.isClsIn K X_NoRatio = true)
    (aX_NoRow : PySem.W.nsIn K mainGlobals "NoRow" = some (some (.ref X_NoRow)))
    (kX_NoRow : PySem.W.keepIn K (.ref X_NoRow) = true) (bX_NoRow : PySem.W.subIn K (.ref X_NoRow) (.type "BaseException") = some true) (tX_NoRow : PySem.W.typeIn K (.ref X_NoRow) = some (.type "type")) (iX_NoRow : PySem.W.isClsIn K X_NoRow = true)
    (aX_NoText : PySem.W.nsIn K mainGlobals "NoText" = some (some (.ref X_NoText)))
    (kX_NoText : PySem.W.keepIn K (.ref X_NoText) = true) (bX_NoText : PySem.W.subIn K (.ref X_NoText) (.type "BaseException") = some true) (tX_NoText : PySem.W.typeIn K (.ref X_NoText) = some (.type "type")) (iX_NoText : PySem.W.isClsIn K X_NoText = true)
    (eha_NoText : PySem.W.findIn K (.ref X_NoText) "__class__" = some (some (.builtin "object.__class__"))) (ehm_NoText : PySem.W.mroIn K X_NoText (.type "object") = some true)
    (fga_NoText : PySem.W.findIn K (.ref X_NoText) "__getattribute__" = some (some (.builtin "BaseException.__getattribute__"))) (fgg_NoText : PySem.W.findIn K (.ref X_NoText) "__getattr__" = some none) (fhd_NoText : PySem.W.hasDictIn K X_NoText = true)
    (lX_NoText : K.lookup X_NoText = some (excClassObj nm_NoText qq_NoText X_NoText N_NoText bs_NoText [.ref X_SureError, .type "ValueError", .type "Exception", .type "BaseException", .type "object"] true sn_NoText sub_NoText ab_NoText col_NoText dd_NoText m0_NoText m1_NoText m2_NoText m3_NoText m5_NoText "ValueError.__new__")) (saX_NoText : PySem.W.findIn K (.ref X_NoText) "__setattr__" = some (some (.builtin "object.__setattr__"))) (nX_NoText : PySem.W.findIn K (.ref X_NoText) "at" = some none) (aI_NoText : PySem.W.findIn K (.ref X_NoText) "__init__" = some (some (.ref fI_NoText))) (tI_NoText : PySem.W.typeIn K (.ref fI_NoText) = some (.type "function")) (lI_NoText : K.lookup fI_NoText = some ⟨ocI_NoText, odI_NoText, .func (PySem.W.fnOf "__init__" "NoText.__init__" (defArgs (inClass (topS 5) 0)) (defBody (inClass (topS 5) 0)) (defScope (inClass (topS 5) 0)) .none kVI_NoText dcI_NoText pmI_NoText anI_NoText cdI_NoText ctI_NoText), slI_NoText⟩) (cI_NoText : PySem.W.codeIn K cdI_NoText "NoText.__init__" = true) (kI_NoText : PySem.W.keepIn K (.ref fI_NoText) = true)
    (ehn : PySem.W.specialIn K (.builtin "object.__class__") "__get__" = some (some (.builtin "getset_descriptor.__get__"))) (eht : PySem.W.takesIn K (.builtin "object.__class__") = some true)
    (essX_NoText : PySem.W.subIn K (.ref X_NoText) (.ref X_NoText) = some true)
    (esX_NoText_NoChance : PySem.W.subIn K (.ref X_NoText) (.ref X_NoChance) = some false)
    (esX_NoText_NoFair : PySem.W.subIn K (.ref X_NoText) (.ref X_NoFair) = some false)
    (esX_NoText_NoName : PySem.W.subIn K (.ref X_NoText) (.ref X_NoName) = some false)
    (esX_NoText_NoRatio : PySem.W.subIn K (.ref X_NoText) (.ref X_NoRatio) = some false)
    (esX_NoText_NoRow : PySem.W.subIn K (.ref X_NoText) (.ref X_NoRow) = some false)
    (esX_NoText_NoText : PySem.W.subIn K (.ref X_NoText) (.ref X_NoText) = some true)
    (ebX_NoText_ValueError : PySem.W.subIn K (.ref X_NoText) (.type "ValueError") = some true)
    (sX_NoText_SureError : PySem.W.subIn K (.ref X_NoText) (.ref X_SureError) = some true)
    (aC_Row : PySem.W.nsIn K mainGlobals "Row" = some (some (.ref C_Row))) (pg_Row : PySem.W.plainGet K C_Row Str.empty = true) (hd_Row : PySem.W.hasDictIn K C_Row = true) (po_Row : PySem.W.plainOver K C_Row = true) (sa_Row : PySem.W.findIn K (.ref C_Row) "__setattr__" = some (some (.builtin "object.__setattr__"))) (mk_Row : PySem.W.makesIn K C_Row = true) (kc_Row : PySem.W.keepIn K (.ref C_Row) = true) (n_Row_rest : PySem.W.findIn K (.ref C_Row) "rest" = some none) (n_Row_at : PySem.W.findIn K (.ref C_Row) "at" = some none)
    (a0 : PySem.W.nsIn K mainGlobals "common" = some (some (.ref f0))) (l0 : K.lookup f0 = some ⟨oc0, od0, .func (PySem.W.fnOf "common" "common" (defArgs (topS 9)) (defBody (topS 9)) (defScope (topS 9)) .none kV0 dc0 pm0 an0 cd0 ct0), sl0⟩) (c0 : PySem.W.codeIn K cd0 "common" = true) (k0 : PySem.W.keepIn K (.ref f0) = true)
    (a1 : PySem.W.nsIn K mainGlobals "ratio" = some (some (.ref f1))) (l1 : K.lookup f1 = some ⟨oc1, od1, .func (PySem.W.fnOf "ratio" "ratio" (defArgs (topS 10)) (defBody (topS 10)) (defScope (topS 10)) .none kV1 dc1 pm1 an1 cd1 ct1), sl1⟩) (c1 : PySem.W.codeIn K cd1 "ratio" = true) (k1 : PySem.W.keepIn K (.ref f1) = true)
    (a2 : PySem.W.nsIn K mainGlobals "is_name" = some (some (.ref f2))) (l2 : K.lookup f2 = some ⟨oc2, od2, .func (PySem.W.fnOf "is_name" "is_name" (defArgs (topS 16)) (defBody (topS 16)) (defScope (topS 16)) .none kV2 dc2 pm2 an2 cd2 ct2), sl2⟩) (c2 : PySem.W.codeIn K cd2 "is_name" = true) (k2 : PySem.W.keepIn K (.ref f2) = true)
    (a3 : PySem.W.nsIn K mainGlobals "is_whole_word" = some (some (.ref f3))) (l3 : K.lookup f3 = some ⟨oc3, od3, .func (PySem.W.fnOf "is_whole_word" "is_whole_word" (defArgs (topS 17)) (defBody (topS 17)) (defScope (topS 17)) .none kV3 dc3 pm3 an3 cd3 ct3), sl3⟩) (c3 : PySem.W.codeIn K cd3 "is_whole_word" = true) (k3 : PySem.W.keepIn K (.ref f3) = true)
    (a4 : PySem.W.nsIn K mainGlobals "read_ratio" = some (some (.ref f4))) (l4 : K.lookup f4 = some ⟨oc4, od4, .func (PySem.W.fnOf "read_ratio" "read_ratio" (defArgs (topS 18)) (defBody (topS 18)) (defScope (topS 18)) .none kV4 dc4 pm4 an4 cd4 ct4), sl4⟩) (c4 : PySem.W.codeIn K cd4 "read_ratio" = true) (k4 : PySem.W.keepIn K (.ref f4) = true)
    (a5 : PySem.W.findIn K (.ref C_Row) "__init__" = some (some (.ref f5))) (i5 : PySem.W.isFn K (.ref f5) = true) (l5 : K.lookup f5 = some ⟨oc5, od5, .func (PySem.W.fnOf "__init__" "Row.__init__" (defArgs (inClass (topS 22) 0)) (defBody (inClass (topS 22) 0)) (defScope (inClass (topS 22) 0)) .none kV5 dc5 pm5 an5 cd5 ct5), sl5⟩) (c5 : PySem.W.codeIn K cd5 "Row.__init__" = true) (k5 : PySem.W.keepIn K (.ref f5) = true)
    (a6 : PySem.W.findIn K (.ref C_Row) "refuse" = some (some (.ref f6))) (i6 : PySem.W.isFn K (.ref f6) = true) (l6 : K.lookup f6 = some ⟨oc6, od6, .func (PySem.W.fnOf "refuse" "Row.refuse" (defArgs (inClass (topS 22) 1)) (defBody (inClass (topS 22) 1)) (defScope (inClass (topS 22) 1)) .none kV6 dc6 pm6 an6 cd6 ct6), sl6⟩) (c6 : PySem.W.codeIn K cd6 "Row.refuse" = true) (k6 : PySem.W.keepIn K (.ref f6) = true)
    (a7 : PySem.W.findIn K (.ref C_Row) "next_word" = some (some (.ref f7))) (i7 : PySem.W.isFn K (.ref f7) = true) (l7 : K.lookup f7 = some ⟨oc7, od7, .func (PySem.W.fnOf "next_word" "Row.next_word" (defArgs (inClass (topS 22) 2)) (defBody (inClass (topS 22) 2)) (defScope (inClass (topS 22) 2)) .none kV7 dc7 pm7 an7 cd7 ct7), sl7⟩) (c7 : PySem.W.codeIn K cd7 "Row.next_word" = true) (k7 : PySem.W.keepIn K (.ref f7) = true)
    (a8 : PySem.W.findIn K (.ref C_Row) "next_ratio" = some (some (.ref f8))) (i8 : PySem.W.isFn K (.ref f8) = true) (l8 : K.lookup f8 = some ⟨oc8, od8, .func (PySem.W.fnOf "next_ratio" "Row.next_ratio" (defArgs (inClass (topS 22) 3)) (defBody (inClass (topS 22) 3)) (defScope (inClass (topS 22) 3)) .none kV8 dc8 pm8 an8 cd8 ct8), sl8⟩) (c8 : PySem.W.codeIn K cd8 "Row.next_ratio" = true) (k8 : PySem.W.keepIn K (.ref f8) = true)
    (a9 : PySem.W.findIn K (.ref C_Row) "price_behind" = some (some (.ref f9))) (i9 : PySem.W.isFn K (.ref f9) = true) (l9 : K.lookup f9 = some ⟨oc9, od9, .func (PySem.W.fnOf "price_behind" "Row.price_behind" (defArgs (inClass (topS 22) 4)) (defBody (inClass (topS 22) 4)) (defScope (inClass (topS 22) 4)) .none kV9 dc9 pm9 an9 cd9 ct9), sl9⟩) (c9 : PySem.W.codeIn K cd9 "Row.price_behind" = true) (k9 : PySem.W.keepIn K (.ref f9) = true)
    (a10 : PySem.W.findIn K (.ref C_Row) "event_behind" = some (some (.ref f10))) (i10 : PySem.W.isFn K (.ref f10) = true) (l10 : K.lookup f10 = some ⟨oc10, od10, .func (PySem.W.fnOf "event_behind" "Row.event_behind" (defArgs (inClass (topS 22) 5)) (defBody (inClass (topS 22) 5)) (defScope (inClass (topS 22) 5)) .none kV10 dc10 pm10 an10 cd10 ct10), sl10⟩) (c10 : PySem.W.codeIn K cd10 "Row.event_behind" = true) (k10 : PySem.W.keepIn K (.ref f10) = true)
    (a11 : PySem.W.nsIn K mainGlobals "read_names" = some (some (.ref f11))) (l11 : K.lookup f11 = some ⟨oc11, od11, .func (PySem.W.fnOf "read_names" "read_names" (defArgs (topS 23)) (defBody (topS 23)) (defScope (topS 23)) .none kV11 dc11 pm11 an11 cd11 ct11), sl11⟩) (c11 : PySem.W.codeIn K cd11 "read_names" = true) (k11 : PySem.W.keepIn K (.ref f11) = true)
    (a12 : PySem.W.nsIn K mainGlobals "read_offer" = some (some (.ref f12))) (l12 : K.lookup f12 = some ⟨oc12, od12, .func (PySem.W.fnOf "read_offer" "read_offer" (defArgs (topS 24)) (defBody (topS 24)) (defScope (topS 24)) .none kV12 dc12 pm12 an12 cd12 ct12), sl12⟩) (c12 : PySem.W.codeIn K cd12 "read_offer" = true) (k12 : PySem.W.keepIn K (.ref f12) = true)
    (a13 : PySem.W.nsIn K mainGlobals "read" = some (some (.ref f13))) (l13 : K.lookup f13 = some ⟨oc13, od13, .func (PySem.W.fnOf "read" "read" (defArgs (topS 25)) (defBody (topS 25)) (defScope (topS 25)) .none kV13 dc13 pm13 an13 cd13 ct13), sl13⟩) (c13 : PySem.W.codeIn K cd13 "read" = true) (k13 : PySem.W.keepIn K (.ref f13) = true)
    (a14 : PySem.W.nsIn K mainGlobals "_law_cell" = some (some (.ref f14))) (l14 : K.lookup f14 = some ⟨oc14, od14, .func (PySem.W.fnOf "_law_cell" "_law_cell" (defArgs (topS 27)) (defBody (topS 27)) (defScope (topS 27)) .none kV14 dc14 pm14 an14 cd14 ct14), sl14⟩) (c14 : PySem.W.codeIn K cd14 "_law_cell" = true) (k14 : PySem.W.keepIn K (.ref f14) = true)
    (a15 : PySem.W.nsIn K mainGlobals "_law_whole" = some (some (.ref f15))) (l15 : K.lookup f15 = some ⟨oc15, od15, .func (PySem.W.fnOf "_law_whole" "_law_whole" (defArgs (topS 28)) (defBody (topS 28)) (defScope (topS 28)) .none kV15 dc15 pm15 an15 cd15 ct15), sl15⟩) (c15 : PySem.W.codeIn K cd15 "_law_whole" = true) (k15 : PySem.W.keepIn K (.ref f15) = true)
    (a16 : PySem.W.nsIn K mainGlobals "_law_ratio" = some (some (.ref f16))) (l16 : K.lookup f16 = some ⟨oc16, od16, .func (PySem.W.fnOf "_law_ratio" "_law_ratio" (defArgs (topS 29)) (defBody (topS 29)) (defScope (topS 29)) .none kV16 dc16 pm16 an16 cd16 ct16), sl16⟩) (c16 : PySem.W.codeIn K cd16 "_law_ratio" = true) (k16 : PySem.W.keepIn K (.ref f16) = true)
    (a17 : PySem.W.nsIn K mainGlobals "_law_bag" = some (some (.ref f17))) (l17 : K.lookup f17 = some ⟨oc17, od17, .func (PySem.W.fnOf "_law_bag" "_law_bag" (defArgs (topS 31)) (defBody (topS 31)) (defScope (topS 31)) .none kV17 dc17 pm17 an17 cd17 ct17), sl17⟩) (c17 : PySem.W.codeIn K cd17 "_law_bag" = true) (k17 : PySem.W.keepIn K (.ref f17) = true)
    (a18 : PySem.W.nsIn K mainGlobals "_law_take" = some (some (.ref f18))) (l18 : K.lookup f18 = some ⟨oc18, od18, .func (PySem.W.fnOf "_law_take" "_law_take" (defArgs (topS 32)) (defBody (topS 32)) (defScope (topS 32)) .none kV18 dc18 pm18 an18 cd18 ct18), sl18⟩) (c18 : PySem.W.codeIn K cd18 "_law_take" = true) (k18 : PySem.W.keepIn K (.ref f18) = true)
    (a19 : PySem.W.nsIn K mainGlobals "_law_letters" = some (some (.ref f19))) (l19 : K.lookup f19 = some ⟨oc19, od19, .func (PySem.W.fnOf "_law_letters" "_law_letters" (defArgs (topS 33)) (defBody (topS 33)) (defScope (topS 33)) .none kV19 dc19 pm19 an19 cd19 ct19), sl19⟩) (c19 : PySem.W.codeIn K cd19 "_law_letters" = true) (k19 : PySem.W.keepIn K (.ref f19) = true)
    (a20 : PySem.W.nsIn K mainGlobals "_law_names" = some (some (.ref f20))) (l20 : K.lookup f20 = some ⟨oc20, od20, .func (PySem.W.fnOf "_law_names" "_law_names" (defArgs (topS 34)) (defBody (topS 34)) (defScope (topS 34)) .none kV20 dc20 pm20 an20 cd20 ct20), sl20⟩) (c20 : PySem.W.codeIn K cd20 "_law_names" = true) (k20 : PySem.W.keepIn K (.ref f20) = true)
    (a21 : PySem.W.nsIn K mainGlobals "_law_part" = some (some (.ref f21))) (l21 : K.lookup f21 = some ⟨oc21, od21, .func (PySem.W.fnOf "_law_part" "_law_part" (defArgs (topS 35)) (defBody (topS 35)) (defScope (topS 35)) .none kV21 dc21 pm21 an21 cd21 ct21), sl21⟩) (c21 : PySem.W.codeIn K cd21 "_law_part" = true) (k21 : PySem.W.keepIn K (.ref f21) = true)
    (a22 : PySem.W.nsIn K mainGlobals "_law_any_offer" = some (some (.ref f22))) (l22 : K.lookup f22 = some ⟨oc22, od22, .func (PySem.W.fnOf "_law_any_offer" "_law_any_offer" (defArgs (topS 36)) (defBody (topS 36)) (defScope (topS 36)) .none kV22 dc22 pm22 an22 cd22 ct22), sl22⟩) (c22 : PySem.W.codeIn K cd22 "_law_any_offer" = true) (k22 : PySem.W.keepIn K (.ref f22) = true)
    (a23 : PySem.W.nsIn K mainGlobals "_law_show" = some (some (.ref f23))) (l23 : K.lookup f23 = some ⟨oc23, od23, .func (PySem.W.fnOf "_law_show" "_law_show" (defArgs (topS 37)) (defBody (topS 37)) (defScope (topS 37)) .none kV23 dc23 pm23 an23 cd23 ct23), sl23⟩) (c23 : PySem.W.codeIn K cd23 "_law_show" = true) (k23 : PySem.W.keepIn K (.ref f23) = true)
    (a24 : PySem.W.nsIn K mainGlobals "_law_line" = some (some (.ref f24))) (l24 : K.lookup f24 = some ⟨oc24, od24, .func (PySem.W.fnOf "_law_line" "_law_line" (defArgs (topS 38)) (defBody (topS 38)) (defScope (topS 38)) .none kV24 dc24 pm24 an24 cd24 ct24), sl24⟩) (c24 : PySem.W.codeIn K cd24 "_law_line" = true) (k24 : PySem.W.keepIn K (.ref f24) = true)
    (a25 : PySem.W.nsIn K mainGlobals "_law_lines" = some (some (.ref f25))) (l25 : K.lookup f25 = some ⟨oc25, od25, .func (PySem.W.fnOf "_law_lines" "_law_lines" (defArgs (topS 39)) (defBody (topS 39)) (defScope (topS 39)) .none kV25 dc25 pm25 an25 cd25 ct25), sl25⟩) (c25 : PySem.W.codeIn K cd25 "_law_lines" = true) (k25 : PySem.W.keepIn K (.ref f25) = true)
    (a26 : PySem.W.nsIn K mainGlobals "_law_bad_words" = some (some (.ref f26))) (l26 : K.lookup f26 = some ⟨oc26, od26, .func (PySem.W.fnOf "_law_bad_words" "_law_bad_words" (defArgs (topS 40)) (defBody (topS 40)) (defScope (topS 40)) .none kV26 dc26 pm26 an26 cd26 ct26), sl26⟩) (c26 : PySem.W.codeIn K cd26 "_law_bad_words" = true) (k26 : PySem.W.keepIn K (.ref f26) = true)
    (a27 : PySem.W.nsIn K mainGlobals "_law_bad_line" = some (some (.ref f27))) (l27 : K.lookup f27 = some ⟨oc27, od27, .func (PySem.W.fnOf "_law_bad_line" "_law_bad_line" (defArgs (topS 41)) (defBody (topS 41)) (defScope (topS 41)) .none kV27 dc27 pm27 an27 cd27 ct27), sl27⟩) (c27 : PySem.W.codeIn K cd27 "_law_bad_line" = true) (k27 : PySem.W.keepIn K (.ref f27) = true)
    (a28 : PySem.W.nsIn K mainGlobals "_law_bad_heads" = some (some (.ref f28))) (l28 : K.lookup f28 = some ⟨oc28, od28, .func (PySem.W.fnOf "_law_bad_heads" "_law_bad_heads" (defArgs (topS 42)) (defBody (topS 42)) (defScope (topS 42)) .none kV28 dc28 pm28 an28 cd28 ct28), sl28⟩) (c28 : PySem.W.codeIn K cd28 "_law_bad_heads" = true) (k28 : PySem.W.keepIn K (.ref f28) = true)
    (a29 : PySem.W.nsIn K mainGlobals "_law_refusal" = some (some (.ref f29))) (l29 : K.lookup f29 = some ⟨oc29, od29, .func (PySem.W.fnOf "_law_refusal" "_law_refusal" (defArgs (topS 43)) (defBody (topS 43)) (defScope (topS 43)) .none kV29 dc29 pm29 an29 cd29 ct29), sl29⟩) (c29 : PySem.W.codeIn K cd29 "_law_refusal" = true) (k29 : PySem.W.keepIn K (.ref f29) = true)
    (a30 : PySem.W.nsIn K mainGlobals "_law_refused" = some (some (.ref f30))) (l30 : K.lookup f30 = some ⟨oc30, od30, .func (PySem.W.fnOf "_law_refused" "_law_refused" (defArgs (topS 44)) (defBody (topS 44)) (defScope (topS 44)) .none kV30 dc30 pm30 an30 cd30 ct30), sl30⟩) (c30 : PySem.W.codeIn K cd30 "_law_refused" = true) (k30 : PySem.W.keepIn K (.ref f30) = true)
    (a31 : PySem.W.nsIn K mainGlobals "_law_spoilt_good" = some (some (.ref f31))) (l31 : K.lookup f31 = some ⟨oc31, od31, .func (PySem.W.fnOf "_law_spoilt_good" "_law_spoilt_good" (defArgs (topS 45)) (defBody (topS 45)) (defScope (topS 45)) .none kV31 dc31 pm31 an31 cd31 ct31), sl31⟩) (c31 : PySem.W.codeIn K cd31 "_law_spoilt_good" = true) (k31 : PySem.W.keepIn K (.ref f31) = true)
    (a32 : PySem.W.nsIn K mainGlobals "law" = some (some (.ref f32))) (l32 : K.lookup f32 = some ⟨oc32, od32, .func (PySem.W.fnOf "law" "law" (defArgs (topS 46)) (defBody (topS 46)) (defScope (topS 46)) .none kV32 dc32 pm32 an32 cd32 ct32), sl32⟩) (c32 : PySem.W.codeIn K cd32 "law" = true) (k32 : PySem.W.keepIn K (.ref f32) = true)
    (z_ValueError : PySem.W.nsIn K mainGlobals "ValueError" = some none)
    (z_abs : PySem.W.nsIn K mainGlobals "abs" = some none)
    (z_bool : PySem.W.nsIn K mainGlobals "bool" = some none)
    (z_int : PySem.W.nsIn K mainGlobals "int" = some none)
    (z_isinstance : PySem.W.nsIn K mainGlobals "isinstance" = some none)
    (z_len : PySem.W.nsIn K mainGlobals "len" = some none)
    (z_range : PySem.W.nsIn K mainGlobals "range" = some none)
    (z_str : PySem.W.nsIn K mainGlobals "str" = some none)
    (z_tuple : PySem.W.nsIn K mainGlobals "tuple" = some none)
    (ak_FIGURES : PySem.W.nsIn K mainGlobals "FIGURES" = some (some (.str (Str.ofString "0123456789") tk_FIGURES)))
    (ak_LETTERS : PySem.W.nsIn K mainGlobals "LETTERS" = some (some (.str (Str.ofString "abcdefghijklmnopqrstuvwxyz") tk_LETTERS)))
    (ak_MOST_FIGURES : PySem.W.nsIn K mainGlobals "MOST_FIGURES" = some (some (.int 30 tk_MOST_FIGURES)))
    (ak_MOST_LETTERS : PySem.W.nsIn K mainGlobals "MOST_LETTERS" = some (some (.int 8 tk_MOST_LETTERS)))
    (ak_MOST_OFFERS : PySem.W.nsIn K mainGlobals "MOST_OFFERS" = some (some (.int 12 tk_MOST_OFFERS)))
    (ak_MOST_WORLDS : PySem.W.nsIn K mainGlobals "MOST_WORLDS" = some (some (.int 12 tk_MOST_WORLDS))) :
    ∃ fd : FuncData, (∀ (s : Shared) (v : Value), BindsTo s fd ⟨[v], []⟩ [("_law_script", v)]) ∧ ∀ base : Heap, K.In base → base.Ns mainGlobals mg → FnOk l.prog w K mg base CX0 12 fa fd ["_law_script"] (Prom K sp_law_k49) := by
  have e := hfa.symm.trans (PySem.W.mg_of X G a32)
  cases e
  have T : Tx K mg ⟨X_NoChance, X_NoFair, X_NoName, X_NoRatio, X_NoRow, X_NoText, X_SureError, fI_NoText, (PySem.W.fnOf "__init__" "NoText.__init__" (defArgs (inClass (topS 5) 0)) (defBody (inClass (topS 5) 0)) (defScope (inClass (topS 5) 0)) .none kVI_NoText dcI_NoText pmI_NoText anI_NoText cdI_NoText ctI_NoText), f0, (PySem.W.fnOf "common" "common" (defArgs (topS 9)) (defBody (topS 9)) (defScope (topS 9)) .none kV0 dc0 pm0 an0 cd0 ct0), f1, (PySem.W.fnOf "ratio" "ratio" (defArgs (topS 10)) (defBody (topS 10)) (defScope (topS 10)) .none kV1 dc1 pm1 an1 cd1 ct1), f2, (PySem.W.fnOf "is_name" "is_name" (defArgs (topS 16)) (defBody (topS 16)) (defScope (topS 16)) .none kV2 dc2 pm2 an2 cd2 ct2), f3, (PySem.W.fnOf "is_whole_word" "is_whole_word" (defArgs (topS 17)) (defBody (topS 17)) (defScope (topS 17)) .none kV3 dc3 pm3 an3 cd3 ct3), f4, (PySem.W.fnOf "read_ratio" "read_ratio" (defArgs (topS 18)) (defBody (topS 18)) (defScope (topS 18)) .none kV4 dc4 pm4 an4 cd4 ct4), f5, (PySem.W.fnOf "__init__" "Row.__init__" (defArgs (inClass (topS 22) 0)) (defBody (inClass (topS 22) 0)) (defScope (inClass (topS 22) 0)) .none kV5 dc5 pm5 an5 cd5 ct5), f6, (PySem.W.fnOf "refuse" "Row.refuse" (defArgs (inClass (topS 22) 1)) (defBody (inClass (topS 22) 1)) (defScope (inClass (topS 22) 1)) .none kV6 dc6 pm6 an6 cd6 ct6), f7, (PySem.W.fnOf "next_word" "Row.next_word" (defArgs (inClass (topS 22) 2)) (defBody (inClass (topS 22) 2)) (defScope (inClass (topS 22) 2)) .none kV7 dc7 pm7 an7 cd7 ct7), f8, (PySem.W.fnOf "next_ratio" "Row.next_ratio" (defArgs (inClass (topS 22) 3)) (defBody (inClass (topS 22) 3)) (defScope (inClass (topS 22) 3)) .none kV8 dc8 pm8 an8 cd8 ct8), f9, (PySem.W.fnOf "price_behind" "Row.price_behind" (defArgs (inClass (topS 22) 4)) (defBody (inClass (topS 22) 4)) (defScope (inClass (topS 22) 4)) .none kV9 dc9 pm9 an9 cd9 ct9), f10, (PySem.W.fnOf "event_behind" "Row.event_behind" (defArgs (inClass (topS 22) 5)) (defBody (inClass (topS 22) 5)) (defScope (inClass (topS 22) 5)) .none kV10 dc10 pm10 an10 cd10 ct10), f11, (PySem.W.fnOf "read_names" "read_names" (defArgs (topS 23)) (defBody (topS 23)) (defScope (topS 23)) .none kV11 dc11 pm11 an11 cd11 ct11), f12, (PySem.W.fnOf "read_offer" "read_offer" (defArgs (topS 24)) (defBody (topS 24)) (defScope (topS 24)) .none kV12 dc12 pm12 an12 cd12 ct12), f13, (PySem.W.fnOf "read" "read" (defArgs (topS 25)) (defBody (topS 25)) (defScope (topS 25)) .none kV13 dc13 pm13 an13 cd13 ct13), f14, (PySem.W.fnOf "_law_cell" "_law_cell" (defArgs (topS 27)) (defBody (topS 27)) (defScope (topS 27)) .none kV14 dc14 pm14 an14 cd14 ct14), f15, (PySem.W.fnOf "_law_whole" "_law_whole" (defArgs (topS 28)) (defBody (topS 28)) (defScope (topS 28)) .none kV15 dc15 pm15 an15 cd15 ct15), f16, (PySem.W.fnOf "_law_ratio" "_law_ratio" (defArgs (topS 29)) (defBody (topS 29)) (defScope (topS 29)) .none kV16 dc16 pm16 an16 cd16 ct16), f17, (PySem.W.fnOf "_law_bag" "_law_bag" (defArgs (topS 31)) (defBody (topS 31)) (defScope (topS 31)) .none kV17 dc17 pm17 an17 cd17 ct17), f18, (PySem.W.fnOf "_law_take" "_law_take" (defArgs (topS 32)) (defBody (topS 32)) (defScope (topS 32)) .none kV18 dc18 pm18 an18 cd18 ct18), f19, (PySem.W.fnOf "_law_letters" "_law_letters" (defArgs (topS 33)) (defBody (topS 33)) (defScope (topS 33)) .none kV19 dc19 pm19 an19 cd19 ct19), f20, (PySem.W.fnOf "_law_names" "_law_names" (defArgs (topS 34)) (defBody (topS 34)) (defScope (topS 34)) .none kV20 dc20 pm20 an20 cd20 ct20), f21, (PySem.W.fnOf "_law_part" "_law_part" (defArgs (topS 35)) (defBody (topS 35)) (defScope (topS 35)) .none kV21 dc21 pm21 an21 cd21 ct21), f22, (PySem.W.fnOf "_law_any_offer" "_law_any_offer" (defArgs (topS 36)) (defBody (topS 36)) (defScope (topS 36)) .none kV22 dc22 pm22 an22 cd22 ct22), f23, (PySem.W.fnOf "_law_show" "_law_show" (defArgs (topS 37)) (defBody (topS 37)) (defScope (topS 37)) .none kV23 dc23 pm23 an23 cd23 ct23), f24, (PySem.W.fnOf "_law_line" "_law_line" (defArgs (topS 38)) (defBody (topS 38)) (defScope (topS 38)) .none kV24 dc24 pm24 an24 cd24 ct24), f25, (PySem.W.fnOf "_law_lines" "_law_lines" (defArgs (topS 39)) (defBody (topS 39)) (defScope (topS 39)) .none kV25 dc25 pm25 an25 cd25 ct25), f26, (PySem.W.fnOf "_law_bad_words" "_law_bad_words" (defArgs (topS 40)) (defBody (topS 40)) (defScope (topS 40)) .none kV26 dc26 pm26 an26 cd26 ct26), f27, (PySem.W.fnOf "_law_bad_line" "_law_bad_line" (defArgs (topS 41)) (defBody (topS 41)) (defScope (topS 41)) .none kV27 dc27 pm27 an27 cd27 ct27), f28, (PySem.W.fnOf "_law_bad_heads" "_law_bad_heads" (defArgs (topS 42)) (defBody (topS 42)) (defScope (topS 42)) .none kV28 dc28 pm28 an28 cd28 ct28), f29, (PySem.W.fnOf "_law_refusal" "_law_refusal" (defArgs (topS 43)) (defBody (topS 43)) (defScope (topS 43)) .none kV29 dc29 pm29 an29 cd29 ct29), f30, (PySem.W.fnOf "_law_refused" "_law_refused" (defArgs (topS 44)) (defBody (topS 44)) (defScope (topS 44)) .none kV30 dc30 pm30 an30 cd30 ct30), f31, (PySem.W.fnOf "_law_spoilt_good" "_law_spoilt_good" (defArgs (topS 45)) (defBody (topS 45)) (defScope (topS 45)) .none kV31 dc31 pm31 an31 cd31 ct31), fa, (PySem.W.fnOf "law" "law" (defArgs (topS 46)) (defBody (topS 46)) (defScope (topS 46)) .none kV32 dc32 pm32 an32 cd32 ct32), tk_FIGURES, tk_LETTERS, tk_MOST_FIGURES, tk_MOST_LETTERS, tk_MOST_OFFERS, tk_MOST_WORLDS, C_Row⟩ := ⟨PySem.W.mg_of X G aX_NoChance,
    PySem.W.mg_of X G aX_NoFair,
    PySem.W.mg_of X G aX_NoName,
    PySem.W.mg_of X G aX_NoRatio,
    PySem.W.mg_of X G aX_NoRow,
    PySem.W.mg_of X G aX_NoText,
    PySem.W.mg_of X G aX_SureError,
    xcat_cons aX_NoText (exm_two bX_SureError iX_SureError tX_SureError sX_NoText_SureError) (xcat_nil (PySem.W.mg_of X G aX_SureError)),
    ⟨fga_NoText, fgg_NoText, bX_NoText, fhd_NoText⟩,
    aX_NoText,
    ⟨fga_NoText, fgg_NoText, bX_NoText, fhd_NoText, eha_NoText, ehn, eht, ehm_NoText⟩,
    essX_NoText,
    iX_NoChance,
    tX_NoChance,
    iX_NoFair,
    tX_NoFair,
    iX_NoName,
    tX_NoName,
    iX_NoRatio,
    tX_NoRatio,
    iX_NoRow,
    tX_NoRow,
    iX_NoText,
    tX_NoText,
    esX_NoText_NoChance,
    esX_NoText_NoFair,
    esX_NoText_NoName,
    esX_NoText_NoRatio,
    esX_NoText_NoRow,
    esX_NoText_NoText,
    ebX_NoText_ValueError,
    ⟨rd_SureError, ga_SureError, vi_SureError⟩,
    ⟨aX_NoText, ⟨⟨_, _, _, _, _, _, _, _, _, _, _, _, _, _, _, lX_NoText, by rfl⟩, saX_NoText, bX_NoText, tX_NoText, kX_NoText⟩, aI_NoText, tI_NoText, nX_NoText⟩,
    fun_mk (st := (inClass (topS 5) 0)) lI_NoText cI_NoText kI_NoText,
    (fun_mk (st := (inClass (topS 5) 0)) lI_NoText cI_NoText kI_NoText).binds (ps := ["self", "at"]) (fun _ _ _ _ _ _ us hl => match us, hl with | [_, _], _ => rfl),
    fun_mk (st := (topS 9)) l0 c0 k0,
    (fun_mk (st := (topS 9)) l0 c0 k0).binds (ps := ["one", "other"]) (fun _ _ _ _ _ _ us hl => match us, hl with | [_, _], _ => rfl),
    PySem.W.mg_of X G a0,
    fun_mk (st := (topS 10)) l1 c1 k1,
    (fun_mk (st := (topS 10)) l1 c1 k1).binds (ps := ["top", "bottom"]) (fun _ _ _ _ _ _ us hl => match us, hl with | [_, _], _ => rfl),
    PySem.W.mg_of X G a1,
    fun_mk (st := (topS 16)) l2 c2 k2,
    (fun_mk (st := (topS 16)) l2 c2 k2).binds (ps := ["word"]) (fun _ _ _ _ _ _ us hl => match us, hl with | [_], _ => rfl),
    PySem.W.mg_of X G a2,
    fun_mk (st := (topS 17)) l3 c3 k3,
    (fun_mk (st := (topS 17)) l3 c3 k3).binds (ps := ["word"]) (fun _ _ _ _ _ _ us hl => match us, hl with | [_], _ => rfl),
    PySem.W.mg_of X G a3,
    fun_mk (st := (topS 18)) l4 c4 k4,
    (fun_mk (st := (topS 18)) l4 c4 k4).binds (ps := ["text"]) (fun _ _ _ _ _ _ us hl => match us, hl with | [_], _ => rfl),
    PySem.W.mg_of X G a4,
    fun_mk (st := (inClass (topS 22) 0)) l5 c5 k5,
    (fun_mk (st := (inClass (topS 22) 0)) l5 c5 k5).binds (ps := ["self", "text", "at"]) (fun _ _ _ _ _ _ us hl => match us, hl with | [_, _, _], _ => rfl),
    ⟨mk_Row, a5, i5, kc_Row⟩,
    fun_mk (st := (inClass (topS 22) 1)) l6 c6 k6,
    (fun_mk (st := (inClass (topS 22) 1)) l6 c6 k6).binds (ps := ["self"]) (fun _ _ _ _ _ _ us hl => match us, hl with | [_], _ => rfl),
    ⟨a6, i6, k6⟩,
    fun_mk (st := (inClass (topS 22) 2)) l7 c7 k7,
    (fun_mk (st := (inClass (topS 22) 2)) l7 c7 k7).binds (ps := ["self"]) (fun _ _ _ _ _ _ us hl => match us, hl with | [_], _ => rfl),
    ⟨a7, i7, k7⟩,
    fun_mk (st := (inClass (topS 22) 3)) l8 c8 k8,
    (fun_mk (st := (inClass (topS 22) 3)) l8 c8 k8).binds (ps := ["self"]) (fun _ _ _ _ _ _ us hl => match us, hl with | [_], _ => rfl),
    ⟨a8, i8, k8⟩,
    fun_mk (st := (inClass (topS 22) 4)) l9 c9 k9,
    (fun_mk (st := (inClass (topS 22) 4)) l9 c9 k9).binds (ps := ["self", "word"]) (fun _ _ _ _ _ _ us hl => match us, hl with | [_, _], _ => rfl),
    ⟨a9, i9, k9⟩,
    fun_mk (st := (inClass (topS 22) 5)) l10 c10 k10,
    (fun_mk (st := (inClass (topS 22) 5)) l10 c10 k10).binds (ps := ["self", "names"]) (fun _ _ _ _ _ _ us hl => match us, hl with | [_, _], _ => rfl),
    ⟨a10, i10, k10⟩,
    fun_mk (st := (topS 23)) l11 c11 k11,
    (fun_mk (st := (topS 23)) l11 c11 k11).binds (ps := ["text"]) (fun _ _ _ _ _ _ us hl => match us, hl with | [_], _ => rfl),
    PySem.W.mg_of X G a11,
    fun_mk (st := (topS 24)) l12 c12 k12,
    (fun_mk (st := (topS 24)) l12 c12 k12).binds (ps := ["names", "text", "at"]) (fun _ _ _ _ _ _ us hl => match us, hl with | [_, _, _], _ => rfl),
    PySem.W.mg_of X G a12,
    fun_mk (st := (topS 25)) l13 c13 k13,
    (fun_mk (st := (topS 25)) l13 c13 k13).binds (ps := ["text"]) (fun _ _ _ _ _ _ us hl => match us, hl with | [_], _ => rfl),
    PySem.W.mg_of X G a13,
    fun_mk (st := (topS 27)) l14 c14 k14,
    (fun_mk (st := (topS 27)) l14 c14 k14).binds (ps := ["_law_script", "_law_k"]) (fun _ _ _ _ _ _ us hl => match us, hl with | [_, _], _ => rfl),
    PySem.W.mg_of X G a14,
    fun_mk (st := (topS 28)) l15 c15 k15,
    (fun_mk (st := (topS 28)) l15 c15 k15).binds (ps := ["_law_found"]) (fun _ _ _ _ _ _ us hl => match us, hl with | [_], _ => rfl),
    PySem.W.mg_of X G a15,
    fun_mk (st := (topS 29)) l16 c16 k16,
    (fun_mk (st := (topS 29)) l16 c16 k16).binds (ps := ["_law_top", "_law_bottom"]) (fun _ _ _ _ _ _ us hl => match us, hl with | [_, _], _ => rfl),
    PySem.W.mg_of X G a16,
    fun_mk (st := (topS 31)) l17 c17 k17,
    (fun_mk (st := (topS 31)) l17 c17 k17).binds (ps := ["_law_cell_here"]) (fun _ _ _ _ _ _ us hl => match us, hl with | [_], _ => rfl),
    PySem.W.mg_of X G a17,
    fun_mk (st := (topS 32)) l18 c18 k18,
    (fun_mk (st := (topS 32)) l18 c18 k18).binds (ps := ["_law_bag_here", "_law_many"]) (fun _ _ _ _ _ _ us hl => match us, hl with | [_, _], _ => rfl),
    PySem.W.mg_of X G a18,
    fun_mk (st := (topS 33)) l19 c19 k19,
    (fun_mk (st := (topS 33)) l19 c19 k19).binds (ps := ["_law_bag_here", "_law_most"]) (fun _ _ _ _ _ _ us hl => match us, hl with | [_, _], _ => rfl),
    PySem.W.mg_of X G a19,
    fun_mk (st := (topS 34)) l20 c20 k20,
    (fun_mk (st := (topS 34)) l20 c20 k20).binds (ps := ["_law_bag_here", "_law_count"]) (fun _ _ _ _ _ _ us hl => match us, hl with | [_, _], _ => rfl),
    PySem.W.mg_of X G a20,
    fun_mk (st := (topS 35)) l21 c21 k21,
    (fun_mk (st := (topS 35)) l21 c21 k21).binds (ps := ["_law_bag_here"]) (fun _ _ _ _ _ _ us hl => match us, hl with | [_], _ => rfl),
    PySem.W.mg_of X G a21,
    fun_mk (st := (topS 36)) l22 c22 k22,
    (fun_mk (st := (topS 36)) l22 c22 k22).binds (ps := ["_law_bag_here", "_law_count"]) (fun _ _ _ _ _ _ us hl => match us, hl with | [_, _], _ => rfl),
    PySem.W.mg_of X G a22,
    fun_mk (st := (topS 37)) l23 c23 k23,
    (fun_mk (st := (topS 37)) l23 c23 k23).binds (ps := ["_law_one"]) (fun _ _ _ _ _ _ us hl => match us, hl with | [_], _ => rfl),
    PySem.W.mg_of X G a23,
    fun_mk (st := (topS 38)) l24 c24 k24,
    (fun_mk (st := (topS 38)) l24 c24 k24).binds (ps := ["_law_names_here", "_law_offer"]) (fun _ _ _ _ _ _ us hl => match us, hl with | [_, _], _ => rfl),
    PySem.W.mg_of X G a24,
    fun_mk (st := (topS 39)) l25 c25 k25,
    (fun_mk (st := (topS 39)) l25 c25 k25).binds (ps := ["_law_names_here", "_law_offers"]) (fun _ _ _ _ _ _ us hl => match us, hl with | [_, _], _ => rfl),
    PySem.W.mg_of X G a25,
    fun_mk (st := (topS 40)) l26 c26 k26,
    (fun_mk (st := (topS 40)) l26 c26 k26).binds (ps := ["_law_big"]) (fun _ _ _ _ _ _ us hl => match us, hl with | [_], _ => rfl),
    PySem.W.mg_of X G a26,
    fun_mk (st := (topS 41)) l27 c27 k27,
    (fun_mk (st := (topS 41)) l27 c27 k27).binds (ps := ["_law_bag_here", "_law_names_here", "_law_big"]) (fun _ _ _ _ _ _ us hl => match us, hl with | [_, _, _], _ => rfl),
    PySem.W.mg_of X G a27,
    fun_mk (st := (topS 42)) l28 c28 k28,
    (fun_mk (st := (topS 42)) l28 c28 k28).binds (ps := ["_law_names_here"]) (fun _ _ _ _ _ _ us hl => match us, hl with | [_], _ => rfl),
    PySem.W.mg_of X G a28,
    fun_mk (st := (topS 43)) l29 c29 k29,
    (fun_mk (st := (topS 43)) l29 c29 k29).binds (ps := ["_law_text"]) (fun _ _ _ _ _ _ us hl => match us, hl with | [_], _ => rfl),
    PySem.W.mg_of X G a29,
    fun_mk (st := (topS 44)) l30 c30 k30,
    (fun_mk (st := (topS 44)) l30 c30 k30).binds (ps := ["_law_text", "_law_at"]) (fun _ _ _ _ _ _ us hl => match us, hl with | [_, _], _ => rfl),
    PySem.W.mg_of X G a30,
    fun_mk (st := (topS 45)) l31 c31 k31,
    (fun_mk (st := (topS 45)) l31 c31 k31).binds (ps := ["_law_bag_here", "_law_names_here", "_law_offers", "_law_big"]) (fun _ _ _ _ _ _ us hl => match us, hl with | [_, _, _, _], _ => rfl),
    PySem.W.mg_of X G a31,
    fun_mk (st := (topS 46)) l32 c32 k32,
    (fun_mk (st := (topS 46)) l32 c32 k32).binds (ps := ["_law_script"]) (fun _ _ _ _ _ _ us hl => match us, hl with | [_], _ => rfl),
    PySem.W.mg_of X G a32,
    ⟨aC_Row, ⟨pg_Row, hd_Row, po_Row, sa_Row⟩⟩,
    PySem.W.mg_of X G aC_Row,
    n_Row_rest,
    n_Row_at,
    PySem.W.mg_none_of X G z_ValueError,
    PySem.W.mg_none_of X G z_abs,
    PySem.W.mg_none_of X G z_bool,
    PySem.W.mg_none_of X G z_int,
    PySem.W.mg_none_of X G z_isinstance,
    PySem.W.mg_none_of X G z_len,
    PySem.W.mg_none_of X G z_range,
    PySem.W.mg_none_of X G z_str,
    PySem.W.mg_none_of X G z_tuple,
    PySem.W.mg_of X G ak_FIGURES,
    PySem.W.mg_of X G ak_LETTERS,
    PySem.W.mg_of X G ak_MOST_FIGURES,
    PySem.W.mg_of X G ak_MOST_LETTERS,
    PySem.W.mg_of X G ak_MOST_OFFERS,
    PySem.W.mg_of X G ak_MOST_WORLDS⟩
  exact ⟨_, fun s v => .of_eq rfl, fun base _ _ => T.ok_law.ok⟩
end SB
theorem PySem.Challenge.cw_surebook_k49_texts_refused_holds : PySem.Challenge.rw_surebook_k49_texts_refused.Holds :=
  SB.early (fun K => SB.Prom K SB.sp_law_k49) (fun _ _ _ _ hl hb _ hS => SB.law_start hl hb hS) @SB.all_mk
