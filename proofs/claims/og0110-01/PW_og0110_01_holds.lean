import PyProof.Rows.All
import Wide.All
import OpenK.AllK
import Wide.FinOn
import Open.Split
import PyProof.InstStoreFacts
import PyProof.Rows.SortShellK
import PyProof.Rows.SortKeyStr
import Lean
import PySem.Challenge.RW_og0110_01
section
open PySem PySem.W PyProof.Rows
set_option Elab.async false
set_option maxRecDepth 100000
set_option maxHeartbeats 8000000
namespace Og
section
local macro_rules | `(tactic| o_head $_) => `(tactic| contradiction)
theorem hd (x : False) : (PySem.Challenge.rw_og0110_01).row.Holds := by
  k_head
end
end Og

end

section
namespace Og
-- tactics as data: a small reader of words, last in first out
def rpnNd (p : String) (st : List Lean.Syntax) (w : String) : List Lean.Syntax :=
  let n := ((w.drop 1).toString.front).toNat - 48
  Lean.Syntax.node .none (p ++ (w.drop 2).toString).toName (st.take n).reverse.toArray :: st.drop n
def rpnStep (hs : Array Lean.Syntax) (st : List Lean.Syntax) (w : String) : List Lean.Syntax :=
  let r := (w.drop 1).toString
  let c := w.front
  if c == 'a' then .atom .none r :: st
  else if c == 'i' then Lean.mkIdent r.toName :: st
  else if c == 'h' then (hs[r.front.toNat - 48]?.getD .missing) :: st
  else if c == 'S' then (st.take 2).reverse ++ st.drop 2
  else rpnNd (if c == 'T' then "Lean.Parser.Tactic." else if c == 'P' then "Lean.Parser.Term." else "") st w
def rpnFind (k : String) : List String → Option String
  | a :: b :: r => if a == k then some b else rpnFind k r
  | _ => none
def rpnEx : String := "q~N1null T1tacticSeq1Indented T1tacticSeq~f~arefine S T2refine~x~aexact S T2exact~r~awith_reducible S T2withReducible~b~aby S P2byTactic~|~a| S N2group~@~P2app~_~a_ P1hole~?~a? a_ P2syntheticHole"
def rpn (hs : Array Lean.Syntax) (s : String) : Lean.Syntax :=
  let ex := rpnEx.splitOn "~"
  (((s.splitOn " ").flatMap fun w => if w.utf8ByteSize == 1 then ((rpnFind w ex).getD w).splitOn " " else [w]).foldl (rpnStep hs) []).head?.getD .missing
def rpnKs : String := "?~_~akernel_rfl N1tacticKernel_rfl q b~awith_unfolding_all arfl T1tacticRfl q T2withUnfoldingAll q b~adecide N0null T1optConfig T2decide q b~adecide a+ ikernel T2posConfigItem T1configItem N1null T1optConfig T2decide q b~ak_is N1PySem.W.tacticK_is q b~arepeat a( afirst iList.Mem.head _ N1null @ x q | iList.Mem.tail _ ? N2null @ f q | N2null T2first q a) T3paren q T2tacticRepeat_ q b~arepeat a( afirst aassumption T1assumption q | iList.mem_cons_self x q | iList.mem_cons_of_mem _ ? N2null @ f q | N3null T2first q a) T3paren q T2tacticRepeat_ q b~arepeat a( afirst ilk_hd x q | ilk_tl akernel_rfl N1tacticKernel_rfl q b ? N2null @ f q | N2null T2first q a) T3paren q T2tacticRepeat_ q r q b~a( ikd ? N1null @ f a; adecide a+ ikernel T2posConfigItem T1configItem N1null T1optConfig T2decide N3null T1tacticSeq1Indented T1tacticSeq a) T3paren q b~afirst arfl T1tacticRfl q | awith_unfolding_all arfl T1tacticRfl q T2withUnfoldingAll q | N2null T2first q b~a( aintro ihh N1null T2intro a; acases N0null ihh T2elimTarget N1null N0null N0null T4cases N3null T1tacticSeq1Indented T1tacticSeq a) T3paren q b~a( aintro _ N1null T2intro a; akernel_rfl N1tacticKernel_rfl N3null T1tacticSeq1Indented T1tacticSeq a) T3paren q b~aboot_by_name N1PyProof.Rows.tacticBoot_by_name q b~aassumption T1assumption q b~iSite.kn iZ N1null @~iSite.hh iZ N1null @~arepeat a( afirst im1 x q | im2 x q | im3 x q | aapply itAt.tl T2apply q r q | N4null T2first q a) T3paren q T2tacticRepeat_ q b~arepeat a( afirst ilk_hd x q | ilk_tl akernel_rfl N1tacticKernel_rfl q b ? N2null @ f q | il1 x q | il2 x q | il3 x q | il4 x q | il5 x q | il6 x q | il7 x q | il8 x q | il9 x q | il0 x q | N<null T2first q a) T3paren q T2tacticRepeat_ q r q b~arepeat a( afirst ic1 x q | ic2 x q | ic3 x q | iList.Mem.head _ N1null @ x q | iList.Mem.tail _ ? N2null @ f q | N5null T2first q a) T3paren q T2tacticRepeat_ q b~afirst ik1 x q | ik2 x q | ik3 x q | N3null T2first q b~a⟨ ak_is N1PySem.W.tacticK_is q b a, ak_is N1PySem.W.tacticK_is q b a, ak_is N1PySem.W.tacticK_is q b N5null a⟩ P3anonymousCtor~a⟨ ak_is N1PySem.W.tacticK_is q b a, ak_is N1PySem.W.tacticK_is q b a, ak_is N1PySem.W.tacticK_is q b a, ak_is N1PySem.W.tacticK_is q b N7null a⟩ P3anonymousCtor~iList.cons_ne_nil _ _ N2null @~iNat.le_of_ble_eq_true irfl N1null @~iof_decide_eq_true akernel_rfl N1tacticKernel_rfl q b N1null @~iPyProof.noPylong_small adecide N0null T1optConfig T2decide q b N1null @~iIntMulOk.of_left adecide a+ ikernel T2posConfigItem T1configItem N1null T1optConfig T2decide q b N1null @~afun _ N1null N0null a=> awith_unfolding_all arfl T1tacticRfl q T2withUnfoldingAll q b P4basicFun P2fun~iExpr.Name _ _ N2null @~icompEnvC _ _ _ _ N4null @~iExpr.Attribute _ _ _ N3null @~iExpr.Tuple _ _ _ N3null @~iValue.ref _ N1null @~iValue.bytes _ _ N2null @"
def rpnSm : String := "ogm~arepeat a( afirst iList.Mem.head _ N1null @ x q | iList.Mem.tail _ ? N2null @ f q | N2null T2first q a) T3paren q T2tacticRepeat_~ogr~awith_unfolding_all arfl T1tacticRfl q T2withUnfoldingAll~ogk~akernel_rfl N1tacticKernel_rfl~ogp~arepeat a( afirst aassumption T1assumption q | iList.mem_cons_self x q | iList.mem_cons_of_mem _ ? N2null @ f q | N3null T2first q a) T3paren q T2tacticRepeat_~ogh~arepeat a( afirst ilk_hd x q | ilk_tl akernel_rfl N1tacticKernel_rfl q b ? N2null @ f q | N2null T2first q a) T3paren q T2tacticRepeat_ q r~ogx~a( ikd ? N1null @ f a; adecide a+ ikernel T2posConfigItem T1configItem N1null T1optConfig T2decide N3null T1tacticSeq1Indented T1tacticSeq a) T3paren~ogo~afirst arfl T1tacticRfl q | awith_unfolding_all arfl T1tacticRfl q T2withUnfoldingAll q | N2null T2first~oge~a( aintro ihh N1null T2intro a; acases N0null ihh T2elimTarget N1null N0null N0null T4cases N3null T1tacticSeq1Indented T1tacticSeq a) T3paren~ogf~a( aintro _ N1null T2intro a; akernel_rfl N1tacticKernel_rfl N3null T1tacticSeq1Indented T1tacticSeq a) T3paren~og~a( awalk_at a\"ogs\" N1str N2PyProof.Rows.tacticWalk_at_ a; aall_goals a( atry a( a( a( afirst ioutW ? N1null @ f q r q | ioutQ ? N1null @ f q r q | N2null T2first q a) T3paren q a) T3paren a; a( atry aclear iF iN N2null T2clear q T2tacticTry_ q a) T3paren a; aintro ih it iF iN N4null T2intro N5null T1tacticSeq1Indented T1tacticSeq a) T3paren q T2tacticTry_ q a) T3paren q T2allGoals N3null T1tacticSeq1Indented T1tacticSeq a) T3paren"
def rpnAll : String := "a( a( atry a( afirst iinW iF iN ? N3null @ f q r q | iinQ iF iN ? N3null @ f q r q | N2null T2first q a) T3paren q T2tacticTry_ q a) T3paren a; a( arepeat' a( afirst afirst a( a( afail_if_success a( afail_if_success a( ashow iAs _ _ _ _ iOg.W _ ieval hN hO N2null @ _ N3null @ N5null @ T2show q r q a) T3paren q T2failIfSuccess q a) T3paren q T2failIfSuccess q a) T3paren a; afirst iaCL h7 icO icV h2 h2 h2 h0 N7null @ f q | iaCK h@ h6 h2 h2 h2 h0 N6null @ f q | iaCB h@ h> h6 h2 h2 h5 h2 h0 N8null @ f q | iaCC h3 hD hE h3 h2 h2 h0 N7null @ f q | N4null T2first N3null T1tacticSeq1Indented T1tacticSeq a) T3paren q | a( a( afail_if_success a( afail_if_success a( ashow iAs _ _ _ _ iOg.W _ ieval hN _ N2null @ _ N3null @ N5null @ T2show q r q a) T3paren q T2failIfSuccess q a) T3paren q T2failIfSuccess q a) T3paren a; afirst iaL h5 hC h2 h2 h0 N5null @ f q | iaK h@ h6 h2 h2 h2 h0 N6null @ f q | iaB h@ h> h6 h2 h2 h5 h2 h0 N8null @ f q | iaC h3 hD hE h3 h2 h2 h0 N7null @ f q | iaF h3 hD hE h3 h2 h2 h2 h0 N8null @ f q | N5null T2first N3null T1tacticSeq1Indented T1tacticSeq a) T3paren q | a( a( afail_if_success a( afail_if_success a( ashow iAs _ _ _ _ iOg.W _ ieval _ _ N2null @ _ N3null @ N5null @ T2show q r q a) T3paren q T2failIfSuccess q a) T3paren q T2failIfSuccess q a) T3paren a; afirst iaInt h0 N1null @ f q r q | iaBin h0 N1null @ f q r q | iaMeth h0 h3 N2null @ f q r q | iaCall h0 h2 N2null @ f q r q | iaAttr h0 h5 N2null @ f q r q | iaSub h0 N1null @ f q r q | iaStr h0 N1null @ f q r q | iaByt h0 N1null @ f q r q | iaBool h0 N1null @ f q r q | iaNone h0 N1null @ f q r q | iaBo1 h0 N1null @ f q r q | iaBoA h0 N1null @ f q r q | iaBoO h0 N1null @ f q r q | iaUn h0 N1null @ f q r q | iaIfE h0 N1null @ f q r q | iaCmp h0 h2 N2null @ f q r q | iaTup h0 N1null @ f q r q | iaLst h0 N1null @ f q r q | iaSlice h0 N1null @ f q r q | iaComp h3 h2 h4 h0 h= N5null @ f q r q | a( iaDct h@ h2 h2 h2 hH h4 h0 N7null @ f q r a; aintro id io inz ihdict N4null T2intro N3null T1tacticSeq1Indented T1tacticSeq a) T3paren q | a( iaDct0 h@ h0 N2null @ f q r a; aintro id inz N2null T2intro N3null T1tacticSeq1Indented T1tacticSeq a) T3paren q | NFnull T2first N3null T1tacticSeq1Indented T1tacticSeq a) T3paren q | a( a( afail_if_success a( afail_if_success a( ashow iAs _ _ _ _ iOg.W _ ispliced _ N1null @ _ N3null @ N5null @ T2show q r q a) T3paren q T2failIfSuccess q a) T3paren q T2failIfSuccess q a) T3paren a; afirst isMore h0 h2 N2null @ f q r q | isNone h0 N1null @ f q r q | N2null T2first N3null T1tacticSeq1Indented T1tacticSeq a) T3paren q | a( a( afail_if_success a( afail_if_success a( ashow iAs _ _ _ _ iOg.W _ iexec _ _ N2null @ _ N3null @ N5null @ T2show q r q a) T3paren q T2failIfSuccess q a) T3paren q T2failIfSuccess q a) T3paren a; afirst iaIf h0 N1null @ f q r q | iaRet h0 N1null @ f q r q | iaCompA h3 h3 h2 h4 h0 h= N6null @ f q r q | iaAsg h0 h2 N2null @ f q r q | iaExpr h0 h2 h2 N3null @ f q r q | iaAsg2 hA h0 h3 h3 N4null @ f q r q | iaAsg3 hA h0 h3 h3 N4null @ f q r q | iaAsgT h0 h3 h3 N3null @ f q r q | iaAsgS h0 h2 N2null @ f q r q | iaAsgA h0 h2 N2null @ f q r q | N:null T2first N3null T1tacticSeq1Indented T1tacticSeq a) T3paren q | afirst iaCons h0 N1null @ f q r q | N1null T2first q | afirst iaNil h0 N1null @ f q r q | N1null T2first q | a( a( afail_if_success a( afail_if_success a( ashow iAs _ _ _ _ iOg.W _ iisTrue _ _ _ N3null @ _ N3null @ N5null @ T2show q r q a) T3paren q T2failIfSuccess q a) T3paren q T2failIfSuccess q a) T3paren a; afirst itCmp h0 h2 N2null @ f q r q | itCh2 h0 h2 N2null @ f q r q | itAnd h0 N1null @ f q r q | itAnd0 h0 N1null @ f q r q | itOr h0 N1null @ f q r q | itOr0 h0 N1null @ f q r q | itNot h0 N1null @ f q r q | itPl h0 h2 N2null @ f q r q | N8null T2first N3null T1tacticSeq1Indented T1tacticSeq a) T3paren q | a( a( afail_if_success a( afail_if_success a( ashow iAs _ _ _ _ iBr _ _ _ N3null @ N5null @ T2show q r q a) T3paren q T2failIfSuccess q a) T3paren q T2failIfSuccess q a) T3paren a; afirst ibrT h0 N1null @ f q r q | ibrF h0 N1null @ f q r q | ibrP h5 h0 N2null @ f q r q | ibrN h5 h0 N2null @ f q r q | ibrP h3 h0 N2null @ f q r q | ibrN h3 h0 N2null @ f q r q | N6null T2first N3null T1tacticSeq1Indented T1tacticSeq a) T3paren q | a( a( afail_if_success a( afail_if_success a( ashow iAs _ _ _ _ iOg.W _ icallWith _ _ _ _ _ N5null @ _ N3null @ N5null @ T2show q r q a) T3paren q T2failIfSuccess q a) T3paren q T2failIfSuccess q a) T3paren a; afirst iwK h@ h6 h2 h2 h0 N5null @ f q r q | iwK0 h@ h6 h0 N3null @ f q r q | iwBu h0 h2 h2 N3null @ f q r q | iwTy h0 h2 h2 N3null @ f q r q | iwMe h0 h2 h2 N3null @ f q r q | iwMe0 h0 N1null @ f q r q | N6null T2first N3null T1tacticSeq1Indented T1tacticSeq a) T3paren q | a( a( afail_if_success a( afail_if_success a( ashow iAs _ _ _ _ ikCK _ _ _ _ _ N5null @ N5null @ T2show q r q a) T3paren q T2failIfSuccess q a) T3paren q T2failIfSuccess q a) T3paren a; afirst iwKg h@ h0 N2null @ f q r q | N1null T2first N3null T1tacticSeq1Indented T1tacticSeq a) T3paren q | a( a( afail_if_success a( afail_if_success a( ashow iAs _ _ _ _ iOg.W _ istoreName _ _ _ N3null @ _ N3null @ N5null @ T2show q r q a) T3paren q T2failIfSuccess q a) T3paren q T2failIfSuccess q a) T3paren a; afirst a( iaSC h3 ik1 h: h2 h0 N5null @ f q r a; atry aclear ik1 N1null T2clear q T2tacticTry_ a; aintro io ik1 N2null T2intro N5null T1tacticSeq1Indented T1tacticSeq a) T3paren q | iaS h5 h2 h0 N3null @ f q r q | N2null T2first N3null T1tacticSeq1Indented T1tacticSeq a) T3paren q | a( a( afail_if_success a( afail_if_success a( ashow iAs _ _ _ _ iOg.W _ igetAttr _ _ _ N3null @ _ N3null @ N5null @ T2show q r q a) T3paren q T2failIfSuccess q a) T3paren q T2failIfSuccess q a) T3paren a; afirst iaGA h@ h8 h8 h? h2 hF h0 N7null @ f q r q | N1null T2first N3null T1tacticSeq1Indented T1tacticSeq a) T3paren q | a( a( afail_if_success a( afail_if_success a( ashow iAs _ _ _ _ iOg.W _ itruthy _ N1null @ _ N3null @ N5null @ T2show q r q a) T3paren q T2failIfSuccess q a) T3paren q T2failIfSuccess q a) T3paren a; afirst itB h0 N1null @ f q r q | N1null T2first N3null T1tacticSeq1Indented T1tacticSeq a) T3paren q | a( a( afail_if_success a( afail_if_success a( ashow iAs _ _ _ _ iOg.W _ icompareOp _ _ _ N3null @ _ N3null @ N5null @ T2show q r q a) T3paren q T2failIfSuccess q a) T3paren q T2failIfSuccess q a) T3paren a; afirst ioEq h0 N1null @ f q r q | ioLt h0 N1null @ f q r q | ioLe h0 N1null @ f q r q | ioGt h0 N1null @ f q r q | ioGe h0 N1null @ f q r q | ioNe h0 N1null @ f q r q | ioEqS h0 N1null @ f q r q | ioNeS h0 N1null @ f q r q | ioIsN h0 N1null @ f q r q | ioNIsN h0 N1null @ f q r q | ioIs h3 h0 N2null @ f q r q | ioNIs h3 h0 N2null @ f q r q | N<null T2first N3null T1tacticSeq1Indented T1tacticSeq a) T3paren q | a( a( afail_if_success a( afail_if_success a( ashow iAs _ _ _ _ iOg.W _ ibinaryOp _ _ _ N3null @ _ N3null @ N5null @ T2show q r q a) T3paren q T2failIfSuccess q a) T3paren q T2failIfSuccess q a) T3paren a; afirst ioAdd h0 N1null @ f q r q | ioSub h0 N1null @ f q r q | ioDiv h4 hK h0 N3null @ f q r q | ioMod h4 h0 N2null @ f q r q | ioMul hL h0 N2null @ f q r q | N5null T2first N3null T1tacticSeq1Indented T1tacticSeq a) T3paren q | a( a( afail_if_success a( afail_if_success a( ashow iAs _ _ _ _ iOg.W _ icall _ _ N2null @ _ N3null @ N5null @ T2show q r q a) T3paren q T2failIfSuccess q a) T3paren q T2failIfSuccess q a) T3paren a; afirst a( iaRg1 h0 N1null @ f q r a; aintro ir iu _ _ it N5null T2intro N3null T1tacticSeq1Indented T1tacticSeq a) T3paren q | a( ioAbs h0 N1null @ f q r a; aintro iu it N2null T2intro N3null T1tacticSeq1Indented T1tacticSeq a) T3paren q | a( iaMax hA h0 N2null @ f q r a; aintro iu it N2null T2intro N3null T1tacticSeq1Indented T1tacticSeq a) T3paren q | a( iaMin hA h0 N2null @ f q r a; aintro iu it N2null T2intro N3null T1tacticSeq1Indented T1tacticSeq a) T3paren q | N4null T2first N3null T1tacticSeq1Indented T1tacticSeq a) T3paren q | a( a( afail_if_success a( afail_if_success a( ashow iAs _ _ _ _ iOg.W _ isubscriptTail hP _ _ _ N4null @ _ N3null @ N5null @ T2show q r q a) T3paren q T2failIfSuccess q a) T3paren q T2failIfSuccess q a) T3paren a; afirst iaTS h0 N1null @ f q r q | N1null T2first N3null T1tacticSeq1Indented T1tacticSeq a) T3paren q | a( a( afail_if_success a( afail_if_success a( ashow iAs _ _ _ _ iOg.W _ isubscriptTail _ _ _ _ N4null @ _ N3null @ N5null @ T2show q r q a) T3paren q T2failIfSuccess q a) T3paren q T2failIfSuccess q a) T3paren a; afirst iaGT hB h5 h5 h3 h3 h0 h3 hM N8null @ f q r q | N1null T2first N3null T1tacticSeq1Indented T1tacticSeq a) T3paren q | a( a( afail_if_success a( afail_if_success a( ashow iAs _ _ _ _ iOg.W _ iassign hQ _ _ N3null @ _ N3null @ N5null @ T2show q r q a) T3paren q T2failIfSuccess q a) T3paren q T2failIfSuccess q a) T3paren a; afirst a( iaT2 hA hB h2 h0 N4null @ f q r a; aintro it N1null T2intro N3null T1tacticSeq1Indented T1tacticSeq a) T3paren q | N1null T2first N3null T1tacticSeq1Indented T1tacticSeq a) T3paren q | a( a( afail_if_success a( afail_if_success a( ashow iAs _ _ _ _ iOg.W _ inewList _ N1null @ _ N3null @ N5null @ T2show q r q a) T3paren q T2failIfSuccess q a) T3paren q T2failIfSuccess q a) T3paren a; afirst a( iaNwL hI h0 N2null @ f q r a; aintro il N1null T2intro N3null T1tacticSeq1Indented T1tacticSeq a) T3paren q | N1null T2first N3null T1tacticSeq1Indented T1tacticSeq a) T3paren q | a( a( afail_if_success a( afail_if_success a( ashow iAs _ _ _ _ iOg.W _ inewTuple _ N1null @ _ N3null @ N5null @ T2show q r q a) T3paren q T2failIfSuccess q a) T3paren q T2failIfSuccess q a) T3paren a; afirst a( iaNwT hI h0 N2null @ f q r a; aintro il N1null T2intro N3null T1tacticSeq1Indented T1tacticSeq a) T3paren q | N1null T2first N3null T1tacticSeq1Indented T1tacticSeq a) T3paren q | a( a( afail_if_success a( afail_if_success a( ashow iAs _ _ _ _ iOg.W _ iassign _ _ _ N3null @ _ N3null @ N5null @ T2show q r q a) T3paren q T2failIfSuccess q a) T3paren q T2failIfSuccess q a) T3paren a; afirst iaAsN h0 N1null @ f q r q | iaAsSub h0 N1null @ f q r q | iaAsAt h0 N1null @ f q r q | N3null T2first N3null T1tacticSeq1Indented T1tacticSeq a) T3paren q | afirst a( iaG2 h0 N1null @ f q r a; aintro it N1null T2intro N3null T1tacticSeq1Indented T1tacticSeq a) T3paren q | a( iaG3 h0 N1null @ f q r a; aintro it N1null T2intro N3null T1tacticSeq1Indented T1tacticSeq a) T3paren q | iaPartN h0 N1null @ f q r q | iaPartS h0 N1null @ f q r q | iaTst0 h0 N1null @ f q r q | iaTst1 h0 N1null @ f q r q | ioNeg h0 N1null @ f q r q | N7null T2first q | a( a( afail_if_success a( afail_if_success a( ashow iAs _ _ _ _ iOg.W _ igetMethod hR a\"append\" N1str _ N3null @ _ N3null @ N5null @ T2show q r q a) T3paren q T2failIfSuccess q a) T3paren q T2failIfSuccess q a) T3paren a; afirst iaLm h7 iPySem.F.slot_list_append iPySem.F.type_list_append h0 N4null @ f q | N1null T2first N3null T1tacticSeq1Indented T1tacticSeq a) T3paren q | a( a( afail_if_success a( afail_if_success a( ashow iAs _ _ _ _ iOg.W _ igetMethod hS a\"index\" N1str _ N3null @ _ N3null @ N5null @ T2show q r q a) T3paren q T2failIfSuccess q a) T3paren q T2failIfSuccess q a) T3paren a; afirst iaIxM h0 N1null @ f q | N1null T2first N3null T1tacticSeq1Indented T1tacticSeq a) T3paren q | a( a( afail_if_success a( afail_if_success a( ashow iAs _ _ _ _ iOg.W _ igetMethod hR a\"extend\" N1str _ N3null @ _ N3null @ N5null @ T2show q r q a) T3paren q T2failIfSuccess q a) T3paren q T2failIfSuccess q a) T3paren a; afirst iaLm h7 iPySem.F.slot_list_extend iPySem.F.type_list_extend h0 N4null @ f q | N1null T2first N3null T1tacticSeq1Indented T1tacticSeq a) T3paren q | a( a( afail_if_success a( afail_if_success a( ashow iAs _ _ _ _ iOg.W _ igetMethod hR a\"pop\" N1str _ N3null @ _ N3null @ N5null @ T2show q r q a) T3paren q T2failIfSuccess q a) T3paren q T2failIfSuccess q a) T3paren a; afirst iaLm h7 iPySem.F.slot_list_pop iPySem.F.type_list_pop h0 N4null @ f q | N1null T2first N3null T1tacticSeq1Indented T1tacticSeq a) T3paren q | a( a( afail_if_success a( afail_if_success a( ashow iAs _ _ _ _ ikKd _ _ _ _ N4null @ N5null @ T2show q r q a) T3paren q T2failIfSuccess q a) T3paren q T2failIfSuccess q a) T3paren a; afirst a( iaDctM ihdict h2 hJ h0 N4null @ f q r a; atry aclear ihdict N1null T2clear q T2tacticTry_ a; aintro io it ihdict N3null T2intro N5null T1tacticSeq1Indented T1tacticSeq a) T3paren q | N1null T2first N3null T1tacticSeq1Indented T1tacticSeq a) T3paren q | a( a( afail_if_success a( afail_if_success a( ashow iAs _ _ _ _ iOg.W _ isetAttr _ _ _ N3null @ _ N3null @ N5null @ T2show q r q a) T3paren q T2failIfSuccess q a) T3paren q T2failIfSuccess q a) T3paren a; afirst a( iaR hG h@ iR hJ h0 N5null @ f q r a; atry aclear iR N1null T2clear q T2tacticTry_ a; atry aclear ies N1null T2clear q T2tacticTry_ a; atry aclear ik N1null T2clear q T2tacticTry_ a; aintro ies ik iR N3null T2intro N9null T1tacticSeq1Indented T1tacticSeq a) T3paren q | N1null T2first N3null T1tacticSeq1Indented T1tacticSeq a) T3paren q | a( a( afail_if_success a( afail_if_success a( ashow iAs _ _ _ _ iOg.W _ ievalPairs _ N1null @ _ N3null @ N5null @ T2show q r q a) T3paren q T2failIfSuccess q a) T3paren q T2failIfSuccess q a) T3paren a; afirst iaPr h0 N1null @ f q r q | iaPr0 h0 N1null @ f q r q | N2null T2first N3null T1tacticSeq1Indented T1tacticSeq a) T3paren q | afirst ireW h0 N1null @ f q r q | ireBr h0 N1null @ f q r q | ireIn h@ h0 N2null @ f q r q | N3null T2first q | NPnull T2first q | afail N0null T2fail q | N2null T2first q a) T3paren q T2repeat' q a) T3paren N3null T1tacticSeq1Indented T1tacticSeq a) T3paren"
def tacW : Lean.Syntax := rpn #[] "afirst a( afirst iPySem.wpAny_pure ? N1null @ f q | iPySem.wpAny_bind ? N1null @ f q | iPySem.wpAny_holding ? N1null @ f q | iPySem.wpAny_standAt ? N1null @ f q | iPySem.wpAny_point ? N1null @ f q | iPySem.wpAny_rule ? N1null @ f q | iPySem.wpAny_letGo ? N1null @ f q | iPySem.wpAny_mkInt' ? N1null @ f q | iPySem.wpAny_fresh' ? N1null @ f q | iPySem.wpAny_alloc' ? N1null @ f q | iPySem.wpAny_attempt ? N1null @ f q | iPySem.wpAny_throw ? N1null @ f q | iPySem.wpAny_of_eq aassumption T1assumption q b ? N2null @ f q | iPySem.wpAny_typeOf aassumption T1assumption q b ? N2null @ f q | iPySem.wpAny_specialOf_val aassumption T1assumption q b aassumption T1assumption q b ? N3null @ f q | iPySem.wpAny_specialOf aassumption T1assumption q b aassumption T1assumption q b ? N3null @ f q | iPySem.wpAny_isInstance_val aassumption T1assumption q b aassumption T1assumption q b ? N3null @ f q | iPySem.wpAny_isInstance aassumption T1assumption q b aassumption T1assumption q b ? N3null @ f q | iPySem.wpAny_call ? N1null @ f q | iPySem.wpAny_runValue ? N1null @ f q | NDnull T2first q a) T3paren q r q | a( a( arefine' iPySem.wpAny_mkStr' ? a? ihwp P2syntheticHole N2null @ T2refine' q r q a) T3paren a; a( acase ihwp N1Lean.binderIdent N0null T2caseArg N1null a=> asize_fits N1tacticSize_fits q T4case q a) T3paren N3null T1tacticSeq1Indented T1tacticSeq a) T3paren q | a( a( arefine' iPySem.wpAny_run ? a? ihwp P2syntheticHole N2null @ T2refine' q r q a) T3paren a; a( acase ihwp N1Lean.binderIdent N0null T2caseArg N1null a=> a( aintro ix N1null T2intro a; acases N0null ix T2elimTarget N1null N0null N0null T4cases N3null T1tacticSeq1Indented T1tacticSeq a) T3paren q T4case q a) T3paren N3null T1tacticSeq1Indented T1tacticSeq a) T3paren q | a( a( arefine' iPySem.wpAny_load' a? ihwp P2syntheticHole ? N2null @ T2refine' q r q a) T3paren a; a( acase ihwp N1Lean.binderIdent N0null T2caseArg N1null a=> a( aheap_get N1tacticHeap_get a; adone T1done N3null T1tacticSeq1Indented T1tacticSeq a) T3paren q T4case q a) T3paren N3null T1tacticSeq1Indented T1tacticSeq a) T3paren q | a( a( arefine' iPySem.wpAny_update' a? ihwp P2syntheticHole ? N2null @ T2refine' q r q a) T3paren a; a( acase ihwp N1Lean.binderIdent N0null T2caseArg N1null a=> a( aheap_get N1tacticHeap_get a; adone T1done N3null T1tacticSeq1Indented T1tacticSeq a) T3paren q T4case q a) T3paren N3null T1tacticSeq1Indented T1tacticSeq a) T3paren q | a( a( arefine' iPySem.wpAny_loadPart' a? ihwp P2syntheticHole ? N2null @ T2refine' q r q a) T3paren a; a( acase ihwp N1Lean.binderIdent N0null T2caseArg N1null a=> a( aheap_get N1tacticHeap_get a; adone T1done N3null T1tacticSeq1Indented T1tacticSeq a) T3paren q T4case q a) T3paren N3null T1tacticSeq1Indented T1tacticSeq a) T3paren q | a( a( arefine' iPySem.wpAny_updatePart' a? ihwp P2syntheticHole ? N2null @ T2refine' q r q a) T3paren a; a( acase ihwp N1Lean.binderIdent N0null T2caseArg N1null a=> a( aheap_get N1tacticHeap_get a; adone T1done N3null T1tacticSeq1Indented T1tacticSeq a) T3paren q T4case q a) T3paren N3null T1tacticSeq1Indented T1tacticSeq a) T3paren q | a( a( arefine' iPySem.wpAny_handled_none a? ihwp P2syntheticHole ? N2null @ T2refine' q r q a) T3paren a; a( acase ihwp N1Lean.binderIdent N0null T2caseArg N1null a=> aassumption T1assumption q T4case q a) T3paren N3null T1tacticSeq1Indented T1tacticSeq a) T3paren q | a( a( arefine' a@ iPySem.wpAny_ite_false P2explicit _ _ _ _ _ _ _ _ _ _ a? ihwp P2syntheticHole ? N<null @ T2refine' q r q a) T3paren a; a( acase ihwp N1Lean.binderIdent N0null T2caseArg N1null a=> arfl T1tacticRfl q T4case q a) T3paren N3null T1tacticSeq1Indented T1tacticSeq a) T3paren q | a( a( arefine' a@ iPySem.wpAny_ite_true P2explicit _ _ _ _ _ _ _ _ _ _ a? ihwp P2syntheticHole ? N<null @ T2refine' q r q a) T3paren a; a( acase ihwp N1Lean.binderIdent N0null T2caseArg N1null a=> arfl T1tacticRfl q T4case q a) T3paren N3null T1tacticSeq1Indented T1tacticSeq a) T3paren q | a( a( arefine' a@ iPySem.wpAny_ite_false P2explicit _ _ _ _ _ _ _ _ _ _ a? ihwp P2syntheticHole ? N<null @ T2refine' q r q a) T3paren a; a( acase ihwp N1Lean.binderIdent N0null T2caseArg N1null a=> a( asimp N0null T1optConfig N0null N0null a[ a* T1simpStar N1null a] N3null N0null T6simp a; adone T1done N3null T1tacticSeq1Indented T1tacticSeq a) T3paren q T4case q a) T3paren N3null T1tacticSeq1Indented T1tacticSeq a) T3paren q | a( a( arefine' a@ iPySem.wpAny_ite_true P2explicit _ _ _ _ _ _ _ _ _ _ a? ihwp P2syntheticHole ? N<null @ T2refine' q r q a) T3paren a; a( acase ihwp N1Lean.binderIdent N0null T2caseArg N1null a=> a( asimp N0null T1optConfig N0null N0null a[ a* T1simpStar N1null a] N3null N0null T6simp a; adone T1done N3null T1tacticSeq1Indented T1tacticSeq a) T3paren q T4case q a) T3paren N3null T1tacticSeq1Indented T1tacticSeq a) T3paren q | awp_delta N1tacticWp_delta q | awith_reducible_and_instances iPySem.wpAny_pure ? N1null @ f q T2withReducibleAndInstances q | awith_reducible_and_instances iPySem.wpAny_bind ? N1null @ f q T2withReducibleAndInstances q | N?null T2first"
def tacWU (r : Lean.Syntax) : Lean.Syntax := rpn #[r, tacW] "arepeat a( afirst arefine' h0 T2refine' q r q | h1 q | N2null T2first q a) T3paren q T2tacticRepeat_"
def tacWW : Lean.Syntax := rpn #[tacW] "arepeat h0 q T2tacticRepeat_"
def tac (k : String) : Option Lean.Syntax :=
  if k == "ogs" then some (rpn ((rpnKs.splitOn "~").map (rpn #[])).toArray rpnAll) else (rpnFind k (rpnSm.splitOn "~")).map (rpn #[])
end Og
end

-- Og1
section
open PySem PySem.W PyProof.Rows PySem.Calls
set_option maxRecDepth 100000
set_option Elab.async false
set_option linter.unusedVariables false
set_option maxHeartbeats 1000000
theorem Og.fillme : PySem.Challenge.rw_og0110_01 = PySem.Challenge.rw_og0110_01 ∧ hd.heap_1 = hd.heap_1 := by
  k_fill
  exact ⟨rfl, rfl⟩
namespace Og
noncomputable abbrev PW := PySem.Challenge.pw_og0110_01
noncomputable abbrev S := PySem.Str
noncomputable abbrev Ob := Addr × Obj
-- flat forms of ∃ .. and of ∧
inductive Ex2 {α0 α1 : Type} (p : α0 → α1 → Prop) : Prop
  | mk (a : α0) (b : α1) (h : p a b) : Ex2 p
inductive Ex3 {α0 α1 α2 : Type} (p : α0 → α1 → α2 → Prop) : Prop
  | mk (a : α0) (b : α1) (c : α2) (h : p a b c) : Ex3 p
inductive Ex4 {α0 α1 α2 α3 : Type} (p : α0 → α1 → α2 → α3 → Prop) : Prop
  | mk (a : α0) (b : α1) (c : α2) (d : α3) (h : p a b c d) : Ex4 p
inductive Ex5 {α0 α1 α2 α3 α4 : Type} (p : α0 → α1 → α2 → α3 → α4 → Prop) : Prop
  | mk (a : α0) (b : α1) (c : α2) (d : α3) (e : α4) (h : p a b c d e) : Ex5 p
inductive An3 (P0 P1 P2 : Prop) : Prop
  | mk (a : P0) (b : P1) (c : P2) : An3 P0 P1 P2
inductive An4 (P0 P1 P2 P3 : Prop) : Prop
  | mk (a : P0) (b : P1) (c : P2) (d : P3) : An4 P0 P1 P2 P3
inductive An5 (P0 P1 P2 P3 P4 : Prop) : Prop
  | mk (a : P0) (b : P1) (c : P2) (d : P3) (e : P4) : An5 P0 P1 P2 P3 P4
inductive An6 (P0 P1 P2 P3 P4 P5 : Prop) : Prop
  | mk (a : P0) (b : P1) (c : P2) (d : P3) (e : P4) (f : P5) : An6 P0 P1 P2 P3 P4 P5
/-- the state: all but the heap and the tokens is σ's -/
noncomputable abbrev st (σ : Shared) (h : Heap) (t : Nat) : Shared := ⟨h, σ.gens, σ.drawn, t, σ.os⟩

/-- the made objects, each at a place of its own -/
structure Led (h₀ : Heap) (L : Addr) (h : Heap) (news : List Ob) : Prop where
  n : News h₀ L h news
  d : (news.map (·.1)).Nodup

theorem Led.nil {h₀ : Heap} {L : Addr} {h : Heap} : Led h₀ L h [] := ⟨News.nil, List.nodup_nil⟩
theorem Led.perm {h₀ : Heap} {L : Addr} {h : Heap} {l l' : List Ob} (N : Led h₀ L h l) (p : l.Perm l') : Led h₀ L h l' :=
  ⟨fun q hq => N.n q (p.mem_iff.mpr hq), (p.map (·.1)).nodup_iff.mp N.d⟩
theorem Led.sub {h₀ : Heap} {L : Addr} {h : Heap} {l l' : List Ob} (N : Led h₀ L h l) (p : l'.Sublist l) : Led h₀ L h l' :=
  ⟨fun q hq => N.n q (p.subset hq), (p.map (·.1)).nodup N.d⟩
theorem Led.lt {h₀ : Heap} {L : Addr} {h : Heap} {l : List Ob} (N : Led h₀ L h l) : ∀ p ∈ l, p.1 < h.objs.size := fun p hp => Heap.lt_size (N.n p hp).1
theorem Led.cons {h₀ : Heap} {L : Addr} {h : Heap} {l : List Ob} {a : Addr} {o : Obj} (N : News h₀ L h ((a, o) :: l)) (d : (l.map (·.1)).Nodup) (lt : ∀ p ∈ l, p.1 < a) : Led h₀ L h ((a, o) :: l) :=
  ⟨N, List.nodup_cons.mpr ⟨fun q => by obtain ⟨p, hp, e⟩ := List.mem_map.mp q; have h1 : p.1 < a := lt p hp; have h2 : p.1 = a := e; rw [h2] at h1; exact Nat.lt_irrefl _ h1, d⟩⟩
theorem Led.get {h₀ : Heap} {L : Addr} {h : Heap} {l : List Ob} {a : Addr} {o : Obj} (N : Led h₀ L h l) (m : (a, o) ∈ l) : h.get? a = some o := N.n.get m
theorem Led.ne {h₀ : Heap} {L : Addr} {h : Heap} {pre post : List Ob} {a : Addr} {o : Obj} (N : Led h₀ L h (pre ++ (a, o) :: post)) : (∀ p ∈ pre, p.1 ≠ a) ∧ ∀ p ∈ post, p.1 ≠ a := by
  have d := N.d
  rw [List.map_append, List.map_cons, List.nodup_append] at d
  obtain ⟨d1, d2, d3⟩ := d
  refine ⟨fun p hp e => d3 p.1 (List.mem_map_of_mem hp) a (.head _) e, fun p hp e => (List.nodup_cons.mp d2).1 (by show a ∈ post.map (·.1); exact e ▸ List.mem_map_of_mem (f := (·.1)) hp)⟩
theorem Led.set {h₀ : Heap} {L : Addr} {h h' : Heap} {pre post : List Ob} {a : Addr} {o o' : Obj} (N : Led h₀ L h (pre ++ (a, o) :: post)) (n : News h₀ L h' (pre ++ (a, o') :: post)) : Led h₀ L h' (pre ++ (a, o') :: post) :=
  ⟨n, by have d := N.d; simpa only [List.map_append, List.map_cons] using d⟩

/-- the locals, newest first -/
noncomputable def lk (xs : List (S × Value)) : S → Option Value := fun y => xs.lookup y
theorem lk_put (xs : List (S × Value)) (x : S) (v : Value) : (fun y => if y = x then some v else lk xs y) = lk ((x, v) :: xs) := by
  funext y
  show _ = List.lookup y ((x, v) :: xs)
  rw [List.lookup_cons]
  by_cases h : y = x
  · subst h; simp
  · have : (y == x) = false := by simpa using h
    rw [this, if_neg h]; rfl

structure Site (w : World) (n : Nat) (A : Around) (base : Heap) (outer : List Env) (env : Env) (L : Addr) (h₀ : Heap) : Prop where
  fr : A.frames = some (env :: outer)
  lf : env.frame = some L
  ll : env.locals = L
  kf : env.scope.kind = .function
  hh : A.handled = none
  dp : A.depth + n < recursionLimit
  un : A.units + 8 * n < cLine
  B : ∃ A₀, Below A₀ base outer h₀
  X : (hd.heap_1 w.params).In h₀
  XB : (hd.heap_1 w.params).In base
  T : Ex5 fun p loose mean mg mb => Top p loose mean mg mb h₀ ∧ Top p loose mean mg mb base
  D : KtsDicts (outer.filterMap (·.frame)) h₀
theorem Site.le {w : World} {n k : Nat} {A : Around} {base : Heap} {outer : List Env} {env : Env} {L : Addr} {h₀ : Heap} (x : Site w n A base outer env L h₀) (h : k ≤ n) : Site w k A base outer env L h₀ :=
  { x with dp := by have := x.dp; exact Nat.lt_of_le_of_lt (Nat.add_le_add_left h A.depth) this, un := by have := x.un; omega }

/-- the call gives back, P says what and which ledger -/
noncomputable def Con (w : World) (f : Value) (n : Nat) (vs : List Value) (news : List Ob) (P : Value → List Ob → Prop) : Prop :=
  ∀ (A : Around) (base : Heap) (outer : List Env) (env : Env) (L : Addr) (h₀ h : Heap) (t : Nat) (m : S → Option Value) (σ : Shared) (R : Result → Shared → Prop),
    Site w n A base outer env L h₀ → Fr h₀ L h m → Led h₀ L h news →
    (∀ r news' h t, P r news' → Fr h₀ L h m → Led h₀ L h news' → R (.ok (.ret r)) (st σ h t)) →
    codeAny (model PW w) A (.call f ⟨vs, []⟩) R (st σ h t)
theorem Con.use {w : World} {f : Value} {n k : Nat} {vs : List Value} {news : List Ob} {P : Value → List Ob → Prop} {A : Around} {base : Heap} {outer : List Env} {env : Env} {L : Addr} {h₀ h : Heap} {t : Nat} {m : S → Option Value} {σ : Shared} {Q E : Value → Shared → Prop}
    (C : Con w f k vs news P) (Z : Site w n A base outer env L h₀) (F : Fr h₀ L h m) (N : Led h₀ L h news) (hk : k ≤ n)
    (H : ∀ r news' h t, P r news' → Fr h₀ L h m → Led h₀ L h news' → Q r (st σ h t)) : wpAny (model PW w) A (call f vs) Q E (st σ h t) :=
  wpAny_call (C _ _ _ _ _ _ _ _ _ _ _ (Z.le hk) F N H)

/-- a body's end -/
noncomputable def retOf : Flow → Value
  | .ret v => v
  | _ => .none
inductive Ret (g : Heap) (L : Addr) (σ : Shared) (P : Value → List Ob → Prop) (fl : Flow) (s' : Shared) : Prop where
  | mk (m' : S → Option Value) (news' : List Ob) (h : Heap) (t : Nat) (e : s' = st σ h t) (F : Fr g L h m') (N : Led g L h news') (p : P (retOf fl) news') : Ret g L σ P fl s'
noncomputable abbrev NoE : Value → Shared → Prop := fun _ _ => False
theorem Ret.intro {g : Heap} {L : Addr} {σ : Shared} {P : Value → List Ob → Prop} {fl : Flow} {h : Heap} {t : Nat} {m' : S → Option Value} {news' : List Ob} (F : Fr g L h m') (N : Led g L h news') (p : P (retOf fl) news') :
    Ret g L σ P fl (st σ h t) := ⟨m', news', h, t, rfl, F, N, p⟩

section
variable {w : World} {n : Nat} {f : Addr} {args : List Value} {news : List Ob} {P : Value → List Ob → Prop} {name qual : S} {params : Arguments} {body : List Stmt} {scope : PySem.Scope} {cl : List (S × Addr)} {dV kV doc pm cdv ct oc : Value} {an od : Option Addr} {osl : Array (Option Value)} {binds bs : List (S × Value)}
theorem Site.push {A : Around} {base : Heap} {outer : List Env} {env : Env} {L L' : Addr} {h₀ g h h₁ : Heap} {m : S → Option Value} (x : Site w (n + 1) A base outer env L h₀) (B : Below A base (env :: outer) g) (st : h₀.StaysIn g) (FG : Fr h₀ L g m)
    (hk : scope.kind = .function) : Site w n (A.deeper (envX qual scope L' f cdv cl)) base (env :: outer) (envX qual scope L' f cdv cl) L' g := by
  obtain ⟨p, loose, mean, mg, mb, T, TB⟩ := x.T
  refine ⟨Around.frames_deeper x.fr, rfl, rfl, hk, x.hh, ?_, ?_, ⟨_, B⟩, x.X.keeps st, x.XB, ⟨p, loose, mean, mg, mb, T.keeps st, TB⟩, ?_⟩
  · have := x.dp; rw [depth_deeper]; omega
  · have := x.un; rw [units_deeper]; omega
  · intro b hb
    rw [List.filterMap_cons, x.lf] at hb
    rcases List.mem_cons.mp hb with rfl | hb
    · obtain ⟨o, es, ep, ho, hd, _⟩ := FG.ns
      exact ⟨o, es, ep, ho, hd⟩
    · obtain ⟨o, es, k, ho, hd⟩ := x.D b hb
      exact ⟨o, es, k, st b o ho, hd⟩

theorem enter (ho : (hd.heap_1 w.params).lookup f = some ⟨oc, od, .func (fnOf name qual params body scope dV kV doc pm an cdv ct), osl⟩) (hcd : codeIn (hd.heap_1 w.params) cdv qual = true)
    (hbind : ∀ s : Shared, (hd.heap_1 w.params).In s.heap → BindsTo s (fnOf name qual params body scope dV kV doc pm an cdv ct) ⟨args, []⟩ binds) (hbs : binds.reverse = bs)
    (hloc : (binds.all fun x => decide (scope.names.lookup x.1 = some .local)) = true) (hco : scope.isCoroutine = false) (hgen : scope.isGenerator = false) (hk : scope.kind = .function) (hcell : ∀ x ∈ scope.names, x.2 ≠ .cell)
    (H : ∀ (A : Around) (base : Heap) (outer : List Env) (g : Heap) (L : Addr) (σ : Shared) (h : Heap) (t : Nat), Site w n A base outer (envX qual scope L f cdv []) L g → Fr g L h (lk bs) → Led g L h news →
      wpAny (model PW w) A (execs body (envX qual scope L f cdv [])) (Ret g L σ P) NoE (st σ h t)) : Con w (.ref f) (n + 1) args news P := by
  intro A base outer env L h₀ h t m σ R x F N hQ
  obtain ⟨p, loose, mean, mg, mb, T, TB⟩ := x.T
  obtain ⟨A₀, B⟩ := x.B
  have XS := x.X.keeps F.keep
  refine callX_plain (s := st σ h t) (cl := []) B F N.n T.nolimit x.fr x.lf x.kf (XS _ _ ho) rfl (codeRec_of XS hcd) (by have := x.dp; exact Nat.lt_of_add_right_lt this) (hbind _ XS) (locs hloc) (fun g L' h₁ FG F' N' B' st lt => ?_) hcell hco hgen hk
  refine wpAny_mono (H _ _ _ g L' σ h₁ _ (x.push (h := h₁) (h₁ := h₁) B' st FG hk) (by rw [show (lk bs) = fun y => binds.reverse.lookup y from by rw [hbs]; rfl]; exact F') ⟨N', N.d⟩) (fun fl s' hr => ?_) (fun _ _ z => z.elim)
  obtain ⟨m', news', h', tk', rfl, F2, N2, hp⟩ := hr
  cases fl <;> exact leaveK_ F2 N2.n fun F3 N3 => hQ _ news' h' tk' hp F3 ⟨N3, N2.d⟩
/-- an object is made and its `__init__` runs -/
theorem con_make {C fI : Addr} {rest : List Value} (hm : makesIn (hd.heap_1 w.params) C = true) (hi : findIn (hd.heap_1 w.params) (.ref C) "__init__" = some (some (.ref fI))) (hf : typeIn (hd.heap_1 w.params) (.ref fI) = some (.type "function"))
    (H : ∀ x dx, (∀ p ∈ news, p.1 < dx) → dx < x → Con w (.ref fI) n (.ref x :: rest) ((x, instObj C dx) :: (dx, emptyDict) :: news) (fun r news' => r = .none ∧ P (.ref x) news')) : Con w (.ref C) (n + 1) rest news P := by
  intro A base outer env L h₀ h t m σ R Z F N hQ
  refine make_K (s := st σ h t) F N.n (Z.X.keeps F.keep) hm hi hf fun x dx h' F' N' l1 l2 => ?_
  have ND : Led h₀ L h' ((dx, emptyDict) :: news) := Led.cons (fun p hp => N' p (.tail _ hp)) N.d l1
  have NX : Led h₀ L h' ((x, instObj C dx) :: (dx, emptyDict) :: news) := Led.cons N' ND.d fun p hp => by
    rcases List.mem_cons.mp hp with rfl | hp
    · exact l2
    · exact Nat.lt_trans (l1 p hp) l2
  refine H x dx l1 l2 _ base outer env L h₀ h' t m σ _ ?_ F' NX fun r news' h t hp F N => ?_
  · refine { Z with fr := Z.fr, hh := Z.hh, dp := ?_, un := ?_ }
    · have := Z.dp; rw [depth_under_make]; omega
    · have := Z.un; rw [units_under_make]; omega
  · exact ⟨hp.1, hQ _ news' h t hp.2 F N⟩
end
end Og
end

-- Og2
section
open PySem PySem.W PyProof.Rows PySem.Calls
set_option maxRecDepth 100000
set_option Elab.async false
set_option linter.unusedVariables false
set_option maxHeartbeats 1000000
namespace Og
section
variable {w : World} {n : Nat} {A : Around} {base h₀ h : Heap} {outer : List Env} {L a : Addr} {σ : Shared} {t : Nat} {xs : List (S × Value)} {news : List Ob} {E : Value → Shared → Prop}
  {cn : S} {cs : PySem.Scope} {ccd : Value} {cl : List (S × Addr)} {x : S} {pos : Pos} {v : Value} {Q : Value → Shared → Prop}

-- names
-- a name is stored
-- constants
-- ints
variable {i j : Int} {u u' : Tok}
theorem mulI (hm : IntMulOk i j) (H : ∀ u t, Q (.int (i * j) u) (st σ h t)) : wpAny (model PW w) A (binaryOp .Mult (.int i u) (.int j u')) Q E (st σ h t) := P.mul_int (H _ _) hm
theorem divI (hj : j ≠ 0) (hp : Builtin.divisionGoesByPylong i j = false) (H : ∀ u t, Q (.int (i.fdiv j) u) (st σ h t)) : wpAny (model PW w) A (binaryOp .FloorDiv (.int i u) (.int j u')) Q E (st σ h t) := floordiv_int hj (H _ _) (.inl hp)
theorem powI (hn : 0 ≤ j) (hs : (Builtin.Int.intBits i : Int) * j ≤ 2 ^ 27) (H : ∀ u t, Q (.int (i ^ j.toNat) u) (st σ h t)) : wpAny (model PW w) A (binaryOp .Pow (.int i u) (.int j u')) Q E (st σ h t) := pow_int hn hs (H _ _)
end
end Og
namespace Og
/-- the class's own tables let the name through to the object's dict -/
structure AtOk (w : World) (C : Addr) (name : S) : Prop where
  g : plainGet (hd.heap_1 w.params) C name = true
  d : hasDictIn (hd.heap_1 w.params) C = true
  f : findIn (hd.heap_1 w.params) (.ref C) name = some none
structure StOk (w : World) (C : Addr) (name : S) : Prop where
  s : findIn (hd.heap_1 w.params) (.ref C) "__setattr__" = some (some (.builtin "object.__setattr__"))
  p : plainOver (hd.heap_1 w.params) C = true
  t : takerIn (hd.heap_1 w.params) C name = some none
  d : hasDictIn (hd.heap_1 w.params) C = true
section
variable {w : World} {n k : Nat} {A : Around} {base h₀ h : Heap} {outer : List Env} {L a x dx C : Addr} {σ : Shared} {t : Nat} {m : S → Option Value} {news : List Ob} {E : Value → Shared → Prop} {env : Env} {es : List DictEntry} {name : S} {v : Value} {Q : Value → Shared → Prop} {expr : Bool}
end

-- calls
section
variable {w : World} {n : Nat} {A : Around} {base h₀ h : Heap} {outer : List Env} {L : Addr} {σ : Shared} {t : Nat} {m : S → Option Value} {news : List Ob} {E : Value → Shared → Prop} {env : Env} {f : Value} {pos : Pos} {e : Expr} {rest : List Expr} {first : List Value} {Q : Value → Shared → Prop}
theorem modI {i j : Int} {u u' : Tok} (hj : j ≠ 0) (H : ∀ u t, Q (.int (i.fmod j) u) (st σ h t)) : wpAny (model PW w) A (binaryOp .Mod (.int i u) (.int j u')) Q E (st σ h t) := mod_int' hj (H _ _)
end
end Og
namespace Og
theorem br_t {P Q : Prop} (h : P) : if true = true then P else Q := by rw [if_pos rfl]; exact h
theorem br_f {P Q : Prop} (h : Q) : if false = true then P else Q := by rw [if_neg Bool.false_ne_true]; exact h
theorem br_pos {b : Bool} {P Q : Prop} (e : b = true) (h : P) : if b = true then P else Q := by rw [if_pos e]; exact h
theorem br_neg {b : Bool} {P Q : Prop} (e : b = false) (h : Q) : if b = true then P else Q := by rw [if_neg (by rw [e]; exact Bool.false_ne_true)]; exact h
noncomputable def iabs (a : Int) : Int := if a < 0 then -a else a
theorem iabs_nonneg (a : Int) : 0 ≤ iabs a := by unfold iabs; split <;> omega
section
variable {w : World} {A : Around} {h : Heap} {σ : Shared} {t : Nat} {E : Value → Shared → Prop} {Q : Value → Shared → Prop} {i j : Int} {u u' : Tok}
end
end Og
end

-- Og3
section
open PySem PySem.W PyProof.Rows PySem.Calls
set_option maxRecDepth 100000
set_option Elab.async false
set_option linter.unusedVariables false
set_option maxHeartbeats 1000000
namespace Og
section
variable {w : World} {n k : Nat} {A : Around} {base h₀ h h' : Heap} {outer : List Env} {L I a l : Addr} {σ : Shared} {t : Nat} {xs : List (S × Value)} {m : S → Option Value} {news : List Ob} {E : Value → Shared → Prop} {env : Env} {o o' : Obj}

theorem Led.tail (N : Led h₀ L h ((a, o) :: news)) : Led h₀ L h news := N.sub (List.sublist_cons_self _ _)
theorem Led.off (N : Led h₀ L h ((a, o) :: news)) : ∀ p ∈ news, p.1 ≠ a := (Led.ne (pre := []) N).2
theorem Led.neL (N : Led h₀ L h ((a, o) :: news)) : a ≠ L := (N.n _ (.head _)).2.1
theorem Led.no (N : Led h₀ L h ((a, o) :: news)) : h₀.get? a = none := (N.n _ (.head _)).2.2
theorem Led.put (N : Led h₀ L h ((a, o) :: news)) (hs : Heap.SameBut a h h') (ho : h'.get? a = some o') : Led h₀ L h' ((a, o') :: news) := ⟨N.n.setHead N.off hs ho, N.d⟩
theorem Led.frPut (N : Led h₀ L h ((a, o) :: news)) (F : Fr h₀ L h m) (hs : Heap.SameBut a h h') : Fr h₀ L h' m := F.change hs N.neL N.no
theorem Led.but (N : Led h₀ L h ((a, o) :: news)) (hk : Heap.ExtBut a h h') : Led h₀ L h' news :=
  ⟨fun p hp => ⟨hk _ _ (N.off p hp) (N.n p (.tail _ hp)).1, (N.n p (.tail _ hp)).2⟩, N.tail.d⟩
theorem Led.frBut (N : Led h₀ L h ((a, o) :: news)) (F : Fr h₀ L h m) (hk : Heap.ExtBut a h h') : Fr h₀ L h' m :=
  fr_but F (I := a) (fun b o hb e => hk b o (fun q => hb (by rw [q]; exact List.mem_singleton.mpr rfl)) e) (Ne.symm N.neL) N.no
where
  fr_but {h₀ h h' : Heap} {L I : Addr} {m : S → Option Value} (F : Fr h₀ L h m) (hk : ∀ b o, b ∉ [I] → h.get? b = some o → h'.get? b = some o) (hL : L ≠ I) (hI : h₀.get? I = none) : Fr h₀ L h' m :=
    ⟨F.ns.at' fun o e => hk L o (by simpa using hL) e, fun b o e => hk b o (fun hm => by rw [List.mem_singleton.mp hm, hI] at e; cases e) (F.keep b o e), F.above⟩
theorem Led.front {pre post : List Ob} {p : Ob} (N : Led h₀ L h (pre ++ p :: post)) : Led h₀ L h (p :: (pre ++ post)) := N.perm List.perm_middle
/-- a new object -/
theorem Led.new (F : Fr h₀ L h m) (N : Led h₀ L h news) (o : Obj) (hf : o.isFreed = false) : Led h₀ L (h.push o) ((h.objs.size, o) :: news) :=
  Led.cons (N.n.push F o hf) N.d N.lt

/-- the iterator at I: its turns -/
structure Turns (w : World) (A : Around) (h₀ : Heap) (L I : Addr) (n : Nat) (It : Nat → Obj → Prop) (V : Nat → Value → Prop) (need : List Ob → Prop) : Prop where
  mono : ∀ l l' : List Ob, (∀ p ∈ l, p ∈ l') → need l → need l'
  item : ∀ (i : Nat) (o : Obj) (h : Heap) (t : Nat) (m : S → Option Value) (news : List Ob) (σ : Shared) (Q : Option Value → Shared → Prop) (E : Value → Shared → Prop), i < n → It i o → Fr h₀ L h m → Led h₀ L h ((I, o) :: news) → need news →
    (∀ v o' h t, V i v → It (i + 1) o' → Fr h₀ L h m → Led h₀ L h ((I, o') :: news) → Q (some v) (st σ h t)) → wpAny (model PW w) A (pyNext (.ref I)) Q E (st σ h t)
  done : ∀ (o : Obj) (h : Heap) (t : Nat) (m : S → Option Value) (news : List Ob) (σ : Shared) (Q : Option Value → Shared → Prop) (E : Value → Shared → Prop), It n o → Fr h₀ L h m → Led h₀ L h ((I, o) :: news) → need news →
    (∀ h t, Fr h₀ L h m → Led h₀ L h news → Q none (st σ h t)) → wpAny (model PW w) A (pyNext (.ref I)) Q E (st σ h t)
  self : ∀ (i : Nat) (o : Obj) (h : Heap) (t : Nat) (m : S → Option Value) (news : List Ob) (σ : Shared) (Q : Value → Shared → Prop) (E : Value → Shared → Prop), It i o → Fr h₀ L h m → Led h₀ L h ((I, o) :: news) → need news → Q (.ref I) (st σ h t) → wpAny (model PW w) A (pyIter (.ref I)) Q E (st σ h t)

noncomputable abbrev lIt (l : Addr) (i : Nat) (o : Obj) : Prop := o.cls = .type "list_iterator" ∧ o.data = .fields #[.ref l, .int i 0]
noncomputable abbrev lAt (h₀ : Heap) (l : Addr) (its : Array Value) (news : List Ob) : Prop := LCg.SrcAt h₀ l its news
theorem turns_list (hh : A.handled = none) (l I : Addr) (its : Array Value) (hne : l ≠ I) : Turns w A h₀ L I its.size (lIt l) (fun i v => its[i]? = some v) (lAt h₀ l its) where
  mono := fun l l' k x => by
    rcases x with x | ⟨o, hm, r⟩
    · exact .inl x
    · exact .inr ⟨o, k _ hm, r⟩
  item := fun i o h t m news σ Q E hi hit F N nd H => by
    have hl : h.IsList l its := nd.list F.keep N.tail.n
    refine wpAny_pyNext_list_item (s := st σ h t) ⟨o, N.get (.head _), hit.1, hit.2⟩ hl (x := its[i]) (by simp [hi]) fun h' hit' hs => ?_
    obtain ⟨o', e', c', d'⟩ := hit'
    exact H _ o' h' t (by simp [hi]) ⟨c', d'⟩ (N.frPut F hs) (N.put hs e')
  done := fun o h t m news σ Q E hit F N nd H => by
    have hl : h.IsList l its := nd.list F.keep N.tail.n
    exact wpAny_pyNext_list_end (s := st σ h t) hh ⟨o, N.get (.head _), hit.1, hit.2⟩ hl (by simp) fun h' he => H h' t (N.frBut F he) (N.but he)
  self := fun i o h t m news σ Q E hit F N nd H => wpAny_pyIter_listiter (s := st σ h t) ⟨o, N.get (.head _), hit.1, hit.2⟩ H
noncomputable abbrev rIt (a : Int) (n : Nat) (i : Nat) (o : Obj) : Prop := o = { cls := .type "range_iterator", dict := none, data := .fields #[rawInt (a + (i : Int)), rawInt ((n : Int) - (i : Int)), rawInt 1], slots := #[] }
theorem turns_range (hh : A.handled = none) (I : Addr) (a : Int) (n : Nat) : Turns w A h₀ L I n (rIt a n) (fun i v => ∃ t, v = .int (a + (i : Int)) t) (fun _ => True) where
  mono := fun _ _ _ _ => trivial
  item := fun i o h t m news σ Q E hi hit F N nd H => by
    subst hit
    refine wpAny_pyNext_range_item (s := st σ h t) (N.get (.head _)) (by omega) fun h' hit' hs => ?_
    refine H _ _ h' _ ⟨_, rfl⟩ rfl (N.frPut F hs) (N.put hs ?_)
    rw [show h'.get? I = _ from hit']
    simp only [Int.add_assoc, Int.sub_sub, Int.natCast_succ]
  done := fun o h t m news σ Q E hit F N nd H => by
    subst hit
    exact wpAny_pyNext_range_end (s := st σ h t) hh (N.get (.head _)) (by omega) fun h' he => H h' t (N.frBut F he) (N.but he)
  self := fun i o h t m news σ Q E hit F N nd H => by
    subst hit
    exact ((range_self hh I a n).self i (st σ h t) Q E (N.get (.head _)) H)
where
  range_self (hh : A.handled = none) (I : Addr) (a : Int) (n : Nat) : Walks PW w A I [I] [I] n (fun i v => ∃ t, v = .int (a + (i : Int)) t) (fun i h => IsRangeIter h I (a + (i : Nat)) ((n : Int) - (i : Nat)) 1) := by
    have := LCg.range_walks (prog := PW) (w := w) (I := I) hh a n
    simpa only [Int.mul_one] using this
noncomputable abbrev bIt (b : Array UInt8) (tb : Tok) (i : Nat) (o : Obj) : Prop := o.cls = .type "bytes_iterator" ∧ o.data = .fields #[.bytes b tb, .int i 0]
theorem turns_bytes (hh : A.handled = none) (I : Addr) (b : Array UInt8) (tb : Tok) : Turns w A h₀ L I b.size (bIt b tb) (fun i v => ∃ c u, b[i]? = some c ∧ v = .int (c.toNat : Int) u) (fun _ => True) where
  mono := fun _ _ _ _ => trivial
  item := fun i o h t m news σ Q E hi hit F N nd H => by
    refine KBw.next_item (s := st σ h t) ⟨o, N.get (.head _), hit.1, hit.2⟩ (c := b[i]) (by simp [hi]) fun h' hit' hs => ?_
    obtain ⟨o', e', c', d'⟩ := hit'
    exact H _ o' h' _ ⟨_, _, by simp [hi], rfl⟩ ⟨c', d'⟩ (N.frPut F hs) (N.put hs e')
  done := fun o h t m news σ Q E hit F N nd H => KBw.next_end (s := st σ h t) hh ⟨o, N.get (.head _), hit.1, hit.2⟩ (by simp) fun h' he => H h' t (N.frBut F he) (N.but he)
  self := fun i o h t m news σ Q E hit F N nd H => KBw.pyIter_self (s := st σ h t) ⟨o, N.get (.head _), hit.1, hit.2⟩ H
noncomputable abbrev tIt (l : Addr) (i : Nat) (o : Obj) : Prop := o.cls = .type "tuple_iterator" ∧ o.data = .fields #[.ref l, .int i 0]
noncomputable def tAt (h₀ : Heap) (l : Addr) (its : Array Value) (news : List Ob) : Prop := IsTup h₀ l its ∨ ∃ o, (l, o) ∈ news ∧ o.cls = .type "tuple" ∧ ∃ n, o.data = .seq its n
theorem tAt.tup {its : Array Value} (x : tAt h₀ l its news) (F : Fr h₀ L h m) (N : News h₀ L h news) : h.IsTuple l its := by
  rcases x with ⟨o, e, r⟩ | ⟨o, hm, r⟩
  · exact ⟨o, F.keep _ _ e, r⟩
  · exact ⟨o, (N _ hm).1, r⟩
theorem turns_tuple (hh : A.handled = none) (l I : Addr) (its : Array Value) (hne : l ≠ I) : Turns w A h₀ L I its.size (tIt l) (fun i v => its[i]? = some v) (tAt h₀ l its) where
  mono := fun l l' k x => by
    rcases x with x | ⟨o, hm, r⟩
    · exact .inl x
    · exact .inr ⟨o, k _ hm, r⟩
  item := fun i o h t m news σ Q E hi hit F N nd H => by
    have hl := nd.tup F N.tail.n
    refine wpAny_pyNext_tuple_item (s := st σ h t) ⟨o, N.get (.head _), hit.1, hit.2⟩ hl (x := its[i]) (by simp [hi]) fun h' hit' hs => ?_
    obtain ⟨o', e', c', d'⟩ := hit'
    exact H _ o' h' t (by simp [hi]) ⟨c', d'⟩ (N.frPut F hs) (N.put hs e')
  done := fun o h t m news σ Q E hit F N nd H => by
    have hl := nd.tup F N.tail.n
    exact wpAny_pyNext_tuple_end (s := st σ h t) hh ⟨o, N.get (.head _), hit.1, hit.2⟩ hl (by simp) fun h' he => H h' t (N.frBut F he) (N.but he)
  self := fun i o h t m news σ Q E hit F N nd H => ((PySem.Walks.tuple (prog := PW) (w := w) hh I l hne its).self i (st σ h t) Q E ⟨⟨o, N.get (.head _), hit.1, hit.2⟩, nd.tup F N.tail.n⟩ H)

inductive StJ (h₀ : Heap) (L : Addr) (σ : Shared) (J : List (S × Value) → List Ob → Prop) (s : Shared) : Prop where
  | mk (xs' : List (S × Value)) (news' : List Ob) (h : Heap) (t : Nat) (e : s = st σ h t) (F : Fr h₀ L h (lk xs')) (N : Led h₀ L h news') (j : J xs' news') : StJ h₀ L σ J s
inductive ForI (h₀ : Heap) (L : Addr) (σ : Shared) (I : Addr) (n : Nat) (It : Nat → Obj → Prop) (J : Nat → List (S × Value) → List Ob → Prop) (k : Nat) (s : Shared) : Prop where
  | mk (i : Nat) (o : Obj) (xs : List (S × Value)) (news : List Ob) (h : Heap) (t : Nat) (ek : k = n - i) (hi : i ≤ n) (e : s = st σ h t) (hit : It i o) (hj : J i xs news) (F : Fr h₀ L h (lk xs)) (N : Led h₀ L h ((I, o) :: news)) : ForI h₀ L σ I n It J k s
/-- what a turn of a loop's body leaves -/
noncomputable def Step (h₀ : Heap) (L : Addr) (σ : Shared) (Q : Flow → Shared → Prop) (J : List (S × Value) → List Ob → Prop) (fl : Flow) (s : Shared) : Prop :=
  match fl with
  | .next | .cont => StJ h₀ L σ J s
  | .brk => Q .next s
  | .ret v => Q (.ret v) s
theorem for_go {It : Nat → Obj → Prop} {V : Nat → Value → Prop} {need : List Ob → Prop} {target : Expr} {body : List Stmt} {Q : Flow → Shared → Prop} (T : Turns w A h₀ L I n It V need) (J : Nat → List (S × Value) → List Ob → Prop)
    (F : Fr h₀ L h (lk xs)) (N : Led h₀ L h ((I, o) :: news)) (h0 : It 0 o) (j0 : J 0 xs news) (hneed : ∀ i xs news, J i xs news → need news)
    (step : ∀ i v o xs news h t, i < n → V i v → It (i + 1) o → J i xs news → Fr h₀ L h (lk xs) → Led h₀ L h ((I, o) :: news) →
      wpAny (model PW w) A (assign target env v) (fun _ s₂ => wpAny (model PW w) A (execs body env) (Step h₀ L σ Q fun xs' news' => ∃ nw, news' = (I, o) :: nw ∧ J (i + 1) xs' nw) E s₂) E (st σ h t))
    (done : ∀ xs news h t, J n xs news → Fr h₀ L h (lk xs) → Led h₀ L h news → Q .next (st σ h t))
    (hE : PassesOwn (model PW w) A env E) (ht : ∀ v, letOwnedTupleGo target (.ref I) v = pure ()) :
    codeAny (model PW w) A (.forLoop target (.ref I) body [] env) (fun r s' => match r with | .ok f => Q f s' | .error e => cameBackBy (model PW w) A env E e s') (st σ h t) := by
  refine codeAny_forLoop_any (ForI h₀ L σ I n It J) ?_ n ⟨0, o, xs, news, h, t, rfl, Nat.zero_le _, rfl, h0, j0, F, N⟩
  rintro k s' ⟨i, o, xs, news, h, t, rfl, hi, rfl, hit, hj, F, N⟩
  by_cases hlt : i < n
  · refine T.item i o h t _ news σ _ _ hlt hit F N (hneed _ _ _ hj) fun v o' h t hv hit' F N => ?_
    show wpAny _ _ (letOwnedTupleGo target (.ref I) v) _ _ _
    rw [ht]
    refine wpAny_pure (wpAny_mono (wpAny_passesOwn hE (step i v o' xs news h t hlt hv hit' hj F N)) (fun _ s₂ h₂ => wpAny_mono (wpAny_passesOwn hE h₂) (fun fl s₃ h₃ => ?_) fun _ _ e => e) fun _ _ e => e)
    cases fl with
    | ret v => exact h₃
    | brk => exact h₃
    | next =>
      obtain ⟨xs', _, h₃, t₃, rfl, F₃, N₃, nw, rfl, hj₃⟩ := h₃
      exact ⟨n - (i + 1), by exact Nat.sub_succ_lt_self n i hlt, i + 1, o', xs', nw, h₃, t₃, rfl, hlt, rfl, hit', hj₃, F₃, N₃⟩
    | cont =>
      obtain ⟨xs', _, h₃, t₃, rfl, F₃, N₃, nw, rfl, hj₃⟩ := h₃
      exact ⟨n - (i + 1), by exact Nat.sub_succ_lt_self n i hlt, i + 1, o', xs', nw, h₃, t₃, rfl, hlt, rfl, hit', hj₃, F₃, N₃⟩
  · obtain rfl : i = n := by exact Nat.le_antisymm hi (Nat.le_of_not_lt hlt)
    exact T.done o h t _ news σ _ _ hit F N (hneed _ _ _ hj) fun h t F N => wpAny_execs_nil (done xs news h t hj F N)
/-- while: J is what holds ahead of each test, with a number that falls -/
theorem while_go {test : Expr} {body : List Stmt} {pos : Pos} {Q : Flow → Shared → Prop} (J : Nat → List (S × Value) → List Ob → Prop) {k : Nat}
    (F : Fr h₀ L h (lk xs)) (N : Led h₀ L h news) (j0 : J k xs news)
    (turn : ∀ k xs news h t, J k xs news → Fr h₀ L h (lk xs) → Led h₀ L h news →
      wpAny (model PW w) A (isTrue test env (eval test env)) (fun b s₂ => if b = true then wpAny (model PW w) A (execs body env) (Step h₀ L σ Q fun xs' news' => ∃ k', k' < k ∧ J k' xs' news') E s₂ else Q .next s₂) E (st σ h t))
    (hE : PassesOwn (model PW w) A env E) : wpAny (model PW w) A (exec (.While test body [] pos) env) Q E (st σ h t) := by
  refine wpAny_While (codeAny_whileLoop (fun k s' => StJ h₀ L σ (J k) s') ?_ k ⟨xs, news, h, t, rfl, F, N, j0⟩)
  rintro k s' ⟨xs, news, h, t, rfl, F, N, hj⟩
  refine wpAny_mono (wpAny_passesOwn hE (turn k xs news h t hj F N)) (fun b s₂ h₂ => ?_) fun _ _ e => e
  cases b
  · rw [if_neg (by decide)] at h₂ ⊢
    exact wpAny_execs_nil h₂
  · rw [if_pos rfl] at h₂ ⊢
    refine wpAny_mono (wpAny_passesOwn hE h₂) (fun fl s₃ h₃ => ?_) fun _ _ e => e
    cases fl with
    | ret v => exact h₃
    | brk => exact h₃
    | next => obtain ⟨xs', n', h', t', rfl, F', N', k', hk, hj'⟩ := h₃; exact ⟨k', hk, xs', n', h', t', rfl, F', N', hj'⟩
    | cont => obtain ⟨xs', n', h', t', rfl, F', N', k', hk, hj'⟩ := h₃; exact ⟨k', hk, xs', n', h', t', rfl, F', N', hj'⟩
-- new objects
noncomputable abbrev lst (ys : List Value) : Obj := LCg.lst ys
noncomputable abbrev tup (ys : List Value) : Obj := { cls := .type "tuple", data := .seq ys.toArray }
theorem nwL {vs : List Value} {Q : Value → Shared → Prop} (F : Fr h₀ L h m) (N : Led h₀ L h news) (hz : vs.length ≤ sizeLine)
    (H : ∀ l h, Fr h₀ L h m → Led h₀ L h ((l, listOf vs.toArray 0) :: news) → Q (.ref l) (st σ h t)) : wpAny (model PW w) A (newList vs) Q E (st σ h t) :=
  newList_K (s := st σ h t) F N.n (fun l h' F' N' lt => H l h' F' (Led.cons N' N.d lt)) hz
theorem nwT {vs : List Value} {Q : Value → Shared → Prop} (F : Fr h₀ L h m) (N : Led h₀ L h news) (hz : vs.length ≤ sizeLine)
    (H : ∀ l h, Fr h₀ L h m → Led h₀ L h ((l, tup vs) :: news) → Q (.ref l) (st σ h t)) : wpAny (model PW w) A (newTuple vs) Q E (st σ h t) :=
  newTuple_N (s := st σ h t) F N.n (fun h' F' N' => H _ h' F' (Led.cons N' N.d N.lt)) hz
end
end Og
end

-- Og4
section
open PySem PySem.W PyProof.Rows PySem.Calls
set_option maxRecDepth 100000
set_option Elab.async false
set_option linter.unusedVariables false
set_option maxHeartbeats 1000000
namespace Og
section
variable {w : World} {n k : Nat} {A : Around} {base h₀ h h' : Heap} {outer : List Env} {L I a l : Addr} {σ : Shared} {t : Nat} {xs : List (S × Value)} {m : S → Option Value} {news : List Ob} {E : Value → Shared → Prop} {env : Env} {o o' : Obj}
  {elt iter : Expr} {x y : S} {px py pos spos : Pos} {ifs : List Expr} {scope : PySem.Scope} {cl : List (S × Addr)}
/-- a comprehension from its iterator on -/
noncomputable def CompAt (w : World) (A : Around) (E : Value → Shared → Prop) (elt : Expr) (x : S) (px : Pos) (iter : Expr) (ifs : List Expr) (scope : PySem.Scope) (pos : Pos) (cl : List (S × Addr)) (env : Env) (use : Option (Value → Sem Unit)) (Q : Value → Shared → Prop) (it : Value) (s₂ : Shared) : Prop :=
  wpAny (model PW w) A (newList []) (fun acc s₃ => wpAny (model PW w) A (newFunctionEnv scope env.globals cl [] env.qual none .none (some env)) (fun cenv s₄ =>
    codeAny (model PW w) A (.compStart (.ListComp elt [⟨.Name x px, iter, ifs, 0⟩] scope pos) 0 it acc { cenv with scope := relabel scope env }) (compPost (model PW w) A E use Q acc cenv.locals) s₄) E s₃) E s₂
theorem comp_start {Q : Value → Shared → Prop} (hclos : closureFor scope env = pure cl) (hkind : scope.kind = .function) (hnames : ∀ y ∈ scope.names, y.2 = .local → scope.names.lookup y.1 = some .local)
    (H : wpAny (model PW w) A (eval iter env) (fun xv s₁ => wpAny (model PW w) A (pyIter xv) (CompAt w A E elt x px iter ifs scope pos cl env none Q) E s₁) E (st σ h t))
    (hs : ∀ x, foldedSetIterable iter env x = pure x) : wpAny (model PW w) A (eval (.ListComp elt [⟨.Name x px, iter, ifs, 0⟩] scope pos) env) Q E (st σ h t) := by
  rw [eval_ListComp]
  exact wpAny_comprehension_free (use := none) rfl hs hclos hkind hnames H
theorem comp_startA {Q : Flow → Shared → Prop} (hsw : swapsWith (.ListComp elt [⟨.Name x px, iter, ifs, 0⟩] scope pos) (some (.Name y py)) spos.line env = pure true)
    (hclos : closureFor scope env = pure cl) (hkind : scope.kind = .function) (hnames : ∀ y ∈ scope.names, y.2 = .local → scope.names.lookup y.1 = some .local)
    (H : wpAny (model PW w) A (eval iter env) (fun xv s₁ => wpAny (model PW w) A (pyIter xv) (CompAt w A E elt x px iter ifs scope pos cl env (some (assign (.Name y py) env)) (fun _ s' => Q .next s')) E s₁) E (st σ h t))
    (hs : ∀ x, foldedSetIterable iter env x = pure x) : wpAny (model PW w) A (exec (.Assign [.Name y py] (.ListComp elt [⟨.Name x px, iter, ifs, 0⟩] scope pos) spos) env) Q E (st σ h t) := by
  rw [exec_Assign_Name_used _ _ _ _ hsw]
  refine wpAny_bind (wpAny_standAt (wpAny_bind ?_))
  show wpAny _ A (do let _ ← comprehension (.ListComp elt [⟨.Name x px, iter, ifs, 0⟩] scope pos) scope env _ (newList []) false (eval iter env) (some (assign (.Name y py) env))) _ _ _
  exact wpAny_bind (wpAny_mono (wpAny_comprehension_free (use := some (assign (.Name y py) env)) (Q := fun _ s' => Q .next s') rfl hs hclos hkind hnames H) (fun _ s' hq => wpAny_pure (wpAny_pure hq)) fun _ _ e => e)

/-- what an element leaves -/
inductive CStep (h₀ : Heap) (L : Addr) (m : S → Option Value) (σ : Shared) (J : List Ob → Prop) (s : Shared) : Prop where
  | mk (news' : List Ob) (h : Heap) (t : Nat) (e : s = st σ h t) (F : Fr h₀ L h m) (N : Led h₀ L h news') (j : J news') : CStep h₀ L m σ J s
inductive CompI (h₀ : Heap) (L : Addr) (m : S → Option Value) (σ : Shared) (C D I : Addr) (n : Nat) (It : Nat → Obj → Prop) (J : Nat → List Value → List Ob → Prop) (k : Nat) (s : Shared) : Prop where
  | mk (i : Nat) (o oC : Obj) (m₂ : S → Option Value) (ys : List Value) (news : List Ob) (h : Heap) (t : Nat) (ek : k = n - i) (hi : i ≤ n) (e : s = st σ h t) (hit : It i o) (hj : J i ys news) (ns : LCg.NsObj oC m₂) (F : Fr h₀ L h m) (N : Led h₀ L h ((C, oC) :: (D, lst ys) :: (I, o) :: news)) : CompI h₀ L m σ C D I n It J k s
theorem CStep.intro {J : List Ob → Prop} {news : List Ob} (F : Fr h₀ L h m) (N : Led h₀ L h news) (j : J news) : CStep h₀ L m σ J (st σ h t) := ⟨news, h, t, rfl, F, N, j⟩
theorem Led.front3 {α} (a b c : α) (l : List α) : (a :: b :: c :: l).Perm (b :: c :: a :: l) := (List.Perm.swap b a (c :: l)).trans (.cons b (.swap c a l))
theorem comp_run {It : Nat → Obj → Prop} {V : Nat → Value → Prop} {need : List Ob → Prop} (T : Turns w A h₀ L I n It V need) (J : Nat → List Value → List Ob → Prop)
    (hcell : ∀ y ∈ scope.names, y.2 ≠ .cell) (hkind : scope.kind = .function) (hx : scope.names.lookup x = some .local) (hsz : n ≤ sizeLine) {R : Value → Addr → Result → Shared → Prop}
    (F : Fr h₀ L h m) (N : Led h₀ L h ((I, o) :: news)) (h0 : It 0 o) (j0 : J 0 [] news) (hneed : ∀ i ys news, J i ys news → need news ∧ ys.length ≤ i)
    (step : ∀ i v ys o news h t C oC D m₂ (E : Value → Shared → Prop), i < n → V i v → It (i + 1) o → J i ys news → Fr h₀ L h m → Led h₀ L h ((C, oC) :: (D, lst ys) :: (I, o) :: news) → LCg.NsObj oC m₂ → m₂ x = some v →
      wpAny (model PW w) A (forIn ifs true fun c r => if r = true then do let ok ← isTrue c (compEnvC scope cl C env) (eval c (compEnvC scope cl C env)); pure (ForInStep.yield ok) else pure (ForInStep.yield r)) (fun ok s₃ =>
        if ok = true then wpAny (model PW w) A (eval elt (compEnvC scope cl C env)) (fun y => CStep h₀ L m σ fun nw => ∃ nw', nw = (C, oC) :: (D, lst ys) :: (I, o) :: nw' ∧ J (i + 1) (ys ++ [y]) nw') E s₃
        else CStep h₀ L m σ (fun nw => ∃ nw', nw = (C, oC) :: (D, lst ys) :: (I, o) :: nw' ∧ J (i + 1) ys nw') s₃) E (st σ h t))
    (done : ∀ C oC D m₂ ys news h t, Fr h₀ L h m → Led h₀ L h ((C, oC) :: (D, lst ys) :: news) → LCg.NsObj oC m₂ → J n ys news → R (.ref D) C (.ok .next) (st σ h t)) :
    wpAny (model PW w) A (newList []) (fun acc s₃ => wpAny (model PW w) A (newFunctionEnv scope env.globals cl [] env.qual none .none (some env)) (fun cenv s₄ =>
      codeAny (model PW w) A (.compStart (.ListComp elt [⟨.Name x px, iter, ifs, 0⟩] scope pos) 0 (.ref I) acc { cenv with scope := relabel scope env }) (R acc cenv.locals) s₄) E s₃) E (st σ h t) := by
  refine wpAny_newObj_type (wpAny_newFunctionEnv hcell (by intro y hy; simp at hy) (fun h₁ hns₁ hsb₁ => ?_) hkind)
  dsimp only at hns₁ hsb₁ ⊢
  have ND : Led h₀ L (h.push (lst [])) ((h.objs.size, lst []) :: (I, o) :: news) := Led.new F N (lst []) rfl
  have FD : Fr h₀ L (h.push (lst [])) m := F.push _
  change Heap.SameBut (h.push (lst [])).objs.size ((h.push (lst [])).push _) h₁ at hsb₁
  change h₁.Ns (h.push (lst [])).objs.size _ at hns₁
  show codeAny _ _ (.compStart _ 0 (.ref I) _ (compEnvC scope cl (h.push (lst [])).objs.size env)) (R (.ref h.objs.size) (h.push (lst [])).objs.size) _
  generalize hC : (h.push (lst [])).objs.size = C at hns₁ hsb₁ ⊢
  generalize hD : h.objs.size = D at ND ⊢
  obtain ⟨oC, hoC, nsC⟩ := LCg.ns_obj hns₁
  have FC : Fr h₀ L h₁ m := by subst hC; exact FD.filled hsb₁
  have NC : Led h₀ L h₁ ((C, oC) :: (D, lst []) :: (I, o) :: news) := by subst hC; exact Led.cons (News.filled FD ND.n hsb₁ hoC) ND.d ND.lt
  have loop : ∀ (s₃ : Shared), (∃ t, s₃ = st σ h₁ t) → codeAny (model PW w) A (.compLoop (.ListComp elt [⟨.Name x px, iter, ifs, 0⟩] scope pos) 0 (.ref I) (.ref D) (compEnvC scope cl C env)) (R (.ref D) C) s₃ := by
    rintro s₃ ⟨t, rfl⟩
    refine codeAny_compLoop_tests (CompI h₀ L m σ C D I n It J) ?_ n ⟨0, o, oC, _, [], news, h₁, t, rfl, Nat.zero_le _, rfl, h0, j0, nsC, FC, NC⟩
    rintro k s' ⟨i, o, oC, m₂, ys, news, h, t, rfl, hi, rfl, hit, hj, nsC, F, N⟩
    have NI : Led h₀ L h ((I, o) :: (C, oC) :: (D, lst ys) :: news) := Led.front (pre := [(C, oC), (D, lst ys)]) N
    have nd := T.mono _ ((C, oC) :: (D, lst ys) :: news) (fun p hp => .tail _ (.tail _ hp)) (hneed _ _ _ hj).1
    by_cases hlt : i < n
    · refine T.item i o h t _ _ σ _ _ hlt hit F NI nd fun v o' h t hv hit' F N => ?_
      have N' : Led h₀ L h ((C, oC) :: (D, lst ys) :: (I, o') :: news) := N.perm (Led.front3 _ _ _ _)
      refine wpAny_assign_Name (wpAny_storeName_local (lookup_relabel_local hx) (nsC.ns (N'.get (.head _))) (fun h₃ hn₃ hs₃ => ?_) (by simp [compEnvC, relabel, hkind]))
      obtain ⟨oC', hoC', nsC'⟩ := LCg.ns_obj hn₃
      refine wpAny_mono (step i v ys o' news h₃ (t + 1) C oC' D _ _ hlt hv hit' hj (N'.frPut F hs₃) (N'.put hs₃ hoC') nsC' (by simp)) (fun ok s₃ h₃ => ?_) fun _ _ e => e
      cases ok
      · rw [if_neg (by decide)] at h₃ ⊢
        obtain ⟨_, h₄, t₄, rfl, F₄, N₄, nw, rfl, hj₄⟩ := h₃
        exact ⟨n - (i + 1), by exact Nat.sub_succ_lt_self n i hlt, i + 1, o', oC', _, ys, nw, h₄, t₄, rfl, hlt, rfl, hit', hj₄, nsC', F₄, N₄⟩
      · rw [if_pos rfl] at h₃ ⊢
        refine wpAny_mono h₃ (fun y s₄ h₄ => ?_) fun _ _ e => e
        obtain ⟨_, h₄, t₄, rfl, F₄, N₄, nw, rfl, hj₄⟩ := h₄
        have ND : Led h₀ L h₄ ((D, lst ys) :: (C, oC') :: (I, o') :: nw) := Led.front (pre := [(C, oC')]) N₄
        refine append_at (s := st σ h₄ t₄) (its := ys.toArray) (n := ys.length) (ND.get (.head _)) (fun h₅ hs₅ hD₅ => ?_) (by have := (hneed _ _ _ hj).2; rw [List.size_toArray]; exact Nat.le_trans this (Nat.le_trans hi hsz))
        have N₅ := ND.put hs₅ (hD₅.trans (congrArg some (LCg.lst_snoc ys y)))
        exact ⟨n - (i + 1), by exact Nat.sub_succ_lt_self n i hlt, i + 1, o', oC', _, ys ++ [y], nw, h₅, t₄, rfl, hlt, rfl, hit', hj₄, nsC', ND.frPut F₄ hs₅, Led.front (pre := [_]) N₅⟩
    · obtain rfl : i = n := by exact Nat.le_antisymm hi (Nat.le_of_not_lt hlt)
      refine T.done o h t _ _ σ _ _ hit F NI nd fun h t F N => ?_
      exact done C oC D m₂ ys news h t F N nsC hj
  have NI : Led h₀ L h₁ ((I, o) :: (C, oC) :: (D, lst []) :: news) := Led.front (pre := [(C, oC), (D, lst [])]) NC
  have nd := T.mono _ ((C, oC) :: (D, lst []) :: news) (fun p hp => .tail _ (.tail _ hp)) (hneed _ _ _ j0).1
  exact codeAny_compStart_list (loop _ ⟨_, rfl⟩) (T.self 0 o h₁ _ _ _ σ _ _ h0 FC NI nd (loop _ ⟨_, rfl⟩))
/-- the comprehension's value -/
theorem comp_go {It : Nat → Obj → Prop} {V : Nat → Value → Prop} {need : List Ob → Prop} (T : Turns w A h₀ L I n It V need) (J : Nat → List Value → List Ob → Prop) {Q : Value → Shared → Prop}
    (hcell : ∀ y ∈ scope.names, y.2 ≠ .cell) (hkind : scope.kind = .function) (hx : scope.names.lookup x = some .local) (hsz : n ≤ sizeLine)
    (F : Fr h₀ L h m) (N : Led h₀ L h ((I, o) :: news)) (h0 : It 0 o) (j0 : J 0 [] news) (hneed : ∀ i ys news, J i ys news → need news ∧ ys.length ≤ i)
    (step : ∀ i v ys o news h t C oC D m₂ (E : Value → Shared → Prop), i < n → V i v → It (i + 1) o → J i ys news → Fr h₀ L h m → Led h₀ L h ((C, oC) :: (D, lst ys) :: (I, o) :: news) → LCg.NsObj oC m₂ → m₂ x = some v →
      wpAny (model PW w) A (forIn ifs true fun c r => if r = true then do let ok ← isTrue c (compEnvC scope cl C env) (eval c (compEnvC scope cl C env)); pure (ForInStep.yield ok) else pure (ForInStep.yield r)) (fun ok s₃ =>
        if ok = true then wpAny (model PW w) A (eval elt (compEnvC scope cl C env)) (fun y => CStep h₀ L m σ fun nw => ∃ nw', nw = (C, oC) :: (D, lst ys) :: (I, o) :: nw' ∧ J (i + 1) (ys ++ [y]) nw') E s₃
        else CStep h₀ L m σ (fun nw => ∃ nw', nw = (C, oC) :: (D, lst ys) :: (I, o) :: nw' ∧ J (i + 1) ys nw') s₃) E (st σ h t))
    (done : ∀ D ys news h t, Fr h₀ L h m → Led h₀ L h ((D, lst ys) :: news) → J n ys news → Q (.ref D) (st σ h t)) :
    CompAt w A E elt x px iter ifs scope pos cl env none Q (.ref I) (st σ h t) :=
  comp_run (R := fun acc C => compPost (model PW w) A E none Q acc C) T J hcell hkind hx hsz F N h0 j0 hneed step fun C oC D m₂ ys news h t F N nsC hj =>
    ⟨m₂, nsC.ns (N.get (.head _)), fun h'' hs => done D ys news h'' t (N.frPut F hs) (N.but hs.extBut) hj⟩
theorem comp_goA {It : Nat → Obj → Prop} {V : Nat → Value → Prop} {need : List Ob → Prop} (T : Turns w A h₀ L I n It V need) (J : Nat → List Value → List Ob → Prop) {Q : Shared → Prop} {cn : S} {cs : PySem.Scope} {ccd : Value} {cl' : List (S × Addr)}
    (hcell : ∀ y ∈ scope.names, y.2 ≠ .cell) (hkind : scope.kind = .function) (hx : scope.names.lookup x = some .local) (hsz : n ≤ sizeLine) (hy : (envX cn cs L a ccd cl').kindOf y = some .local) (hk : cs.kind = .function)
    (F : Fr h₀ L h (lk xs)) (N : Led h₀ L h ((I, o) :: news)) (h0 : It 0 o) (j0 : J 0 [] news) (hneed : ∀ i ys news, J i ys news → need news ∧ ys.length ≤ i)
    (step : ∀ i v ys o news h t C oC D m₂ (E : Value → Shared → Prop), i < n → V i v → It (i + 1) o → J i ys news → Fr h₀ L h (lk xs) → Led h₀ L h ((C, oC) :: (D, lst ys) :: (I, o) :: news) → LCg.NsObj oC m₂ → m₂ x = some v →
      wpAny (model PW w) A (forIn ifs true fun c r => if r = true then do let ok ← isTrue c (compEnvC scope cl C (envX cn cs L a ccd cl')) (eval c (compEnvC scope cl C (envX cn cs L a ccd cl'))); pure (ForInStep.yield ok) else pure (ForInStep.yield r)) (fun ok s₃ =>
        if ok = true then wpAny (model PW w) A (eval elt (compEnvC scope cl C (envX cn cs L a ccd cl'))) (fun y => CStep h₀ L (lk xs) σ fun nw => ∃ nw', nw = (C, oC) :: (D, lst ys) :: (I, o) :: nw' ∧ J (i + 1) (ys ++ [y]) nw') E s₃
        else CStep h₀ L (lk xs) σ (fun nw => ∃ nw', nw = (C, oC) :: (D, lst ys) :: (I, o) :: nw' ∧ J (i + 1) ys nw') s₃) E (st σ h t))
    (done : ∀ D ys news h t, Fr h₀ L h (lk ((y, .ref D) :: xs)) → Led h₀ L h ((D, lst ys) :: news) → J n ys news → Q (st σ h t)) :
    CompAt w A E elt x px iter ifs scope pos cl (envX cn cs L a ccd cl') (some (assign (.Name y py) (envX cn cs L a ccd cl'))) (fun _ s' => Q s') (.ref I) (st σ h t) :=
  comp_run (R := fun acc C => compPost (model PW w) A E _ (fun _ s' => Q s') acc C) T J hcell hkind hx hsz F N h0 j0 hneed step fun C oC D m₂ ys news h t F N nsC hj => by
    show wpAny _ A (assign (.Name y py) (envX cn cs L a ccd cl') (.ref D)) _ _ _
    refine wpAny_assign_Name (storeX_L (s := st σ h t) F N.n (fun h₂ F₂ N₂ => ?_) hk hy)
    have N₂ : Led h₀ L h₂ _ := ⟨N₂, N.d⟩
    exact ⟨m₂, nsC.ns (N₂.get (.head _)), fun h'' hs => done D ys news h'' _ (by rw [← lk_put]; exact N₂.frPut F₂ hs) (N₂.but hs.extBut) hj⟩
end
end Og
end

-- Og5
section
open PySem PySem.W PyProof.Rows PySem.Calls
set_option maxRecDepth 100000
set_option Elab.async false
set_option linter.unusedVariables false
set_option maxHeartbeats 1000000
namespace Og
section
variable {w : World} {n k : Nat} {A : Around} {base h₀ h h' : Heap} {outer : List Env} {L I a l r : Addr} {σ : Shared} {t : Nat} {xs : List (S × Value)} {m : S → Option Value} {news : List Ob} {E : Value → Shared → Prop} {env : Env} {o o' : Obj} {Q : Value → Shared → Prop}
  {elt iter : Expr} {x y : S} {px py pos spos : Pos} {ifs : List Expr} {scope : PySem.Scope} {cl : List (S × Addr)} {v : Value}
-- ranges
noncomputable abbrev rgO (a b : Int) (t u v : Tok) : Obj := { cls := .type "range", dict := none, data := .fields #[.int a t, .int b u, .int 1 v], slots := #[] }
theorem rg1 {i : Int} {u : Tok} (F : Fr h₀ L h m) (N : Led h₀ L h news) (H : ∀ r t₁ t₂ t₃ h t, Fr h₀ L h m → Led h₀ L h ((r, rgO 0 i t₁ t₂ t₃) :: news) → Q (.ref r) (st σ h t)) : wpAny (model PW w) A (call (.type "range") [.int i u]) Q E (st σ h t) :=
  call_range_1 (s := st σ h t) (H _ _ _ _ _ _ (F.push _) (Led.new F N _ rfl))
theorem small_of {i j : Int} (h1 : -100000000 ≤ i) (h2 : i ≤ 100000000) (h3 : -100000000 ≤ j) (h4 : j ≤ 100000000) : Builtin.Range.small i j 1 = true := by
  unfold Builtin.Range.small
  have e : Builtin.Range.rangeSize i j 1 = ((j - i).toNat : Int) := rangeSize_nat i j
  rw [e]
  simp only [Builtin.Range.rangeFitsLong, Bool.and_eq_true, Bool.or_eq_true, decide_eq_true_eq, gt_iff_lt, beq_iff_eq]
  refine ⟨⟨⟨⟨?_, ?_⟩, ?_⟩, ?_⟩, ?_⟩ <;> first | omega | (right; rw [if_pos (by decide)]; simp; omega) | simp; omega
theorem itRg {i j : Int} {t₁ t₂ t₃ : Tok} (F : Fr h₀ L h m) (N : Led h₀ L h ((r, rgO i j t₁ t₂ t₃) :: news)) (h1 : -100000000 ≤ i) (h2 : i ≤ 100000000) (h3 : -100000000 ≤ j) (h4 : j ≤ 100000000)
    (H : ∀ I o h, Fr h₀ L h m → Led h₀ L h ((I, o) :: news) → rIt i (j - i).toNat 0 o → Q (.ref I) (st σ h t)) : wpAny (model PW w) A (pyIter (.ref r)) Q E (st σ h t) := by
  refine wpAny_pyIter_range (s := st σ h t) (N.get (.head _)) (small_of h1 h2 h3 h4) ?_
  refine H _ _ _ (F.push _) (Led.sub (Led.new F N _ rfl) (.cons₂ _ (List.sublist_cons_self _ _))) ?_
  simp only [rIt, Int.natCast_zero, Int.add_zero, Int.sub_zero, rangeSize_nat]
theorem itL {its : Array Value} (F : Fr h₀ L h m) (N : Led h₀ L h news) (hl : lAt h₀ l its news) (H : ∀ I o h, Fr h₀ L h m → Led h₀ L h ((I, o) :: news) → lIt l 0 o → l ≠ I → Q (.ref I) (st σ h t)) : wpAny (model PW w) A (pyIter (.ref l)) Q E (st σ h t) := by
  have hl' : h.IsList l its := hl.list F.keep N.n
  refine wpAny_pyIter_list (s := st σ h t) hl' ?_
  refine H _ _ _ (F.push _) (Led.new F N _ rfl) ⟨rfl, rfl⟩ ?_
  obtain ⟨o, ho, _⟩ := hl'
  exact Nat.ne_of_lt (Heap.lt_size ho)
theorem itT {its : Array Value} (F : Fr h₀ L h m) (N : Led h₀ L h news) (hl : tAt h₀ l its news) (H : ∀ I o h, Fr h₀ L h m → Led h₀ L h ((I, o) :: news) → tIt l 0 o → l ≠ I → Q (.ref I) (st σ h t)) : wpAny (model PW w) A (pyIter (.ref l)) Q E (st σ h t) := by
  have hl' := hl.tup F N.n
  refine wpAny_pyIter_tuple (s := st σ h t) hl' ?_
  refine H _ _ _ (F.push _) (Led.new F N _ rfl) ⟨rfl, rfl⟩ ?_
  obtain ⟨o, ho, _⟩ := hl'
  exact Nat.ne_of_lt (Heap.lt_size ho)
theorem itB {b : Array UInt8} {tb : Tok} (F : Fr h₀ L h m) (N : Led h₀ L h news) (H : ∀ I o h, Fr h₀ L h m → Led h₀ L h ((I, o) :: news) → bIt b tb 0 o → Q (.ref I) (st σ h t)) : wpAny (model PW w) A (pyIter (.bytes b tb)) Q E (st σ h t) :=
  KBw.pyIter_bytes (s := st σ h t) (H _ _ _ (F.push _) (Led.new F N _ rfl) ⟨rfl, rfl⟩)
-- lists of ints: a slice backwards, an item
theorem revL {value slice : Expr} {its : Array Value} {vk : Value} {ops : List Value} (F : Fr h₀ L h m) (N : Led h₀ L h news) (hl : lAt h₀ l its news) (pk : IsPart vk (some (-1)))
    (H : ∀ D h, Fr h₀ L h m → Led h₀ L h ((D, listOf its.toList.reverse.toArray 0) :: news) → Q (.ref D) (st σ h t))
    (hs : subscripted slice false (.ref l) (.ref h.objs.size) = operate ops (getItem (.ref l) (.ref h.objs.size))) (ht : ∀ r, letTemporaryGo value (.ref l) r = pure ()) (hz : its.size ≤ sizeLine) :
    wpAny (model PW w) A (subscriptTail value slice (.ref l) (.ref h.objs.size)) Q E (st σ (h.push { cls := .type "slice", data := .fields #[.none, .none, vk] }) t) :=
  krv_lit (s := st σ h t) F N.n (hl.list F.keep N.n) pk rfl (fun D h' F' N' lt => H D h' F' (Led.cons N' N.d lt)) hs ht hz
end
-- names in a comprehension
section
variable {w : World} {n : Nat} {A : Around} {base h₀ h : Heap} {outer : List Env} {L a c C : Addr} {σ : Shared} {t : Nat} {m : S → Option Value} {news : List Ob} {E : Value → Shared → Prop}
  {cn : S} {cs scope : PySem.Scope} {ccd : Value} {cl cl' : List (S × Addr)} {x : S} {pos : Pos} {v : Value} {Q : Value → Shared → Prop} {o oC : Obj} {mC : S → Option Value}
theorem nCL (N : Led h₀ L h news) (hm : (C, oC) ∈ news) (ho : LCg.NsObj oC mC) (hv : mC x = some v) (hx : (compEnvC scope cl C (envX cn cs L a ccd cl')).kindOf x = some .local) (hk : scope.kind = .function) (hd : (x == ("__debug__" : S)) = false) (H : Q v (st σ h t)) :
    wpAny (model PW w) A (eval (.Name x pos) (compEnvC scope cl C (envX cn cs L a ccd cl'))) Q E (st σ h t) := wpAny_Name (s := st σ h t) (wpAny_loadName_local hk hx (ho.ns (N.get hm)) hv H) hd
theorem nCC (N : Led h₀ L h news) (hc : cl.lookup x = some c) (hm : (c, o) ∈ news) (hd : o.data = .cell (some v)) (hx : (compEnvC scope cl C (envX cn cs L a ccd cl')).kindOf x = some .cell) (hk : scope.kind = .function) (hb : (x == ("__debug__" : S)) = false) (H : Q v (st σ h t)) :
    wpAny (model PW w) A (eval (.Name x pos) (compEnvC scope cl C (envX cn cs L a ccd cl'))) Q E (st σ h t) := lcf_cell (s := st σ h t) N.n hc hm hd H hk hx hb
-- cells of a function
/-- a cell at the ledger's head is stored into -/
theorem sC {Q : Unit → Shared → Prop} {v₀ : Option Value} (Z : Site w n A base outer (envX cn cs L a ccd cl) L h₀) (F : Fr h₀ L h m) (N : Led h₀ L h ((c, o) :: news)) (hc : cl.lookup x = some c) (hd : o.data = .cell v₀) (hx : (envX cn cs L a ccd cl).kindOf x = some .cell)
    (H : ∀ h o, o.data = .cell (some v) → Fr h₀ L h m → Led h₀ L h ((c, o) :: news) → Q () (st σ h t)) : wpAny (model PW w) A (storeName (envX cn cs L a ccd cl) x v) Q E (st σ h t) := by
  refine wpAny_storeName_cell (s := st σ h t) Z.kf hx hc ⟨o, N.get (.head _), hd⟩ fun h' hv hs => ?_
  obtain ⟨o', ho', hd'⟩ := hv
  exact H h' o' hd' (N.frPut F hs) (N.put hs ho')
end
section
variable {w : World} {n : Nat} {f : Addr} {args : List Value} {news : List Ob} {P : Value → List Ob → Prop} {name qual : S} {params : Arguments} {body : List Stmt} {scope : PySem.Scope} {dV kV doc pm cdv ct oc : Value} {an od : Option Addr} {osl : Array (Option Value)} {binds bs : List (S × Value)}
noncomputable def blL (K : S → Option NameKind) : List (S × Value) → List (S × Value) → List (S × Value)
  | [], xs => xs
  | (n, v) :: r, xs => blL K r (if K n = some .local then (n, v) :: xs else xs)
theorem bindL_lk (K : S → Option NameKind) : ∀ (binds xs : List (S × Value)), bindL K binds (lk xs) = lk (blL K binds xs)
  | [], _ => rfl
  | (n, v) :: r, xs => by
    show bindL K r (if K n = some .local then fun y => if y = n then some v else lk xs y else lk xs) = lk (blL K r (if K n = some .local then (n, v) :: xs else xs))
    by_cases h : K n = some .local
    · rw [if_pos h, if_pos h, lk_put, bindL_lk K r]
    · rw [if_neg h, if_neg h, bindL_lk K r]
theorem cells_lt {cm : S → Option Value} {cs : List (S × Addr)} {cells : List Ob} (x : CellsAre cm cs cells) : cells.map (·.1) = cs.map (·.2) := by
  induction x with
  | nil => rfl
  | cons _ _ ih => simp [ih]
/-- a function with cells of its own -/
theorem enterC (ho : (hd.heap_1 w.params).lookup f = some ⟨oc, od, .func (fnX name qual params body scope [] dV kV doc pm an cdv ct), osl⟩) (hcd : codeIn (hd.heap_1 w.params) cdv qual = true)
    (hbind : ∀ s : Shared, (hd.heap_1 w.params).In s.heap → BindsTo s (fnX name qual params body scope [] dV kV doc pm an cdv ct) ⟨args, []⟩ binds)
    (hkd : ∀ n, ∀ x ∈ binds, scope.names.lookup x.1 = some .local ∨ (scope.names.lookup x.1 = some .cell ∧ ((cellsFrom n scope.names []).lookup x.1).isSome = true)) (hnd : ((cellsFrom 0 scope.names []).map (·.1)).Nodup)
    (hcs : ∀ L : Nat, ((cellsFrom (L + 1) scope.names []).map (·.2)).Nodup ∧ ∀ c ∈ (cellsFrom (L + 1) scope.names []).map (·.2), L < c)
    (hbs : ∀ L, blL (envOfC qual scope L f cdv).kindOf binds [] = bs) (hco : scope.isCoroutine = false) (hgen : scope.isGenerator = false) (hk : scope.kind = .function)
    (H : ∀ (A : Around) (base : Heap) (outer : List Env) (g : Heap) (L : Addr) (σ : Shared) (h : Heap) (t : Nat) (cells : List Ob), Site w n A base outer (envX qual scope L f cdv (cellsFrom (L + 1) scope.names [])) L g → Fr g L h (lk bs) →
      CellsAre (bindC (envOfC qual scope L f cdv).kindOf binds fun _ => none) (cellsFrom (L + 1) scope.names []) cells → Led g L h (cells ++ news) →
      wpAny (model PW w) A (execs body (envX qual scope L f cdv (cellsFrom (L + 1) scope.names []))) (Ret g L σ P) NoE (st σ h t)) : Con w (.ref f) (n + 1) args news P := by
  intro A base outer env L h₀ h t m σ R x F N hQ
  obtain ⟨p, loose, mean, mg, mb, T, TB⟩ := x.T
  obtain ⟨A₀, B⟩ := x.B
  have XS := x.X.keeps F.keep
  refine callX_cells (s := st σ h t) B F N.n T.nolimit x.fr x.lf x.kf (XS _ _ ho) rfl (codeRec_of XS hcd) (by have := x.dp; exact Nat.lt_of_add_right_lt this) (hbind _ XS) hkd hnd (fun g L' h₁ tk cells FG F' N' hc B' st lt => ?_) hco hgen hk
  have NL : Led g L' h₁ (cells ++ news) := ⟨N', by
    rw [List.map_append, List.nodup_append]
    refine ⟨by rw [cells_lt hc]; exact (hcs L').1, N.d, fun a ha b hb e => ?_⟩
    obtain ⟨p, hp, rfl⟩ := List.mem_map.mp hb
    rw [cells_lt hc] at ha
    have h1 : L' < a := (hcs L').2 a ha
    have h2 : p.1 < L' := lt p hp
    have h3 : a = p.1 := e
    rw [h3] at h1; exact absurd h1 (Nat.not_lt.mpr (Nat.le_of_lt h2))⟩
  refine wpAny_mono (H _ _ _ g L' σ h₁ tk cells (x.push (h := h₁) (h₁ := h₁) B' st FG hk) (by rw [show (lk bs) = bindL _ binds (fun _ => none) from by rw [← hbs L']; exact (bindL_lk _ binds []).symm]; exact F') hc NL) (fun fl s' hr => ?_) (fun _ _ z => z.elim)
  obtain ⟨m', news', h', tk', rfl, F2, N2, hp⟩ := hr
  cases fl <;> exact leaveK_ F2 N2.n fun F3 N3 => hQ _ news' h' tk' hp F3 ⟨N3, N2.d⟩
end
end Og
namespace Og
section
variable {w : World} {n k : Nat} {A : Around} {h₀ h : Heap} {L : Addr} {σ : Shared} {t : Nat} {m : S → Option Value} {news : List Ob} {E : Value → Shared → Prop} {env : Env} {Q : Flow → Shared → Prop} {x y z : S} {px py pz pos tpos vpos : Pos} {kt : Nat} {value : Expr} {els : List Expr} {kv : Nat}
/-- the values stand, the frame and the ledger too -/
inductive Got (σ : Shared) (h₀ : Heap) (L : Addr) (K : List Value → (S → Option Value) → List Ob → Prop) (vs : List Value) (s : Shared) : Prop where
  | mk (h : Heap) (t : Nat) (m : S → Option Value) (news : List Ob) (e : s = st σ h t) (F : Fr h₀ L h m) (N : Led h₀ L h news) (k : K vs m news) : Got σ h₀ L K vs s
theorem Got.intro {K : List Value → (S → Option Value) → List Ob → Prop} {vs : List Value} (F : Fr h₀ L h m) (N : Led h₀ L h news) (k : K vs m news) : Got σ h₀ L K vs (st σ h t) := ⟨h, t, m, news, rfl, F, N, k⟩
noncomputable def St2 (w : World) (A : Around) (σ : Shared) (h₀ : Heap) (L : Addr) (env : Env) (x y : S) (Q : Flow → Shared → Prop) (E : Value → Shared → Prop) (vs : List Value) (m : S → Option Value) (news : List Ob) : Prop :=
  ∃ a b, vs = [a, b] ∧ ∀ h t, Fr h₀ L h m → Led h₀ L h news → wpAny (model PW w) A (storeName env y b) (fun _ s => wpAny (model PW w) A (storeName env x a) (fun _ => Q .next) E s) E (st σ h t)
noncomputable def St3 (w : World) (A : Around) (σ : Shared) (h₀ : Heap) (L : Addr) (env : Env) (x y z : S) (Q : Flow → Shared → Prop) (E : Value → Shared → Prop) (vs : List Value) (m : S → Option Value) (news : List Ob) : Prop :=
  ∃ a b c, vs = [a, b, c] ∧ ∀ h t, Fr h₀ L h m → Led h₀ L h news → wpAny (model PW w) A (storeName env z c) (fun _ s => wpAny (model PW w) A (storeName env y b) (fun _ s => wpAny (model PW w) A (storeName env x a) (fun _ => Q .next) E s) E s) E (st σ h t)
theorem St2.intro {a b : Value} (H : ∀ h t, Fr h₀ L h m → Led h₀ L h news → wpAny (model PW w) A (storeName env y b) (fun _ s => wpAny (model PW w) A (storeName env x a) (fun _ => Q .next) E s) E (st σ h t)) : St2 w A σ h₀ L env x y Q E [a, b] m news := ⟨a, b, rfl, H⟩
theorem St3.intro {a b c : Value} (H : ∀ h t, Fr h₀ L h m → Led h₀ L h news → wpAny (model PW w) A (storeName env z c) (fun _ s => wpAny (model PW w) A (storeName env y b) (fun _ s => wpAny (model PW w) A (storeName env x a) (fun _ => Q .next) E s) E s) E (st σ h t)) : St3 w A σ h₀ L env x y z Q E [a, b, c] m news := ⟨a, b, c, rfl, H⟩
/-- x, y = (.., ..): a new tuple, taken apart -/
theorem asg2 (hh : A.handled = none) (H : wpAny (model PW w) A (spliced (backTo vpos (starEach els env))) (Got σ h₀ L (St2 w A σ h₀ L env x y Q E)) E (st σ h t))
    (hs : swapsWithSole [.Tuple [.Name x px, .Name y py] kt tpos] (.Tuple els kv vpos) pos.line env = pure false) (hw : swappedStores [.Tuple [.Name x px, .Name y py] kt tpos] (.Tuple els kv vpos) env = pure (some [x, y])) :
    wpAny (model PW w) A (exec (.Assign [.Tuple [.Name x px, .Name y py] kt tpos] (.Tuple els kv vpos) pos) env) Q E (st σ h t) := by
  refine Assign_Tuple_swapped (Tuple_ (wpAny_mono H (fun vs s h => ?_) fun _ _ e => e)) hs hw
  obtain ⟨h, t, m, news, rfl, F, N, a, b, rfl, H⟩ := h
  refine nwT F N (Nat.le_of_ble_eq_true rfl) fun l h F N => ?_
  refine unpackItemsN_ (s := st σ h t) F N.n (N.n.isTup (.head _)) hh rfl fun h F N' => ?_
  have N : Led h₀ L h ((l, tup [a, b]) :: news) := ⟨N', N.d⟩
  exact assignInOrder_cons (bindName_ (wpAny_mono (H h _ F N.tail) (fun _ s h => assignInOrder_cons (bindName_ (wpAny_mono h (fun _ s h => assignInOrder_nil h) fun _ _ e => e))) fun _ _ e => e))
theorem asg3 (hh : A.handled = none) (H : wpAny (model PW w) A (spliced (backTo vpos (starEach els env))) (Got σ h₀ L (St3 w A σ h₀ L env x y z Q E)) E (st σ h t))
    (hs : swapsWithSole [.Tuple [.Name x px, .Name y py, .Name z pz] kt tpos] (.Tuple els kv vpos) pos.line env = pure false) (hw : swappedStores [.Tuple [.Name x px, .Name y py, .Name z pz] kt tpos] (.Tuple els kv vpos) env = pure (some [x, y, z])) :
    wpAny (model PW w) A (exec (.Assign [.Tuple [.Name x px, .Name y py, .Name z pz] kt tpos] (.Tuple els kv vpos) pos) env) Q E (st σ h t) := by
  refine Assign_Tuple_swapped (Tuple_ (wpAny_mono H (fun vs s h => ?_) fun _ _ e => e)) hs hw
  obtain ⟨h, t, m, news, rfl, F, N, a, b, c, rfl, H⟩ := h
  refine nwT F N (Nat.le_of_ble_eq_true rfl) fun l h F N => ?_
  refine unpackItemsN_ (s := st σ h t) F N.n (N.n.isTup (.head _)) hh rfl fun h F N' => ?_
  have N : Led h₀ L h ((l, tup [a, b, c]) :: news) := ⟨N', N.d⟩
  exact assignInOrder_cons (bindName_ (wpAny_mono (H h _ F N.tail) (fun _ s h => assignInOrder_cons (bindName_ (wpAny_mono h (fun _ s h => assignInOrder_cons (bindName_ (wpAny_mono h (fun _ s h => assignInOrder_nil h) fun _ _ e => e))) fun _ _ e => e))) fun _ _ e => e))
-- bools
end
end Og
end

-- Og6
section
open PySem PySem.W PyProof.Rows PySem.Calls
set_option maxRecDepth 100000
set_option Elab.async false
set_option linter.unusedVariables false
set_option maxHeartbeats 1000000
namespace Og
section
variable {w : World} {n k : Nat} {A : Around} {base h₀ h h' : Heap} {outer : List Env} {L I a l r : Addr} {σ : Shared} {t : Nat} {xs : List (S × Value)} {m : S → Option Value} {news : List Ob} {E : Value → Shared → Prop} {env : Env} {o o' : Obj} {Q : Value → Shared → Prop}
  {pre post : List Ob} {value slice : Expr} {b c : Array UInt8} {tb tc : Tok} {ks ls : List Int} {lo hi : Option Int} {vl vu : Value}
noncomputable abbrev gv (xs : List (S × Value)) (x : S) : Option Value := xs.lookup x
theorem Led.putAt (N : Led h₀ L h (pre ++ (a, o) :: post)) (hs : Heap.SameBut a h h') (ho : h'.get? a = some o') : Led h₀ L h' (pre ++ (a, o') :: post) := Led.set N (N.n.setAt (Led.ne N).1 (Led.ne N).2 hs ho)
theorem Led.frPutAt (N : Led h₀ L h (pre ++ (a, o) :: post)) (F : Fr h₀ L h m) (hs : Heap.SameBut a h h') : Fr h₀ L h' m := Led.frPut (Led.front N) F hs
theorem apLp (pre : List Ob) {its : Array Value} {kk : Nat} {v : Value} {post : List Ob} (F : Fr h₀ L h m) (N : Led h₀ L h (pre ++ (l, listOf its kk) :: post)) (hz : its.size ≤ sizeLine)
    (H : ∀ h, Fr h₀ L h m → Led h₀ L h (pre ++ (l, listOf (its.push v) (kk + 1)) :: post) → Q .none (st σ h t)) : wpAny (model PW w) A (call (.builtin "list.append") [.ref l, v]) Q E (st σ h t) :=
  append_at (s := st σ h t) ((Led.front N).get (.head _)) (fun h' hs ho => H h' (N.frPutAt F hs) (N.putAt hs ho)) hz
-- ints in lists
theorem IntsAre.snoc {vs : List Value} {ns : List Int} {i : Int} {u : Tok} (h : IntsAre vs ns) : IntsAre (vs ++ [.int i u]) (ns ++ [i]) := h.append (.cons _ _ .nil)
theorem push_ofList (vs : List Value) (v : Value) : (List.toArray vs).push v = (vs ++ [v]).toArray := by simp
theorem IntsAre.at {vs : List Value} {ns : List Int} (h : IntsAre vs ns) : ∀ {i : Nat} {v : Value}, vs[i]? = some v → ∃ k t, v = .int k t ∧ ns[i]? = some k := by
  induction h with
  | nil => intro i v e; simp at e
  | cons n t _ ih =>
    intro i v e
    cases i with
    | zero => simp at e; exact ⟨n, t, e.symm, rfl⟩
    | succ i => simpa using ih (by simpa using e)
-- tuples' items
theorem gT {its : List Value} {i : Int} {u : Tok} {j : Nat} {v : Value} (F : Fr h₀ L h m) (N : Led h₀ L h news) (hm : tAt h₀ l its.toArray news) (hlo : -(2 ^ 63) ≤ i) (hhi : i < 2 ^ 63) (hj : seqIndex? i its.length = some j) (hx : its[j]? = some v) (H : Q v (st σ h t))
    (hs : subscripted slice false (.ref l) (.int i u) = operate [.ref l, .int i u] (getItem (.ref l) (.int i u))) (hg : ∀ r, letTemporaryGo value (.ref l) r = pure ()) :
    wpAny (model PW w) A (subscriptTail value slice (.ref l) (.int i u)) Q E (st σ h t) := item_tupleL (s := st σ h t) (hm.tup F N.n) hlo hhi hj hx H hs hg
-- texts
-- lists of ints
theorem lgI {vs : List Value} {ns : List Int} {kk : Nat} {i : Int} {u : Tok} (N : Led h₀ L h news) (hm : (l, listOf vs.toArray kk) ∈ news) (hi : IntsAre vs ns) (h0 : 0 ≤ i) (h1 : i < ns.length) (hfit : i < 2 ^ 63) (H : ∀ u, Q (.int (ns.getD i.toNat 0) u) (st σ h t))
    (hs : subscripted slice false (.ref l) (.int i u) = operate [.ref l, .int i u] (getItem (.ref l) (.int i u))) : wpAny (model PW w) A (subscriptTail value slice (.ref l) (.int i u)) Q E (st σ h t) := ksa_sub (s := st σ h t) N.n hm hi h0 h1 hfit H hs
theorem lsI {Q : Unit → Shared → Prop} {vs : List Value} {ns : List Int} {kk : Nat} {i x : Int} {u ux : Tok} (F : Fr h₀ L h m) (N : Led h₀ L h ((l, listOf vs.toArray kk) :: news)) (hi : IntsAre vs ns) (h0 : 0 ≤ i) (h1 : i < ns.length) (hfit : i < 2 ^ 63)
    (H : ∀ ws h, IntsAre ws (ns.set i.toNat x) → Fr h₀ L h m → Led h₀ L h ((l, listOf ws.toArray kk) :: news) → Q () (st σ h t)) : wpAny (model PW w) A (setItem (.ref l) (.int i u) (.int x ux)) Q E (st σ h t) := by
  exact ksa_set (s := st σ h t) F N.n (.head N.off) hi h0 h1 hfit fun h' F' N' hi' _ _ => H _ h' hi' F' ⟨N', N.d⟩
theorem lenL {its : Array Value} (F : Fr h₀ L h m) (N : Led h₀ L h news) (hl : lAt h₀ l its news) (hfit : (its.size : Int) < 2 ^ 63) (H : ∀ u t, Q (.int (its.size : Int) u) (st σ h t)) : wpAny (model PW w) A (call (.builtin "len") [.ref l]) Q E (st σ h t) :=
  len_list (s := st σ h t) (hl.list F.keep N.n) hfit (H _ _)
-- bytes
noncomputable abbrev In (ns : List Int) : Prop := KBa.In ns
noncomputable abbrev bI (b : Array UInt8) : List Int := KBw.bInts b
theorem bytes_eq {b : Array UInt8} {ks : List Int} (h : bI b = ks) : b = byteArr ks := by
  subst h
  apply Array.toList_inj.mp
  simp only [byteArr, bI, KBw.bInts, List.map_map]
  show b.toList = _
  rw [List.toList_toArray]
  conv => lhs; rw [← List.map_id b.toList]
  apply List.map_congr_left
  intro c _
  show c = (c.toNat : Int).toNat.toUInt8
  simp
theorem mkB {vs : List Value} {ns : List Int} (F : Fr h₀ L h m) (N : Led h₀ L h news) (hh : A.handled = none) (hl : lAt h₀ l vs.toArray news) (hi : IntsAre vs ns) (hr : In ns) (hn : ns.length ≤ 16777216)
    (H : ∀ h u t, Fr h₀ L h m → Led h₀ L h news → Q (.bytes (byteArr ns) u) (st σ h t)) : wpAny (model PW w) A (call (.type "bytes") [.ref l]) Q E (st σ h t) :=
  KBa.make_K (s := st σ h t) F N.n hh (hl.list F.keep N.n) hi hr hn fun h' u t F' N' _ => H h' u t F' ⟨N', N.d⟩
theorem bgI {i : Int} {u : Tok} (hk : bI b = ks) (hfit : ks.length ≤ 1099511627776) (h0 : 0 ≤ i) (h1 : i < (ks.length : Int)) (H : ∀ u t, Q (.int (ks.getD i.toNat 0) u) (st σ h t))
    (hs : subscripted slice false (.bytes b tb) (.int i u) = operate [.bytes b tb, .int i u] (getItem (.bytes b tb) (.int i u))) (ht : ∀ r, letTemporaryGo value (.bytes b tb) r = pure ()) :
    wpAny (model PW w) A (subscriptTail value slice (.bytes b tb) (.int i u)) Q E (st σ h t) := KBw.item_K (s := st σ h t) hk hfit h0 h1 (fun u t _ _ => H u t) hs ht
theorem lenB (hk : bI b = ks) (hfit : ks.length ≤ 1099511627776) (H : ∀ u t, Q (.int (ks.length : Int) u) (st σ h t)) : wpAny (model PW w) A (call (.builtin "len") [.bytes b tb]) Q E (st σ h t) := KBw.len_K (s := st σ h t) hk hfit (H _ _)
theorem addB (hb : bI b = ks) (hc : bI c = ls) (hsz : ks.length + ls.length ≤ 16777216) (H : ∀ u t, bI (b ++ c) = ks ++ ls → Q (.bytes (b ++ c) u) (st σ h t)) : wpAny (model PW w) A (binaryOp .Add (.bytes b tb) (.bytes c tc)) Q E (st σ h t) := KBa.add_K (s := st σ h t) hb hc hsz fun u t e => H u t e
end
end Og
namespace Og
section
variable {α : Type} {M : Model} {A : Around} {E : Value → Shared → Prop} {s : Shared} {env : Env}
end
end Og
end

-- Og7
section
open PySem PySem.W PyProof.Rows PySem.Calls
set_option maxRecDepth 100000
set_option Elab.async false
set_option linter.unusedVariables false
set_option maxHeartbeats 1000000
namespace Og
theorem con_make' {w : World} {n : Nat} {news : List Ob} {P : Value → List Ob → Prop} {C fI : Addr} {rest : List Value} (hm : makesIn (hd.heap_1 w.params) C = true) (hi : findIn (hd.heap_1 w.params) (.ref C) "__init__" = some (some (.ref fI))) (hf : typeIn (hd.heap_1 w.params) (.ref fI) = some (.type "function"))
    (H : ∀ x dx, Con w (.ref fI) n (.ref x :: rest) ((x, instObj C dx) :: (dx, dictOf [] 0) :: news) (fun r news' => r = .none ∧ P (.ref x) news')) : Con w (.ref C) (n + 1) rest news P :=
  con_make hm hi hf fun x dx _ _ => H x dx
end Og
namespace Og
theorem lk_hd {β : Type} {x : S} {v : β} {xs : List (S × β)} : List.lookup x ((x, v) :: xs) = some v := by rw [List.lookup_cons, beq_self_eq_true]
theorem lk_tl {β : Type} {x y : S} {v : Option β} {w : β} {xs : List (S × β)} (h : (x == y) = false) (r : List.lookup x xs = v) : List.lookup x ((y, w) :: xs) = v := by rw [List.lookup_cons, h]; exact r
theorem kd {cn : S} {L a : Addr} {ccd : Value} {cl : List (S × Addr)} {x : S} {kk : NameKind} {cs : PySem.Scope} (h : cs.names.lookup x = some kk) : (envX cn cs L a ccd cl).kindOf x = some kk := h
end Og
namespace Og
section
variable {w : World} {n k : Nat} {A : Around} {h₀ h : Heap} {L T : Addr} {σ : Shared} {t : Nat} {m : S → Option Value} {news : List Ob} {E : Value → Shared → Prop} {env : Env} {Q : Unit → Shared → Prop} {e1 e2 e3 : Expr} {kt : Nat} {pos : Pos} {a b c : Value}
theorem asT2 (hh : A.handled = none) (F : Fr h₀ L h m) (N : Led h₀ L h news) (ht : tAt h₀ T (List.toArray [a, b]) news) (hs : assignEach [e1, e2] env = [(false, assign e1 env), (false, assign e2 env)])
    (H : ∀ h t, Fr h₀ L h m → Led h₀ L h news → wpAny (model PW w) A (assign e1 env a) (fun _ s => wpAny (model PW w) A (assign e2 env b) Q E s) E (st σ h t)) :
    wpAny (model PW w) A (assign (.Tuple [e1, e2] kt pos) env (.ref T)) Q E (st σ h t) := by
  refine wpAny_assign_Tuple (s := st σ h t) hh (ht.tup F N.n) (by rw [hs]; rfl) (by rw [hs]; rfl) fun h' he => ?_
  rw [hs]
  exact assignInOrder_cons (wpAny_mono (H h' t (F.extBut he (Nat.le_refl _)) ⟨N.n.extBut he (Nat.le_refl _), N.d⟩) (fun _ s h => assignInOrder_cons (wpAny_mono h (fun _ s h => assignInOrder_nil h) fun _ _ e => e)) fun _ _ e => e)
theorem asT3 (hh : A.handled = none) (F : Fr h₀ L h m) (N : Led h₀ L h news) (ht : tAt h₀ T (List.toArray [a, b, c]) news) (hs : assignEach [e1, e2, e3] env = [(false, assign e1 env), (false, assign e2 env), (false, assign e3 env)])
    (H : ∀ h t, Fr h₀ L h m → Led h₀ L h news → wpAny (model PW w) A (assign e1 env a) (fun _ s => wpAny (model PW w) A (assign e2 env b) (fun _ s => wpAny (model PW w) A (assign e3 env c) Q E s) E s) E (st σ h t)) :
    wpAny (model PW w) A (assign (.Tuple [e1, e2, e3] kt pos) env (.ref T)) Q E (st σ h t) := by
  refine wpAny_assign_Tuple (s := st σ h t) hh (ht.tup F N.n) (by rw [hs]; rfl) (by rw [hs]; rfl) fun h' he => ?_
  rw [hs]
  exact assignInOrder_cons (wpAny_mono (H h' t (F.extBut he (Nat.le_refl _)) ⟨N.n.extBut he (Nat.le_refl _), N.d⟩) (fun _ s h => assignInOrder_cons (wpAny_mono h (fun _ s h => assignInOrder_cons (wpAny_mono h (fun _ s h => assignInOrder_nil h) fun _ _ e => e)) fun _ _ e => e)) fun _ _ e => e)
end
end Og
namespace Og
section
variable {w : World} {A : Around} {h₀ h : Heap} {L : Addr} {σ : Shared} {t : Nat} {m : S → Option Value} {news : List Ob} {E : Value → Shared → Prop} {Q : Value → Shared → Prop} {a b : Int} {ta tb : Tok}
theorem Led.keeps {h' : Heap} (N : Led h₀ L h news) (k : ∀ b o, h.get? b = some o → h'.get? b = some o) : Led h₀ L h' news := ⟨N.n.keepsAll k, N.d⟩
theorem max_eq (a b : Int) (ta tb : Tok) : (if b > a then Value.int b tb else .int a ta) = .int (max a b) (if b > a then tb else ta) := by
  by_cases h : b > a
  · rw [if_pos h, if_pos h]; congr 1; omega
  · rw [if_neg h, if_neg h]; congr 1; omega
theorem min_eq (a b : Int) (ta tb : Tok) : (if b < a then Value.int b tb else .int a ta) = .int (min a b) (if b < a then tb else ta) := by
  by_cases h : b < a
  · rw [if_pos h, if_pos h]; congr 1; omega
  · rw [if_neg h, if_neg h]; congr 1; omega
theorem maxI (hh : A.handled = none) (F : Fr h₀ L h m) (N : Led h₀ L h news) (H : ∀ u h t, Fr h₀ L h m → Led h₀ L h news → Q (.int (max a b) u) (st σ h t)) : wpAny (model PW w) A (call (.builtin "max") [.int a ta, .int b tb]) Q E (st σ h t) :=
  max_two_ints (s := st σ h t) hh fun h' tk k => by rw [max_eq]; exact H _ h' tk (F.keptAll k) (N.keeps k)
theorem minI (hh : A.handled = none) (F : Fr h₀ L h m) (N : Led h₀ L h news) (H : ∀ u h t, Fr h₀ L h m → Led h₀ L h news → Q (.int (min a b) u) (st σ h t)) : wpAny (model PW w) A (call (.builtin "min") [.int a ta, .int b tb]) Q E (st σ h t) :=
  min_two_ints (s := st σ h t) hh fun h' tk k => by rw [min_eq]; exact H _ h' tk (F.keptAll k) (N.keeps k)
end
end Og
end

-- Og8
section
open PySem PySem.W PyProof.Rows PySem.Calls
set_option maxRecDepth 100000
set_option Elab.async false
set_option linter.unusedVariables false
set_option maxHeartbeats 1000000
namespace Og
local macro_rules | `(tactic| wp_walk using $r) => return Og.tacWU r
open Sem (wp)
section
variable {w : World} {A : Around} {E : Value → Shared → Prop} {s : Shared} {b : Array UInt8} {t : Tok}
theorem nextOf_bytes_item {it : Addr} {i : Nat} {c : UInt8} {Q : Value → Shared → Prop} (hit : KBw.IsBytesIter s.heap it b t i) (hx : b[i]? = some c)
    (hQ : ∀ h', KBw.IsBytesIter h' it b t (i + 1) → Heap.SameBut it s.heap h' → Q (.int (c.toNat : Int) s.toks) { s with heap := h', toks := s.toks + 1 }) : wpAny (model PW w) A (Builtin.SmallTypes.nextOf (.ref it)) Q E s := by
  obtain ⟨o, ho, hc, hd⟩ := id hit
  unfold Builtin.SmallTypes.nextOf
  refine wpAny_bind (wpAny_callSpecial?_slot (name := Str.ofString "__next__") (KBw.iter_typeIs hit) KBw.slot_next (wpAny_call_entry KBw.slot_next (KBw.iter_typeIs hit) KBw.entry_next ?_ (KBw.args_next _)))
  show wpAny _ _ (field (.ref it) 0 >>= _) _ _ s
  refine wpAny_bind (wpAny_field ho hd (x := .bytes b t) rfl ?_)
  show wpAny _ _ (if (Value.bytes b t == Value.none) = true then _ else _) _ _ s
  rw [if_neg (show ¬ ((Value.bytes b t == Value.none) = true) from Bool.false_ne_true)]
  show wpAny _ _ (field (.ref it) 1 >>= _) _ _ s
  refine wpAny_bind (wpAny_field ho hd (x := .int i 0) rfl (wpAny_bind (wpAny_of_eq (a := b) rfl ?_)))
  simp only [Int.toNat_natCast, hx]
  refine wpAny_bind (wpAny_setField ho hd (by simp) (wpAny_bind (wpAny_mkInt (wpAny_pure ⟨_, rfl, wpAny_pure (hQ _ ?_ (Heap.SameBut.update ..))⟩))))
  exact ⟨_, Heap.get?_update_self _ ho (Obj.isFreed_of_fields (Obj.data_mapFields hd _)), (Obj.cls_mapFields ..).trans hc, by rw [Obj.data_mapFields hd]; simp [rawInt]⟩
theorem nextOf_bytes_end {it : Addr} {i : Nat} {Q : Value → Shared → Prop} (hh : A.handled = none) (hit : KBw.IsBytesIter s.heap it b t i) (hx : b[i]? = none)
    (hE : ∀ h' e, Heap.ExtBut it s.heap h' → (∃ o, h'.get? e = some o ∧ o.cls = .type "StopIteration") → E (.ref e) { s with heap := h' }) : wpAny (model PW w) A (Builtin.SmallTypes.nextOf (.ref it)) Q E s := by
  obtain ⟨o, ho, hc, hd⟩ := id hit
  unfold Builtin.SmallTypes.nextOf
  refine wpAny_bind (wpAny_callSpecial?_slot (name := Str.ofString "__next__") (KBw.iter_typeIs hit) KBw.slot_next (wpAny_call_entry KBw.slot_next (KBw.iter_typeIs hit) KBw.entry_next ?_ (KBw.args_next _)))
  show wpAny _ _ (field (.ref it) 0 >>= _) _ _ s
  refine wpAny_bind (wpAny_field ho hd (x := .bytes b t) rfl ?_)
  show wpAny _ _ (if (Value.bytes b t == Value.none) = true then _ else _) _ _ s
  rw [if_neg (show ¬ ((Value.bytes b t == Value.none) = true) from Bool.false_ne_true)]
  show wpAny _ _ (field (.ref it) 1 >>= _) _ _ s
  refine wpAny_bind (wpAny_field ho hd (x := .int i 0) rfl (wpAny_bind (wpAny_of_eq (a := b) rfl ?_)))
  simp only [Int.toNat_natCast, hx]
  refine wpAny_bind (wpAny_rule (wpAny_bind (wpAny_setField ho hd (by simp) ?_)))
  show wpAny _ _ (newExc (.type "StopIteration") [] >>= _) _ _ _
  refine wpAny_bind ?_
  simp only [newExc, newTuple]
  refine wpAny_bind (wpAny_newObj_type ?_ (by size_fits))
  refine wpAny_bind (m := firstArgMember _ _) (wpAny_of_eq (a := Value.none) (by first | rfl | (simp only [firstArgMember]; rfl)) ?_)
  refine wpAny_newObj_type ?_ (by size_fits)
  simp only [raiseNew]
  refine wpAny_bind (wpAny_handled ?_)
  rw [show A.in1.handled = none from hh]
  refine wpAny_bind (wpAny_pure (wpAny_throw ?_))
  exact hE _ _ (((Heap.SameBut.update ..).extBut.push _).push _) ⟨_, Heap.get?_push_size _ rfl, rfl⟩
theorem draws_bytes (hh : A.handled = none) (it : Addr) (b : Array UInt8) (t : Tok) : Draws PW w A it [it] b.size (fun i v => ∃ c u, b[i]? = some c ∧ v = .int (c.toNat : Int) u) (fun i h => KBw.IsBytesIter h it b t i) where
  live := fun _ _ st => let ⟨o, ho, _⟩ := st; ⟨o, ho⟩
  frame := fun _ _ _ st hk => let ⟨o, ho, r⟩ := st; ⟨o, hk it (by simp) o ho, r⟩
  item := fun i s Q E hi st hQ => by
    refine nextOf_bytes_item st (c := b[i]) (by simp [hi]) fun h' hit' hs' => ?_
    exact hQ _ h' (s.toks + 1) ⟨_, _, by simp [hi], rfl⟩ hit' hs'
  done := fun s Q E st hE => nextOf_bytes_end hh st (by simp) hE
theorem ctt_any {M : Model} {A : Around} {c : Value} {Q : Bool → Shared → Prop} {E : Value → Shared → Prop} {s : Shared} (H : ∀ b, Q b s) : wpAny M A (Builtin.SmallTypes.calledThroughType c) Q E s := by
  unfold Builtin.SmallTypes.calledThroughType
  exact wpAny_bind (wpAny_stack_any fun st => wpAny_pure (H _))
set_option maxHeartbeats 2000000 in
theorem meets_enum_bytes (b : Array UInt8) (t : Tok) :
    Meets (Builtin.«enumerate.__new__» ⟨[.type "enumerate", .bytes b t], []⟩) (fun _ R s =>
      R (.ok (.ret (.ref (s.heap.push { cls := .type "bytes_iterator", data := .fields #[.bytes b t, .int 0 0] }).objs.size)))
        { s with heap := (s.heap.push { cls := .type "bytes_iterator", data := .fields #[.bytes b t, .int 0 0] }).push { cls := .type "enumerate", data := .fields #[.none, .bool false, .ref s.heap.objs.size, rawInt 0, .none, .none] } }) :=
  .of_wp fun prog w A R s h => by
    obtain ⟨hp, g, d, tk, os⟩ := s
    have hsub := sub_enumerate
    wp_walk using ctt_any ?_
    intro x
    cases x <;> (wp_walk using KBw.pyIter_bytes ?_; exact ⟨_, rfl, h⟩)
end
end Og
end

-- Og9
section
open PySem PySem.W PyProof.Rows PySem.Calls
set_option maxRecDepth 100000
set_option Elab.async false
set_option linter.unusedVariables false
set_option maxHeartbeats 1000000
namespace Og
section
variable {w : World} {n k : Nat} {A : Around} {h₀ h h' : Heap} {L it e l : Addr} {σ : Shared} {t : Nat} {xs : List (S × Value)} {m : S → Option Value} {news : List Ob} {E : Value → Shared → Prop} {env : Env} {o o' : Obj} {b : Array UInt8} {tb : Tok}
noncomputable abbrev enO (it : Addr) (i : Int) (old : Value) : Obj := { cls := .type "enumerate", dict := none, data := .fields #[.none, .bool false, .ref it, rawInt i, .none, old], slots := #[] }
noncomputable abbrev enOut (it : Addr) (i : Int) (item : Value) (T : Addr) : Obj := { cls := .type "enumerate", dict := none, data := .fields #[rawInt T, .bool false, .ref it, rawInt i, .none, item], slots := #[] }
/-- two new objects -/
theorem Led.two (F : Fr h₀ L h m) (N : Led h₀ L h news) (hk : ∀ b o, h.get? b = some o → h'.get? b = some o) (ho : h'.get? h.objs.size = some o) (ho' : h'.get? (h.objs.size + 1) = some o') :
    Led h₀ L h' ((h.objs.size + 1, o') :: (h.objs.size, o) :: news) := by
  have N1 := N.keeps hk
  have fresh : ∀ a, h.objs.size ≤ a → h₀.get? a = none := fun a ha => by
    cases q : h₀.get? a with
    | none => rfl
    | some p => exact absurd (Heap.lt_size (F.keep a p q)) (Nat.not_lt.mpr ha)
  have lL : L < h.objs.size := F.ns.lt
  have c1 : Led h₀ L h' ((h.objs.size, o) :: news) := Led.cons (fun p hp => by
    rcases List.mem_cons.mp hp with rfl | hp
    · exact ⟨ho, Nat.ne_of_gt lL, fresh _ (Nat.le_refl _)⟩
    · exact N1.n p hp) N.d N.lt
  refine Led.cons (fun p hp => ?_) c1.d fun p hp => ?_
  · rcases List.mem_cons.mp hp with rfl | hp
    · exact ⟨ho', Nat.ne_of_gt (Nat.lt_succ_of_lt lL), fresh _ (Nat.le_succ _)⟩
    · exact c1.n p hp
  · rcases List.mem_cons.mp hp with rfl | hp
    · exact Nat.lt_succ_self _
    · exact Nat.lt_succ_of_lt (N.lt p hp)
theorem enL {its : Array Value} {Q : Value → Shared → Prop} (F : Fr h₀ L h m) (N : Led h₀ L h news) (hl : lAt h₀ l its news)
    (H : ∀ e it io h, Fr h₀ L h m → Led h₀ L h ((e, enO it 0 .none) :: (it, io) :: news) → lIt l 0 io → l ≠ it → Q (.ref e) (st σ h t)) : wpAny (model PW w) A (call (.type "enumerate") [.ref l]) Q E (st σ h t) := by
  have hl' := hl.list F.keep N.n
  refine call_enumerate_list (s := st σ h t) hl' fun h' he hi _ hk => ?_
  obtain ⟨io, e1, c, d⟩ := hi
  obtain ⟨o, ho, _⟩ := hl'
  exact H _ _ io h' (F.keptAll hk) (Led.two F N hk e1 he) ⟨c, d⟩ (Nat.ne_of_lt (Heap.lt_size ho))
theorem enB {Q : Value → Shared → Prop} (F : Fr h₀ L h m) (N : Led h₀ L h news) (H : ∀ e it io h, Fr h₀ L h m → Led h₀ L h ((e, enO it 0 .none) :: (it, io) :: news) → bIt b tb 0 io → Q (.ref e) (st σ h t)) :
    wpAny (model PW w) A (call (.type "enumerate") [.bytes b tb]) Q E (st σ h t) := by
  refine callType_new (s := st σ h t) PySem.F.called_enumerate (by decide) (PySem.F.typeCall_enumerate_1 _) (PySem.F.newCall_enumerate_1 _) (fun obj => PySem.F.args_object_init_2 obj _) PySem.F.entry_enumerate_new (meets_enum_bytes b tb) ?_
  have hz : (h.push { cls := .type "bytes_iterator", data := .fields #[.bytes b tb, .int 0 0] }).objs.size = h.objs.size + 1 := Heap.size_push ..
  generalize hp : h.push { cls := .type "bytes_iterator", data := .fields #[.bytes b tb, .int 0 0] } = h1 at hz
  show _ ∧ _
  rw [hz]
  have k1 : ∀ b o, h.get? b = some o → h1.get? b = some o := fun b o q => hp ▸ Heap.get?_push_of_some _ q
  have e1 : h1.get? h.objs.size = some { cls := .type "bytes_iterator", data := .fields #[.bytes b tb, .int 0 0] } := hp ▸ Heap.get?_push_size _ rfl
  have e2 : (h1.push (enO h.objs.size 0 .none)).get? (h.objs.size + 1) = some (enO h.objs.size 0 .none) := by rw [← hz]; exact Heap.get?_push_size _ rfl
  refine ⟨⟨_, e2, rfl⟩, H _ _ _ _ (F.keptAll fun b o q => Heap.get?_push_of_some _ (k1 b o q)) (Led.two F N (fun b o q => Heap.get?_push_of_some _ (k1 b o q)) (Heap.get?_push_of_some _ e1) e2) ⟨rfl, rfl⟩⟩
theorem itE {Q : Value → Shared → Prop} {i : Int} {old : Value} (N : Led h₀ L h ((e, enO it i old) :: news)) (H : Q (.ref e) (st σ h t)) : wpAny (model PW w) A (pyIter (.ref e)) Q E (st σ h t) :=
  wpAny_pyIter_enum (s := st σ h t) (N.get (.head _)) H

inductive EnI (h₀ : Heap) (L : Addr) (σ : Shared) (e it : Addr) (n : Nat) (St : Nat → Heap → Prop) (J : Nat → List (S × Value) → List Ob → Prop) (k : Nat) (s : Shared) : Prop where
  | mk (i : Nat) (old : Value) (io : Obj) (xs : List (S × Value)) (nw : List Ob) (h : Heap) (t : Nat) (ek : k = n - i) (hi : i ≤ n) (es : s = Og.st σ h t) (hst : St i h) (hj : J i xs nw) (F : Fr h₀ L h (lk xs)) (N : Led h₀ L h ((e, enO it (i : Nat) old) :: (it, io) :: nw)) : EnI h₀ L σ e it n St J k s
theorem for_goE {fp : List Addr} {P : Nat → Value → Prop} {St : Nat → Heap → Prop} {need : List Ob → Prop} {elts : List Expr} {kt : Nat} {pos : Pos} {body : List Stmt} {Q : Flow → Shared → Prop} {io : Obj} {news₀ : List Ob} (D : Draws PW w A.in1 it fp n P St) (hef : e ∉ fp) (hif : it ∈ fp)
    (hSt : ∀ i h h' io l l' (m m' : S → Option Value), St i h → Fr h₀ L h' m' → Led h₀ L h l → Led h₀ L h' l' → (it, io) ∈ l → (it, io) ∈ l' → need l' → St i h')
    (mono : ∀ l l' : List Ob, (∀ p ∈ l, p ∈ l') → need l → need l')
    (J : Nat → List (S × Value) → List Ob → Prop) (hneed : ∀ i xs nw, J i xs nw → need nw)
    (F : Fr h₀ L h (lk xs)) (N : Led h₀ L h ((e, enO it 0 .none) :: (it, io) :: news₀)) (h0 : St 0 h) (j0 : J 0 xs news₀)
    (step : ∀ i v T ti eo io xs nw h t, i < n → P i v → J i xs nw → Fr h₀ L h (lk xs) → Led h₀ L h ((T, tup [.int i ti, v]) :: (e, eo) :: (it, io) :: nw) →
      wpAny (model PW w) A (assign (.Tuple elts kt pos) env (.ref T)) (fun _ s₂ => wpAny (model PW w) A (execs body env) (Step h₀ L σ Q fun xs' nw' => ∃ nw, nw' = (T, tup [.int i ti, v]) :: (e, eo) :: (it, io) :: nw ∧ J (i + 1) xs' nw) E s₂) E (st σ h t))
    (done : ∀ xs nw h t, J n xs nw → Fr h₀ L h (lk xs) → Led h₀ L h nw → Q .next (st σ h t)) (hE : PassesOwn (model PW w) A env E) :
    codeAny (model PW w) A (.forLoop (.Tuple elts kt pos) (.ref e) body [] env) (fun r s' => match r with | .ok f => Q f s' | .error e => cameBackBy (model PW w) A env E e s') (st σ h t) := by
  have hei : e ≠ it := fun q => hef (q ▸ hif)
  refine codeAny_forLoop_any (EnI h₀ L σ e it n St J) ?_ n
    ⟨0, .none, io, xs, news₀, h, t, rfl, Nat.zero_le _, rfl, h0, j0, F, N⟩
  rintro k s' ⟨i, old, io, xs, nw, h, t, rfl, hi, rfl, hst, hj, F, N⟩
  by_cases hlt : i < n
  · refine wpAny_pyNext_enum_itemD (s := Og.st σ h t) D (N.get (.head _)) hst hlt hei hef fun v h' tk hv heo hst' hT hsz hk => ?_
    have hTn : h₀.get? h.objs.size = none := next_is_new F
    have lL : L < h.objs.size := F.ns.lt
    have ne1 : e ≠ h.objs.size := Nat.ne_of_lt (N.lt _ (.head _))
    have ne2 : it ≠ h.objs.size := Nat.ne_of_lt (N.lt _ (.tail _ (.head _)))
    obtain ⟨io', hio⟩ := D.live _ _ hst'
    have F' : Fr h₀ L h' (lk xs) := ⟨F.ns.at' fun o q => hk L o (Ne.symm N.neL) (Ne.symm N.tail.neL) q, fun b o q => hk b o (fun z => by rw [z, N.no] at q; cases q) (fun z => by rw [z, N.tail.no] at q; cases q) (F.keep b o q), F.above⟩
    have N' : Led h₀ L h' ((h.objs.size, tup [.int i tk, v]) :: (e, enOut it ((i : Int) + 1) v h.objs.size) :: (it, io') :: nw) := Led.cons (fun p hp => by
      rcases List.mem_cons.mp hp with rfl | hp
      · exact ⟨hT, Nat.ne_of_gt lL, hTn⟩
      rcases List.mem_cons.mp hp with rfl | hp
      · exact ⟨heo, N.neL, N.no⟩
      rcases List.mem_cons.mp hp with rfl | hp
      · exact ⟨hio, N.tail.neL, N.tail.no⟩
      · exact ⟨hk _ _ (N.off p (.tail _ hp)) (N.tail.off p hp) (N.n p (.tail _ (.tail _ hp))).1, (N.n p (.tail _ (.tail _ hp))).2⟩) (by simpa using N.d) (fun p hp => by
        rcases List.mem_cons.mp hp with rfl | hp
        · exact (N.lt _ (.head _) : e < _)
        rcases List.mem_cons.mp hp with rfl | hp
        · exact (N.lt _ (.tail _ (.head _)) : it < _)
        · exact N.lt _ (.tail _ (.tail _ hp)))
    refine wpAny_letOwnedTupleGo_enum heo fun h'' he'' hs'' => ?_
    have Nq : Led h₀ L h' ((e, enOut it ((i : Int) + 1) v h.objs.size) :: (h.objs.size, tup [.int i tk, v]) :: (it, io') :: nw) := Led.front (pre := [_]) N'
    have F'' := Nq.frPut F' hs''
    have N'' := Led.front (pre := [_]) (Nq.put hs'' he'')
    refine wpAny_mono (wpAny_passesOwn hE (step i v _ tk _ io' xs nw h'' _ hlt hv hj F'' N'')) (fun _ s₂ h₂ => wpAny_mono (wpAny_passesOwn hE h₂) (fun fl s₃ h₃ => ?_) fun _ _ e => e) fun _ _ e => e
    have key : ∀ xs' nw₃ h₃ t₃, Fr h₀ L h₃ (lk xs') → Led h₀ L h₃ ((h.objs.size, tup [.int i tk, v]) :: (e, enO it ((i : Int) + 1) v) :: (it, io') :: nw₃) → J (i + 1) xs' nw₃ → ∃ m, m < n - i ∧ EnI h₀ L σ e it n St J m (Og.st σ h₃ t₃) := fun xs' nw₃ h₃ t₃ F₃ N₃ hj₃ => by
      refine ⟨n - (i + 1), by exact Nat.sub_succ_lt_self n i hlt, i + 1, v, io', xs', nw₃, h₃, t₃, rfl, hlt, rfl, ?_, hj₃, F₃, N₃.tail⟩
      have s1 : St (i + 1) h'' := D.frame _ _ _ hst' fun b hb o q => hs''.extBut b o (fun z => hef (z ▸ hb)) q
      exact hSt _ _ _ io' _ _ (lk xs) _ s1 F₃ N'' N₃ (.tail _ (.tail _ (.head _))) (.tail _ (.tail _ (.head _))) (mono _ _ (fun p hp => .tail _ (.tail _ (.tail _ hp))) (hneed _ _ _ hj₃))
    cases fl with
    | ret v => exact h₃
    | brk => exact h₃
    | next => obtain ⟨xs', _, h₃, t₃, rfl, F₃, N₃, nw₃, rfl, hj₃⟩ := h₃; exact key _ _ _ _ F₃ N₃ hj₃
    | cont => obtain ⟨xs', _, h₃, t₃, rfl, F₃, N₃, nw₃, rfl, hj₃⟩ := h₃; exact key _ _ _ _ F₃ N₃ hj₃
  · obtain rfl : i = n := by exact Nat.le_antisymm hi (Nat.le_of_not_lt hlt)
    refine wpAny_pyNext_enum_endD (s := Og.st σ h t) D (N.get (.head _)) hst fun h' he => wpAny_execs_nil ?_
    have Ni := Led.front (pre := [_]) N
    exact done xs nw h' t hj (Ni.frBut F he) (Ni.but he).tail
end
end Og
end

-- Og10
section
open PySem PySem.W PyProof.Rows PySem.Calls Builtin
set_option maxRecDepth 100000
set_option Elab.async false
set_option linter.unusedVariables false
set_option maxHeartbeats 1000000
namespace Og
local macro_rules | `(tactic| wp_walk using $r) => return Og.tacWU r
local macro_rules | `(tactic| wp_walk) => return Og.tacWW
section
variable {M : Model} {A : Around} {E : Value → Shared → Prop} {s : Shared}
theorem wbuf {id : String} {b : Array UInt8} {t : Tok} {Q : Option (Array UInt8) → Shared → Prop} (h : Q (some b) s) : wpAny M A (Bytes.buffer? id (.bytes b t)) Q E s := wpAny_of_eq KBy.buffer_eq h
theorem wintbuf : typeLookup (.type "int") "__buffer__" = pure none := by rw [typeLookup_type, builtinLookup_eq_fast]; kernel_rfl
theorem wintidx : typeLookup (.type "int") "__index__" = pure (some (.builtin "int.__index__")) := by rw [typeLookup_type, builtinLookup_eq_fast]; kernel_rfl
theorem gives_in (b : Array UInt8) (k : Int) (h : 0 ≤ k ∧ k < 256) (t u : Tok) : Gives (Builtin.«bytes.__contains__» ⟨[.bytes b t, .int k u], []⟩) (.val (.bool (b.contains k.toNat.toUInt8))) := by
  with_reducible refine .of_wp fun M A E s Q hq => ?_
  wp_walk using wbuf ?_
  exact ⟨_, rfl, hq⟩
noncomputable def bfind (b : Array UInt8) (k : Int) : Option Nat :=
  (if (Bytes.window b.size none none).snd - (Bytes.window b.size none none).fst < ((#[k.toNat.toUInt8] : Array UInt8).size : Int) then none else some ((Bytes.window b.size none none).fst.toNat, (Bytes.window b.size none none).snd.toNat)).bind
    fun x => match x with | (lo, hi) => if false = true then Bytes.rfind? b #[k.toNat.toUInt8] lo hi else Bytes.find? b #[k.toNat.toUInt8] lo hi
theorem gives_index (b : Array UInt8) (k : Int) (h : 0 ≤ k ∧ k < 256) (t u : Tok) {j : Nat} (hj : bfind b k = some j) : Gives (Builtin.«bytes.index» ⟨[.bytes b t, .int k u], []⟩) (.int (j : Int)) := by
  with_reducible refine .of_wp fun M A E s Q hq => ?_
  have f1 := wintbuf
  have f2 := wintidx
  wp_walk using wbuf ?_
  unfold bfind at hj
  rw [hj]
  wp_walk
  exact ⟨_, rfl, hq⟩
end
theorem slot_ix : Slot "bytes" "index" "bytes.index" :=
  .of (owner := "bytes") (n := "index") (by rw [typeLookup_type, builtinLookup_eq_fast]; kernel_rfl) (by decide +kernel) (by decide +kernel) (by decide +kernel)
    (by first | exact .inl (by decide +kernel) | exact .inr (by decide +kernel)) (by rw [isSubtype_type]; kernel_rfl)
theorem type_ix : typeOf (.builtin "bytes.index") = pure (.type "method_descriptor") := by show builtinType _ = _; rw [builtinType_eq_fast]; kernel_rfl
theorem entry_ix : entryFor table "bytes.index" = some Builtin.«bytes.index» := entryFor_of_tree (by kernel_rfl)
theorem args_ix (a b : Value) : argsOk "bytes.index" ⟨[a, b], []⟩ := by unfold argsOk; kernel_rfl
section
variable {w : World} {n k : Nat} {A : Around} {h₀ h : Heap} {L : Addr} {σ : Shared} {t : Nat} {m : S → Option Value} {news : List Ob} {E : Value → Shared → Prop} {Q : Value → Shared → Prop} {b : Array UInt8} {tb u : Tok} {i : Int}
theorem inB (hi : 0 ≤ i ∧ i < 256) (H : Q (.bool (b.contains i.toNat.toUInt8)) (st σ h t)) : wpAny (model PW w) A (compareOp .In (.int i u) (.bytes b tb)) Q E (st σ h t) :=
  by with_reducible exact in_gives (typeIs_bytes _ _ _) FB.slot_bytes_contains FB.entry_bytes_contains (FB.args_bytes_contains_2 _ _) (gives_in b i hi tb u) H
theorem ixM {pl : Sem Bool} {Q : Value × List Value → Shared → Prop} (H : Q (.builtin "bytes.index", [.bytes b tb]) (st σ h t)) : wpAny (model PW w) A (getMethod (.bytes b tb) "index" pl) Q E (st σ h t) :=
  by with_reducible exact KBd.method_of (.bytes b tb) (typeIs_bytes _ _ _) slot_ix type_ix KBd.noRef H
theorem ixB (hi : 0 ≤ i ∧ i < 256) {j : Nat} (hj : bfind b i = some j) (H : ∀ u t, Q (.int (j : Int) u) (st σ h t)) : wpAny (model PW w) A (call (.builtin "bytes.index") [.bytes b tb, .int i u]) Q E (st σ h t) :=
  by (with_reducible refine call_gives slot_ix (typeIs_bytes _ _ _) entry_ix (args_ix _ _) (gives_index b i hi tb u hj) ?_); exact H _ _
/-- a chain of two comparisons -/
theorem chain2 {env : Env} {l r₁ r₂ : Expr} {op₁ op₂ : CmpOp} {pos : Pos} {whole : Sem Value} {Q : Bool → Shared → Prop} (H : wpAny (model PW w) A (eval l env) (fun a s₁ => wpAny (model PW w) A (eval r₁ env) (fun b s₁ => wpAny (model PW w) A (compareOp op₁ a b) (fun c s₂ => wpAny (model PW w) A (truthy c)
      (fun t s₃ => if t = true then wpAny (model PW w) A (eval r₂ env) (fun d s₄ => wpAny (model PW w) A (compareOp op₂ b d) (fun c s₅ => wpAny (model PW w) A (truthy c) Q E s₅) E s₄) E s₃ else Q false s₃) E s₂) E s₁) E s₁) E (st σ h t))
    (hm : lastMarks [op₁, op₂] [r₁, r₂] = false) : wpAny (model PW w) A (isTrue (.Compare l [op₁, op₂] [r₁, r₂] pos) env whole) Q E (st σ h t) := by
  refine isTrue_chain (wpAny_mono H (fun a s₁ h₁ => test_link (wpAny_mono h₁ (fun b s₁ h₂ => wpAny_mono h₂ (fun c s₂ h₃ => wpAny_mono h₃ (fun t s₃ h₄ => ?_) fun _ _ e => e) fun _ _ e => e) fun _ _ e => e)) fun _ _ e => e) hm
  cases t
  · exact h₄
  · exact test_last h₄
end
end Og
end

-- Og11
section
open PySem PySem.W PyProof.Rows PySem.Calls
set_option maxRecDepth 100000
set_option Elab.async false
set_option linter.unusedVariables false
set_option maxHeartbeats 1000000
namespace Og
section
variable {w : World} {n k : Nat} {A : Around} {h₀ h h' : Heap} {L it e l : Addr} {σ : Shared} {t : Nat} {xs : List (S × Value)} {m : S → Option Value} {news : List Ob} {E : Value → Shared → Prop} {env : Env} {io : Obj} {b : Array UInt8} {tb : Tok}
  {elts : List Expr} {kt : Nat} {pos : Pos} {body : List Stmt} {Q : Flow → Shared → Prop} {its : Array Value}
theorem for_goEL (hh : A.handled = none) (hne : l ≠ it) (J : Nat → List (S × Value) → List Ob → Prop) (hneed : ∀ i xs nw, J i xs nw → lAt h₀ l its nw)
    (F : Fr h₀ L h (lk xs)) (N : Led h₀ L h ((e, enO it 0 .none) :: (it, io) :: news)) (hio : lIt l 0 io) (j0 : J 0 xs news)
    (step : ∀ i v T ti eo io xs nw h t, i < its.size → its[i]? = some v → J i xs nw → Fr h₀ L h (lk xs) → Led h₀ L h ((T, tup [.int i ti, v]) :: (e, eo) :: (it, io) :: nw) →
      wpAny (model PW w) A (assign (.Tuple elts kt pos) env (.ref T)) (fun _ s₂ => wpAny (model PW w) A (execs body env) (Step h₀ L σ Q fun xs' nw' => ∃ nw, nw' = (T, tup [.int i ti, v]) :: (e, eo) :: (it, io) :: nw ∧ J (i + 1) xs' nw) E s₂) E (st σ h t))
    (done : ∀ xs nw h t, J its.size xs nw → Fr h₀ L h (lk xs) → Led h₀ L h nw → Q .next (st σ h t)) (hE : PassesOwn (model PW w) A env E) :
    codeAny (model PW w) A (.forLoop (.Tuple elts kt pos) (.ref e) body [] env) (fun r s' => match r with | .ok f => Q f s' | .error e => cameBackBy (model PW w) A env E e s') (st σ h t) := by
  have el : e ≠ l := fun q => by
    subst q
    rcases hneed _ _ _ j0 with ⟨o, ho, _⟩ | ⟨o, ho, _⟩
    · rw [N.no] at ho; cases ho
    · exact N.off _ (.tail _ ho) rfl
  refine for_goE (need := lAt h₀ l its) (Draws.list (A := A.in1) hh it l hne its) (fun q => ?_) (.head _) ?_ ?_ J hneed F N ⟨⟨io, N.tail.get (.head _), hio⟩, (hneed _ _ _ j0).list F.keep N.tail.tail.n⟩ j0 step done hE
  · rcases List.mem_cons.mp q with q | q
    · exact N.off (it, io) (.head _) q.symm
    · exact el (List.mem_singleton.mp q)
  · intro i h h' io l₁ l₂ m m' s F' N N' h1 h2 nd
    obtain ⟨⟨o, ho, hc⟩, _⟩ := s
    rw [N.get h1] at ho; cases ho
    exact ⟨⟨io, N'.get h2, hc⟩, nd.list F'.keep N'.n⟩
  · intro l₁ l₂ hk nd
    rcases nd with x | ⟨o, hm, r⟩
    · exact .inl x
    · exact .inr ⟨o, hk _ hm, r⟩
theorem for_goEB (hh : A.handled = none) (J : Nat → List (S × Value) → List Ob → Prop)
    (F : Fr h₀ L h (lk xs)) (N : Led h₀ L h ((e, enO it 0 .none) :: (it, io) :: news)) (hio : bIt b tb 0 io) (j0 : J 0 xs news)
    (step : ∀ i v T ti eo io xs nw h t, i < b.size → (∃ c u, b[i]? = some c ∧ v = .int (c.toNat : Int) u) → J i xs nw → Fr h₀ L h (lk xs) → Led h₀ L h ((T, tup [.int i ti, v]) :: (e, eo) :: (it, io) :: nw) →
      wpAny (model PW w) A (assign (.Tuple elts kt pos) env (.ref T)) (fun _ s₂ => wpAny (model PW w) A (execs body env) (Step h₀ L σ Q fun xs' nw' => ∃ nw, nw' = (T, tup [.int i ti, v]) :: (e, eo) :: (it, io) :: nw ∧ J (i + 1) xs' nw) E s₂) E (st σ h t))
    (done : ∀ xs nw h t, J b.size xs nw → Fr h₀ L h (lk xs) → Led h₀ L h nw → Q .next (st σ h t)) (hE : PassesOwn (model PW w) A env E) :
    codeAny (model PW w) A (.forLoop (.Tuple elts kt pos) (.ref e) body [] env) (fun r s' => match r with | .ok f => Q f s' | .error e => cameBackBy (model PW w) A env E e s') (st σ h t) := by
  refine for_goE (need := fun _ => True) (draws_bytes (A := A.in1) hh it b tb) (fun q => N.off (it, io) (.head _) (List.mem_singleton.mp q).symm) (.head _) ?_ (fun _ _ _ _ => trivial) J (fun _ _ _ _ => trivial) F N ⟨io, N.tail.get (.head _), hio⟩ j0 step done hE
  intro i h h' io l₁ l₂ m m' s F' N N' h1 h2 nd
  obtain ⟨o, ho, hc⟩ := s
  rw [N.get h1] at ho; cases ho
  exact ⟨io, N'.get h2, hc⟩
end
end Og
namespace Og
section
variable {w : World} {n k : Nat} {A : Around} {base h₀ h : Heap} {outer : List Env} {L x dx C f : Addr} {σ : Shared} {t : Nat} {m : S → Option Value} {news : List Ob} {E : Value → Shared → Prop} {env : Env} {es : List DictEntry} {name : S}
theorem gM {pl : Sem Bool} {Q : Value × List Value → Shared → Prop} (Z : Site w n A base outer env L h₀) (F : Fr h₀ L h m) (N : Led h₀ L h news) (hi : (x, instObj C dx) ∈ news) (hdd : (dx, dictOf es k) ∈ news) (hl : getL name es = some none)
    (hg : plainGet (hd.heap_1 w.params) C name = true) (hf : findIn (hd.heap_1 w.params) (.ref C) name = some (some (.ref f))) (ht : isFn (hd.heap_1 w.params) (.ref f) = true) (H : Q (.ref f, [.ref x]) (st σ h t)) : wpAny (model PW w) A (getMethod (.ref x) name pl) Q E (st σ h t) :=
  method_inst (s := st σ h t) F Z.X (InstAt.of_news N.n hi hdd) hg hf ht hl H
/-- the object bears no attribute of this name itself -/
noncomputable def NoAttr (news : List Ob) (x C : Addr) (name : S) : Prop := ∃ dx es k, (x, instObj C dx) ∈ news ∧ (dx, dictOf es k) ∈ news ∧ getL name es = some none
theorem NoAttr.mono {news news' : List Ob} {x C : Addr} {name : S} (hs : NoAttr news x C name) (k : ∀ p ∈ news, p ∈ news') : NoAttr news' x C name := by
  obtain ⟨dx, es, n, m1, m2, r⟩ := hs
  exact ⟨dx, es, n, k _ m1, k _ m2, r⟩
end
end Og
namespace Og
open PySem
theorem assign_Sub {M : Model} {A : Around} {E : Value → Shared → Prop} {s : Shared} {env : Env} {o i : Expr} {pos : Pos} {v : Value} {Q : Unit → Shared → Prop}
    (h : wpAny M A (eval o env) (fun ov s₂ => wpAny M A (eval i env) (fun iv s₃ => wpAny M A (setItem ov iv v) Q E s₃) E s₂) E s) : wpAny M A (assign (.Subscript o i pos) env v) Q E s := fun Γ p hΓ => by
  simp only [assign_Subscript, Sem.wp_bind', Sem.wp_holding, Sem.wp_cmd_standAt, Sem.wp_release, Sem.wp_pure']
  exact Sem.wp_mono M Γ _ (fun ov p₂ s₂ h₂ => Sem.wp_mono M Γ _ (fun iv _ s₃ h₃ => h₃ Γ _ hΓ) (fun _ _ _ h' => h') _ _ (h₂ Γ p₂ hΓ)) (fun _ _ _ h' => h') _ _ (h Γ _ hΓ)
end Og
end

-- Og12
section
open PySem PySem.W PyProof.Rows PySem.Calls
set_option maxRecDepth 100000
set_option Elab.async false
set_option linter.unusedVariables false
set_option maxHeartbeats 1000000
namespace Og
section
variable {w : World} {n k : Nat} {A : Around} {base h₀ h : Heap} {outer : List Env} {L d : Addr} {σ : Shared} {t : Nat} {m : S → Option Value} {news : List Ob} {E : Value → Shared → Prop} {env : Env} {o : Obj} {Q : Value → Shared → Prop}
theorem dctM {vs : List (Value × Value)} (F : Fr h₀ L h m) (N : Led h₀ L h ((d, o) :: news)) (hd : o.IsDictOf (strKind PW w) []) (hk : allStrKeys vs = true) (hn : ((strPairs vs).map (·.1)).Nodup)
    (H : ∀ h o t, Fr h₀ L h m → Led h₀ L h ((d, o) :: news) → o.IsDictOf (strKind PW w) (strPairs vs) → Q (.ref d) (st σ h t)) : KdnMade PW w (strKind PW w) d Q vs (st σ h t) :=
  kdn_made_str (s := st σ h t) (g := fun o => (d, o) :: news) F N.n (.head N.off) hd hk hn fun h' o' F' N' hd' => H h' o' _ F' ⟨N', N.d⟩ hd'
theorem dgS {value slice : Expr} {x : S} {tx : Tok} {v : Value} {kvs : List (S × Value)} (N : Led h₀ L h news) (hp : (d, o) ∈ news) (hd : o.IsDictOf (strKind PW w) kvs) (hl : valueAt kvs x = some v) (H : ∀ t, Q v (st σ h t))
    (hs : subscripted slice false (.ref d) (.str x tx) = operate [.ref d, .str x tx] (getItem (.ref d) (.str x tx))) : wpAny (model PW w) A (subscriptTail value slice (.ref d) (.str x tx)) Q E (st σ h t) :=
  kdt_tail (s := st σ h t) (knd := strKind PW w) N.n hp hd (kdt_getItem (s := st σ h t) (knd := strKind PW w) (k := x) N.n hp hd (by simp [PySem.strKind, Value.isStrOf]) hl (H _)) hs
end
end Og
namespace Og
theorem tAt.tl {h₀ : Heap} {l : Addr} {its : Array Value} {news : List Ob} {p : Ob} (x : tAt h₀ l its news) : tAt h₀ l its (p :: news) := by
  rcases x with x | ⟨o, hm, r⟩
  · exact .inl x
  · exact .inr ⟨o, .tail _ hm, r⟩
end Og
namespace Og
section
variable {w : World} {n k : Nat} {A : Around} {h₀ h : Heap} {L d : Addr} {σ : Shared} {t : Nat} {m : S → Option Value} {news : List Ob} {E : Value → Shared → Prop} {env : Env} {o : Obj} {Q : Value → Shared → Prop} {b c : Array UInt8} {tb tc : Tok} {ks ls : List Int} {value slice : Expr} {lo hi : Option Int} {vl vu : Value}
theorem bI_inj {b c : Array UInt8} (h : bI b = bI c) : b = c := (bytes_eq h).trans (bytes_eq rfl).symm
theorem eqB (hb : bI b = ks) (hc : bI c = ls) (H : Q (.bool (decide (ks = ls))) (st σ h t)) : wpAny (model PW w) A (compareOp .Eq (.bytes b tb) (.bytes c tc)) Q E (st σ h t) := by
  refine eq_bytes ?_
  rw [show (b.toList == c.toList) = decide (ks = ls) from ?_]
  · exact H
  · subst hb hc
    rw [Bool.eq_iff_iff, beq_iff_eq, decide_eq_true_eq]
    exact ⟨fun q => by rw [Array.toList_inj.mp q], fun q => by rw [bI_inj q]⟩
theorem neB (hb : bI b = ks) (hc : bI c = ls) (H : Q (.bool (!decide (ks = ls))) (st σ h t)) : wpAny (model PW w) A (compareOp .NotEq (.bytes b tb) (.bytes c tc)) Q E (st σ h t) := by
  refine ne_bytes ?_
  rw [show (b.toList != c.toList) = !decide (ks = ls) from ?_]
  · exact H
  · subst hb hc
    show (!(b.toList == c.toList)) = _
    congr 1
    rw [Bool.eq_iff_iff, beq_iff_eq, decide_eq_true_eq]
    exact ⟨fun q => by rw [Array.toList_inj.mp q], fun q => by rw [bI_inj q]⟩
theorem mulB {i : Int} {u : Tok} (hb : bI b = ks) (h0 : ks ≠ []) (hs : ks.length ≤ 16) (hlo : -1048576 ≤ i) (hhi : i ≤ 1048576) (H : ∀ c u t, bI c = (List.replicate i.toNat ks).flatten → Q (.bytes c u) (st σ h t)) : wpAny (model PW w) A (binaryOp .Mult (.bytes b tb) (.int i u)) Q E (st σ h t) := by
  have hl : b.toList.length = ks.length := by rw [← hb, KBw.ints_length]; rfl
  have := bytes_mul_any (prog := PW) (w := w) (A := A) (E := E) (s := st σ h t) (b := b.toList) (n := i) (t := tb) (u := u) (Q := Q) (fun q => h0 (by rw [q] at hl; exact List.length_eq_zero_iff.mp hl.symm)) hlo hhi (by rw [hl]; exact hs) (fun t' k => H _ t' k ?_)
  · rwa [Array.toArray_toList] at this
  · subst hb
    simp only [bI, KBw.bInts, List.map_flatten, List.map_replicate, List.toList_toArray]
theorem slB (F : Fr h₀ L h m) (N : Led h₀ L h news) (hk : bI b = ks) (hl : IsPart vl lo) (hu : IsPart vu hi) (hz : ks.length ≤ 16777216)
    (H : ∀ c u h t, Fr h₀ L h m → Led h₀ L h news → bI c = (ks.drop (lo.elim 0 (clipAt ks.length))).take (hi.elim ks.length (clipAt ks.length) - lo.elim 0 (clipAt ks.length)) → Q (.bytes c u) (st σ h t))
    (hs : subscripted slice false (.bytes b tb) (.ref h.objs.size) = operate [.ref h.objs.size, .bytes b tb] (getItem (.bytes b tb) (.ref h.objs.size))) (ht : ∀ r, letTemporaryGo value (.bytes b tb) r = pure ()) :
    wpAny (model PW w) A (subscriptTail value slice (.bytes b tb) (.ref h.objs.size)) Q E (st σ (h.push { cls := .type "slice", data := .fields #[vl, vu, .none] }) t) :=
  KBc.slice_K (s := st σ h t) F N.n hk hl hu hz (fun h' u t F' N' e => H _ u h' t F' ⟨N', N.d⟩ e) hs ht
end
end Og
end

-- Og13
section
open PySem PySem.W PyProof.Rows PySem.Calls
set_option maxRecDepth 100000
set_option Elab.async false
set_option linter.unusedVariables false
set_option maxHeartbeats 1000000
namespace Og
/-- an object's attributes, newest first -/
structure Rec (es : List DictEntry) (fs : List (S × Value)) : Prop where
  str : es.any (·.refKey) = false
  get : ∀ x v, fs.lookup x = some v → ∃ e, es.find? (·.key.isStr x) = some e ∧ e.val = v
  non : ∀ x, fs.lookup x = none → es.find? (·.key.isStr x) = none
  len : es.length ≤ fs.length
theorem Rec.nil : Rec [] [] := ⟨rfl, (fun _ _ h => nomatch h), (fun _ _ => rfl), Nat.le_refl _⟩
theorem Rec.at {es : List DictEntry} {fs : List (S × Value)} (R : Rec es fs) {x : S} {v : Value} (h : fs.lookup x = some v) : getL x es = some (some v) := by
  obtain ⟨e, he, rfl⟩ := R.get x v h
  unfold getL; rw [he]
theorem Rec.no {es : List DictEntry} {fs : List (S × Value)} (R : Rec es fs) {x : S} (h : fs.lookup x = none) : getL x es = some none := by
  unfold getL; rw [R.non x h, R.str]; rfl
theorem Rec.known {es : List DictEntry} {fs : List (S × Value)} (R : Rec es fs) (x : S) : (getL x es).isSome = true := by
  cases h : fs.lookup x with
  | none => rw [R.no h]; rfl
  | some v => rw [R.at h]; rfl
theorem putL_find' {x : S} {hsh : Int} {u : Tok} {v : Value} (y : S) : ∀ es : List DictEntry, (y = x → ∃ e, (putL x hsh (.str x u) v es).find? (·.key.isStr y) = some e ∧ e.val = v) ∧ (y ≠ x → (putL x hsh (.str x u) v es).find? (·.key.isStr y) = es.find? (·.key.isStr y))
  | [] => by
    refine ⟨?_, ?_⟩
    · rintro rfl; exact ⟨⟨hsh, .str y u, v⟩, by simp [putL, Value.isStr], rfl⟩
    · intro h; have h' : (x == y) = false := by simpa using fun q => h q.symm
      simp [putL, Value.isStr, h']
  | e :: r => by
    have ih := putL_find' (x := x) (hsh := hsh) (u := u) (v := v) y r
    unfold putL
    by_cases he : e.key.isStr x = true
    · rw [if_pos he]
      have hk : ∃ u, e.key = .str x u := by
        cases hk : e.key <;> rw [hk] at he <;> simp [Value.isStr] at he
        exact ⟨_, by rw [he]⟩
      obtain ⟨u', hk⟩ := hk
      refine ⟨?_, ?_⟩
      · rintro rfl; exact ⟨⟨e.hash, e.key, v⟩, by rw [List.find?_cons]; simp [hk, Value.isStr], rfl⟩
      · intro h; have h' : (x == y) = false := by simpa using fun q => h q.symm
        rw [List.find?_cons, List.find?_cons]; simp [hk, Value.isStr, h']
    · rw [if_neg he]
      refine ⟨?_, ?_⟩
      · rintro rfl
        rw [List.find?_cons, show e.key.isStr y = false by simpa using he]
        exact ih.1 rfl
      · intro h; rw [List.find?_cons, List.find?_cons, ih.2 h]
theorem putL_ref {x : S} {hsh : Int} {u : Tok} {v : Value} : ∀ es : List DictEntry, es.any (·.refKey) = false → (putL x hsh (.str x u) v es).any (·.refKey) = false
  | [], _ => rfl
  | e :: r, h => by
    rw [List.any_cons, Bool.or_eq_false_iff] at h
    unfold putL
    split
    · rw [List.any_cons, h.2, Bool.or_false]; exact h.1
    · rw [List.any_cons, h.1, putL_ref r h.2]; rfl
theorem putL_len {x : S} {hsh : Int} {key v : Value} : ∀ es : List DictEntry, (putL x hsh key v es).length ≤ es.length + 1
  | [] => Nat.le_refl _
  | e :: r => by
    unfold putL
    split
    · exact Nat.le_succ _
    · exact Nat.succ_le_succ (putL_len r)
theorem Rec.put {es : List DictEntry} {fs : List (S × Value)} (R : Rec es fs) (x : S) (hsh : Int) (u : Tok) (v : Value) : Rec (putL x hsh (.str x u) v es) ((x, v) :: fs) := by
  refine ⟨putL_ref es R.str, fun y w h => ?_, fun y h => ?_, Nat.le_trans (putL_len es) (Nat.succ_le_succ R.len)⟩
  · rw [List.lookup_cons] at h
    by_cases q : y = x
    · subst q; rw [beq_self_eq_true] at h; cases h; exact (putL_find' y es).1 rfl
    · rw [show (y == x) = false by simpa using q] at h
      rw [(putL_find' y es).2 q]; exact R.get y w h
  · rw [List.lookup_cons] at h
    by_cases q : y = x
    · subst q; rw [beq_self_eq_true] at h; cases h
    · rw [show (y == x) = false by simpa using q] at h
      rw [(putL_find' y es).2 q]; exact R.non y h
section
variable {w : World} {n k : Nat} {A : Around} {base h₀ h : Heap} {outer : List Env} {L x dx C : Addr} {σ : Shared} {t : Nat} {m : S → Option Value} {news : List Ob} {E : Value → Shared → Prop} {env : Env} {es : List DictEntry} {fs : List (S × Value)} {name : S} {v : Value}
/-- an attribute is set; the object's dict stands second -/
theorem sR {Q : Unit → Shared → Prop} {rest : List Ob} (ok : StOk w C name) (Z : Site w n A base outer env L h₀) (F : Fr h₀ L h m) (N : Led h₀ L h ((x, instObj C dx) :: (dx, dictOf es k) :: rest)) (R : Rec es fs) (hz : fs.length ≤ 999)
    (H : ∀ h t es k, Fr h₀ L h m → Led h₀ L h ((x, instObj C dx) :: (dx, dictOf es k) :: rest) → Rec es ((name, v) :: fs) → Q () (st σ h t)) : wpAny (model PW w) A (setAttr (.ref x) name v) Q E (st σ h t) := by
  have M := Led.ne (pre := [(x, instObj C dx)]) N
  exact set_dict (s := st σ h t) (es' := putL name (PyData.keyHash w.params name) (.str name (t + 1)) v es) (n' := putN name es k) F Z.X N.n (InstAt.of_news N.n (.head _) (.tail _ (.head _))) rfl ok.s ok.p ok.t ok.d (R.known name) rfl (.tail (M.1 _ (.head _)) (.head M.2)) (Nat.le_trans (putL_len es) (by have := R.len; exact Nat.succ_le_succ (Nat.le_trans this hz))) fun h' F' N' => H h' _ _ _ F' (Led.set (pre := [(x, instObj C dx)]) N N') (R.put ..)
end
end Og
end

-- Og14
section
open PySem PySem.W PyProof.Rows PySem.Calls
set_option maxRecDepth 100000
set_option Elab.async false
set_option linter.unusedVariables false
set_option maxHeartbeats 1000000
namespace Og
section
variable {w : World} {n k k2 : Nat} {A : Around} {base h₀ h : Heap} {outer : List Env} {L d l b : Addr} {σ : Shared} {t : Nat} {m : S → Option Value} {news : List Ob} {E : Value → Shared → Prop} {env : Env} {o : Obj} {Q : Value → Shared → Prop} {its its2 : Array Value}
-- lists
theorem exL (F : Fr h₀ L h m) (N : Led h₀ L h ((l, listOf its k) :: news)) (hb : (b, listOf its2 k2) ∈ news) (hz : its.size + its2.size ≤ 1000)
    (H : ∀ h k', Fr h₀ L h m → Led h₀ L h ((l, listOf (its ++ its2) k') :: news) → Q .none (st σ h t)) : wpAny (model PW w) A (call (.builtin "list.extend") [.ref l, .ref b]) Q E (st σ h t) := by
  have hlong : Builtin.List.listTooLong (its.size + its2.size) = false := by unfold Builtin.List.listTooLong; exact decide_eq_false (by rw [sizeLine_eq]; exact Nat.not_lt_of_le (Nat.le_trans hz (Nat.le_add_left 1000 16776216)))
  by_cases hs : its2.toList.length = 0
  · have e0 : its2.toList = [] := List.length_eq_zero_iff.mp hs
    have e1 : its2 = #[] := Array.toList_inj.mp (by rw [e0])
    subst e1
    exact kxn_extend (s := st σ h t) F N.n (.tail _ hb) rfl (.head N.off) (by rw [hlong]; simp) (by rw [sizeLine_eq, Array.length_toList]; exact Nat.le_trans hz (Nat.le_add_left 1000 16776216)) (by rw [sizeLine_eq]; exact Nat.le_trans hz (Nat.le_add_left 1000 16776217)) fun h' F' N' => H h' k F' ⟨by simpa using N', N.d⟩
  · exact kl_extend (s := st σ h t) F N.n (.tail _ hb) rfl hs (.head N.off) (by rw [hlong]; simp) (by rw [sizeLine_eq, Array.length_toList]; omega) (by rw [sizeLine_eq]; exact Nat.le_trans hz (Nat.le_add_left 1000 16776217)) fun h' F' N' => H h' (k + 1) F' ⟨by rw [show its ++ its2 = (its.toList ++ its2.toList).toArray by simp]; exact N', N.d⟩
theorem poL {ys : List Value} {y : Value} (F : Fr h₀ L h m) (N : Led h₀ L h ((l, listOf (ys ++ [y]).toArray k) :: news)) (hz : ys.length < sizeLine)
    (H : ∀ h, Fr h₀ L h m → Led h₀ L h ((l, listOf ys.toArray (k + 1)) :: news) → Q y (st σ h t)) : wpAny (model PW w) A (call (.builtin "list.pop") [.ref l]) Q E (st σ h t) := by
  refine kl_pop (s := st σ h t) (p := ys) (y := y) F N.n (by rw [List.toList_toArray]; exact kpa_last y ys) (.head N.off) (by rw [List.toList_toArray, List.length_append]; exact hz) fun h' F' N' => H h' F' ⟨N', N.d⟩
theorem adL {ys zs : List Value} (F : Fr h₀ L h m) (N : Led h₀ L h news) (hl : lAt h₀ l ys.toArray news) (hb : lAt h₀ b zs.toArray news) (hz : ys.length + zs.length ≤ sizeLine)
    (H : ∀ l h, Fr h₀ L h m → Led h₀ L h ((l, listOf (ys ++ zs).toArray 0) :: news) → Q (.ref l) (st σ h t)) : wpAny (model PW w) A (binaryOp .Add (.ref l) (.ref b)) Q E (st σ h t) :=
  add_lists (s := st σ h t) F N.n (hl.list F.keep N.n) (hb.list F.keep N.n) (fun h' F' N' => H _ h' F' (Led.cons N' N.d N.lt)) hz
/-- a list beside the empty one -/
theorem ne0L (Z : Site w n A base outer env L h₀) (F : Fr h₀ L h m) (N : Led h₀ L h news) (hl : lAt h₀ l its news) (hb : lAt h₀ b #[] news) (H : Q (.bool (its.size != 0)) (st σ h t)) : wpAny (model PW w) A (compareOp .NotEq (.ref l) (.ref b)) Q E (st σ h t) := by
  have hu : A.units < cLine := by have := Z.un; exact Nat.lt_of_add_right_lt this
  by_cases hs : its.size = 0
  · rw [hs] at H
    refine SeqAt.RcNeAt.lists (s := st σ h t) (e := fun _ => true) (hl.list F.keep N.n) (hb.list F.keep N.n) hs hu (fun j h1 h2 => nomatch h2) PW w E Q ?_
    rw [hs]; exact H
  · rw [show (its.size != 0) = true by simpa using hs] at H
    exact SeqAt.RcNeAt.lists_lengths (s := st σ h t) (hl.list F.keep N.n) (hb.list F.keep N.n) (by simpa using hs) hu PW w E Q H
theorem eq0L (Z : Site w n A base outer env L h₀) (F : Fr h₀ L h m) (N : Led h₀ L h news) (hl : lAt h₀ l its news) (hb : lAt h₀ b #[] news) (H : Q (.bool (its.size == 0)) (st σ h t)) : wpAny (model PW w) A (compareOp .Eq (.ref l) (.ref b)) Q E (st σ h t) := by
  have hu : A.units < cLine := by have := Z.un; exact Nat.lt_of_add_right_lt this
  by_cases hs : its.size = 0
  · rw [hs] at H
    refine SeqAt.RcAt.lists (s := st σ h t) (e := fun _ => true) (hl.list F.keep N.n) (hb.list F.keep N.n) hs hu (fun j h1 h2 => nomatch h2) PW w E Q ?_
    rw [hs]; exact H
  · rw [show (its.size == 0) = false by simpa using hs] at H
    exact SeqAt.RcAt.lists_lengths (s := st σ h t) (hl.list F.keep N.n) (hb.list F.keep N.n) (by simpa using hs) hu PW w E Q H
-- dicts
theorem empty_isDict : Obj.IsDictOf (PySem.strKind PW w) (dictOf [] 0) [] := ⟨#[], 0, ⟨rfl, rfl, rfl⟩, rfl, (fun _ h => nomatch h), .nil, List.nodup_nil⟩
/-- the iterator of a dict by its keys -/
noncomputable abbrev dIt (d : Addr) (len ep : Nat) (i : Nat) (o : Obj) : Prop := o.cls = .type "dict_keyiterator" ∧ o.data = .fields #[.ref d, .int (i : Nat) 0, .int (len : Nat) 0, .int (ep : Nat) 0]
noncomputable abbrev dAt (w : World) (d : Addr) (kvs : List (S × Value)) (ep : Nat) (news : List Ob) : Prop := ∃ o, (d, o) ∈ news ∧ KdkAt (PySem.strKind PW w) o kvs ep
theorem itD {kvs : List (S × Value)} (F : Fr h₀ L h m) (N : Led h₀ L h news) (hd : (d, o) ∈ news) (ho : o.IsDictOf (PySem.strKind PW w) kvs) (hs : d ≠ sysModules)
    (H : ∀ I io ep h, Fr h₀ L h m → Led h₀ L h ((I, io) :: news) → dIt d kvs.length ep 0 io → KdkAt (PySem.strKind PW w) o kvs ep → Q (.ref I) (st σ h t)) : wpAny (model PW w) A (pyIter (.ref d)) Q E (st σ h t) := by
  obtain ⟨ep, ha⟩ := KdkAt.of ho
  exact wpAny_pyIter_dict (s := st σ h t) (by simpa using hs) (ha.dictAt (N.n _ hd).1) (H _ _ ep _ (F.push _) (Led.new F N _ rfl) ⟨rfl, rfl⟩ ha)
theorem turns_dict (hh : A.handled = none) (d I : Addr) (kvs : List (S × Value)) (ep : Nat) (hne : d ≠ I) : Turns w A h₀ L I kvs.length (dIt d kvs.length ep) (fun i v => ∃ k x u, kvs[i]? = some (k, x) ∧ v = .str k u) (dAt w d kvs ep) where
  mono := fun l l' q x => let ⟨o, hm, r⟩ := x; ⟨o, q _ hm, r⟩
  item := fun i o h t m news σ Q E hi hit F N nd H => by
    obtain ⟨od, hm, ha⟩ := nd
    have hda := ha.dictAt (N.tail.n _ hm).1
    refine wpAny_pyNext_dict_item (s := st σ h t) (k := kvs[i].1) (v := kvs[i].2) ⟨o, N.get (.head _), hit.1, hit.2⟩ hda (by simp [hi]) fun key h' hk hit' hs => ?_
    obtain ⟨o', e', c', d'⟩ := hit'
    have hk' : ∃ u, key = .str kvs[i].1 u := by
      cases key <;> simp [PySem.strKind, Value.isStrOf] at hk
      exact ⟨_, by rw [hk]⟩
    obtain ⟨u, rfl⟩ := hk'
    exact H _ o' h' t ⟨kvs[i].1, kvs[i].2, u, by simp [hi], rfl⟩ ⟨c', d'⟩ (N.frPut F hs) (N.put hs e')
  done := fun o h t m news σ Q E hit F N nd H => by
    obtain ⟨od, hm, ha⟩ := nd
    exact wpAny_pyNext_dict_end (s := st σ h t) hh ⟨o, N.get (.head _), hit.1, hit.2⟩ (ha.dictAt (N.tail.n _ hm).1) (by simp) fun h' he => H h' t (N.frBut F he) (N.but he)
  self := fun i o h t m news σ Q E hit F N nd H => wpAny_pyIter_keyiter (s := st σ h t) ⟨o, N.get (.head _), hit.1, hit.2⟩ H
end
end Og
end

-- Og15
section
open PySem PySem.W PyProof.Rows PySem.Calls
set_option maxRecDepth 100000
set_option Elab.async false
set_option linter.unusedVariables false
set_option maxHeartbeats 1000000
namespace Og
section
variable {w : World} {n k k2 : Nat} {A : Around} {base h₀ h : Heap} {outer : List Env} {L d l b : Addr} {σ : Shared} {t : Nat} {m : S → Option Value} {news : List Ob} {E : Value → Shared → Prop} {env : Env} {o : Obj} {Q : Value → Shared → Prop} {its its2 : Array Value}
theorem apL2 {p : Ob} {ys : List Value} {v : Value} {post : List Ob} (F : Fr h₀ L h m) (N : Led h₀ L h (p :: (l, listOf ys.toArray k) :: post)) (hz : ys.length ≤ sizeLine)
    (H : ∀ h, Fr h₀ L h m → Led h₀ L h (p :: (l, listOf (ys ++ [v]).toArray (k + 1)) :: post) → Q .none (st σ h t)) : wpAny (model PW w) A (call (.builtin "list.append") [.ref l, v]) Q E (st σ h t) :=
  apLp [p] F N (by simpa using hz) fun h F N => H h F (by simpa using N)
theorem exL2 {p : Ob} {k2 : Nat} {ys zs : List Value} {post : List Ob} (F : Fr h₀ L h m) (N : Led h₀ L h (p :: (l, listOf ys.toArray k) :: post)) (hb : (b, listOf zs.toArray k2) ∈ p :: post) (hz : ys.length + zs.length ≤ 1000)
    (H : ∀ h k', Fr h₀ L h m → Led h₀ L h (p :: (l, listOf (ys ++ zs).toArray k') :: post) → Q .none (st σ h t)) : wpAny (model PW w) A (call (.builtin "list.extend") [.ref l, .ref b]) Q E (st σ h t) := by
  refine exL F (N.perm (List.Perm.swap _ _ _)) hb (by simpa using hz) fun h k' F N => H h k' F ?_
  have N := N.perm (List.Perm.swap _ _ _)
  simpa using N
theorem exLp (pre : List Ob) {k2 : Nat} {ys zs : List Value} {post : List Ob} (F : Fr h₀ L h m) (N : Led h₀ L h (pre ++ (l, listOf ys.toArray k) :: post)) (hb : (b, listOf zs.toArray k2) ∈ pre ++ post) (hz : ys.length + zs.length ≤ 1000)
    (H : ∀ h k', Fr h₀ L h m → Led h₀ L h (pre ++ (l, listOf (ys ++ zs).toArray k') :: post) → Q .none (st σ h t)) : wpAny (model PW w) A (call (.builtin "list.extend") [.ref l, .ref b]) Q E (st σ h t) := by
  refine exL F (Led.front N) hb (by simpa using hz) fun h k' F N => H h k' F ?_
  have N := N.perm List.perm_middle.symm
  simpa using N
theorem lgV {value slice : Expr} {vs : List Value} {i : Int} {u : Tok} {v : Value} (F : Fr h₀ L h m) (N : Led h₀ L h news) (hl : lAt h₀ l vs.toArray news) (h0 : 0 ≤ i) (hhi : i < 2 ^ 63) (hx : vs[i.toNat]? = some v) (H : Q v (st σ h t))
    (hs : subscripted slice false (.ref l) (.int i u) = operate [.ref l, .int i u] (getItem (.ref l) (.int i u))) : wpAny (model PW w) A (subscriptTail value slice (.ref l) (.int i u)) Q E (st σ h t) := item_litK (s := st σ h t) (hl.list F.keep N.n) h0 hhi hx H hs
theorem tS {s : Shared} {value slice : Expr} {o i : Value} (h : wpAny (model PW w) A (subscriptTail (.Name "_" ⟨0, 0, 0, 0⟩) slice o i) Q E s) : wpAny (model PW w) A (subscriptTail value slice o i) Q E s := kba_turn (fun _ => rfl) h
/-- a tuple of the text's own or a made one -/
noncomputable def TupK (w : World) (l : Addr) (its : List Value) (news : List Ob) : Prop := (∃ n, (hd.heap_1 w.params).lookup l = some { cls := .type "tuple", data := .seq its.toArray n }) ∨ (l, tup its) ∈ news
theorem TupK.mono {its : List Value} {news' : List Ob} (x : TupK w l its news) (q : ∀ p ∈ news, p ∈ news') : TupK w l its news' := x.imp id (q _)
theorem TupK.tl {its : List Value} {p : Ob} (x : TupK w l its news) : TupK w l its (p :: news) := x.mono fun _ hp => .tail _ hp
theorem TupK.at {its : List Value} (x : TupK w l its news) (Z : Site w n A base outer env L h₀) : tAt h₀ l its.toArray news := by
  rcases x with ⟨n, x⟩ | x
  · exact .inl ⟨_, Z.X _ _ x, rfl, _, rfl⟩
  · exact .inr ⟨_, x, rfl, _, rfl⟩
theorem lenT {its : List Value} (Z : Site w n A base outer env L h₀) (F : Fr h₀ L h m) (N : Led h₀ L h news) (x : TupK w l its news) (hz : its.length ≤ 1000) (H : ∀ u t, Q (.int (its.length : Int) u) (st σ h t)) : wpAny (model PW w) A (call (.builtin "len") [.ref l]) Q E (st σ h t) := by
  exact PyProof.Rows.len_tuple (s := st σ h t) ((x.at Z).tup F N.n) (by simp; omega) (H _ _)
/-- a loop over the zip of two empty lists -/
theorem forZip0 {l1 l2 : Addr} {target : Expr} {body : List Stmt} {Q : Flow → Shared → Prop} (Z : Site w n A base outer env L h₀) (F : Fr h₀ L h m) (N : Led h₀ L h news) (hl1 : lAt h₀ l1 #[] news) (hl2 : lAt h₀ l2 #[] news) (H : ∀ h, Fr h₀ L h m → Led h₀ L h news → Q .next (st σ h t)) :
    wpAny (model PW w) A (call (.type "zip") [.ref l1, .ref l2]) (fun x s₁ => wpAny (model PW w) A (pyIter x) (fun it s₂ => codeAny (model PW w) A (.forLoop target it body [] env) (fun r s' => match r with | .ok f => Q f s' | .error e => cameBackBy (model PW w) A env E e s') s₂) E s₁) E (st σ h t) := by
  have e1 := hl1.list F.keep N.n
  have e2 := hl2.list F.keep N.n
  have lt1 : l1 < h.objs.size := let ⟨o, ho, _⟩ := e1; Heap.lt_size ho
  have lt2 : l2 < h.objs.size := let ⟨o, ho, _⟩ := e2; Heap.lt_size ho
  refine call_zip_2 (s := st σ h t) e1 e2 fun h' hz hTI hTO h1 h2 hsz hk => wpAny_pyIter_zip (s := st σ h' t) hz ?_
  have F' : Fr h₀ L h' m := F.keptAll hk
  have N' : Led h₀ L h' news := N.keeps hk
  refine codeAny_forLoop_any (fun _ s' => s' = st σ h' t) ?_ 0 rfl
  rintro _ _ rfl
  have D : ZipApart (h.objs.size + 4) (h.objs.size + 2) (h.objs.size + 3) h.objs.size (h.objs.size + 1) l1 l2 := by
    have a1 : ∀ k, l1 ≠ h.objs.size + k := fun k => Nat.ne_of_lt (Nat.lt_of_lt_of_le lt1 (Nat.le_add_right _ _))
    have a2 : ∀ k, l2 ≠ h.objs.size + k := fun k => Nat.ne_of_lt (Nat.lt_of_lt_of_le lt2 (Nat.le_add_right _ _))
    refine ⟨?_, ?_, ?_, ?_, ?_, ?_, ?_, ?_, ?_, ?_, a1 4, a1 3, a1 0, a1 1, a2 4, a2 3, a2 0, a2 1⟩ <;> (intro q; simp at q)
  refine wpAny_pyNext_zip_end (s := st σ h' t) Z.hh D hz hTI hTO h1 h2 (xs := #[]) (ys := #[]) (e1.at fun o e => hk _ o e) (e2.at fun o e => hk _ o e) (.inl rfl) fun h'' hk' => wpAny_execs_nil ?_
  have old : ∀ b o, b < h.objs.size → h'.get? b = some o → h''.get? b = some o := fun b o hb e => hk' b o (fun q => by rw [q] at hb; exact absurd hb (by simp)) (fun q => by rw [q] at hb; exact absurd hb (by simp)) (fun q => by rw [q] at hb; exact absurd hb (by simp)) (fun q => by rw [q] at hb; exact absurd hb (by simp)) e
  refine H h'' ⟨F'.ns.at' fun o e => old _ o F.ns.lt e, fun b o e => old b o (Heap.lt_size (F.keep b o e)) (F'.keep b o e), F'.above⟩ ⟨fun p hp => ⟨old _ _ (N.lt p hp) (N'.n p hp).1, (N'.n p hp).2⟩, N.d⟩
end
theorem cellsL1 {names : List (S × NameKind)} {n1 : S} (e : ∀ L : Nat, cellsFrom (L + 1) names [] = [(n1, L + 1)]) : ∀ L : Nat, ((cellsFrom (L + 1) names []).map (·.2)).Nodup ∧ ∀ c ∈ (cellsFrom (L + 1) names []).map (·.2), L < c := by
  intro L; rw [e]; refine ⟨by simp, fun c hc => ?_⟩
  obtain rfl := List.mem_singleton.mp hc; exact Nat.lt_succ_self _
theorem cellsL2 {names : List (S × NameKind)} {n1 n2 : S} (e : ∀ L : Nat, cellsFrom (L + 1) names [] = [(n2, L + 2), (n1, L + 1)]) : ∀ L : Nat, ((cellsFrom (L + 1) names []).map (·.2)).Nodup ∧ ∀ c ∈ (cellsFrom (L + 1) names []).map (·.2), L < c := by
  intro L; rw [e]; refine ⟨by simp, fun c hc => ?_⟩
  simp only [List.map_cons, List.map_nil, List.mem_cons, List.not_mem_nil, or_false] at hc
  rcases hc with rfl | rfl
  · exact Nat.lt_succ_of_lt (Nat.lt_succ_self _)
  · exact Nat.lt_succ_self _
theorem cellsL3 {names : List (S × NameKind)} {n1 n2 n3 : S} (e : ∀ L : Nat, cellsFrom (L + 1) names [] = [(n3, L + 3), (n2, L + 2), (n1, L + 1)]) : ∀ L : Nat, ((cellsFrom (L + 1) names []).map (·.2)).Nodup ∧ ∀ c ∈ (cellsFrom (L + 1) names []).map (·.2), L < c := by
  intro L; rw [e]; refine ⟨by simp, fun c hc => ?_⟩
  simp only [List.map_cons, List.map_nil, List.mem_cons, List.not_mem_nil, or_false] at hc
  rcases hc with rfl | rfl | rfl
  · exact Nat.lt_succ_of_lt (Nat.lt_succ_of_lt (Nat.lt_succ_self _))
  · exact Nat.lt_succ_of_lt (Nat.lt_succ_self _)
  · exact Nat.lt_succ_self _
end Og
end

-- Og16
section
open PySem PySem.W PyProof.Rows PySem.Calls
open PySem.Sem (wp)
set_option maxRecDepth 100000
set_option Elab.async false
set_option linter.unusedVariables false
set_option maxHeartbeats 1000000
namespace Og
/-- the ids under which a bytearray is held -/
noncomputable def heldIds : List String := ["bytearray.__contains__", "bytearray.__mod__", "bytearray.__rmod__", "_struct.pack_into.held", "bytearray.find.held"] ++ Builtin.Bytes.decodersThatHold
noncomputable def okCode : Code → Bool
  | .builtin id _ => !heldIds.contains id
  | _ => true
structure Good (Γ : Ctx) : Prop where
  c : okCode Γ.code = true
  b : ∀ x ∈ Γ.below, okCode x.1 = true
noncomputable def wpG {α : Type} (M : Model) (A : Around) (t : Sem α) (Q : α → Shared → Prop) (E : Value → Shared → Prop) (s : Shared) : Prop :=
  ∀ Γ p, Γ.In A → Good Γ → wp M Γ t (fun a _ s' => Q a s') (fun e _ s' => E e s') p s
noncomputable def codeG (M : Model) (A : Around) (c : Code) (R : Result → Shared → Prop) (s : Shared) : Prop :=
  ∀ Γ p, Γ.code = c → Γ.Below A → Good Γ → wpCode M Γ R p s
section
variable {α β : Type} {M : Model} {A : Around} {E : Value → Shared → Prop} {s : Shared}
theorem wpG_any {t : Sem α} {Q : α → Shared → Prop} (h : wpAny M A t Q E s) : wpG M A t Q E s := fun Γ p hΓ _ => h Γ p hΓ
theorem wpG_mono {t : Sem α} {Q Q' : α → Shared → Prop} {E' : Value → Shared → Prop} (h : wpG M A t Q E s) (hQ : ∀ a s, Q a s → Q' a s) (hE : ∀ e s, E e s → E' e s) : wpG M A t Q' E' s :=
  fun Γ p hΓ hG => Sem.wp_mono M Γ t (fun a _ s => hQ a s) (fun e _ s => hE e s) p s (h Γ p hΓ hG)
theorem codeG_mono {c : Code} {R R' : Result → Shared → Prop} (h : codeG M A c R s) (hR : ∀ r s, R r s → R' r s) : codeG M A c R' s :=
  fun Γ p hc hΓ hG => wpCode_mono hR (h Γ p hc hΓ hG)
theorem wpG_bind {m : Sem α} {f : α → Sem β} {Q : β → Shared → Prop} (h : wpG M A m (fun a s' => wpG M A (f a) Q E s') E s) : wpG M A (m >>= f) Q E s := fun Γ p hΓ hG => by
  rw [Sem.wp_bind']
  exact Sem.wp_mono M Γ m (fun a p' s' h' => h' Γ p' hΓ hG) (fun _ _ _ h' => h') p s (h Γ p hΓ hG)
/-- a plain step ahead of one that asks for a good stack -/
theorem wpG_bindA {m : Sem α} {f : α → Sem β} {Q : β → Shared → Prop} (h : wpAny M A m (fun a s' => wpG M A (f a) Q E s') E s) : wpG M A (m >>= f) Q E s := wpG_bind (wpG_any h)
theorem wpG_holding {vs : List Value} {m : Sem α} {Q : α → Shared → Prop} (h : wpG M A m Q E s) : wpG M A (holding vs m) Q E s := fun Γ p hΓ hG => by rw [Sem.wp_holding]; exact h Γ p hΓ hG
theorem wpG_pure {a : α} {Q : α → Shared → Prop} (h : Q a s) : wpG M A (pure a) Q E s := wpG_any (wpAny_pure h)
theorem Good.enter {Γ : Ctx} (g : Good Γ) {c : Code} (hc : okCode c = true) (hd : Option Value) (p : Pos) : Good (Γ.enter c hd p) :=
  ⟨hc, fun x hx => by
    rcases List.mem_cons.mp hx with rfl | hx
    · exact g.c
    · exact g.b x hx⟩
theorem wpG_run {c : Code} {h : Option Value} {Q : Flow → Shared → Prop} (ok : okCode c = true)
    (hc : codeG M (A.mark h) c (fun r s' => match r with | .ok f => Q f s' | .error e => E e s') s) (hnb : h ≠ some byPass) : wpG M A (run c h) Q E s :=
  fun Γ p hΓ hG => by rw [Sem.wp_run]; exact hc _ p rfl (hΓ.enter c h p hnb) (hG.enter ok h p)
theorem wpG_runValue {c : Code} {Q : Value → Shared → Prop} (ok : okCode c = true)
    (hc : codeG M A c (fun r s' => match r with | .ok (.ret v) => Q v s' | .ok _ => False | .error e => E e s') s) : wpG M A (runValue c) Q E s :=
  fun Γ p hΓ hG => by rw [Sem.wp_runValue]; exact hc _ p rfl (hΓ.enter c none p (by intro x; cases x)) (hG.enter ok none p)
theorem wpG_call {f : Value} {pos : List Value} {kw : List (PySem.Str × Value)} {Q : Value → Shared → Prop}
    (hc : codeG M A (.call f ⟨pos, kw⟩) (fun r s' => match r with | .ok (.ret v) => Q v s' | .ok _ => False | .error e => E e s') s) : wpG M A (call f pos kw) Q E s := wpG_runValue rfl hc
theorem codeG_of_tree {c : Code} {R : Result → Shared → Prop}
    (h : wpG M (A.under c) (M.den c) (fun fin s' => match fin with | .done f => R (.ok f) s' | .again c' => c'.quiet = true ∧ okCode c' = true ∧ codeG M A c' R s') (fun e s' => R (.error e) s') s) : codeG M A c R s := fun Γ p hc hΓ hG => by
  rw [wpCode_iff_wp, hc]
  refine Sem.wp_mono M Γ _ (fun fin p' s' h' => ?_) (fun _ _ _ h' => h') p s (h Γ p (hc ▸ hΓ.in) hG)
  cases fin with
  | done f => exact h'
  | again c' => exact ⟨h'.1, h'.2.2 (Γ.goto c') p' rfl (hΓ.goto c') ⟨h'.2.1, hG.b⟩⟩
/-- a good stack holds no bytearray -/
theorem wpG_exported {v : Value} {Q : Bool → Shared → Prop} (h : Q false s) : wpG M A (Builtin.Bytes.exported v) Q E s := fun Γ p _ hG => by
  unfold Builtin.Bytes.exported
  show Q (List.any ((Γ.code, p) :: Γ.below) _) s
  rw [show List.any ((Γ.code, p) :: Γ.below) _ = false from ?_]
  · exact h
  rw [List.any_eq_false]
  intro x hx
  have hok : okCode x.1 = true := by
    rcases List.mem_cons.mp hx with rfl | hx
    · exact hG.c
    · exact hG.b x hx
  obtain ⟨c, q⟩ := x
  cases c
  case builtin id args =>
    have hn : ∀ y, heldIds.contains y = true → id ≠ y := fun y hy e => by
      have h2 : (!heldIds.contains id) = true := hok
      rw [e, hy] at h2; cases h2
    obtain ⟨pos, kw⟩ := args
    delta Builtin.Bytes.exported.match_1 Builtin.Bytes.exported._sparseCasesOn_1
    dsimp only
    rw [dif_neg (hn _ (by decide +kernel)), dif_neg (hn _ (by decide +kernel)), dif_neg (hn _ (by decide +kernel)), dif_neg (hn _ (by decide +kernel)), dif_neg (hn _ (by decide +kernel))]
    delta Builtin.Bytes.exported._sparseCasesOn_2
    cases pos with
    | nil => exact Bool.false_ne_true
    | cons v r =>
      intro q
      have q2 := (Bool.and_eq_true_iff.mp q).2
      exact hn id (List.contains_iff_mem.mpr (List.mem_append_right _ (List.contains_iff_mem.mp q2))) rfl
  all_goals exact Bool.false_ne_true
end
end Og
end

-- Og17
section
open PySem PySem.W PyProof.Rows PySem.Calls
open PySem.Sem (wp)
set_option maxRecDepth 100000
set_option Elab.async false
set_option linter.unusedVariables false
set_option maxHeartbeats 1000000
namespace Og
theorem good0 : Good (⟨.builtin "claim.caller" {}, none, none, [], none⟩ : Ctx) := ⟨by decide +kernel, fun _ h => nomatch h⟩
/-- the law is walked upon the caller's own stack -/
noncomputable abbrev WalkG (q : Program) (loose : List PySem.Str) (XP : (PySem.Str → Option Value) → Heap → Prop) (YP : World → Heap → Prop) (r : RowW) (d : DefRec) (kwd : List (PySem.Str × Expr)) (run : Value → List Value → Sem Value) : Prop :=
  ∀ (w : World) (s₀ s₁ : Shared) (mg mb : PySem.Str → Option Value), Ground q loose r.records XP w s₀ mg mb s₁.heap → YP w s₁.heap → ∀ (a : Addr) (o : Obj) (pm cd doc dV kV : Value), s₁.heap.get? a = some o →
    o.data = .func { docDef d.name d.params d.body d.scope pm cd doc with defaults := dV, kwdefaults := kV } → s₁.heap.CodeRec cd d.name → Dflts mg s₁.heap d.params kwd dV kV → mg d.name = some (.ref a) → s₁.gens = #[] →
    ∀ (args : List WData) (vals : List Value) (as : List Addr), r.claim.pre args = true → WData.layableAll args = true → ReadsAllW r.records (classAt s₀.heap) s₁.heap vals args as → WellAll w.params s₁.heap vals args → (∀ a ∈ as, (a == sysModules) = false) →
      wpG (model r.prog w) callerA (run (.ref a) vals) (fun v s' => GoodWG r.claim (classAt s₀.heap) (ExcName.means s₀.heap) args s₁ (.ok (.ret v)) s' ∧ s'.gens = #[])
        (fun e s' => GoodWG r.claim (classAt s₀.heap) (ExcName.means s₀.heap) args s₁ (.error e) s' ∧ s'.gens = #[]) s₁
theorem thread_endsG {prog : Program} {w : World} {t : Sem Fin} {s : Shared} {R : Result → Shared → Prop} (hreg : s.asleep) (hG : leftWithCleanup s.gens = false)
    (h : wpG (model prog w) callerA t (fun fin s' => ∃ f, fin = .done f ∧ (R (.ok f) s' ∧ s'.gens = #[])) (fun e s' => R (.error e) s' ∧ s'.gens = #[]) { s with gens := #[] }) :
    ∃ n r s', schedN (denote table) prog w n (.single s ⟨t, .builtin "claim.caller" {}, default, []⟩) = .halted (outcomeOf r) { s' with gens := s.gens } ∧ s'.heap.life = s.heap.life ∧ R r s' := by
  have h' : wp (model prog w) ⟨.builtin "claim.caller" {}, none, none, [], none⟩ t (Sem.finPost (model prog w) ⟨.builtin "claim.caller" {}, none, none, [], none⟩ (fun r s' => (R r s' ∧ s'.gens = #[]) ∧ leftWithCleanup s'.gens = false)) (fun e _ s' => (R (.error e) s' ∧ s'.gens = #[]) ∧ leftWithCleanup s'.gens = false) default { s with gens := #[] } :=
    Sem.wp_mono _ _ t (fun fin p' s' hf => by obtain ⟨f, rfl, a, b⟩ := hf; exact ⟨⟨a, b⟩, by rw [b]; simp [leftWithCleanup]⟩) (fun e _ s' hf => ⟨hf, by rw [hf.2]; simp [leftWithCleanup]⟩) default _ (h _ default caller_in good0)
  obtain ⟨n, r, s₁, hn, hR, hg⟩ := (wp_iff_halts (M := model prog w) (R := fun r s' => R r s' ∧ s'.gens = #[]) ..).mp h'
  obtain ⟨s₂, hr, hf, hc⟩ := runNI_real _ _ _ hn (outcomeOf_ends r)
  obtain rfl : s₂ = s₁ := Shared.eq_of_forget_eq hf hg
  exact ⟨n, r, s₂, sched_gens (s := { s with gens := #[] }) hG hr (outcomeOf_ends r) hg rfl hc hreg, runN_life (s := { s with gens := #[] }) _ _ _ hr, hR⟩
theorem callFromG {c : ClaimW} {tree : List Value → Sem Fin} {w : World} {s : Shared} {free : Addr → Prop} {gens : Prop} {kept : Heap → Prop} (hz : s.asleep) (hgens : s.gens = #[])
    (hspec : ∀ args, c.pre args = true → WData.layableAll args = true → ∀ ord : List DictEntry → List DictEntry, (∀ l, (ord l).Perm l) →
      ∃ vs s₁, layAllW c.records (classAt s.heap) w.params ord args s = some (vs, s₁) ∧
        wpG (model c.prog w) callerA (tree vs) (fun fin s' => ∃ f, fin = .done f ∧ (c.Ends s args vs s₁ (.ok f) s' ∧ s'.os = s.os ∧ s'.gens = #[] ∧ kept s'.heap))
          (fun e s' => c.Ends s args vs s₁ (.error e) s' ∧ s'.os = s.os ∧ s'.gens = #[] ∧ kept s'.heap) s₁) :
    c.CallFrom (fun vs => ⟨tree vs, .builtin "claim.caller" {}, default, []⟩) w free gens kept s := by
  intro args hpre hlay ord hord
  obtain ⟨vs, s₁, hlaid, hcode⟩ := hspec args hpre hlay ord hord
  have hal := layAllW_rest _ _ _ hlaid
  have hg1 : s₁.gens = #[] := hal.1.trans hgens
  have e1 : ({ s₁ with gens := #[] } : Shared) = s₁ := by obtain ⟨_, _, _, _, _⟩ := s₁; simp only at hg1; subst hg1; rfl
  obtain ⟨k, r, s', hsched, hlife, hcase, hos, hkp⟩ := thread_endsG (prog := c.prog) (w := w) (t := tree vs) (s := s₁) (R := fun r s' => c.Ends s args vs s₁ r s' ∧ s'.os = s.os ∧ kept s'.heap)
    (Shared.asleep_of_life hal.2.2.2 hz) (by rw [hg1]; simp [leftWithCleanup])
    (by rw [e1]; exact wpG_mono hcode (fun _ _ ⟨f, e, a, b, d, k⟩ => ⟨f, e, ⟨a, b, k⟩, d⟩) fun _ _ ⟨a, b, d, k⟩ => ⟨⟨a, b, k⟩, d⟩)
  refine ⟨vs, s₁, hlaid, k, _, _, hsched, ?_, (fun _ i x hx => by rw [← hx]; exact congrArg (·[i]?) hal.1), hkp, congrArg Life.seen (hlife.trans hal.2.2.2), Shared.rest_eq hos⟩
  rcases hcase with ⟨v, rfl, d1, d2, d3, d4, d5⟩ | ⟨e, ob, cls, rfl, d1, d2, d3, d4, d5⟩
  · exact .inl ⟨v, rfl, d1, d2, d3, fun b o y _ => d4 b o y, d5⟩
  · exact .inr ⟨e, ob, cls, rfl, d1, d2, d3, d4, fun b o y _ => d5 b o y⟩
/-- a row holds when its callee is walked upon the caller's own stack -/
theorem holdsG {r : OpenRow} {q : Program} {loose : List PySem.Str} {Xt : Shared → Bool} {XP : (PySem.Str → Option Value) → Heap → Prop} {α : Type} {Yf : Shared → α} {Ya : World → α} {YP : World → Heap → Prop} {d : DefRec} {kwd : List (PySem.Str × Expr)} {N : Nat}
    (left : LeftO r.prog q loose Xt Yf Ya N) (hY : ∀ w s, Yf s = Ya w → YP w s.heap) (hYk : ∀ w h h', YP w h → (∀ b o, h.get? b = some o → h'.get? b = some o) → YP w h')
    (hX : ∀ s, Xt s = true → XP (s.heap.nsMap mainGlobals) s.heap) (hXk : ∀ mg h h', XP mg h → (∀ b o, h.get? b = some o → h'.get? b = some o) → XP mg h')
    (hdef : defOf q r.name = some (d, kwd)) (hp : r.prog.theDef r.name = some (d.params, d.body, d.scope)) (hk : kwWritten? d.params.kwonlyargs d.params.kw_defaults = some kwd) (hRf : ∀ s, Xt s = true → RecFacts r.records s.heap) (hwr : (!r.writes || r.records.isEmpty) = true)
    (k1 : r.wellSaid = true) (ok : (chainsOk q && opensWell r.prog && (frees r.toRowW && r.within.isEmpty)) = true) (hb : r.prog.bare) (hw : r.toRowW.promised)
    (call : WalkG q loose XP YP r.toRowW d kwd fun f vs => PySem.call f vs) : r.Holds := by
  obtain ⟨hco, k5⟩ := Bool.and_eq_true_iff.mp ok
  obtain ⟨hch, o1⟩ := Bool.and_eq_true_iff.mp hco
  obtain ⟨k5, k6⟩ := Bool.and_eq_true_iff.mp k5
  obtain ⟨hsame, hu, ha, hap, hm⟩ := frees_parts k5
  have hwi : r.toRowW.claim.within = [] := List.isEmpty_iff.mp k6
  have hi := ident_freeW hu ha hap
  refine ⟨k1, hw, ⟨hb, o1, by show r.toRowW.makers.map _ = []; rw [hm]; rfl⟩, hw.witness, fun w => ⟨(left.behind hX hch w).1, fun s' hs' => ?_⟩⟩
  obtain ⟨s₀, hf, hg0, s, hT, hz, hgens, hg, G00, y⟩ := (left.behind (XP := fun mg h => XP mg h ∧ RecFacts r.records h) (fun s hs => ⟨hX s hs, hRf s hs⟩) hch w).2 s' hs'
  have G0 : Ground q loose [] XP w s (s.heap.nsMap mainGlobals) (s.heap.nsMap builtinsNs) s.heap := ⟨G00.T, G00.B, G00.D, G00.TE, G00.TD, G00.W, G00.X.1, G00.cls, G00.has, G00.apart, G00.once, G00.K⟩
  have RF := G00.X.2
  have hT' := hT
  refine ⟨s₀, hf, hg0, s, hT, fun n hn => ?_, RF.1, RF.2.1, ?_⟩
  · obtain rfl : n = r.name := by split at hn <;> simp_all
    exact pinned_of_view hg G0 hdef hp hk
  have hgens : s.gens = #[] := Array.eq_empty_of_size_eq_zero (beq_iff_eq.mp hgens)
  have G : Ground q loose r.records XP w s _ _ s.heap := RF.ground G0
  refine callFromG (c := r.toRowW.claim) hz hgens fun args hpre hlay ord hord => ?_
  obtain ⟨⟨vs, s₁⟩, hlaid⟩ := Option.isSome_iff_exists.mp (layAllW_isSome (P := w.params) (ord := ord) G.has args r.toRowW.args s (pre_splitW hpre).1)
  have keeps := layAllW_keeps _ _ _ hlaid
  have hal := layAllW_rest _ _ _ hlaid
  obtain ⟨as, hrd, hin, hold⟩ := reads_layAllW hord _ _ _ hlaid hlay s₁.heap (fun _ _ e => e)
  have L : Laid r.records w s s₁ args vs as := ⟨⟨ord, hord, hlaid⟩, hrd, hin, hold, keeps, hal.1.trans hgens, hal.2.2.1⟩
  have G₁ := G.keeps hXk keeps
  obtain ⟨a, o, pm, cd, doc, dV, kV, h1, h2, h3, h4, h5⟩ := G₁.fn hdef
  have hn := defOf_name hdef
  have hc := call w s s₁ _ _ G₁ (hYk _ _ _ (hY w s y) keeps) a o pm cd doc dV kV h2 h3 h4 h5 (hn ▸ h1) L.gens args vs as hpre hlay L.reads L.well (L.low G.low)
  refine ⟨vs, s₁, hlaid, wpG_bindA (wpAny_nsGet G₁.T.g ?_)⟩
  rw [h1]
  refine wpG_bind (wpG_mono hc (fun v s' g => wpG_pure ⟨_, rfl, ?_⟩) fun e s' g => ?_)
  · have z := g.1.laid (c := r.toRowW.claim) hsame hwi hi L
    exact ⟨z.1, z.2.1, g.2, fun q => ⟨namesKept_of hT' hg _ keeps g.1.2.1.old, noTable hwr q⟩⟩
  · have z := g.1.laid (c := r.toRowW.claim) hsame hwi hi L
    exact ⟨z.1, z.2.1, g.2, fun q => ⟨namesKept_of hT' hg _ keeps g.1.2.1.old, noTable hwr q⟩⟩
end Og
end

section
open PySem PySem.W PyProof.Rows PySem.Calls
set_option maxRecDepth 100000
set_option Elab.async false
set_option linter.unusedVariables false
set_option maxHeartbeats 1000000
namespace Og
noncomputable def dead (o : Obj) : Bool := match o with | ⟨_, _, .freed, _⟩ => true | _ => false
/-- the objects at growing addresses, in one pass -/
noncomputable def pick (os : List Obj) : List Addr → Nat → List Obj :=
  @List.rec Obj (fun _ => List Addr → Nat → List Obj) (fun _ _ => [])
    (fun o _ ih as i => @List.rec Addr (fun _ => List Obj) [] (fun a r _ => @Bool.rec (fun _ => List Obj) (ih as (Nat.add i 1)) (@Bool.rec (fun _ => List Obj) (o :: ih r (Nat.add i 1)) [] (dead o)) (Nat.beq a i)) as) os
theorem sub_next {a i : Nat} (h : i + 1 ≤ a) : a - i = (a - (i + 1)) + 1 := (Nat.succ_pred_eq_of_pos (Nat.sub_pos_of_lt h)).symm
theorem pick_at : ∀ (os : List Obj) (K : Frag) (i : Nat), pick os (K.map (·.1)) i = K.map (·.2) → ∀ a o, K.lookup a = some o → i ≤ a ∧ os[a - i]? = some o ∧ dead o = false
  | [], [], i, e, a, o, h => nomatch h
  | [], _ :: _, i, e, a, o, h => nomatch (show ([] : List Obj) = _ from e)
  | _ :: _, [], i, e, a, o, h => nomatch h
  | x :: os, (b, y) :: K, i, e, a, o, h => by
    have e' : @Bool.rec (fun _ => List Obj) (pick os (b :: K.map (·.1)) (Nat.add i 1)) (@Bool.rec (fun _ => List Obj) (x :: pick os (K.map (·.1)) (Nat.add i 1)) [] (dead x)) (Nat.beq b i) = y :: K.map (·.2) := e
    cases hb : Nat.beq b i with
    | false =>
      rw [hb] at e'
      obtain ⟨h1, h2, h3⟩ := pick_at os ((b, y) :: K) (i + 1) e' a o h
      refine ⟨Nat.le_of_succ_le h1, ?_, h3⟩
      rw [sub_next h1]
      exact h2
    | true =>
      obtain rfl := Nat.eq_of_beq_eq_true hb
      rw [hb] at e'
      cases hd : dead x with
      | true => rw [hd] at e'; exact nomatch (show ([] : List Obj) = _ from e')
      | false =>
        rw [hd] at e'
        obtain ⟨e1, e2⟩ := List.cons.inj (show x :: pick os (K.map (·.1)) (b + 1) = y :: K.map (·.2) from e')
        rw [List.lookup_cons] at h
        cases hq : a == b with
        | true =>
          rw [hq] at h
          obtain rfl := beq_iff_eq.mp hq
          obtain rfl := Option.some.inj h
          refine ⟨Nat.le_refl _, ?_, e1 ▸ hd⟩
          rw [Nat.sub_self]
          exact congrArg some e1
        | false =>
          rw [hq] at h
          obtain ⟨h1, h2, h3⟩ := pick_at os K (b + 1) e2 a o h
          refine ⟨Nat.le_of_succ_le h1, ?_, h3⟩
          rw [sub_next h1]
          exact h2
theorem get_alive {h : Heap} {a : Addr} {o : Obj} (e : h.objs[a]? = some o) (d : dead o = false) : h.get? a = some o := by
  unfold Heap.get?
  rw [e]
  obtain ⟨c, t, dt, l⟩ := o
  cases dt <;> first | rfl | exact nomatch (show true = false from d)
theorem in_pick {K : Frag} {h : Heap} (e : pick h.objs.toList (K.map (·.1)) 0 = K.map (·.2)) : K.In h := fun a o ha => by
  obtain ⟨_, h2, h3⟩ := pick_at _ _ _ e a o ha
  rw [Nat.sub_zero, Array.getElem?_toList] at h2
  exact get_alive h2 h3
noncomputable def pHook (K : Params → Frag) (as : List Addr) (e : ∀ P, as = (K P).map (·.1)) (ts : List Addr) : Hook where
  α := List Obj × List (Option Obj)
  obs := fun s => (pick s.heap.objs.toList as 0, ts.map s.heap.get?)
  val := fun w => ((K w.params).map (·.2), ts.map fun _ => some (tabObj #[]))
  says := fun w h => (K w.params).In h ∧ ∀ P ∈ ts, h.get? P = some (tabObj #[])
  of := fun w s x => ⟨in_pick (e w.params ▸ (Prod.mk.inj x).1), List.map_inj_left.mp (Prod.mk.inj x).2⟩
  keeps := fun w h h' x k => ⟨Frag.In.keeps x.1 k, fun P hP => k _ _ (x.2 P hP)⟩
/-- the view of the text: the law alone, every other name loose -/
noncomputable def prg : Program := PySem.Challenge.rw_og0110_01.row.toRowW.prog
noncomputable def q0 : Program := { prg with main := { prg.main with body := prg.main.body.drop 162 } }
noncomputable def loose0 : List PySem.Str := .ofString "_wall" :: .ofString "LedgerError" :: .ofString "DataFault" :: .ofString "CheckFault" :: .ofString "RunFault" :: .ofString "SizeFault" :: .ofString "MOST_PLACES" :: .ofString "MOST_POWER" :: .ofString "MOST_FIGURES" :: .ofString "cut_quotient" :: .ofString "decimal" :: .ofString "kept" :: .ofString "units_beside" :: .ofString "plus" :: .ofString "minus" :: .ofString "times" :: .ofString "negated" :: .ofString "quotient" :: .ofString "power" :: .ofString "units_at" :: .ofString "is_whole" :: .ofString "whole_of" :: .ofString "fits" :: .ofString "FILLER" :: .ofString "RENAMING" :: .ofString "Item" :: .ofString "Data" :: .ofString "records" :: .ofString "items_under" :: .ofString "all_items" :: .ofString "items_around" :: .ofString "root_of" :: .ofString "names_around" :: .ofString "tables_around" :: .ofString "is_group" :: .ofString "plain_kids" :: .ofString "places" :: .ofString "FIXED" :: .ofString "INSERTED" :: .ofString "BLANK_editing" :: .ofString "floating_sign" :: .ofString "roles_of" :: .ofString "is_suppressing" :: .ofString "figures_laid" :: .ofString "sign_text" :: .ofString "insert_text" :: .ofString "Layer" :: .ofString "vanished" :: .ofString "edited_text" :: .ofString "edited" :: .ofString "data_places" :: .ofString "inserted" :: .ofString "NOUGHT_deediting" :: .ofString "MINUS_deediting" :: .ofString "octet_places" :: .ofString "figure_of" :: .ofString "units_told" :: .ofString "is_minus_at" :: .ofString "has_minus" :: .ofString "first_unlike" :: .ofString "number_of_edited" :: .ofString "Shape" :: .ofString "is_numeric" :: .ofString "unit_bound" :: .ofString "text_shape" :: .ofString "numbered_shape" :: .ofString "figure_count" :: .ofString "number_shape" :: .ofString "unsigned_shape" :: .ofString "NOUGHT_usages" :: .ofString "PLUS" :: .ofString "MINUS_usages" :: .ofString "PLUS_FIGURES" :: .ofString "MINUS_FIGURES" :: .ofString "PACKED_PLUS" :: .ofString "PACKED_MINUS" :: .ofString "PACKED_PLAIN" :: .ofString "kept_units" :: .ofString "figures_for" :: .ofString "display_octets" :: .ofString "packed_octets" :: .ofString "binary_octets" :: .ofString "octets_for" :: .ofString "joined_figures" :: .ofString "signed_figure" :: .ofString "display_units" :: .ofString "packed_units" :: .ofString "binary_units" :: .ofString "units_in" :: .ofString "number_in" :: .ofString "cut_octets" :: .ofString "BLANK_moving" :: .ofString "NOUGHT_CODE" :: .ofString "NUMBERS" :: .ofString "goals_of" :: .ofString "can_move" :: .ofString "aligned" :: .ofString "repeated" :: .ofString "whole_figures_of" :: .ofString "worth_in_text" :: .ofString "text_in" :: .ofString "text_for" :: .ofString "number_for" :: .ofString "moved" :: .ofString "pattern_of" :: .ofString "filled_number" :: .ofString "filled" :: .ofString "data_fault" :: .ofString "valued" :: .ofString "unvalued" :: .ofString "first_octets" :: .ofString "initial_memory" :: .ofString "TWO_SIDED" :: .ofString "postfix" :: .ofString "applied" :: .ofString "reckoned" :: .ofString "file_of" :: .ofString "leads_through" :: .ofString "only_one" :: .ofString "find_item" :: .ofString "stretch" :: .ofString "World" :: .ofString "is_index" :: .ofString "memory_of" :: .ofString "part_of" :: .ofString "spot_in" :: .ofString "octets_at" :: .ofString "operand_in" :: .ofString "number_of" :: .ofString "worth_in" :: .ofString "whole_in" :: .ofString "move_to" :: .ofString "Program" :: .ofString "_law_TEXT" :: .ofString "_law_NUMBER" :: .ofString "_law_INDEX" :: .ofString "_law_FIGURES" :: .ofString "_law_taker" :: .ofString "_law_signed" :: .ofString "_law_world" :: .ofString "_law_decimal" :: .ofString "_law_told" :: .ofString "_law_laid" :: .ofString "_law_number_due" :: .ofString "_law_filled" :: .ofString "_law_fill_right" :: .ofString "_law_written_right" :: []
noncomputable def und (l : List Nat) : Nat → List Addr := @List.rec Nat (fun _ => Nat → List Addr) (fun _ => []) (fun g _ ih a => Nat.add a g :: ih (Nat.add a g)) l
noncomputable def hookP : Hook := pHook hd.heap_1 (und (2 :: 1 :: 12 :: 2 :: 1 :: 2 :: 1 :: 1 :: 7 :: 1 :: 1 :: 2 :: 1 :: 2 :: 1 :: 1 :: 2 :: 1 :: 2 :: 1 :: 1 :: 1 :: 1 :: 1 :: 3 :: 7 :: 1 :: 1 :: 3 :: 7 :: 1 :: 1 :: 3 :: 7 :: 1 :: 1 :: 3 :: 7 :: 1 :: 1 :: 3 :: 2 :: 1 :: 2 :: 1 :: 1 :: 1 :: 2 :: 1 :: 2 :: 1 :: 1 :: 2 :: 1 :: 2 :: 1 :: 1 :: 2 :: 1 :: 2 :: 1 :: 1 :: 2 :: 1 :: 2 :: 1 :: 1 :: 2 :: 1 :: 2 :: 1 :: 1 :: 2 :: 1 :: 2 :: 1 :: 1 :: 2 :: 1 :: 2 :: 1 :: 1 :: 1 :: 2 :: 1 :: 2 :: 1 :: 1 :: 2 :: 1 :: 2 :: 1 :: 1 :: 2 :: 1 :: 2 :: 1 :: 1 :: 2 :: 1 :: 2 :: 1 :: 1 :: 2 :: 1 :: 2 :: 1 :: 1 :: 2 :: 1 :: 2 :: 1 :: 8 :: 2 :: 1 :: 2 :: 1 :: 1 :: 2 :: 1 :: 2 :: 1 :: 1 :: 2 :: 1 :: 2 :: 1 :: 1 :: 2 :: 1 :: 2 :: 1 :: 1 :: 3 :: 1 :: 1 :: 1 :: 1 :: 1 :: 1 :: 10 :: 2 :: 1 :: 2 :: 1 :: 1 :: 3 :: 1 :: 1 :: 1 :: 1 :: 1 :: 1 :: 3 :: 2 :: 1 :: 2 :: 1 :: 1 :: 2 :: 1 :: 2 :: 1 :: 1 :: 2 :: 1 :: 2 :: 1 :: 1 :: 2 :: 1 :: 2 :: 1 :: 1 :: 2 :: 1 :: 2 :: 1 :: 1 :: 3 :: 1 :: 1 :: 3 :: 1 :: 1 :: 3 :: 1 :: 1 :: 3 :: 1 :: 1 :: 2 :: 1 :: 2 :: 1 :: 1 :: 2 :: 1 :: 2 :: 1 :: 1 :: 2 :: 1 :: 2 :: 1 :: 1 :: 2 :: 1 :: 2 :: 1 :: 1 :: 2 :: 1 :: 2 :: 1 :: 1 :: 2 :: 1 :: 2 :: 1 :: 1 :: 2 :: 1 :: 2 :: 1 :: 8 :: 2 :: 1 :: 2 :: 1 :: 1 :: 2 :: 1 :: 2 :: 1 :: 1 :: 2 :: 1 :: 2 :: 1 :: 1 :: 2 :: 1 :: 2 :: 1 :: 1 :: 1 :: 1 :: 1 :: 1 :: 3 :: 3 :: 1 :: 1 :: 2 :: 1 :: 2 :: 1 :: 1 :: 1 :: 3 :: 1 :: 1 :: 3 :: 1 :: 1 :: 2 :: 1 :: 2 :: 1 :: 1 :: 2 :: 1 :: 2 :: 1 :: 1 :: 2 :: 1 :: 2 :: 1 :: 1 :: 2 :: 1 :: 2 :: 1 :: 1 :: 3 :: 1 :: 1 :: 3 :: 1 :: 1 :: 2 :: 1 :: 2 :: 1 :: 1 :: 1 :: 2 :: 1 :: 2 :: 1 :: 8 :: 1 :: 2 :: 1 :: 2 :: 1 :: 1 :: 2 :: 1 :: 2 :: 1 :: 1 :: 2 :: 1 :: 2 :: 1 :: 1 :: 1 :: 1 :: 1 :: 1 :: 3 :: 2 :: 1 :: 2 :: 1 :: 1 :: 2 :: 1 :: 2 :: 1 :: 1 :: 2 :: 1 :: 2 :: 1 :: 1 :: 2 :: 1 :: 2 :: 1 :: 1 :: 2 :: 1 :: 2 :: 1 :: 1 :: 2 :: 1 :: 2 :: 1 :: 1 :: 2 :: 1 :: 2 :: 1 :: 1 :: 2 :: 1 :: 2 :: 1 :: 1 :: 2 :: 1 :: 2 :: 1 :: 1 :: 3 :: 1 :: 1 :: 3 :: 1 :: 1 :: 2 :: 1 :: 2 :: 1 :: 1 :: 2 :: 1 :: 2 :: 1 :: 1 :: 2 :: 1 :: 2 :: 1 :: 1 :: 2 :: 1 :: 2 :: 1 :: 1 :: 3 :: 1 :: 1 :: 2 :: 1 :: 2 :: 1 :: 1 :: 2 :: 1 :: 2 :: 1 :: 1 :: 2 :: 1 :: 2 :: 1 :: 1 :: 2 :: 1 :: 2 :: 1 :: 1 :: 2 :: 1 :: 2 :: 1 :: 1 :: 1 :: 2 :: 1 :: 2 :: 1 :: 1 :: 2 :: 1 :: 2 :: 1 :: 1 :: 1 :: 2 :: 1 :: 2 :: 1 :: 1 :: 2 :: 1 :: 2 :: 1 :: 1 :: 2 :: 1 :: 2 :: 1 :: 1 :: 2 :: 1 :: 2 :: 1 :: 1 :: 2 :: 1 :: 2 :: 1 :: 1 :: 2 :: 1 :: 2 :: 1 :: 1 :: 2 :: 1 :: 2 :: 1 :: 1 :: 2 :: 1 :: 2 :: 1 :: 1 :: 2 :: 1 :: 2 :: 1 :: 1 :: 2 :: 1 :: 2 :: 1 :: 1 :: 2 :: 1 :: 2 :: 1 :: 1 :: 2 :: 1 :: 2 :: 1 :: 1 :: 2 :: 1 :: 2 :: 1 :: 1 :: 2 :: 1 :: 2 :: 1 :: 1 :: 3 :: 1 :: 1 :: 2 :: 1 :: 2 :: 1 :: 1 :: 1 :: 2 :: 1 :: 2 :: 1 :: 1 :: 2 :: 1 :: 2 :: 1 :: 1 :: 2 :: 1 :: 2 :: 1 :: 1 :: 3 :: 1 :: 1 :: 2 :: 1 :: 2 :: 1 :: 1 :: 2 :: 1 :: 2 :: 1 :: 1 :: 3 :: 1 :: 1 :: 2 :: 1 :: 2 :: 1 :: 8 :: 2 :: 1 :: 2 :: 1 :: 1 :: 1 :: 1 :: 1 :: 1 :: 3 :: 2 :: 1 :: 2 :: 1 :: 1 :: 2 :: 1 :: 2 :: 1 :: 1 :: 2 :: 1 :: 2 :: 1 :: 1 :: 3 :: 1 :: 1 :: 2 :: 1 :: 2 :: 1 :: 1 :: 2 :: 1 :: 2 :: 1 :: 1 :: 2 :: 1 :: 2 :: 1 :: 1 :: 2 :: 1 :: 2 :: 1 :: 1 :: 2 :: 1 :: 2 :: 1 :: 1 :: 2 :: 1 :: 2 :: 1 :: 8 :: 2 :: 1 :: 2 :: 1 :: 1 :: 2 :: 1 :: 2 :: 1 :: 1 :: 1 :: 1 :: 1 :: 1 :: 3 :: 1 :: 1 :: 1 :: 1 :: 1 :: 1 :: 1 :: 1 :: 1 :: 2 :: 1 :: 2 :: 1 :: 1 :: 2 :: 1 :: 2 :: 1 :: 1 :: 3 :: 1 :: 1 :: 2 :: 1 :: 2 :: 1 :: 1 :: 2 :: 1 :: 2 :: 1 :: 1 :: 2 :: 1 :: 2 :: 1 :: 1 :: 2 :: 1 :: 2 :: 1 :: 1 :: 2 :: 1 :: 2 :: 1 :: 1 :: 2 :: 1 :: 2 :: 1 :: 1 :: 3 :: 1 :: 1 :: 2 :: 1 :: 2 :: 1 :: 1 :: 3 :: 1 :: []) 0) (fun _ => by kernel_rfl) [1038, 1017, 984, 919, 1050]
end Og
end

section
open PySem PySem.W PyProof.Rows
set_option Elab.async false
set_option maxRecDepth 100000
set_option maxHeartbeats 8000000
namespace Og
noncomputable abbrev Laid0 (w : World) (h : Heap) : Prop := (hd.heap_1 w.params).In h ∧ ∀ P ∈ [1038, 1017, 984, 919, 1050], h.get? P = some (tabObj #[])
theorem top.tw13410389269721437945 : True := trivial
theorem top.tw215927317836601490 : True := trivial
theorem top.tw16823350709287343039 : True := trivial
theorem top.tw2774857389317706687 : True := trivial
theorem top.tw13985655098938063775 : True := trivial
theorem top.tw13291161531284133759 : True := trivial
theorem top.tw11962811721772346207 : True := trivial
theorem top.tw3294083120640065311 : True := trivial
theorem top.tw10342845653818497791 : True := trivial
theorem top.tw1622546432400665343 : True := trivial
theorem top.tw4889378036134615807 : True := trivial
theorem top.tw14920051679822278367 : True := trivial
theorem top.tw13646072146119963295 : True := trivial
theorem top.tw12747673404350955135 : True := trivial
theorem top.tw8781237358895567487 : True := trivial
theorem top.tw17885194665338182239 : True := trivial
theorem top.tw11384725001448829471 : True := trivial
theorem top.tw16757526564926223871 : True := trivial
theorem top.tw16020830139052739039 : True := trivial
theorem top.tw21523216179183071 : True := trivial
theorem top.tw15320031124934834655 : True := trivial
theorem top.tw13463056771190693311 : True := trivial
theorem top.tw9140480239840000415 : True := trivial
theorem top.tw17878098660163294591 : True := trivial
theorem top.tw6703538182199125279 : True := trivial
theorem top.tw658287000819661055 : True := trivial
theorem top.tw6356357279387446527 : True := trivial
theorem top.tw12123085960816956639 : True := trivial
theorem top.tw4642349611111790751 : True := trivial
theorem top.tw8982065856132071551 : True := trivial
theorem top.tw15353813120466646079 : True := trivial
theorem top.tw5039923841549168703 : True := trivial
theorem top.tw6646312866586397727 : True := trivial
theorem top.tw5860255335635608574 : True := trivial
theorem top.tw157807073797922782 : True := trivial
theorem top.tw17347566328506739678 : True := trivial
theorem top.tw8743931010433202110 : True := trivial
theorem top.tw7768306047219494814 : True := trivial
theorem top.tw4308890684497832862 : True := trivial
theorem top.tw7922227777395694430 : True := trivial
theorem top.tw1944488412849085246 : True := trivial
theorem top.tw12242155616231637790 : True := trivial
theorem top.tw14427866961403922174 : True := trivial
theorem top.tw4105807981553060606 : True := trivial
theorem top.tw15239031242718625470 : True := trivial
theorem top.tw16232089620751551166 : True := trivial
theorem top.tw7402751010754957982 : True := trivial
theorem top.tw16904263973664957022 : True := trivial
theorem top.tw9860815160169317950 : True := trivial
theorem top.tw13343809405782939134 : True := trivial
theorem top.tw7221765710913943038 : True := trivial
theorem top.tw17026567428494529022 : True := trivial
theorem top.tw10248052619115710910 : True := trivial
theorem top.tw4167813817403148734 : True := trivial
theorem top.tw9640995849983375774 : True := trivial
theorem top.tw3089352734830471582 : True := trivial
theorem top.tw11724200665389374878 : True := trivial
theorem top.tw3568243832758065534 : True := trivial
theorem top.tw13159291752932741470 : True := trivial
theorem top.tw14449340687973451070 : True := trivial
theorem top.tw10607443374949486718 : True := trivial
theorem top.tw42824753572089982 : True := trivial
theorem top.tw11430456143921274942 : True := trivial
theorem top.tw16143883463634839582 : True := trivial
theorem top.tw17080899806163527645 : True := trivial
theorem top.tw7726260244810793949 : True := trivial
theorem top.tw14532317199917864893 : True := trivial
theorem top.tw11617970879602169757 : True := trivial
theorem top.tw948014401992358781 : True := trivial
theorem top.tw800821287877471037 : True := trivial
theorem top.tw8141499480441251645 : True := trivial
theorem top.tw8881701398510394173 : True := trivial
theorem top.tw2090217769763606333 : True := trivial
theorem top.tw10781108884656374557 : True := trivial
theorem top.tw9992496809052177149 : True := trivial
theorem top.tw4873890056635176605 : True := trivial
theorem top.tw16536596596030118525 : True := trivial
theorem top.tw11033680418938443357 : True := trivial
theorem top.tw3244626248611350077 : True := trivial
theorem top.tw8219114538457108029 : True := trivial
theorem top.tw8454937713343320605 : True := trivial
theorem top.tw14534096153772719581 : True := trivial
theorem top.tw7162467903726772637 : True := trivial
theorem top.tw12848416237512951197 : True := trivial
theorem top.tw11793333285500282237 : True := trivial
theorem top.tw6517449071776847229 : True := trivial
theorem top.tw16913900609263349117 : True := trivial
theorem top.tw12299463474319860093 : True := trivial
theorem top.tw14592930044195806589 : True := trivial
theorem top.tw10288369190551384413 : True := trivial
theorem top.tw3452599778874772829 : True := trivial
theorem top.tw10888805129272786237 : True := trivial
theorem top.tw2758745417272803613 : True := trivial
theorem top.tw3653716985169516829 : True := trivial
theorem top.tw5593942153332195613 : True := trivial
theorem top.tw14647461075175457949 : True := trivial
theorem top.tw13326391532233862301 : True := trivial
theorem top.tw15131142406452123805 : True := trivial
theorem top.tw17715541576837533853 : True := trivial
theorem top.tw373533692923218045 : True := trivial
theorem top.tw15799685229543791645 : True := trivial
theorem top.tw9366197649300093948 : True := trivial
theorem top.tw15817287129129246716 : True := trivial
theorem top.tw13932596867556632540 : True := trivial
theorem top.tw6145152092364144572 : True := trivial
theorem top.tw13350092826407082908 : True := trivial
theorem top.tw3202847047941371740 : True := trivial
theorem top.tw16516662931258154844 : True := trivial
theorem top.tw5771183405823138588 : True := trivial
theorem top.tw13787270414199744188 : True := trivial
theorem top.tw5740727258716173980 : True := trivial
theorem top.tw9373752730734781052 : True := trivial
theorem top.tw15038409491516958300 : True := trivial
theorem top.tw6288383483989343708 : True := trivial
theorem top.tw9999593666088614364 : True := trivial
theorem top.tw4379098360810309084 : True := trivial
theorem top.tw16666542906746970556 : True := trivial
theorem top.tw1589557121973662108 : True := trivial
theorem top.tw5328414398864891228 : True := trivial
theorem top.tw7091957614058379484 : True := trivial
theorem top.tw12892701561707774140 : True := trivial
theorem top.tw8132675263922769052 : True := trivial
theorem top.tw9455405055228225660 : True := trivial
theorem top.tw13627090808900811868 : True := trivial
theorem top.tw8659175943918206044 : True := trivial
theorem top.tw1495493585460490300 : True := trivial
theorem top.tw1204392558021228604 : True := trivial
theorem top.tw11755356108835080220 : True := trivial
theorem top.tw16286041278176411676 : True := trivial
theorem top.tw11155820200937614299 : True := trivial
theorem top.tw7501603891775635323 : True := trivial
theorem top.tw3831481998427760507 : True := trivial
theorem top.tw1041752336633961339 : True := trivial
theorem top.tw2157515574061462363 : True := trivial
theorem top.tw12988338951010291547 : True := trivial
theorem top.tw15017654007847715675 : True := trivial
theorem top.tw17834232803267827515 : True := trivial
theorem top.tw3585020656722726715 : True := trivial
theorem top.tw15782042368053703451 : True := trivial
theorem top.tw1349570066090439451 : True := trivial
theorem top.tw8329744114058526459 : True := trivial
theorem top.tw15783748315845187323 : True := trivial
theorem top.tw12654232311904614139 : True := trivial
theorem top.tw17945201873674536667 : True := trivial
theorem top.tw18004320403930199707 : True := trivial
theorem top.tw10570008361000247931 : True := trivial
theorem top.tw10507590433550095963 : True := trivial
theorem top.tw12028556993104288347 : True := trivial
theorem top.tw5606090027037927963 : True := trivial
theorem top.tw13395758183099661819 : True := trivial
theorem top.tw10172662120562323931 : True := trivial
theorem top.tw1324534309291169243 : True := trivial
theorem top.tw5427048928859215259 : True := trivial
theorem top.tw4953162016770836859 : True := trivial
theorem top.tw16261281276555592059 : True := trivial
theorem top.tw553566716055753019 : True := trivial
theorem top.tw18004467792479095099 : True := trivial
theorem top.tw4639359839567468795 : True := trivial
theorem top.tw16019506905419446427 : True := trivial
theorem top.tw8111009443810562203 : True := trivial
theorem top.tw12094857203389180027 : True := trivial
theorem top.tw15808718615462355067 : True := trivial
theorem top.tw5743430851676396635 : True := trivial
theorem top.tw13521823827071505499 : True := trivial
theorem top.tw2965795163171142683 : True := trivial
theorem top.tw7399883211374919674 : True := trivial
theorem top.tw17336917188112119802 : True := trivial
theorem top.tw6691579125203871738 : True := trivial
theorem top.tw2240300188245923802 : True := trivial
theorem top.tw9242176236785276890 : True := trivial
theorem top.tw3023495724365139898 : True := trivial
theorem top.tw6279702261839074234 : True := trivial
theorem top.tw9762075913182065530 : True := trivial
theorem top.tw3836929221447765850 : True := trivial
theorem top.tw3466765189539539802 : True := trivial
theorem top.tw12009692112450245434 : True := trivial
theorem top.tw7980611086294338330 : True := trivial
theorem top.tw3044473203246189178 : True := trivial
theorem top.tw9701242563552994906 : True := trivial
theorem top.tw1325242253779281498 : True := trivial
theorem top.tw2742953107207143962 : True := trivial
theorem top.tw3257691139561665018 : True := trivial
theorem top.tw7888146364653857242 : True := trivial
theorem top.tw8923110773137735098 : True := trivial
theorem top.tw1914988406839197082 : True := trivial
theorem top.tw13454569266497655162 : True := trivial
theorem top.tw1412694037639445850 : True := trivial
theorem top.tw17738764301615457562 : True := trivial
theorem top.tw2704968724674631930 : True := trivial
theorem top.tw11081317132745452794 : True := trivial
theorem top.tw18038592497559423194 : True := trivial
theorem top.tw5313467048820612314 : True := trivial
theorem top.tw12180465861103194202 : True := trivial
theorem top.tw12639232944051884090 : True := trivial
theorem top.tw4436174143980636218 : True := trivial
theorem top.tw17719439956004225050 : True := trivial
theorem top.tw3757695769269151770 : True := trivial
theorem top.tw15140144492278216633 : True := trivial
theorem top.tw9920922451865593753 : True := trivial
theorem top.tw1875061726807009145 : True := trivial
theorem top.tw7096499664785915737 : True := trivial
theorem top.tw13259702717692918585 : True := trivial
theorem top.tw12297427181304851225 : True := trivial
theorem top.tw10047226866983403257 : True := trivial
theorem top.tw13767623804688881369 : True := trivial
theorem top.tw9600677938000011961 : True := trivial
theorem top.tw2710040517349669529 : True := trivial
theorem top.tw12445108171518912153 : True := trivial
theorem top.tw7876871762262454873 : True := trivial
theorem top.tw14384923476809177689 : True := trivial
theorem top.tw4240517677853228601 : True := trivial
theorem top.tw16746163444044313 : True := trivial
theorem top.tw11408922594971877913 : True := trivial
theorem top.tw2711842826636168665 : True := trivial
theorem top.tw8975838962940931513 : True := trivial
theorem top.tw12291801633154192825 : True := trivial
theorem top.tw10278118703932107161 : True := trivial
theorem top.tw8422066693676332409 : True := trivial
theorem top.tw15714849721083610489 : True := trivial
theorem top.tw13931069494192815449 : True := trivial
theorem top.tw973081156733651257 : True := trivial
theorem top.tw7837769264755301689 : True := trivial
theorem top.tw2614266843551481113 : True := trivial
theorem top.tw11965898111883537657 : True := trivial
theorem top.tw2526940579969477881 : True := trivial
theorem top.tw1835808358542358777 : True := trivial
theorem top.tw15680446728864584857 : True := trivial
theorem top.tw5799501795281875097 : True := trivial
theorem top.tw7936206842514155673 : True := trivial
theorem top.tw3140088256018653337 : True := trivial
theorem top.tw1623580751561301145 : True := trivial
theorem top.tw11790678662180992025 : True := trivial
theorem top.tw15007171224891367384 : True := trivial
theorem top.tw14329286178508701624 : True := trivial
theorem top.tw2752455963437328312 : True := trivial
theorem top.tw16800359468442008504 : True := trivial
theorem top.tw12535426705544970104 : True := trivial
theorem top.tw14468826334142846808 : True := trivial
theorem top.tw7712249422208307000 : True := trivial
theorem top.tw15068578636574945048 : True := trivial
theorem top.tw3452355249515937496 : True := trivial
theorem top.tw9358292590445607640 : True := trivial
theorem top.tw3925190955211303640 : True := trivial
theorem top.tw13359294605673593528 : True := trivial
theorem top.tw3964187710184140472 : True := trivial
theorem top.tw11252783997165570712 : True := trivial
theorem top.tw2879192358768168536 : True := trivial
theorem top.tw15166582477752378968 : True := trivial
theorem top.tw12528039449860397656 : True := trivial
theorem top.tw9657480787194904120 : True := trivial
theorem top.tw10376861491373426232 : True := trivial
theorem top.tw5522334080509536696 : True := trivial
theorem top.tw8262999263539226040 : True := trivial
theorem top.tw609377194872014232 : True := trivial
theorem top.tw4886790998219014520 : True := trivial
theorem top.tw10408209401440593272 : True := trivial
theorem top.tw12065966190967821656 : True := trivial
theorem top.tw13760640073762469176 : True := trivial
theorem top.tw8182647313153368344 : True := trivial
theorem top.tw10919920608962078904 : True := trivial
theorem top.tw15637450324936218808 : True := trivial
theorem top.tw3422727674366097528 : True := trivial
theorem top.tw6806704062966290552 : True := trivial
theorem top.tw15858758418303258744 : True := trivial
theorem top.tw10896488840684623960 : True := trivial
theorem top.tw16081782385444860984 : True := trivial
theorem top.tw16880556381712917528 : True := trivial
theorem top.tw10362711959885389848 : True := trivial
theorem top.tw14153487077456124952 : True := trivial
theorem top.tw4217815483878067191 : True := trivial
theorem top.tw14952190634866035671 : True := trivial
theorem top.tw13992495083573868343 : True := trivial
theorem top.tw9794144024435372855 : True := trivial
theorem top.tw5615195758383731511 : True := trivial
theorem top.tw16523603300691097335 : True := trivial
theorem top.tw16595221840418454231 : True := trivial
theorem top.tw7427458120644137687 : True := trivial
theorem top.tw6637247207862564439 : True := trivial
theorem top.tw11874754739869314647 : True := trivial
theorem top.tw11765203394706336343 : True := trivial
theorem top.tw5560815191092143703 : True := trivial
theorem top.tw7075871752343169591 : True := trivial
theorem top.tw11762916278815352279 : True := trivial
theorem top.tw15649531378024922519 : True := trivial
theorem top.tw8613958547695650135 : True := trivial
theorem top.tw6712281981423488343 : True := trivial
theorem top.tw10279032838051432759 : True := trivial
theorem top.tw7490614746645585175 : True := trivial
theorem top.tw11171615670187035895 : True := trivial
theorem top.tw13803863694599060695 : True := trivial
theorem top.tw15565219466610618583 : True := trivial
theorem top.tw11616095914110841015 : True := trivial
theorem top.tw7838584660235625655 : True := trivial
theorem top.tw11446837162099580087 : True := trivial
theorem top.tw6948676066454590583 : True := trivial
theorem top.tw2637686371821071479 : True := trivial
theorem top.tw9326776510375545943 : True := trivial
theorem top.tw2623582422613448791 : True := trivial
theorem top.tw4871485928781542423 : True := trivial
theorem top.tw16806816075925149719 : True := trivial
theorem top.tw1276459405118168054 : True := trivial
theorem top.tw7489586885809712118 : True := trivial
theorem top.tw17659998358722256886 : True := trivial
theorem top.tw11447698931639417814 : True := trivial
theorem top.tw14399496573031599062 : True := trivial
theorem top.tw11797316654784295830 : True := trivial
theorem top.tw6343664629923563382 : True := trivial
theorem top.tw16459911292800713590 : True := trivial
theorem top.tw7763641069898697558 : True := trivial
theorem top.tw13690947744731023158 : True := trivial
theorem top.tw10056237566069135126 : True := trivial
theorem top.tw8012785474562026230 : True := trivial
theorem top.tw2308852389822771926 : True := trivial
theorem top.tw14146324130002710230 : True := trivial
theorem top.tw4941398069074206422 : True := trivial
theorem top.tw11140215459587323574 : True := trivial
theorem top.tw14393327243196653238 : True := trivial
theorem top.tw17336700582725209750 : True := trivial
theorem top.tw5553124367475679894 : True := trivial
theorem top.tw761006536312742518 : True := trivial
theorem top.tw9525627833555889750 : True := trivial
theorem top.tw16964069244531129878 : True := trivial
theorem top.tw10004381462731338262 : True := trivial
theorem top.tw13059556060875191798 : True := trivial
theorem top.tw9721521066984808950 : True := trivial
theorem top.tw16878621894975445462 : True := trivial
theorem top.tw8923043376273968534 : True := trivial
theorem top.tw3107835184716532118 : True := trivial
theorem top.tw17920589357160054134 : True := trivial
theorem top.tw8758848083112986966 : True := trivial
theorem top.tw6628105369779995958 : True := trivial
theorem top.tw8063876227405994262 : True := trivial
theorem top.tw6312115693565729046 : True := trivial
theorem top.tw496973918855628022 : True := trivial
theorem top.tw10105107738918318262 : True := trivial
theorem top.tw18299894020647552182 : True := trivial
theorem top.tw9707682133577519254 : True := trivial
theorem top.tw7988073939755561078 : True := trivial
theorem top.tw380836126039075958 : True := trivial
theorem top.tw7843671089769815158 : True := trivial
theorem top.tw9013773619845283926 : True := trivial
theorem top.tw16948667459168678998 : True := trivial
theorem top.tw179487419230997558 : True := trivial
theorem top.tw11905721448669799446 : True := trivial
theorem top.tw14548239123750924310 : True := trivial
theorem top.tw9458874713488501782 : True := trivial
theorem top.tw6970026692270917621 : True := trivial
theorem top.tw2896925945285036981 : True := trivial
theorem top.tw11959995837829530549 : True := trivial
theorem top.tw4625605845215804309 : True := trivial
theorem top.tw11364429592046296853 : True := trivial
theorem top.tw12917200343955822293 : True := trivial
theorem top.tw7834391259666672277 : True := trivial
theorem top.tw1981535847120295573 : True := trivial
theorem top.tw6603081800952669813 : True := trivial
theorem top.tw16788031351904966261 : True := trivial
theorem top.tw10935782160032013845 : True := trivial
theorem top.tw10846017861859938837 : True := trivial
theorem top.tw5377806014167992821 : True := trivial
theorem top.tw10405254870902060469 : True := trivial
theorem top.tw18276675617529338261 : True := trivial
theorem top.tw9113538663337920917 : True := trivial
theorem top.tw6621052534032474485 : True := trivial
theorem top.tw5404700311016512885 : True := trivial
theorem top.tw3773146549886899541 : True := trivial
theorem top.tw7625683671008715061 : True := trivial
theorem top.tw9605746422120745269 : True := trivial
theorem top.tw149669882186581237 : True := trivial
theorem top.tw14244718415905846517 : True := trivial
theorem top.tw18183062397518679285 : True := trivial
theorem top.tw30799684522024149 : True := trivial
theorem top.tw6573772684240219317 : True := trivial
theorem top.tw9972740944039895157 : True := trivial
theorem top.tw4209392787417028725 : True := trivial
theorem top.tw2399635104930013301 : True := trivial
theorem top.tw6844282081812745269 : True := trivial
theorem top.tw14104426269991301173 : True := trivial
theorem top.tw7430389060628404245 : True := trivial
theorem top.tw6257592944520840213 : True := trivial
theorem top.tw8829963725267086324 : True := trivial
theorem top.tw8712546589515656180 : True := trivial
theorem top.tw3344457546911213460 : True := trivial
theorem top.tw351723375700652948 : True := trivial
theorem top.tw4369316155660015476 : True := trivial
theorem top.tw1213843834859639636 : True := trivial
theorem top.tw9040449441705769812 : True := trivial
theorem top.tw4764770412710309716 : True := trivial
theorem top.tw13258955634691841876 : True := trivial
theorem top.tw7969537491663227732 : True := trivial
theorem top.tw8775698510282406708 : True := trivial
theorem top.tw15116320235509497620 : True := trivial
theorem top.tw15191850669835781908 : True := trivial
theorem top.tw14999018191660111604 : True := trivial
theorem top.tw10046424332125626068 : True := trivial
theorem top.tw8668189025786534580 : True := trivial
theorem top.tw13191986093470450356 : True := trivial
theorem top.tw9899251896177067636 : True := trivial
theorem top.tw9733720462827612724 : True := trivial
theorem top.tw11774166330766202420 : True := trivial
theorem top.tw10219744779677243924 : True := trivial
theorem top.tw9624170705094796788 : True := trivial
theorem top.tw13635167560488815092 : True := trivial
theorem top.tw479202009932543380 : True := trivial
theorem top.tw7688409188624937332 : True := trivial
theorem top.tw6220774274887495028 : True := trivial
theorem top.tw2243032942023127380 : True := trivial
theorem top.tw10505124922215961908 : True := trivial
theorem top.tw6097644334692260116 : True := trivial
theorem top.tw10006768334086003956 : True := trivial
theorem top.tw5755047782220311796 : True := trivial
theorem top.tw13455904037937373364 : True := trivial
theorem top.tw4372046828687546548 : True := trivial
theorem top.tw3478247306217791668 : True := trivial
theorem top.tw14416303201261940852 : True := trivial
theorem top.tw12010307033648651348 : True := trivial
theorem top.tw1047877028080827476 : True := trivial
theorem top.tw3642642118254036052 : True := trivial
theorem top.tw5983017788491918356 : True := trivial
theorem top.tw10713641294459446259 : True := trivial
theorem top.tw1913260171580750739 : True := trivial
theorem top.tw735929776873175891 : True := trivial
theorem top.tw16891450492469718867 : True := trivial
theorem top.tw9371442079026150195 : True := trivial
theorem top.tw4169280090058143539 : True := trivial
theorem top.tw8021331471300683539 : True := trivial
theorem top.tw722935496692774675 : True := trivial
theorem top.tw1955774855702406899 : True := trivial
theorem top.tw3541382018940320499 : True := trivial
theorem top.tw16634184583643543283 : True := trivial
theorem top.tw15928419208948591219 : True := trivial
theorem top.tw11814167175960026707 : True := trivial
theorem top.tw6232820189421937235 : True := trivial
theorem top.tw8625629921031691859 : True := trivial
theorem top.tw5056954342889112115 : True := trivial
theorem top.tw35916564252111379 : True := trivial
theorem top.tw701125864185064947 : True := trivial
theorem top.tw17895208456974846451 : True := trivial
theorem top.tw7390700402218676627 : True := trivial
theorem top.tw10572207796667150643 : True := trivial
theorem top.tw15721924606538093843 : True := trivial
theorem top.tw5760470383013811443 : True := trivial
theorem top.tw14583398286747210995 : True := trivial
theorem top.tw13459750126196714707 : True := trivial
theorem top.tw11860721004705062099 : True := trivial
theorem top.tw15146551584949271731 : True := trivial
theorem top.tw8763363440054544563 : True := trivial
theorem top.tw7202820229013427315 : True := trivial
theorem top.tw12745564604603333715 : True := trivial
theorem top.tw5982074343705807955 : True := trivial
theorem top.tw6053293469888278547 : True := trivial
theorem top.tw3746272355332375571 : True := trivial
theorem top.tw416906669343159282 : True := trivial
theorem top.tw1134138454582250450 : True := trivial
theorem top.tw11171848678523135922 : True := trivial
theorem top.tw7179062365395064754 : True := trivial
theorem top.tw3692194768772617074 : True := trivial
theorem top.tw6856690052002073362 : True := trivial
theorem top.tw7425143145407169234 : True := trivial
theorem top.tw2492271145298100914 : True := trivial
theorem top.tw6524983475537160754 : True := trivial
theorem top.tw8317623997461939762 : True := trivial
theorem top.tw9607087332193062418 : True := trivial
theorem top.tw5785191296279017970 : True := trivial
theorem top.tw3895536486027662770 : True := trivial
theorem top.tw122116385588662706 : True := trivial
theorem top.tw17328132693608068498 : True := trivial
theorem top.tw695022796502604178 : True := trivial
theorem top.tw10449729919072398706 : True := trivial
theorem top.tw8233608090537738610 : True := trivial
theorem top.tw14412850503935210866 : True := trivial
theorem top.tw16679592881260876082 : True := trivial
theorem top.tw4379173806895704370 : True := trivial
theorem top.tw5616155909425375538 : True := trivial
theorem top.tw1279369951321733362 : True := trivial
theorem top.tw6023272460124573906 : True := trivial
theorem top.tw4924392256154391730 : True := trivial
theorem top.tw7883265407524616370 : True := trivial
theorem top.tw3608240897148556466 : True := trivial
theorem top.tw2322779961815862450 : True := trivial
theorem top.tw12525117688642781330 : True := trivial
theorem top.tw6211187286776487058 : True := trivial
theorem top.tw3466135823517858930 : True := trivial
theorem top.tw7418873979367126066 : True := trivial
theorem top.tw3790066648045869106 : True := trivial
theorem top.tw16171694357883225138 : True := trivial
theorem top.tw13997178514267104274 : True := trivial
theorem top.tw10172981033537322002 : True := trivial
theorem top.tw1243113364624999442 : True := trivial
theorem top.tw15892508670982071249 : True := trivial
theorem top.tw4768285381800548241 : True := trivial
theorem top.tw6970001456719057809 : True := trivial
theorem top.tw16347514774674885521 : True := trivial
theorem top.tw12688432066787625841 : True := trivial
theorem top.tw14676006598084494193 : True := trivial
theorem top.tw16232523881138045777 : True := trivial
theorem top.tw17535082739846460241 : True := trivial
theorem top.tw15369227437036262193 : True := trivial
theorem top.tw13066239111864405809 : True := trivial
theorem top.tw1338731669570729777 : True := trivial
theorem top.tw10010975367092549393 : True := trivial
theorem top.tw17607890577250068241 : True := trivial
theorem top.tw7661967336619195121 : True := trivial
theorem top.tw5294503225819596401 : True := trivial
theorem top.tw7756464798949120561 : True := trivial
theorem top.tw12597301591478701617 : True := trivial
theorem top.tw13543412204528822769 : True := trivial
theorem top.tw1696086856087888369 : True := trivial
theorem top.tw16520600937404410353 : True := trivial
theorem top.tw10095877747302170065 : True := trivial
theorem top.tw3072591958693465521 : True := trivial
theorem top.tw15163967919108928945 : True := trivial
theorem top.tw1884903133283888561 : True := trivial
theorem top.tw5328850161192319345 : True := trivial
theorem top.tw10611943776917878097 : True := trivial
theorem top.tw13731562434600857937 : True := trivial
theorem top.tw13011131436293565777 : True := trivial
theorem top.tw12591061054033286385 : True := trivial
theorem top.tw16302500190792890609 : True := trivial
theorem top.tw1278873406854803697 : True := trivial
theorem top.tw13650594692435018993 : True := trivial
theorem top.tw3678113552379666641 : True := trivial
theorem top.tw3344947047748581585 : True := trivial
theorem top.tw16201867430943718513 : True := trivial
theorem top.tw3092873013341289521 : True := trivial
theorem top.tw6184191893685237777 : True := trivial
theorem top.tw11302380876416989201 : True := trivial
theorem top.tw1460753687521017776 : True := trivial
theorem top.tw3480744510496611216 : True := trivial
theorem top.tw15163120132641158000 : True := trivial
theorem top.tw15212762489780165456 : True := trivial
theorem top.tw4566385653701644080 : True := trivial
theorem top.tw11013039856084836112 : True := trivial
theorem top.tw15179629483897680624 : True := trivial
theorem top.tw9991912817296215760 : True := trivial
theorem top.tw1336907024126389968 : True := trivial
theorem top.tw12150189266397736560 : True := trivial
theorem top.tw16440972667194132048 : True := trivial
theorem top.tw10206664843563651600 : True := trivial
theorem top.tw8557537527496651248 : True := trivial
theorem top.tw10460645102427782608 : True := trivial
theorem top.tw11925435254563193296 : True := trivial
theorem top.tw11746740619747972496 : True := trivial
theorem top.tw1216944807471765872 : True := trivial
theorem top.tw3793415191709960528 : True := trivial
theorem top.tw11686010171010588976 : True := trivial
theorem top.tw11352750732934977808 : True := trivial
theorem top.tw13450939024396481776 : True := trivial
theorem top.tw5378224265288472816 : True := trivial
theorem top.tw14719815747552455920 : True := trivial
theorem top.tw13372707081406590160 : True := trivial
theorem top.tw16221028631785516208 : True := trivial
theorem top.tw7353230033907219600 : True := trivial
theorem top.tw9382467381670632592 : True := trivial
theorem top.tw14781886342904339600 : True := trivial
theorem top.tw1576638282348304496 : True := trivial
theorem top.tw15338997555792418864 : True := trivial
theorem top.tw1990980586500961328 : True := trivial
theorem top.tw16106541893422085136 : True := trivial
theorem top.tw1708447775327443919 : True := trivial
theorem top.tw14946699062991075247 : True := trivial
theorem top.tw4356444256192717711 : True := trivial
theorem top.tw5136943240952307535 : True := trivial
theorem top.tw18396626789287845711 : True := trivial
theorem top.tw18170417095388296911 : True := trivial
theorem top.tw12213919727601661647 : True := trivial
theorem top.tw4018649651926677199 : True := trivial
theorem top.tw17590073906893348495 : True := trivial
theorem top.tw17343933139942137423 : True := trivial
theorem top.tw1903521708944666159 : True := trivial
theorem top.tw6690003891442254351 : True := trivial
theorem top.tw12699446373956231663 : True := trivial
theorem top.tw10573498141844385231 : True := trivial
theorem top.tw11358552230162040271 : True := trivial
theorem top.tw15399236299836545455 : True := trivial
theorem top.tw2879800687556881807 : True := trivial
theorem top.tw3243224480870300015 : True := trivial
theorem top.tw13588252784924442991 : True := trivial
theorem top.tw12604056153084805487 : True := trivial
theorem top.tw11287313356663690607 : True := trivial
theorem top.tw15205845523416215887 : True := trivial
theorem top.tw8638304312930940239 : True := trivial
theorem top.tw2104083751303025999 : True := trivial
theorem top.tw9854523694636168495 : True := trivial
theorem top.tw6863421289795072303 : True := trivial
theorem top.tw4519429789706809615 : True := trivial
theorem top.tw1523994000934251759 : True := trivial
theorem top.tw12776621257007657071 : True := trivial
theorem top.tw9846652141532013679 : True := trivial
theorem top.tw17779867899489961071 : True := trivial
theorem top.tw11458345823290324047 : True := trivial
theorem top.tw8634797839788880975 : True := trivial
theorem top.tw17211262532544188463 : True := trivial
theorem top.tw13314226825994540079 : True := trivial
theorem top.tw14881904510629730222 : True := trivial
theorem top.tw4129531960284403598 : True := trivial
theorem top.tw11942777587920969614 : True := trivial
theorem top.tw12582070627445113742 : True := trivial
theorem top.tw8461396331777793902 : True := trivial
theorem top.tw17271864882942725966 : True := trivial
theorem top.tw15159829635877319502 : True := trivial
theorem top.tw3545894270788062990 : True := trivial
theorem top.tw7904710336396933902 : True := trivial
theorem top.tw17349229429844123406 : True := trivial
theorem top.tw14630209430383817454 : True := trivial
theorem top.tw10948938703745830638 : True := trivial
theorem top.tw15927024932525932238 : True := trivial
theorem top.tw11306204004682659470 : True := trivial
theorem top.tw15867246519180246638 : True := trivial
theorem top.tw1501898286226019918 : True := trivial
theorem top.tw8959350855384171086 : True := trivial
theorem top.tw8376041174994220590 : True := trivial
theorem top.tw1502571125401249294 : True := trivial
theorem top.tw1124003860769038862 : True := trivial
theorem top.tw9595747048627727854 : True := trivial
theorem top.tw7317138923369788910 : True := trivial
theorem top.tw14342665907021556174 : True := trivial
theorem top.tw4139548739382685102 : True := trivial
theorem top.tw6274904013152220590 : True := trivial
theorem top.tw13875184060208898446 : True := trivial
theorem top.tw4422999140521583950 : True := trivial
theorem top.tw16552955503021004078 : True := trivial
theorem top.tw8020722883806921006 : True := trivial
theorem top.tw9024364022154167566 : True := trivial
theorem top.tw2891935023798838510 : True := trivial
theorem top.tw6599680323344082126 : True := trivial
theorem top.tw12461141491412912302 : True := trivial
theorem top.tw16308115023779146926 : True := trivial
theorem top.tw13845776490907935886 : True := trivial
theorem top.tw12500752642713836622 : True := trivial
theorem top.tw9651700654345895982 : True := trivial
theorem top.tw5607426995386360846 : True := trivial
theorem top.tw2572558475483348973 : True := trivial
theorem top.tw16835424105113368557 : True := trivial
theorem top.tw10158096371809201069 : True := trivial
theorem top.tw7460093237658474349 : True := trivial
theorem top.tw13915253602172759853 : True := trivial
theorem top.tw17645648065439016749 : True := trivial
theorem top.tw2999149420779491085 : True := trivial
theorem top.tw11905397868529934061 : True := trivial
theorem top.tw3427839855701032653 : True := trivial
theorem top.tw15732738173652384461 : True := trivial
theorem top.tw10847836975132726861 : True := trivial
theorem top.tw664856206451548685 : True := trivial
theorem top.tw4440987386487873037 : True := trivial
theorem top.tw15141127502294762989 : True := trivial
theorem top.tw11393785679468562925 : True := trivial
theorem top.tw11045603021097899469 : True := trivial
theorem top.tw6237638680271323597 : True := trivial
theorem top.tw13727932659151129005 : True := trivial
theorem top.tw12444346983421396397 : True := trivial
theorem top.tw18109664759097442701 : True := trivial
theorem top.tw10492144978484656493 : True := trivial
theorem top.tw8569015136780610925 : True := trivial
theorem top.tw1627488607324141773 : True := trivial
theorem top.tw15361959771506353357 : True := trivial
theorem top.tw1681455673815675053 : True := trivial
theorem top.tw12879614060821594189 : True := trivial
theorem top.tw12529389594783299564 : True := trivial
theorem top.tw11023612533682133964 : True := trivial
theorem top.tw4889999409413459916 : True := trivial
theorem top.tw2810713313997675436 : True := trivial
theorem top.tw7618279446019722124 : True := trivial
theorem top.tw4772570975419835244 : True := trivial
theorem top.tw2593110565940527980 : True := trivial
theorem top.tw970565159706443596 : True := trivial
theorem top.tw10119409675153454924 : True := trivial
theorem top.tw13327304769725227756 : True := trivial
theorem top.tw816016677473534700 : True := trivial
theorem top.tw12270277043363841772 : True := trivial
theorem top.tw13661273229222504140 : True := trivial
theorem top.tw16782933368373337804 : True := trivial
theorem top.tw14986355875850404556 : True := trivial
theorem top.tw14763599497074373292 : True := trivial
theorem top.tw17251598797295262348 : True := trivial
theorem top.tw8670664237556093548 : True := trivial
theorem top.tw2688526021895146060 : True := trivial
theorem top.tw6619940036578253356 : True := trivial
theorem top.tw9410603948107253260 : True := trivial
theorem top.tw5029287064136293900 : True := trivial
theorem top.tw5553459448475654668 : True := trivial
theorem top.tw9649021724668537324 : True := trivial
theorem top.tw13726461011061100972 : True := trivial
theorem top.tw7576525830490556844 : True := trivial
theorem top.tw9792572262748737932 : True := trivial
theorem top.tw16749462877078385964 : True := trivial
theorem top.tw8765516584764839212 : True := trivial
theorem top.tw7204889105474104588 : True := trivial
theorem top.tw15805963428543972556 : True := trivial
theorem top.tw14654178351671654604 : True := trivial
theorem top.tw2389297346174193868 : True := trivial
theorem top.tw10069323420829110444 : True := trivial
theorem top.tw12309608931057039500 : True := trivial
theorem top.tw15535087036883072140 : True := trivial
theorem top.tw1786951413819033740 : True := trivial
theorem top.tw9783030345929790604 : True := trivial
theorem top.tw15274093522284514444 : True := trivial
theorem top.tw15947016844278365260 : True := trivial
theorem top.tw4367161243386779724 : True := trivial
theorem top.tw2073895644399784972 : True := trivial
theorem top.tw6427669226132444139 : True := trivial
theorem top.tw9317788278908338155 : True := trivial
theorem top.tw15930482703317263307 : True := trivial
theorem top.tw6954737237554258891 : True := trivial
theorem top.tw2432876010128112523 : True := trivial
theorem top.tw2567976475884897163 : True := trivial
theorem top.tw574585925213370251 : True := trivial
theorem top.tw6935388739501925259 : True := trivial
theorem top.tw16659215571408891755 : True := trivial
theorem top.tw7471908846878109515 : True := trivial
theorem top.tw7046486889070478155 : True := trivial
theorem top.tw10289490269590742827 : True := trivial
theorem top.tw16360792945832408875 : True := trivial
theorem top.tw11606543361799848747 : True := trivial
theorem top.tw7594246292666668811 : True := trivial
theorem top.tw11706607017042797291 : True := trivial
theorem top.tw3374943570915712651 : True := trivial
theorem top.tw10923739367362091659 : True := trivial
theorem top.tw12339333302336180875 : True := trivial
theorem top.tw3709824422639634059 : True := trivial
theorem top.tw5685141810710594155 : True := trivial
theorem top.tw8044156984093561419 : True := trivial
theorem top.tw18332739931841835563 : True := trivial
theorem top.tw10497339058408128011 : True := trivial
theorem top.tw6699707463953054219 : True := trivial
theorem top.tw16717305812606082571 : True := trivial
theorem top.tw1938862193714976267 : True := trivial
theorem top.tw12416068966917710315 : True := trivial
theorem top.tw15666791654518327755 : True := trivial
theorem top.tw10374576612510330251 : True := trivial
theorem top.tw3307269250204354891 : True := trivial
theorem top.tw3443330144946439467 : True := trivial
theorem top.tw9945391645201989931 : True := trivial
theorem top.tw17620558721062782219 : True := trivial
theorem top.tw2143185623748804875 : True := trivial
theorem top.tw14477619291048511755 : True := trivial
theorem top.tw877607052325254379 : True := trivial
theorem top.tw11739732602521603275 : True := trivial
theorem top.tw5492159951458900171 : True := trivial
theorem top.tw7596270260629846155 : True := trivial
theorem top.tw8940702378064339051 : True := trivial
theorem top.tw5101196400040399915 : True := trivial
theorem top.tw8582813145897749547 : True := trivial
theorem top.tw3990644498992819146 : True := trivial
theorem top.tw14684691404653387722 : True := trivial
theorem top.tw7236365653107041194 : True := trivial
theorem top.tw2079430311934402410 : True := trivial
theorem top.tw9753386232281991018 : True := trivial
theorem top.tw7110657382960081706 : True := trivial
theorem top.tw4806338991324824362 : True := trivial
theorem top.tw16585319220170543882 : True := trivial
theorem top.tw5308109197611618026 : True := trivial
theorem top.tw16917336083738161866 : True := trivial
theorem top.tw15678234884040584906 : True := trivial
theorem top.tw12264229412386086602 : True := trivial
theorem top.tw6965722402005155498 : True := trivial
theorem top.tw4655821427514773162 : True := trivial
theorem top.tw3320227828177342122 : True := trivial
theorem top.tw13441532778007420554 : True := trivial
theorem top.tw7807294532378965642 : True := trivial
theorem top.tw16949323129683270250 : True := trivial
theorem top.tw11096604742753227370 : True := trivial
theorem top.tw1505730678808675946 : True := trivial
theorem top.tw3690635236615806474 : True := trivial
theorem top.tw13147587829924278794 : True := trivial
theorem top.tw10465540785073097194 : True := trivial
theorem top.tw11392305778010117578 : True := trivial
theorem top.tw10862278463305792938 : True := trivial
theorem top.tw7499247802491085226 : True := trivial
theorem top.tw15951294136343696810 : True := trivial
theorem top.tw17451099935498448266 : True := trivial
theorem top.tw14116888859257427274 : True := trivial
theorem top.tw5636260943753427210 : True := trivial
theorem top.tw1075177171492306122 : True := trivial
theorem top.tw13759344688621802666 : True := trivial
theorem top.tw10595611684872853674 : True := trivial
theorem top.tw15912741082092765226 : True := trivial
theorem top.tw12422453373505659914 : True := trivial
theorem top.tw17085800670546969610 : True := trivial
theorem top.tw6679385957935945738 : True := trivial
theorem top.tw18130413349357580265 : True := trivial
theorem top.tw12170246876737935337 : True := trivial
theorem top.tw13215650585817201609 : True := trivial
theorem top.tw10230347657920476105 : True := trivial
theorem top.tw18300059442440437673 : True := trivial
theorem top.tw10547828519154432937 : True := trivial
theorem top.tw15598701856890786729 : True := trivial
theorem top.tw17533086268948376457 : True := trivial
theorem top.tw11400446281400416105 : True := trivial
theorem top.tw3942260447102656361 : True := trivial
theorem top.tw9696657021486847849 : True := trivial
theorem top.tw657653165315759977 : True := trivial
theorem top.tw15759618874110310185 : True := trivial
theorem top.tw16189305087966098153 : True := trivial
theorem top.tw7289246841902121641 : True := trivial
theorem top.tw9101396795071197865 : True := trivial
theorem top.tw15690751888112891529 : True := trivial
theorem top.tw8140510715538311817 : True := trivial
theorem top.tw15563911499463374441 : True := trivial
theorem top.tw11347883215974490697 : True := trivial
theorem top.tw17595172410462481993 : True := trivial
theorem top.tw7251993869315115593 : True := trivial
theorem top.tw2125082065649919497 : True := trivial
theorem top.tw1545335673734696457 : True := trivial
theorem top.tw16140902521945731529 : True := trivial
theorem top.tw9709400248652996041 : True := trivial
theorem top.tw9119732992328005033 : True := trivial
theorem top.tw7667661294746950057 : True := trivial
theorem top.tw18021027930003161481 : True := trivial
theorem top.tw9879785724324426121 : True := trivial
theorem top.tw16671080295186732425 : True := trivial
theorem top.tw3030934229161546985 : True := trivial
theorem top.tw6775289260140788937 : True := trivial
theorem top.tw6813515238074111177 : True := trivial
theorem top.tw2102495526300282025 : True := trivial
theorem top.tw497564902893865129 : True := trivial
theorem top.tw10266634624595367081 : True := trivial
theorem top.tw14987270638372033705 : True := trivial
theorem top.tw8751486606865141929 : True := trivial
theorem top.tw16059264283146907785 : True := trivial
theorem top.tw1068691185406388361 : True := trivial
theorem top.tw7601154503314224233 : True := trivial
theorem top.tw5974884880223368233 : True := trivial
theorem top.tw16152195555127045161 : True := trivial
theorem top.tw1225965885050185737 : True := trivial
theorem top.tw614531483480203240 : True := trivial
theorem top.tw2080985512094152648 : True := trivial
theorem top.tw10495442388487764904 : True := trivial
theorem top.tw15865456757934985096 : True := trivial
theorem top.tw18102006841987191656 : True := trivial
theorem top.tw4465472025708561224 : True := trivial
theorem top.tw16183326512570183464 : True := trivial
theorem top.tw8657331141109743368 : True := trivial
theorem top.tw4477650678959588072 : True := trivial
theorem top.tw9935048385758807688 : True := trivial
theorem top.tw8976885470585289320 : True := trivial
theorem top.tw3766945754142754408 : True := trivial
theorem top.tw17123733730540928616 : True := trivial
theorem top.tw15876401001119839720 : True := trivial
theorem top.tw9161383074998269416 : True := trivial
theorem top.tw12691852880118620648 : True := trivial
theorem top.tw15902484992692139464 : True := trivial
theorem top.tw3218382820083959240 : True := trivial
theorem top.tw1971046843616506248 : True := trivial
theorem top.tw5582064378763432264 : True := trivial
theorem top.tw1155322088291014984 : True := trivial
theorem top.tw5154347306092595528 : True := trivial
theorem top.tw13958634276868470056 : True := trivial
theorem top.tw10073546674587701544 : True := trivial
theorem top.tw6418092018448506088 : True := trivial
theorem top.tw6782436966091844808 : True := trivial
theorem top.tw15952730000768264392 : True := trivial
theorem top.tw14206841573530501320 : True := trivial
theorem top.tw8005882290436075688 : True := trivial
theorem top.tw1869565723032644744 : True := trivial
theorem top.tw4748519873790001288 : True := trivial
theorem top.tw3015211456889061512 : True := trivial
theorem top.tw16791427565314897000 : True := trivial
theorem top.tw14329595175725332520 : True := trivial
theorem top.tw5495213077424853000 : True := trivial
theorem top.tw6828742733970942984 : True := trivial
theorem top.tw1867747256739691495 : True := trivial
theorem top.tw192416101720792039 : True := trivial
theorem top.tw503736769738720167 : True := trivial
theorem top.tw1465816309516025767 : True := trivial
theorem top.tw13031418216658117543 : True := trivial
theorem top.tw6351004571630411623 : True := trivial
theorem top.tw14676381698484800359 : True := trivial
theorem top.tw6902704464633593639 : True := trivial
theorem top.tw7624013219724247847 : True := trivial
theorem top.tw1018568129234659079 : True := trivial
theorem top.tw9964009710358352615 : True := trivial
theorem top.tw1426406023581875943 : True := trivial
theorem top.tw1297468972968714983 : True := trivial
theorem top.tw1275357690114273991 : True := trivial
theorem top.tw710107149626594951 : True := trivial
theorem top.tw11200947060570671751 : True := trivial
theorem top.tw4178868547190505095 : True := trivial
theorem top.tw8970219875784991335 : True := trivial
theorem top.tw13105379354449826375 : True := trivial
theorem top.tw5311273446788714055 : True := trivial
theorem top.tw5793584029497412167 : True := trivial
theorem top.tw4243480276468280839 : True := trivial
theorem top.tw8023389949634626951 : True := trivial
theorem top.tw12956581923991863687 : True := trivial
theorem top.tw3509564789629555047 : True := trivial
theorem top.tw13142843821910937927 : True := trivial
theorem top.tw16787358089277811015 : True := trivial
theorem top.tw16527673568195224903 : True := trivial
theorem top.tw6768841543417645287 : True := trivial
theorem top.tw8865326429116331207 : True := trivial
theorem top.tw72313213984609479 : True := trivial
theorem top.tw5650808307707379911 : True := trivial
theorem top.tw14458199914155423911 : True := trivial
theorem top.tw14270829462320286887 : True := trivial
theorem top.tw17325258919038125223 : True := trivial
theorem top.tw1564913315836683399 : True := trivial
theorem top.tw3116887592254055559 : True := trivial
theorem top.tw1306357076805096583 : True := trivial
theorem top.tw12672092456632678503 : True := trivial
theorem top.tw6147213649554961415 : True := trivial
theorem top.tw13825037901345440775 : True := trivial
theorem top.tw10461819569618254822 : True := trivial
theorem top.tw1142206380052564966 : True := trivial
theorem top.tw5584649524843793382 : True := trivial
theorem top.tw5863109350777497574 : True := trivial
theorem top.tw12231781150317566918 : True := trivial
theorem top.tw6871050591681803174 : True := trivial
theorem top.tw216976532957352838 : True := trivial
theorem top.tw15447298470050892678 : True := trivial
theorem top.tw7565269632650903398 : True := trivial
theorem top.tw16458641561730904934 : True := trivial
theorem top.tw3326000472342745926 : True := trivial
theorem top.tw6042198151346593606 : True := trivial
theorem top.tw7688397870732557094 : True := trivial
theorem top.tw4646022469903363878 : True := trivial
theorem top.tw16437189326302991110 : True := trivial
theorem top.tw5045208134791491302 : True := trivial
theorem top.tw13041699918107420390 : True := trivial
theorem top.tw5988460629699091110 : True := trivial
theorem top.tw11442541884802137734 : True := trivial
theorem top.tw17908092570393519750 : True := trivial
theorem top.tw7962114281550290534 : True := trivial
theorem top.tw18071888220313757190 : True := trivial
theorem top.tw14151726943786944966 : True := trivial
theorem top.tw12780540526554618310 : True := trivial
theorem top.tw11756923671021334918 : True := trivial
theorem top.tw18002026874557702502 : True := trivial
theorem top.tw14714333531026193734 : True := trivial
theorem top.tw5069083031004653894 : True := trivial
theorem top.tw6221132047431279942 : True := trivial
theorem top.tw16452394729457772838 : True := trivial
theorem top.tw10871485648215432486 : True := trivial
theorem top.tw11433376618395815174 : True := trivial
theorem top.tw4516180778948143366 : True := trivial
theorem top.tw514810625199578310 : True := trivial
theorem top.tw5284039650683057318 : True := trivial
theorem top.tw10843310299918206086 : True := trivial
theorem top.tw15588156000538892390 : True := trivial
theorem top.tw5482670111289409638 : True := trivial
theorem top.tw14784149267623770182 : True := trivial
theorem top.tw8275002106284047398 : True := trivial
theorem top.tw15742396992422658021 : True := trivial
theorem top.tw3102661308664231909 : True := trivial
theorem top.tw17672955618454929349 : True := trivial
theorem top.tw4929257285711679429 : True := trivial
theorem top.tw4094916936243579845 : True := trivial
theorem top.tw15138969141410298789 : True := trivial
theorem top.tw3249179613571905381 : True := trivial
theorem top.tw2608187888345637733 : True := trivial
theorem top.tw15031921202022855525 : True := trivial
theorem top.tw8366792142693230405 : True := trivial
theorem top.tw4101435860532314949 : True := trivial
theorem top.tw17605360935395143461 : True := trivial
theorem top.tw18277943071126432517 : True := trivial
theorem top.tw8809388675030628101 : True := trivial
theorem top.tw8233655475148765925 : True := trivial
theorem top.tw17366610778877156037 : True := trivial
theorem top.tw1951776615781022405 : True := trivial
theorem top.tw7147396538671672965 : True := trivial
theorem top.tw5390547611793023525 : True := trivial
theorem top.tw17569979804719578597 : True := trivial
theorem top.tw9788509437471404517 : True := trivial
theorem top.tw6721993987445195237 : True := trivial
theorem top.tw15180751925675261349 : True := trivial
theorem top.tw11230019959292651909 : True := trivial
theorem top.tw4979196619483726213 : True := trivial
theorem top.tw14745449929165157733 : True := trivial
theorem top.tw10157311240823283045 : True := trivial
theorem top.tw7948243537768862021 : True := trivial
theorem top.tw18153799558727669061 : True := trivial
theorem top.tw10340028857538811205 : True := trivial
theorem top.tw1750750444099540261 : True := trivial
theorem top.tw6020787839838905605 : True := trivial
theorem top.tw4338956859028018437 : True := trivial
theorem top.tw10637830192959965381 : True := trivial
theorem top.tw6671111623819040933 : True := trivial
theorem top.tw4101673227052800133 : True := trivial
theorem top.tw2680262713487831141 : True := trivial
theorem top.tw10302172649445521477 : True := trivial
theorem top.tw8332871500502235173 : True := trivial
theorem top.tw3794523067158319109 : True := trivial
theorem top.tw13522915232863858693 : True := trivial
theorem top.tw15019005898765123556 : True := trivial
theorem top.tw11024111235310973892 : True := trivial
theorem top.tw7855935689533505476 : True := trivial
theorem top.tw5534062772763698020 : True := trivial
theorem top.tw8995422138195820324 : True := trivial
theorem top.tw12017120649351228164 : True := trivial
theorem top.tw2293395007014063876 : True := trivial
theorem top.tw1564919477581287172 : True := trivial
theorem top.tw14355089548821079748 : True := trivial
theorem top.tw327023897321772708 : True := trivial
theorem top.tw5741851648517472900 : True := trivial
theorem top.tw1408436389042611812 : True := trivial
theorem top.tw11309227562298169956 : True := trivial
theorem top.tw1971056157376001604 : True := trivial
theorem top.tw370683139170886212 : True := trivial
theorem top.tw4908370841872520676 : True := trivial
theorem top.tw12600754134997549508 : True := trivial
theorem top.tw4192182576991719748 : True := trivial
theorem top.tw1403509330182978852 : True := trivial
theorem top.tw7209262709052189956 : True := trivial
theorem top.tw2316495975816013028 : True := trivial
theorem top.tw6746961898114146500 : True := trivial
theorem top.tw3181343892567988388 : True := trivial
theorem top.tw1326958550643079300 : True := trivial
theorem top.tw16020355932953029764 : True := trivial
theorem top.tw7223927717354841220 : True := trivial
theorem top.tw9361116497533014148 : True := trivial
theorem top.tw18423973199736708003 : True := trivial
theorem top.tw10187521908360297315 : True := trivial
theorem top.tw8625231605544924003 : True := trivial
theorem top.tw5822634402325686019 : True := trivial
theorem top.tw16417304233618001667 : True := trivial
theorem top.tw10935792636209966851 : True := trivial
theorem top.tw13283464275470714627 : True := trivial
theorem top.tw8038454095525454563 : True := trivial
theorem top.tw3855037441113528035 : True := trivial
theorem top.tw12492866314086493827 : True := trivial
theorem top.tw13902145491834737283 : True := trivial
theorem top.tw4086018395713671779 : True := trivial
theorem top.tw1233309063735133731 : True := trivial
theorem top.tw5077366926170010147 : True := trivial
theorem top.tw10047304040925397539 : True := trivial
theorem top.tw2266396371322563043 : True := trivial
theorem top.tw14705407814444732899 : True := trivial
theorem top.tw4529197536685464035 : True := trivial
theorem top.tw9555875406013100483 : True := trivial
theorem top.tw14602290402020906435 : True := trivial
theorem top.tw1246269540883923395 : True := trivial
theorem top.tw15471334066976596387 : True := trivial
theorem top.tw16067996890394199459 : True := trivial
theorem top.tw2587812769954529699 : True := trivial
theorem top.tw6746820801754752355 : True := trivial
theorem top.tw12520204171594423651 : True := trivial
theorem top.tw18128929686753375555 : True := trivial
theorem top.tw17440024999099066659 : True := trivial
theorem top.tw12577376374081303843 : True := trivial
theorem top.tw1725970969130343715 : True := trivial
theorem top.tw9855627020447043843 : True := trivial
theorem top.tw15617107015147622627 : True := trivial
theorem top.tw9648185623838297315 : True := trivial
theorem top.tw757286864576601283 : True := trivial
theorem top.tw18226852997768727747 : True := trivial
theorem top.tw4780457213552101539 : True := trivial
theorem top.tw11960967013977429091 : True := trivial
theorem top.tw3729356227347249219 : True := trivial
theorem top.tw8162172431711824770 : True := trivial
theorem top.tw2666630920681220930 : True := trivial
theorem top.tw16674543701288371970 : True := trivial
theorem top.tw2058610968759704322 : True := trivial
theorem top.tw8919972255991975650 : True := trivial
theorem top.tw1936772834366767746 : True := trivial
theorem top.tw1079058952327604866 : True := trivial
theorem top.tw8751270798608054850 : True := trivial
theorem top.tw12489761554191342082 : True := trivial
theorem top.tw16880488565099220482 : True := trivial
theorem top.tw4787186878338800130 : True := trivial
theorem top.tw12460648969681846754 : True := trivial
theorem top.tw9816074538439342498 : True := trivial
theorem top.tw16109447824587874690 : True := trivial
theorem top.tw14842867906505056642 : True := trivial
theorem top.tw10357757808153917794 : True := trivial
theorem top.tw3203261607154106690 : True := trivial
theorem top.tw14441758406293707010 : True := trivial
theorem top.tw3054996093556254978 : True := trivial
theorem top.tw5351302079546879202 : True := trivial
theorem top.tw6178460178078780642 : True := trivial
theorem top.tw8637857729348543714 : True := trivial
theorem top.tw102250223538748610 : True := trivial
theorem top.tw15407472055556352162 : True := trivial
theorem top.tw13939875094588112994 : True := trivial
theorem top.tw9535629122639336546 : True := trivial
theorem top.tw13868698981002185826 : True := trivial
theorem top.tw11879453706075311170 : True := trivial
theorem top.tw7827827394758438849 : True := trivial
theorem top.tw4610467341278284737 : True := trivial
theorem top.tw2616390943799208865 : True := trivial
theorem top.tw6888751975232792481 : True := trivial
theorem top.tw7801290101234151297 : True := trivial
theorem top.tw1575077471011152769 : True := trivial
theorem top.tw9231360499715942177 : True := trivial
theorem top.tw15765701204953075489 : True := trivial
theorem top.tw16830809066359127777 : True := trivial
theorem top.tw4868545861873688289 : True := trivial
theorem top.tw6464744857839408865 : True := trivial
theorem top.tw14828342438553702081 : True := trivial
theorem top.tw5938998390080189121 : True := trivial
theorem top.tw7877131895737678497 : True := trivial
theorem top.tw18406850109875967585 : True := trivial
theorem top.tw11508197876059452001 : True := trivial
theorem top.tw16749438336840765025 : True := trivial
theorem top.tw17506776515333307969 : True := trivial
theorem top.tw12551133108135330305 : True := trivial
theorem top.tw15861877527846194561 : True := trivial
theorem top.tw11887567929732946241 : True := trivial
theorem top.tw10535264541961787713 : True := trivial
theorem top.tw17087153561441448225 : True := trivial
theorem top.tw10905299034182358273 : True := trivial
theorem top.tw11377065853119083713 : True := trivial
theorem top.tw17925146467453383777 : True := trivial
theorem top.tw5722663684064569409 : True := trivial
theorem top.tw17311101545113917505 : True := trivial
theorem top.tw17380776868733855777 : True := trivial
theorem top.tw7766536996307180577 : True := trivial
theorem top.tw2447084916237369377 : True := trivial
theorem top.tw16132565278771240961 : True := trivial
theorem top.tw3601977625740539872 : True := trivial
theorem top.tw2168767930471101408 : True := trivial
theorem top.tw5224438106629727136 : True := trivial
theorem top.tw4892647150494365568 : True := trivial
theorem top.tw11974548821565647744 : True := trivial
theorem top.tw18321666562235388768 : True := trivial
theorem top.tw5100254344149371744 : True := trivial
theorem top.tw16927913493141921600 : True := trivial
theorem top.tw3466047381012400928 : True := trivial
theorem top.tw12111557251804366624 : True := trivial
theorem top.tw17129251586411368160 : True := trivial
theorem top.tw8634462535838535392 : True := trivial
theorem top.tw11369504530715493056 : True := trivial
theorem top.tw8411735903679478432 : True := trivial
theorem top.tw14085926750987951744 : True := trivial
theorem top.tw3312915398320056928 : True := trivial
theorem top.tw17662897231113632352 : True := trivial
theorem top.tw14296443025699338816 : True := trivial
theorem top.tw6596244092914294336 : True := trivial
theorem top.tw1595149950565003840 : True := trivial
theorem top.tw6802619879056977408 : True := trivial
theorem top.tw7232342488328536576 : True := trivial
theorem top.tw770691839977438688 : True := trivial
theorem top.tw402696668781327744 : True := trivial
theorem top.tw4112229361062081792 : True := trivial
theorem top.tw2613236365123017952 : True := trivial
theorem top.tw10985777202064470144 : True := trivial
theorem top.tw15217682584184665152 : True := trivial
theorem top.tw7180972022268300076 : True := trivial
noncomputable def WalkT : Prop := ∀ (q : Program) (loose : List Str) (XP : (Str → Option Value) → Heap → Prop) (d : DefRec), d.name = Str.ofString "law" → WalkG q loose XP Laid0 PySem.Challenge.rw_og0110_01.row.toRowW d [] (fun f vs => PySem.call f vs)
local macro_rules | `(tactic| refine $e:term) => match e with
  | `($h:ident $args*) => if h.getId == `PySem.W.holds_open then `(tactic| refine Og.holdsG (q := Og.q0) (loose := Og.loose0) (Xt := fun s => xlAt Og.q0 [] s && recOk (RowW.records (OpenRow.toRowW PySem.Challenge.rw_og0110_01.row)) s) (XP := XL Og.q0 []) $(args.pop.extract 4 22)* ($(Lean.mkIdent `H) _ _ _ _ (by rfl))) else Lean.Macro.throwUnsupported
  | _ => Lean.Macro.throwUnsupported
set_option Elab.async true
theorem top (H : WalkT) : PySem.Challenge.rw_og0110_01.Holds := by
  w_on
  o_law
  o_head hookP
  case hw => w_witness2
set_option Elab.async false
end Og

end

-- OgBA
section
open PySem PySem.W PyProof.Rows PySem.Calls Builtin
set_option maxRecDepth 100000
set_option Elab.async false
set_option linter.unusedVariables false
set_option maxHeartbeats 1000000
namespace Og
local macro_rules | `(tactic| wp_walk using $r) => return Og.tacWU r
local macro_rules | `(tactic| wp_walk) => return Og.tacWW
theorem ba_owner : Manifest.owners.lookup (String.ofList ['y', 'a', 'r', 'r', 'a', 'e', 't', 'y', 'b'].reverse) = some Manifest.sig_bytearray := by kernel_rfl
theorem ba_slot_len : Slot "bytearray" "__len__" "bytearray.__len__" :=
  .of (owner := "bytearray") (n := "__len__") (by rw [typeLookup_type, builtinLookup_eq_fast]; kernel_rfl) (by decide +kernel) (by decide +kernel) (by decide +kernel)
    (by first | exact .inl (by decide +kernel) | exact .inr (by decide +kernel)) (by rw [isSubtype_type]; kernel_rfl)
theorem ba_entry_len : entryFor table "bytearray.__len__" = some Builtin.«bytearray.__len__» := entryFor_of_tree (by kernel_rfl)
theorem ba_args_len (a : Value) : argsOk "bytearray.__len__" ⟨[a], []⟩ := by
  unfold argsOk; rw [signature?_of (id := "bytearray.__len__") (n := ['_', '_', 'n', 'e', 'l', '_', '_']) (o := ['y', 'a', 'r', 'r', 'a', 'e', 't', 'y', 'b']) (by kernel_rfl) ba_owner]; kernel_rfl
theorem ba_slot_get : Slot "bytearray" "__getitem__" "bytearray.__getitem__" :=
  .of (owner := "bytearray") (n := "__getitem__") (by rw [typeLookup_type, builtinLookup_eq_fast]; kernel_rfl) (by decide +kernel) (by decide +kernel) (by decide +kernel)
    (by first | exact .inl (by decide +kernel) | exact .inr (by decide +kernel)) (by rw [isSubtype_type]; kernel_rfl)
theorem ba_entry_get : entryFor table "bytearray.__getitem__" = some Builtin.«bytearray.__getitem__» := entryFor_of_tree (by kernel_rfl)
theorem ba_args_get (a b : Value) : argsOk "bytearray.__getitem__" ⟨[a, b], []⟩ := by
  unfold argsOk; rw [signature?_of (id := "bytearray.__getitem__") (n := ['_', '_', 'm', 'e', 't', 'i', 't', 'e', 'g', '_', '_']) (o := ['y', 'a', 'r', 'r', 'a', 'e', 't', 'y', 'b']) (by kernel_rfl) ba_owner]; kernel_rfl
theorem ba_slot_set : Slot "bytearray" "__setitem__" "bytearray.__setitem__" :=
  .of (owner := "bytearray") (n := "__setitem__") (by rw [typeLookup_type, builtinLookup_eq_fast]; kernel_rfl) (by decide +kernel) (by decide +kernel) (by decide +kernel)
    (by first | exact .inl (by decide +kernel) | exact .inr (by decide +kernel)) (by rw [isSubtype_type]; kernel_rfl)
theorem ba_entry_set : entryFor table "bytearray.__setitem__" = some Builtin.«bytearray.__setitem__» := entryFor_of_tree (by kernel_rfl)
theorem ba_args_set (a b c : Value) : argsOk "bytearray.__setitem__" ⟨[a, b, c], []⟩ := by
  unfold argsOk; rw [signature?_of (id := "bytearray.__setitem__") (n := ['_', '_', 'm', 'e', 't', 'i', 't', 'e', 's', '_', '_']) (o := ['y', 'a', 'r', 'r', 'a', 'e', 't', 'y', 'b']) (by kernel_rfl) ba_owner]; kernel_rfl
theorem ba_mro : mroOf (.type "bytearray") = pure [.type "bytearray", .type "object"] := by rw [mroOf_type]; kernel_rfl
theorem ba_lookup_new : typeLookup (.type "bytearray") "__new__" = pure (some (.builtin "bytearray.__new__")) := by rw [typeLookup_type, builtinLookup_eq_fast]; kernel_rfl
theorem ba_slot_init : Slot "bytearray" "__init__" "bytearray.__init__" :=
  .of (owner := "bytearray") (n := "__init__") (by rw [typeLookup_type, builtinLookup_eq_fast]; kernel_rfl) (by decide +kernel) (by decide +kernel) (by decide +kernel)
    (by first | exact .inl (by decide +kernel) | exact .inr (by decide +kernel)) (by rw [isSubtype_type]; kernel_rfl)
theorem ba_entry_init : entryFor table "bytearray.__init__" = some Builtin.«bytearray.__init__» := entryFor_of_tree (by kernel_rfl)
theorem ba_called : TypeCalled "bytearray" "bytearray.__new__" "bytearray.__init__" :=
  ⟨by decide +kernel, by decide +kernel, ⟨_, _, ba_mro⟩, madeBy_type ba_mro ba_lookup_new (by decide +kernel), by decide +kernel, by rw [isSubtype_type]; kernel_rfl, ba_slot_init⟩
theorem ba_typeCall (a : Value) : checkTypeCall "bytearray" ⟨[a], []⟩ = pure () := by kernel_rfl
theorem ba_newCall (a : Value) : checkBuiltinCall "bytearray.__new__" ⟨[.type "bytearray", a], []⟩ = pure () := by kernel_rfl
theorem ba_plain_new : plainId "bytearray.__new__" = true := by decide +kernel
theorem ba_sub : isSubtype (.type "bytearray") (.type "bytearray") = pure true := by rw [isSubtype_type]; kernel_rfl
theorem ba_owner_new : ("bytearray.__new__".splitOn ".__new__").headD "" = "bytearray" := by rw [split_bytearray]; rfl
theorem ba_entry_new : entryFor table "bytearray.__new__" = some Builtin.«list.__new__» :=
  entryFor_alias (id' := "list.__new__") (by rw [← table_eq_fast, table_eq_tree]; kernel_rfl) (by first | rfl | decide +kernel) (by rw [Fast.canonicalQ_eq]; decide +kernel) (by rw [← table_eq_fast, table_eq_tree]; kernel_rfl)
noncomputable abbrev baO (b : Array UInt8) : Obj := { cls := .type "bytearray", data := .bytearray b }
theorem meets_ba_len (M : Addr) (b : Array UInt8) : Meets (Builtin.«bytearray.__len__» ⟨[.ref M], []⟩) (fun _ R s => s.heap.get? M = some (baO b) ∧ R (.ok (.ret (.int b.size s.toks))) { s with toks := s.toks + 1 }) :=
  .of_wp fun prog w A R s h => by
    obtain ⟨hp, g, d, tk, os⟩ := s; obtain ⟨hM, h⟩ := h
    wp_walk
    exact ⟨_, rfl, h⟩
theorem ba_size {b : Array UInt8} (hz : b.size ≤ sizeLine) : sizeOk (.bytearray b) := by
  exact hz
open PySem.Builtin in
theorem meets_ba_slice (M a : Addr) (b : Array UInt8) {l u : Value} {lo hi : Option Int} (hl : IsPart l lo) (hu : IsPart u hi) (hz : b.size ≤ sizeLine) : Meets (Builtin.«bytearray.__getitem__» ⟨[.ref M, .ref a], []⟩) (fun _ R s => s.heap.IsSliceOf a l u .none ∧ s.heap.get? M = some (baO b) ∧ R (.ok (.ret (.ref s.heap.objs.size))) { s with heap := s.heap.push (baO (KBy.picked b lo hi)) }) := by
  refine .of_wp fun prog w A R s hS => ?_
  obtain ⟨⟨o, ho, hc, hd⟩, hM, h⟩ := hS
  have sz : ∀ lo hi, sizeOk (.bytearray (KBy.picked b lo hi)) := fun lo hi => ba_size (Nat.le_trans (KBc.size_picked_le b lo hi) hz)
  have hT : s.TypeIs (.ref a) "slice" := ⟨o, ho, hc⟩
  show wpAny _ _ (Bytes.subscript? (.ref a) >>= fun r => _) _ _ s
  refine wpAny_bind ?_
  unfold Bytes.subscript?
  refine wpAny_bind (wpAny_specialOf hT slice_no_index (wpAny_pure ?_))
  refine wpAny_bind (wpAny_typeOf hT ?_)
  show wpAny _ _ (Bytes.sliceParts (.ref a) >>= fun r => _) _ _ s
  refine wpAny_bind ?_
  unfold Bytes.sliceParts
  refine wpAny_bind (wpAny_field (x := .none) ho hd rfl ?_)
  kby_none
  refine wpAny_ite (KBy.ite_no (show ¬ ((Value.none == rawInt 0) = true) from Bool.false_ne_true) ?_)
  refine wpAny_bind (wpAny_field (x := l) ho hd rfl ?_)
  have go : wpAny (model prog w) A.in1 (sliceIndices (rawPart lo) (rawPart hi) (rawPart none) b.size) (fun r s' => r = sliceBounds lo hi none b.size ∧ s' = s) (fun _ _ => False) s :=
    wpAny_of_eq (sliceIndices_raw lo hi none b.size (fun e => nomatch e)) ⟨rfl, rfl⟩
  have fin : R (.ok (.ret (.ref s.heap.objs.size))) { s with heap := s.heap.push (baO (KBy.picked b lo hi)) } → wpAny (model prog w) A.in1 (match sliceBounds lo hi none b.size with | (start, stop, step) => do ret (← Bytes.newBytearray (Bytes.sliced b start stop step))) (fun fin s' => ∃ v, fin = Fin.done (Flow.ret v) ∧ R (Except.ok (Flow.ret v)) s') (fun e s' => R (Except.error e) s') s := fun h =>
    wpAny_bind (m := newObj (.type "bytearray") (.bytearray (KBy.picked b lo hi))) (wpAny_newObj_type (wpAny_pure ⟨_, rfl, h⟩) (sz lo hi))
  cases hl <;> cases hu <;> (first
    | (kby_none; (refine wpAny_bind (wpAny_field (x := .none) ho hd rfl ?_)); kby_none)
    | (kby_none; (refine wpAny_bind (wpAny_field (x := .int _ _) ho hd rfl ?_)); kby_int)
    | (kby_int; (refine wpAny_bind (wpAny_field (x := .none) ho hd rfl ?_)); kby_none)
    | (kby_int; (refine wpAny_bind (wpAny_field (x := .int _ _) ho hd rfl ?_)); kby_int)) <;> refine wpAny_pure ?_
  all_goals
    show wpAny _ _ (Bytes.payload (.ref M) >>= fun r => _) _ _ s
    refine wpAny_bind ?_
    unfold Bytes.payload Bytes.payload?
    refine wpAny_bind (wpAny_bind (wpAny_load hM (wpAny_pure (wpAny_pure ?_))))
    refine wpAny_bind (wpAny_mono go (fun r s' hr => ?_) fun _ _ e => e.elim)
    obtain ⟨hr1, hr2⟩ := hr
    subst hr1 hr2
    exact fin h
theorem ba_no_bytes : typeLookup (.type "bytearray") "__bytes__" = pure none := by rw [typeLookup_type, builtinLookup_eq_fast]; kernel_rfl
theorem ba_no_index : typeLookup (.type "bytearray") "__index__" = pure none := by rw [typeLookup_type, builtinLookup_eq_fast]; kernel_rfl
theorem ba_buffer : typeLookup (.type "bytearray") "__buffer__" = pure (some (.builtin "bytearray.__buffer__")) := by rw [typeLookup_type, builtinLookup_eq_fast]; kernel_rfl
theorem ba_release : typeLookup (.type "bytearray") "__release_buffer__" = pure (some (.builtin "bytearray.__release_buffer__")) := by rw [typeLookup_type, builtinLookup_eq_fast]; kernel_rfl
theorem ba_own {prog : Program} {w : World} {A : Around} {E : Value → Shared → Prop} {s : Shared} {M : Addr} {name i : String} {Q : Bool → Shared → Prop} (hT : s.TypeIs (.ref M) "bytearray")
    (hl : typeLookup (.type "bytearray") (name : PySem.Str) = pure (some (.builtin i))) (e1 : i.endsWith ("." ++ name) = true) (e2 : i.dropRight (name.length + 1) = "bytearray") (h : Q true s) : wpAny (model prog w) A (Builtin.Bytes.slotIsOwn (.ref M) name) Q E s := by
  unfold Builtin.Bytes.slotIsOwn
  refine wpAny_bind (wpAny_specialOf hT hl ?_)
  show wpAny _ _ (if (!i.endsWith ("." ++ name)) = true then _ else _) _ _ _
  rw [e1, e2]
  refine wpAny_ite (KBy.ite_no Bool.false_ne_true ?_)
  exact wpAny_isInstance hT ba_sub h
theorem ba_buf {prog : Program} {w : World} {A : Around} {E : Value → Shared → Prop} {s : Shared} {M : Addr} {b : Array UInt8} {i : String} {full : Bool} {Q : Option (Array UInt8) → Shared → Prop} (hM : s.heap.get? M = some (baO b)) (h : Q (some b) s) : wpAny (model prog w) A (Builtin.Bytes.buffer? i (.ref M) full) Q E s := by
  have hT : s.TypeIs (.ref M) "bytearray" := ⟨_, hM, rfl⟩
  unfold Builtin.Bytes.buffer?
  refine wpAny_bind (wpAny_specialOf hT ba_buffer ?_)
  refine wpAny_bind (ba_own hT ba_buffer (by decide +kernel) (by decide +kernel) ?_)
  refine wpAny_ite (KBy.ite_no Bool.false_ne_true ?_)
  refine wpAny_bind (wpAny_specialOf hT ba_buffer ?_)
  show wpAny _ _ (Builtin.Bytes.ownRelease (.ref M) >>= _) _ _ _
  refine wpAny_bind ?_
  unfold Builtin.Bytes.ownRelease
  refine wpAny_bind (ba_own hT ba_release (by decide +kernel) (by decide +kernel) (wpAny_pure ?_))
  refine wpAny_ite (KBy.ite_no Bool.false_ne_true ?_)
  refine wpAny_bind ?_
  unfold Builtin.Bytes.payload Builtin.Bytes.payload?
  exact wpAny_bind (wpAny_bind (wpAny_load hM (wpAny_pure (wpAny_pure (wpAny_pure h)))))
theorem meets_bytes_ba (M : Addr) (b : Array UInt8) (hz : b.size ≤ sizeLine) : Meets (Builtin.«bytes.__new__» ⟨[.type "bytes", .ref M], []⟩) (fun _ R s => s.heap.get? M = some (baO b) ∧ R (.ok (.ret (.bytes b s.toks))) { s with toks := s.toks + 1 }) :=
  .of_wp fun prog w A R s h => by
    obtain ⟨hp, g, d, tk, os⟩ := s; obtain ⟨hM, h⟩ := h
    have hsub := F.bm_sub
    have f1 := ba_no_bytes
    have f2 := ba_no_index
    change hp.get? M = some { cls := .type "bytearray", data := .bytearray b } at hM
    have hb := @ba_buf prog w A.in1
    wp_walk using ba_buf hM ?_
    exact ⟨_, rfl, h⟩
end Og
end

-- OgBB
section
open PySem PySem.W PyProof.Rows PySem.Calls
set_option maxRecDepth 100000
set_option Elab.async false
set_option linter.unusedVariables false
set_option maxHeartbeats 1000000
namespace Og
section
variable {w : World} {n : Nat} {A : Around} {base h₀ h : Heap} {outer : List Env} {L M : Addr} {σ : Shared} {t : Nat} {m : S → Option Value} {news : List Ob} {E : Value → Shared → Prop} {env : Env} {Q : Value → Shared → Prop} {b : Array UInt8} {ks : List Int} {vl vu : Value} {lo hi : Option Int} {value slice : Expr}
theorem ba_type {s : Shared} (hM : s.heap.get? M = some (baO b)) : s.TypeIs (.ref M) "bytearray" := ⟨_, hM, rfl⟩
theorem lenA (F : Fr h₀ L h m) (N : Led h₀ L h news) (hM : (M, baO b) ∈ news) (hk : bI b = ks) (hfit : ks.length ≤ 1000000) (H : ∀ u t, Q (.int (ks.length : Int) u) (st σ h t)) : wpAny (model PW w) A (call (.builtin "len") [.ref M]) Q E (st σ h t) := by
  have hm : h.get? M = some (baO b) := N.get hM
  subst hk
  have hl : (bI b).length = b.size := KBw.ints_length b
  rw [hl] at hfit H
  exact call_len_slot (s := st σ h t) (ba_type hm) ba_slot_len (fun Q' hq => call_meets (s := st σ h t) ba_slot_len (ba_type hm) ba_entry_len (ba_args_len _) (meets_ba_len M b) ⟨hm, hq⟩) (by exact Int.not_ofNat_neg b.size) (by omega) (H _ _)
theorem sliceA (F : Fr h₀ L h m) (N : Led h₀ L h news) (hM : (M, baO b) ∈ news) (hk : bI b = ks) (hl : IsPart vl lo) (hu : IsPart vu hi) (hz : ks.length ≤ 1000000)
    (H : ∀ c R h, Fr h₀ L h m → Led h₀ L h ((R, baO c) :: news) → bI c = (ks.drop (lo.elim 0 (clipAt ks.length))).take (hi.elim ks.length (clipAt ks.length) - lo.elim 0 (clipAt ks.length)) → Q (.ref R) (st σ h t))
    (hs : subscripted slice false (.ref M) (.ref h.objs.size) = operate [.ref h.objs.size, .ref M] (getItem (.ref M) (.ref h.objs.size))) (ht : ∀ r, letTemporaryGo value (.ref M) r = pure ()) :
    wpAny (model PW w) A (subscriptTail value slice (.ref M) (.ref h.objs.size)) Q E (st σ (h.push { cls := .type "slice", data := .fields #[vl, vu, .none] }) t) := by
  have hm : (h.push { cls := .type "slice", data := .fields #[vl, vu, .none] }).get? M = some (baO b) := Heap.get?_push_of_some _ (N.get hM)
  have N' : Led h₀ L (h.push { cls := .type "slice", data := .fields #[vl, vu, .none] }) news := N.keeps fun b o e => Heap.get?_push_of_some _ e
  have F' := F.push { cls := .type "slice", data := .fields #[vl, vu, .none] }
  have hbz : b.size ≤ sizeLine := by rw [← KBw.ints_length b, show KBw.bInts b = ks from hk, sizeLine_eq]; exact Nat.le_trans hz (Nat.le_add_left 1000000 15777216)
  refine tail_of_ItemOn ⟨"bytearray", _, ba_slot_get.lookup, ba_type hm, getItem_meets (ba_type hm) (by decide) ba_slot_get ba_entry_get (ba_args_get _ _) (meets_ba_slice M h.objs.size b hl hu hbz)
    ⟨Heap.IsSliceOf.new _ _ _ _, hm, ?_⟩⟩ hs ht
  exact H _ _ _ (F'.push _) (Led.new F' N' _ rfl) (KBc.ints_picked hk lo hi)
theorem bytesA (F : Fr h₀ L h m) (N : Led h₀ L h news) (hM : (M, baO b) ∈ news) (hz : (bI b).length ≤ 1000000) (H : ∀ u t, Q (.bytes b u) (st σ h t)) : wpAny (model PW w) A (call (.type "bytes") [.ref M]) Q E (st σ h t) := by
  have hm : h.get? M = some (baO b) := N.get hM
  have hbz : b.size ≤ sizeLine := by rw [← KBw.ints_length b, sizeLine_eq]; exact Nat.le_trans hz (by decide)
  exact callType_new (s := st σ h t) PySem.F.bm_called (by decide) (PySem.F.bm_typeCall _) (PySem.F.bm_newCall _) (fun obj => PySem.F.args_object_init_2 obj _) PySem.F.bm_entry (meets_bytes_ba M b hbz) ⟨hm, PySem.W.typeIs_bytes _ _ _, H _ _⟩
end
end Og
end

-- OgEq
section
open PySem PySem.W PyProof.Rows PySem.Calls PySem.SeqAt
set_option maxRecDepth 100000
set_option Elab.async false
set_option linter.unusedVariables false
set_option maxHeartbeats 1000000
namespace Og
local macro_rules | `(tactic| wp_walk) => return Og.tacWW
theorem sub_str_bytes : isSubtype (.type "str") (.type "bytes") = pure false := by rw [isSubtype_type]; kernel_rfl
theorem bytes_eq_str (b : Array UInt8) (t : Tok) (x : S) (u : Tok) : PySem.Gives (Builtin.«bytes.__eq__» ⟨[.bytes b t, .str x u], []⟩) (.val (Value.notImplemented)) :=
  .of_wp fun M A E s Q h => by obtain ⟨hp, g, d, tk, os⟩ := s; have f1 := sub_str_bytes; wp_walk; exact ⟨_, rfl, h⟩
theorem str_eq_bytes (x : S) (u : Tok) (b : Array UInt8) (t : Tok) : PySem.Gives (Builtin.«str.__eq__» ⟨[.str x u, .bytes b t], []⟩) (.val (Value.notImplemented)) :=
  .of_wp fun M A E s Q h => by obtain ⟨hp, g, d, tk, os⟩ := s; wp_walk; exact ⟨_, rfl, h⟩
section
variable {A : Around} {s : Shared}
theorem eqAt_bytes_str (b : Array UInt8) (t : Tok) (x : S) (u : Tok) : EqAt A s (.bytes b t) (.str x u) false := fun prog w E Q h => by
  unfold eqBool
  refine wpAny_holding ?_
  refine wpAny_ite_split (fun hab => absurd (eq_of_beq hab) nofun) (fun _ => ?_)
  refine wpAny_bind (rc_eq_decline_or (k := false) (PySem.W.typeIs_bytes s b t) (typeIs_str s x u) (by decide) sub_str_bytes FB.slot_bytes_eq F.slot_str_eq_refl
    (fun _ hq => call_gives FB.slot_bytes_eq (PySem.W.typeIs_bytes s b t) FB.entry_bytes_eq (FB.args_bytes_eq_2 _ _) (bytes_eq_str b t x u) hq)
    (fun _ hq => call_gives F.slot_str_eq_refl (typeIs_str s x u) F.entry_str_eq (F.args_str_eq_2 _ _) (str_eq_bytes x u b t) hq)
    (fun _ hq => wpAny_of_eq (rfl : isSame (.bytes b t) (.str x u) = pure false) hq) (.inl rfl) (wpAny_truthy_bool h))
theorem eqAt_bytes {b c : Array UInt8} {t u : Tok} {ks ls : List Int} (hb : bI b = ks) (hc : bI c = ls) : EqAt A s (.bytes b t) (.bytes c u) (decide (ks = ls)) := fun prog w E Q h => by
  refine eqBool_bytes ?_
  rw [show decide (b.toList = c.toList) = decide (ks = ls) from ?_]
  · exact h
  · subst hb hc
    rw [Bool.eq_iff_iff, decide_eq_true_eq, decide_eq_true_eq]
    exact ⟨fun e => by rw [Array.toList_inj.mp e], fun e => by rw [bI_inj e]⟩
end
section
variable {w : World} {n k : Nat} {A : Around} {base h₀ h : Heap} {outer : List Env} {L l b : Addr} {σ : Shared} {t : Nat} {m : S → Option Value} {news : List Ob} {E : Value → Shared → Prop} {env : Env} {Q : Value → Shared → Prop} {its its2 : Array Value} {a1 a2 a3 a4 a5 b1 b2 b3 b4 b5 : Value} {x1 x2 x3 x4 x5 : Bool}
theorem eqT (Z : Site w n A base outer env L h₀) (F : Fr h₀ L h m) (N : Led h₀ L h news) (hl : tAt h₀ l its news) (hb : tAt h₀ b its2 news) (e : Nat → Bool) (he : ∀ j (h1 : j < its.size) (h2 : j < its2.size), EqAt A.in1 (st σ h t) its[j] its2[j] (e j))
    (H : Q (.bool ((List.range (min its.size its2.size)).all e && its.size == its2.size)) (st σ h t)) : wpAny (model PW w) A (compareOp .Eq (.ref l) (.ref b)) Q E (st σ h t) :=
  eq_tupleAt (s := st σ h t) (hl.tup F N.n) (hb.tup F N.n) (by have := Z.un; exact Nat.lt_of_add_right_lt this) he H
theorem neT (Z : Site w n A base outer env L h₀) (F : Fr h₀ L h m) (N : Led h₀ L h news) (hl : tAt h₀ l its news) (hb : tAt h₀ b its2 news) (e : Nat → Bool) (he : ∀ j (h1 : j < its.size) (h2 : j < its2.size), EqAt A.in1 (st σ h t) its[j] its2[j] (e j))
    (H : Q (.bool (!((List.range (min its.size its2.size)).all e && its.size == its2.size))) (st σ h t)) : wpAny (model PW w) A (compareOp .NotEq (.ref l) (.ref b)) Q E (st σ h t) :=
  RcNeAt.tuples (s := st σ h t) (hl.tup F N.n) (hb.tup F N.n) (by have := Z.un; exact Nat.lt_of_add_right_lt this) he PW w E Q H
/-- two pairs -/
theorem eqT2 (Z : Site w n A base outer env L h₀) (F : Fr h₀ L h m) (N : Led h₀ L h news) (hl : tAt h₀ l (List.toArray [a1, a2]) news) (hb : tAt h₀ b (List.toArray [b1, b2]) news) (e1 : EqAt A.in1 (st σ h t) a1 b1 x1) (e2 : EqAt A.in1 (st σ h t) a2 b2 x2)
    (H : Q (.bool (x1 && x2)) (st σ h t)) : wpAny (model PW w) A (compareOp .Eq (.ref l) (.ref b)) Q E (st σ h t) := by
  refine eqT Z F N hl hb (fun j => [x1, x2].getD j false) (fun j h1 h2 => ?_) ?_
  · rcases j with _ | _ | j
    · exact e1
    · exact e2
    · exact absurd h1 (by simp)
  · rw [show ((List.range (min (List.toArray [a1, a2]).size (List.toArray [b1, b2]).size)).all (fun j => [x1, x2].getD j false) && (List.toArray [a1, a2]).size == (List.toArray [b1, b2]).size) = (x1 && x2) from by show (((x1 && (x2 && true))) && true) = _; cases x1 <;> cases x2 <;> rfl]
    exact H
theorem neT2 (Z : Site w n A base outer env L h₀) (F : Fr h₀ L h m) (N : Led h₀ L h news) (hl : tAt h₀ l (List.toArray [a1, a2]) news) (hb : tAt h₀ b (List.toArray [b1, b2]) news) (e1 : EqAt A.in1 (st σ h t) a1 b1 x1) (e2 : EqAt A.in1 (st σ h t) a2 b2 x2)
    (H : Q (.bool (!(x1 && x2))) (st σ h t)) : wpAny (model PW w) A (compareOp .NotEq (.ref l) (.ref b)) Q E (st σ h t) := by
  refine neT Z F N hl hb (fun j => [x1, x2].getD j false) (fun j h1 h2 => ?_) ?_
  · rcases j with _ | _ | j
    · exact e1
    · exact e2
    · exact absurd h1 (by simp)
  · rw [show ((List.range (min (List.toArray [a1, a2]).size (List.toArray [b1, b2]).size)).all (fun j => [x1, x2].getD j false) && (List.toArray [a1, a2]).size == (List.toArray [b1, b2]).size) = (x1 && x2) from by show (((x1 && (x2 && true))) && true) = _; cases x1 <;> cases x2 <;> rfl]
    exact H
theorem neT5 (Z : Site w n A base outer env L h₀) (F : Fr h₀ L h m) (N : Led h₀ L h news) (hl : tAt h₀ l (List.toArray [a1, a2, a3, a4, a5]) news) (hb : tAt h₀ b (List.toArray [b1, b2, b3, b4, b5]) news) (e1 : EqAt A.in1 (st σ h t) a1 b1 x1) (e2 : EqAt A.in1 (st σ h t) a2 b2 x2)
    (e3 : EqAt A.in1 (st σ h t) a3 b3 x3) (e4 : EqAt A.in1 (st σ h t) a4 b4 x4) (e5 : EqAt A.in1 (st σ h t) a5 b5 x5)
    (H : Q (.bool (!(x1 && (x2 && (x3 && (x4 && x5)))))) (st σ h t)) : wpAny (model PW w) A (compareOp .NotEq (.ref l) (.ref b)) Q E (st σ h t) := by
  refine neT Z F N hl hb (fun j => [x1, x2, x3, x4, x5].getD j false) (fun j h1 h2 => ?_) ?_
  · rcases j with _ | _ | _ | _ | _ | j
    · exact e1
    · exact e2
    · exact e3
    · exact e4
    · exact e5
    · exact absurd h1 (by simp)
  · rw [show ((List.range (min (List.toArray [a1, a2, a3, a4, a5]).size (List.toArray [b1, b2, b3, b4, b5]).size)).all (fun j => [x1, x2, x3, x4, x5].getD j false) && (List.toArray [a1, a2, a3, a4, a5]).size == (List.toArray [b1, b2, b3, b4, b5]).size) = (x1 && (x2 && (x3 && (x4 && x5)))) from by show (((x1 && (x2 && (x3 && (x4 && (x5 && true)))))) && true) = _; simp]
    exact H
/-- a tuple beside the empty one -/
theorem eqT0 (Z : Site w n A base outer env L h₀) (F : Fr h₀ L h m) (N : Led h₀ L h news) (hl : tAt h₀ l its news) (hb : tAt h₀ b #[] news)
    (H : Q (.bool (its.size == 0)) (st σ h t)) : wpAny (model PW w) A (compareOp .Eq (.ref l) (.ref b)) Q E (st σ h t) := by
  refine eqT Z F N hl hb (fun _ => true) (fun j h1 h2 => absurd h2 (Nat.not_lt_zero _)) ?_
  rw [show ((List.range (min its.size (#[] : Array Value).size)).all (fun _ => true) && its.size == (#[] : Array Value).size) = (its.size == 0) from by simp]
  exact H
/-- the text of a reference, or any longer tuple, beside a pair -/
theorem eqT52 (Z : Site w n A base outer env L h₀) (F : Fr h₀ L h m) (N : Led h₀ L h news) (hl : tAt h₀ l (List.toArray [a1, a2, a3, a4, a5]) news) (hb : tAt h₀ b (List.toArray [b1, b2]) news) (e1 : EqAt A.in1 (st σ h t) a1 b1 x1) (e2 : EqAt A.in1 (st σ h t) a2 b2 x2)
    (H : Q (.bool false) (st σ h t)) : wpAny (model PW w) A (compareOp .Eq (.ref l) (.ref b)) Q E (st σ h t) := by
  refine eqT Z F N hl hb (fun j => [x1, x2].getD j false) (fun j h1 h2 => ?_) ?_
  · rcases j with _ | _ | j
    · exact e1
    · exact e2
    · exact absurd h2 (by simp)
  · rw [show ((List.range (min (List.toArray [a1, a2, a3, a4, a5]).size (List.toArray [b1, b2]).size)).all (fun j => [x1, x2].getD j false) && (List.toArray [a1, a2, a3, a4, a5]).size == (List.toArray [b1, b2]).size) = false from Bool.and_false _]
    exact H
-- dicts with text keys
theorem inDS {d : Addr} {o : Obj} {x : S} {tx : Tok} {kvs : List (S × Value)} (N : Led h₀ L h news) (hp : (d, o) ∈ news) (hd : o.IsDictOf (strKind PW w) kvs) (lo : d ≠ sysModules) (H : ∀ t, Q (.bool (valueAt kvs x).isSome) (st σ h t)) :
    wpAny (model PW w) A (compareOp .In (.str x tx) (.ref d)) Q E (st σ h t) :=
  wpAny_in_of (s := st σ h t) (strKind_is PW w x tx) (by simpa using lo) (kda_dict (s := st σ h t) N.n hp hd).mapOf (H _)
end
end Og
end

-- Og18
section
open PySem PySem.W PyProof.Rows PySem.Calls
set_option maxRecDepth 100000
set_option Elab.async false
set_option linter.unusedVariables false
set_option maxHeartbeats 1000000
namespace Og
/-- an exception of the text's own on its way, past the frames of l -/
noncomputable def RaiseK (base g : Heap) (l : List Env) (σ : Shared) (news : List Ob) (e : Value) (s : Shared) : Prop :=
  Ex5 fun ea tt vs h t => An4 (e = .ref ea) (s = st σ h t) (RaisedS base g l ea (.ref 84) tt vs news h) (g.UpToSlots h)
noncomputable abbrev Leav (w : World) (A : Around) (env : Env) (K : Value → Shared → Prop) : Value → Shared → Prop := fun e s' => wpAny (model PW w) A (leaving env e) (fun _ s'' => K e s'') (fun e' s'' => K e' s'') s'
theorem RaisedS.sub {base G : Heap} {l : List Env} {e t : Addr} {cls : Value} {vs : List Value} {news news' : List Ob} {h : Heap} (R : RaisedS base G l e cls t vs news h) (q : ∀ p ∈ news', p ∈ news) : RaisedS base G l e cls t vs news' h := by
  obtain ⟨⟨B, hB, hg, hl, hf, hn⟩, ht⟩ := R
  exact ⟨⟨B, hB, hg, fun p hp => hl p (q p hp), hf, hn⟩, ht⟩
theorem frames_push {base g h : Heap} {outer : List Env} {L : Addr} {m : S → Option Value} {env : Env} (hb : base.StaysIn g) (hf : g.FunFrames base outer) (F : Fr g L h m) (lf : env.frame = some L) (kf : env.scope.kind = .function) : h.FunFrames base (env :: outer) := by
  have hnew : base.get? L = none := by
    cases hq : base.get? L with
    | none => rfl
    | some o => exact absurd (Nat.lt_of_lt_of_le (Heap.lt_size (hb L o hq)) F.above) (Nat.lt_irrefl _)
  exact .cons (by rw [kf]; decide) lf F.ns hnew (hf.of_keeps fun b o e _ => ⟨o, F.keep b o e, rfl⟩)
theorem mem_frames {env : Env} {outer : List Env} {L b : Addr} (lf : env.frame = some L) (hm : b ∈ (env :: outer).filterMap (·.frame)) : b = L ∨ b ∈ outer.filterMap (·.frame) := by
  obtain ⟨env', he, hf⟩ := List.mem_filterMap.mp hm
  rcases List.mem_cons.mp he with rfl | he
  · exact .inl (Option.some.inj (lf.symm.trans hf)).symm
  · exact .inr (List.mem_filterMap.mpr ⟨env', he, hf⟩)
section
variable {w : World} {n : Nat} {A : Around} {base g g₂ h : Heap} {outer : List Env} {env : Env} {L e t : Addr} {m : S → Option Value} {σ : Shared} {tk : Nat} {news : List Ob} {E : Value → Shared → Prop} {Q : Unit → Shared → Prop} {cls : Value} {vs : List Value} {oe ot : Obj}
/-- it leaves the frame in which it was raised -/
theorem leave_fresh (Z : Site w n A base outer env L g) (F : Fr g L h m) (N : Led g L h ((e, oe) :: (t, ot) :: news)) (hc : oe.cls = cls) {ws : Array Value} (hd : oe.data = .fields ws) (h0 : ws[0]? = some (.ref t)) (h1 : ws[1]? = some .none) (htc : ot.cls = .type "tuple") {nt : Nat} (htd : ot.data = .seq vs.toArray nt)
    (hQ : ∀ h', RaisedS base g outer e cls t vs news h' → g.UpToSlots h' → Q () (st σ h' tk)) : wpAny (model PW w) A (leaving env (.ref e)) Q E (st σ h tk) := by
  obtain ⟨A₀, B⟩ := Z.B
  have hff := frames_push B.stays B.frames F Z.lf Z.kf
  have fresh : ∀ p ∈ (e, oe) :: (t, ot) :: news, base.get? p.1 = none := fun p hp => fresh_of_stays B.stays (N.n p hp).2.2
  let as := e :: t :: (env :: outer).filterMap (·.frame)
  have hin : ∀ v ∈ (env :: outer), ∀ b, v.frame = some b → b ∈ as := fun v he b hb => .tail _ (.tail _ (List.mem_filterMap.mpr ⟨v, he, hb⟩))
  have not_as : ∀ b o, g.get? b = some o → b ∉ outer.filterMap (·.frame) → b ∉ as := fun b o q nm hm => by
    rcases List.mem_cons.mp hm with z | hm
    · rw [z, (N.n _ (.head _)).2.2] at q; cases q
    rcases List.mem_cons.mp hm with z | hm
    · rw [z, (N.n _ (.tail _ (.head _))).2.2] at q; cases q
    rcases mem_frames Z.lf hm with z | z
    · rw [z, kts_self F] at q; cases q
    · exact nm z
  have st' : base.StaysIn (hideAll h as) := fun b o q => hideAll_get _ (F.keep b o (B.stays b o q)) (not_as b o (B.stays b o q) fun hm => by rw [(B.frames.mem hm).1] at q; cases q)
  have sg : ∀ b o, g.get? b = some o → b ∉ outer.filterMap (·.frame) → (hideAll h as).get? b = some o := fun b o q nm => hideAll_get _ (F.keep b o q) (not_as b o q nm)
  have hl : ∀ q ∈ news, (hideAll h as).get? q.1 = some q.2 ∧ g.get? q.1 = none ∧ base.get? q.1 = none := fun q hq => by
    have hq2 : q ∈ (e, oe) :: (t, ot) :: news := .tail _ (.tail _ hq)
    refine ⟨hideAll_get _ (N.n q hq2).1 fun hm => ?_, (N.n q hq2).2.2, fresh q hq2⟩
    rcases List.mem_cons.mp hm with z | hm
    · exact N.off q (.tail _ hq) z
    rcases List.mem_cons.mp hm with z | hm
    · exact N.tail.off q hq z
    rcases mem_frames Z.lf hm with z | z
    · exact (N.n q hq2).2.1 z
    · obtain ⟨o, ho, _⟩ := (B.frames.mem z).2
      rw [(N.n q hq2).2.2] at ho; cases ho
  have tup : h.TupAt t vs := ⟨ot, nt, N.get (.tail _ (.head _)), htc, htd⟩
  refine wpAny_leaving_firstW (s := st σ h tk) (base := hideAll h as) (a0 := .ref t) Z.fr (funFrames_hide hff hin) Z.lf (N.get (.head _)) (fun b o q => of_hideAll _ q) (hideAll_none _ (.head _)) hd h1 h0 fun h' hL => ?_
  obtain ⟨k1, ⟨_, _, k2⟩, k3, k4⟩ := hL
  exact hQ h' ⟨⟨_, st', sg, hl, ⟨k1, hideAll_none _ (.head _), k2, by rw [← hc]; exact k3⟩, hideAll_none _ (.tail _ (.head _))⟩, tup.of_slots k4⟩ ((Heap.UpToSlots.of_keeps F.keep).trans k4)
/-- it leaves a frame into which it came from a call -/
theorem leave_on (Z : Site w n A base outer env L g) (F : Fr g L g₂ m) (R : RaisedS base g₂ (env :: outer) e cls t vs news h) (hsm : g₂.UpToSlots h)
    (hQ : ∀ h', RaisedS base g outer e cls t vs news h' → g.UpToSlots h' → Q () (st σ h' tk)) : wpAny (model PW w) A (leaving env (.ref e)) Q E (st σ h tk) := by
  obtain ⟨⟨B, hB, hBG, hl, hfl, hnew⟩, htup⟩ := R
  exact wpAny_leaves_onW (s := st σ h tk) Z.fr Z.lf hfl fun h' x1 x2 =>
    hQ h' ⟨⟨B, hB, fun b o q nm => hBG b o (F.keep b o q) (fun hm => by
      rcases mem_frames Z.lf hm with z | z
      · rw [z, kts_self F] at q
        cases q
      · exact nm z), fun q hq => ⟨(hl q hq).1, kts_none F.keep (hl q hq).2.1, (hl q hq).2.2⟩, x1, hnew⟩, htup.of_slots x2⟩ ((Heap.UpToSlots.of_keeps F.keep).trans (hsm.trans x2))
end
/-- the call raises a fault of the text's own -/
noncomputable def ConE (w : World) (f : Value) (n : Nat) (vs : List Value) (news : List Ob) : Prop :=
  ∀ (A : Around) (base : Heap) (outer : List Env) (env : Env) (L : Addr) (h₀ h : Heap) (t : Nat) (m : S → Option Value) (σ : Shared) (R : Result → Shared → Prop),
    Site w n A base outer env L h₀ → Fr h₀ L h m → Led h₀ L h news →
    (∀ g m₂ e s', Fr h₀ L g m₂ → RaiseK base g (env :: outer) σ news e s' → R (.error e) s') →
    codeAny (model PW w) A (.call f ⟨vs, []⟩) R (st σ h t)
/-- such a call within a body that lets the fault pass -/
theorem ConE.use {w : World} {f : Value} {n k : Nat} {vs : List Value} {news news0 : List Ob} {A : Around} {base : Heap} {outer : List Env} {env : Env} {L : Addr} {h₀ h : Heap} {t : Nat} {m : S → Option Value} {σ : Shared} {Q : Value → Shared → Prop}
    (C : ConE w f k vs news) (Z : Site w n A base outer env L h₀) (F : Fr h₀ L h m) (N : Led h₀ L h news) (hk : k ≤ n) (hs : ∀ p ∈ news0, p ∈ news) : wpAny (model PW w) A (call f vs) Q (Leav w A env (RaiseK base h₀ outer σ news0)) (st σ h t) :=
  wpAny_call (C _ _ _ _ _ _ _ _ _ _ _ (Z.le hk) F N fun g m₂ e s' F' ⟨ea, tt, vs', h', t', he, hs', R, U⟩ => by
    subst he hs'
    exact leave_on Z F' R U fun h'' R' U' => ⟨ea, tt, vs', h'', t', rfl, rfl, RaisedS.sub R' hs, U'⟩)
section
variable {w : World} {n : Nat} {f : Addr} {args : List Value} {news : List Ob} {name qual : S} {params : Arguments} {body : List Stmt} {scope : PySem.Scope} {cl : List (S × Addr)} {dV kV doc pm cdv ct oc : Value} {an od : Option Addr} {osl : Array (Option Value)} {binds bs : List (S × Value)}
theorem enterE (ho : (hd.heap_1 w.params).lookup f = some ⟨oc, od, .func (fnOf name qual params body scope dV kV doc pm an cdv ct), osl⟩) (hcd : codeIn (hd.heap_1 w.params) cdv qual = true)
    (hbind : ∀ s : Shared, (hd.heap_1 w.params).In s.heap → BindsTo s (fnOf name qual params body scope dV kV doc pm an cdv ct) ⟨args, []⟩ binds) (hbs : binds.reverse = bs)
    (hloc : (binds.all fun x => decide (scope.names.lookup x.1 = some .local)) = true) (hco : scope.isCoroutine = false) (hgen : scope.isGenerator = false) (hk : scope.kind = .function) (hcell : ∀ x ∈ scope.names, x.2 ≠ .cell)
    (H : ∀ (A : Around) (base : Heap) (outer : List Env) (g : Heap) (L : Addr) (σ : Shared) (h : Heap) (t : Nat), Site w n A base outer (envX qual scope L f cdv []) L g → Fr g L h (lk bs) → Led g L h news →
      wpAny (model PW w) A (execs body (envX qual scope L f cdv [])) (fun _ _ => False) (Leav w A (envX qual scope L f cdv []) (RaiseK base g outer σ news)) (st σ h t)) : ConE w (.ref f) (n + 1) args news := by
  intro A base outer env L h₀ h t m σ R x F N hQ
  obtain ⟨p, loose, mean, mg, mb, T, TB⟩ := x.T
  obtain ⟨A₀, B⟩ := x.B
  have XS := x.X.keeps F.keep
  refine callX_plain (s := st σ h t) (cl := []) B F N.n T.nolimit x.fr x.lf x.kf (XS _ _ ho) rfl (codeRec_of XS hcd) (by have := x.dp; exact Nat.lt_of_add_right_lt this) (hbind _ XS) (locs hloc) (fun g L' h₁ FG F' N' B' st lt => ?_) hcell hco hgen hk
  refine wpAny_mono (H _ _ _ g L' σ h₁ _ (x.push (h := h₁) (h₁ := h₁) B' st FG hk) (by rw [show (lk bs) = fun y => binds.reverse.lookup y from by rw [hbs]; rfl]; exact F') ⟨N', N.d⟩) (fun fl s' hr => hr.elim) (fun e s' z => ?_)
  exact wpAny_mono z (fun _ s'' z => hQ g m e s'' FG z) fun e' s'' z => hQ g m e' s'' FG z
end
end Og
end

-- Og19
section
open PySem PySem.W PyProof.Rows PySem.Calls
set_option maxRecDepth 100000
set_option Elab.async false
set_option linter.unusedVariables false
set_option maxHeartbeats 1000000
namespace Og
local macro_rules | `(tactic| wp_step) => return Og.tacW
local macro_rules | `(tactic| wp_walk) => return Og.tacWW
noncomputable abbrev exO (C t : Addr) (d : Option Addr) : Obj := { cls := .ref C, dict := d, data := .fields #[.ref t, .none, .none, .none, .bool false, .none] }
section
variable {prog : Program} {w : World} {M : Model} {A : Around} {E : Value → Shared → Prop} {R : Result → Shared → Prop} {h : Heap} {g : Array GenState} {d : Drawn} {t : Nat} {os : OsState}
variable {nm q : S} {C N : Addr} {bs bm : List Value} {hdct : Bool} {sn : List S} {sub : List Value} {ab : Bool} {col : Option Bool} {dd : Option Addr} {k0 k1 k2 k3 k5 : Option Value}
theorem exc_check_new {rest : List Value} {Q : Unit → Shared → Prop} (hC : h.get? C = some (excClassObj nm q C N bs bm hdct sn sub ab col dd k0 k1 k2 k3 k5 "Exception.__new__")) (hB : bm.contains (.type "Exception") = true)
    (hq : Q () ⟨h, g, d, t, os⟩) : wpAny M A (checkBuiltinCall "Exception.__new__" ⟨.ref C :: rest, []⟩) Q E ⟨h, g, d, t, os⟩ := by
  have F := PySem.F.excBase_Exception
  have hcont : (Value.ref C :: bm).contains (.type "Exception") = true := by rw [List.contains_cons, hB, Bool.or_true]
  have hstar := F.noStar
  simp only [checkBuiltinCall, F.newKind, F.newSplit, F.newRow]
  repeat (first | with_reducible refine wpAny_loadPart_at hC ?_ | (with_reducible refine wpAny_isSubtype_exc hC ?_; rw [hcont]) | with_reducible refine wpAny_staticBase_exc hC ?_ | with_reducible refine wpAny_madeBy_exc hC ?_ | simp only [bne_self_eq_false, Bool.false_eq_true, if_false] | wp_step)
  exact hq
theorem exc_new {rest : List Value} (hC : h.get? C = some (excClassObj nm q C N bs bm hdct sn sub ab col dd k0 k1 k2 k3 k5 "Exception.__new__")) (hB : bm.contains (.type "Exception") = true) (hA : bm.contains (.type "AttributeError") = false) (hN : bm.contains (.type "NameError") = false)
    (hq : R (.ok (.ret (.ref (h.objs.size + 1)))) ⟨(h.push { cls := .type "tuple", data := .seq rest.toArray }).push (exO C h.objs.size none), g, d, t, os⟩) (hrest : rest.length ≤ sizeLine) :
    codeAny (model prog w) A (.builtin "Exception.__new__" ⟨.ref C :: rest, []⟩) R ⟨h, g, d, t, os⟩ := by
  have F := PySem.F.excBase_Exception
  have hends := F.ends
  have hcB : (Value.ref C :: bm).contains (.type "Exception") = true := by rw [List.contains_cons, hB, Bool.or_true]
  have hcA : (Value.ref C :: bm).contains (.type "AttributeError") = false := by rw [List.contains_cons, hA]; rfl
  have hcN : (Value.ref C :: bm).contains (.type "NameError") = false := by rw [List.contains_cons, hN]; rfl
  refine codeAny_builtinAt F.entry ?_
  unfold Builtin.«BaseException.__new__»
  refine PySem.wpAt_bind ?_
  show PySem.wpAt _ _ _ (stack >>= _) _ _ _
  refine PySem.wpAt_bind (PySem.wpAt_stack fun p below => PySem.wpAt_of_wpAny ?_)
  wp_walk
  refine PySem.wpAt_of_wpAny ?_
  rw [F.owner]
  repeat (first | with_reducible refine wpAny_madeHere_exc F.canon hC ?_ | with_reducible refine wpAny_loadPart_at hC ?_ | (with_reducible refine wpAny_isSubtype_exc hC ?_; first | rw [hcB] | rw [hcA] | rw [hcN]) | wp_step)
  show R _ _
  rw [Heap.size_push]
  exact hq
theorem exc_check_init {e : Addr} {oe : Obj} {rest : List Value} {Q : Unit → Shared → Prop}
    (hC : h.get? C = some (excClassObj nm q C N bs bm hdct sn sub ab col dd k0 k1 k2 k3 k5 "Exception.__new__")) (hB : bm.contains (.type "Exception") = true) (he : h.get? e = some oe) (hcls : oe.cls = .ref C) (hq : Q () ⟨h, g, d, t, os⟩) :
    wpAny M A (checkBuiltinCall "Exception.__init__" ⟨.ref e :: rest, []⟩) Q E ⟨h, g, d, t, os⟩ := by
  have F := PySem.F.excBase_Exception
  have hcB : (Value.ref C :: bm).contains (.type "Exception") = true := by rw [List.contains_cons, hB, Bool.or_true]
  have hshort := F.noStar
  simp only [checkBuiltinCall, F.initKind, F.initSplit, F.initRow]
  repeat (first | (with_reducible refine wpAny_loadPart_at he ?_; rw [hcls]) | with_reducible refine wpAny_loadPart_at hC ?_ | (with_reducible refine wpAny_isSubtype_exc hC ?_; rw [hcB]) | wp_step)
  refine wpAny_onRaise ?_
  rw [show ∀ (a b : String) (n : Nat), Bind.check ⟨.positional, "*", "Exception", .self, [⟨"args", .varPos, false⟩]⟩ a b n (List.map (fun x => x.fst) ({ pos := Value.ref e :: rest } : Args).kw) = pure () from
    fun a b n => check_star_args _ _ _ _ _ _]
  exact wpAny_pure hq
/-- `Exception.__init__(self, what)` -/
theorem exc_init {e t0 : Addr} {rest : List Value} {od : Option Addr} {Q : Value → Shared → Prop}
    (hC : h.get? C = some (excClassObj nm q C N bs bm hdct sn sub ab col dd k0 k1 k2 k3 k5 "Exception.__new__")) (hB : bm.contains (.type "Exception") = true) (he : h.get? e = some (exO C t0 od)) (hrest : rest.length ≤ sizeLine)
    (hq : ∀ h', h'.get? e = some (exO C h.objs.size od) → h'.get? h.objs.size = some { cls := .type "tuple", data := .seq rest.toArray } → (∀ b o, b ≠ e → h.get? b = some o → h'.get? b = some o) → Q .none ⟨h', g, d, t, os⟩) :
    wpAny (model prog w) A (call (.builtin "Exception.__init__") (.ref e :: rest)) Q E ⟨h, g, d, t, os⟩ := by
  have F := PySem.F.excBase_Exception
  refine wpAny_call (codeAny_call_builtin F.init.plain F.initEntry (exc_check_init hC hB he rfl ?_))
  wp_walk
  show Q _ _
  have lt := Heap.lt_size he
  refine hq _ ?_ ?_ fun b o hb hbo => ?_
  · rw [Heap.get?_update_self _ (Heap.get?_push_of_some _ he) rfl]; rfl
  · rw [Heap.get?_update_other _ _ (Nat.ne_of_lt lt)]; exact Heap.get?_push_size _ rfl
  · rw [Heap.get?_update_other _ _ (Ne.symm hb)]; exact Heap.get?_push_of_some _ hbo
/-- the class is called: made, and its own `__init__` runs -/
theorem exc_make {fI : Addr} {rest : List Value} {R : Result → Shared → Prop}
    (hC : h.get? C = some (excClassObj nm q C N bs bm hdct sn sub ab col dd k0 k1 k2 k3 k5 "Exception.__new__")) (hB : bm.contains (.type "Exception") = true) (hA : bm.contains (.type "AttributeError") = false) (hN : bm.contains (.type "NameError") = false)
    (hi : Looks (model prog w) h (typeLookup (.ref C) "__init__") (some (.ref fI))) (hb : ∀ self, Looks (model prog w) h (bindSpecial (.ref fI) self) (.ref fI, [self])) (hrest : rest.length ≤ sizeLine)
    (hq : ∀ h', (∀ b o, h.get? b = some o → h'.get? b = some o) → h'.get? (h.objs.size + 1) = some (exO C h.objs.size none) → h'.get? h.objs.size = some { cls := .type "tuple", data := .seq rest.toArray } → h'.objs.size = h.objs.size + 2 →
      codeAny (model prog w) (A.under (.builtin "type.__call__" ⟨.ref C :: rest, []⟩)) (.call (.ref fI) ⟨.ref (h.objs.size + 1) :: rest, []⟩) (InitBack (h.objs.size + 1) R) ⟨h', g, d, t, os⟩) :
    codeAny (model prog w) A (.call (.ref C) ⟨rest, []⟩) R ⟨h, g, d, t, os⟩ := by
  have F := PySem.F.excBase_Exception
  have f1 := tc_lookup
  have f2 := tc_bind (.ref C)
  have hT : (⟨h, g, d, t, os⟩ : Shared).TypeIs (.ref C) "type" := ⟨_, hC, rfl⟩
  refine codeAny_of_tree ?_
  show wpAny _ _ (callAny (.ref C) _) _ _ _
  repeat (any_goals (first | assumption | with_reducible refine wpAny_loadPart_at hC ?_ | wp_step))
  refine ⟨rfl, ?_⟩
  refine codeAny_call_builtin_at (Code.quiet_builtin _ (by decide +kernel)) entry_typeCall (wpAny_check_type_call_sub hC ?_)
  repeat (first | with_reducible refine wpAny_loadPart_at hC ?_ | with_reducible refine wpAny_madeBy_exc hC ?_ | wp_step)
  refine codeAny_call_builtin_code (Code.quiet_builtin _ F.quiet) (exc_check_new hC hB ?_)
  refine exc_new hC hB hA hN ?_ hrest
  show wpAny _ _ _ _ _ _
  have k : ∀ b o, h.get? b = some o → ((h.push { cls := .type "tuple", data := .seq rest.toArray }).push (exO C h.objs.size none)).get? b = some o := fun b o e => Heap.get?_push_of_some _ (Heap.get?_push_of_some _ e)
  have hx : ((h.push { cls := .type "tuple", data := .seq rest.toArray }).push (exO C h.objs.size none)).get? (h.objs.size + 1) = some (exO C h.objs.size none) := by heap_get
  have hC' := k _ _ hC
  have t1 : Looks (model prog w) ((h.push { cls := .type "tuple", data := .seq rest.toArray }).push (exO C h.objs.size none)) (typeOf (.ref (h.objs.size + 1))) (.ref C) := (Looks.ld hx).andThen .now
  have i1 := hi.keeps k
  have b1 := (hb (.ref (h.objs.size + 1))).keeps k
  have hcC : (Value.ref C :: bm).contains (.ref C) = true := by simp
  have z := hq _ k hx (by rw [Heap.get?_push_of_some _ (Heap.get?_push_size _ rfl)]) (by simp [Heap.size_push])
  unfold isInstance
  repeat (first | (with_reducible refine wpAny_loadPart_at hx ?_; show wpAny _ _ (isSubtype (.ref C) (.ref C)) _ _ _) | with_reducible refine wpAny_isSubtype_exc hC' ?_ | wp_step)
  show wpAny _ _ (isSubtype (.ref C) (.ref C)) _ _ _
  refine wpAny_isSubtype_exc hC' ?_
  rw [hcC]
  dsimp only [List.append_eq, List.nil_append]
  show wpAny _ _ (holding _ _ >>= _) _ _ _
  unfold callSpecial? specialOf
  dsimp only [List.append_eq, List.nil_append]
  repeat (first | with_reducible refine wpAny_call ?_ | lk)
  refine codeAny_mono z fun r s' z => ?_
  rcases r with e | (v | _ | _ | _) <;> first | exact z | exact z.elim | skip
  obtain ⟨rfl, z⟩ := z
  exact wpAny_pure (wpAny_pure z)
end
end Og
end

-- Og20
section
open PySem PySem.W PyProof.Rows PySem.Calls Builtin Builtin.ObjectAttr
set_option maxRecDepth 100000
set_option Elab.async false
set_option linter.unusedVariables false
set_option maxHeartbeats 1000000
namespace Og
section
variable {w : World} {n k : Nat} {A : Around} {base h₀ h : Heap} {outer : List Env} {L x C t0 d : Addr} {σ : Shared} {t : Nat} {m : S → Option Value} {news : List Ob} {E : Value → Shared → Prop} {env : Env} {es : List DictEntry} {name : S} {v : Value} {cd : ClassData} {R : Result → Shared → Prop}
/-- facts of a class of exceptions -/
structure ExcK (w : World) (C : Addr) (cd : ClassData) : Prop where
  c : clsIn (hd.heap_1 w.params) C = some cd
  ne : cd.mro.isEmpty = false
  ob : cd.mro.contains (.type "object") = true
  dict : cd.hasDict = true
  passes : ∀ self, refuseLoop self "__setattr__" cd.mro = pure ()
  sa : findIn (hd.heap_1 w.params) (.ref C) "__setattr__" = some (some (.builtin "object.__setattr__"))
theorem exc_open {s : Shared} {ox : Obj} {od : Option Obj} {tk : Tok} {prog : Program} (X : (hd.heap_1 w.params).In s.heap) (K : ExcK w C cd) (I : InstAt s.heap x ox C od) (ht : takerIn (hd.heap_1 w.params) C name = some none)
    (H : ∀ b, wpAny (model prog w) A.in1 (Builtin.ObjectAttr.storeInOwnDict (.ref x) (.ref C) (.str name tk) name v b)
      (fun fin s' => match fin with | .done f => R (.ok f) s' | .again c' => c'.quiet = true ∧ codeAny (model prog w) A c' R s') (fun e s' => R (.error e) s') s) :
    codeAny (model prog w) A (.call (.builtin "object.__setattr__") ⟨[.ref x, .str name tk, v], []⟩) R s := by
  have SF := PySem.F.store_object
  have sub : Looks (model prog w) s.heap (isInstance (.ref x) (.type "object")) true := I.type.andThen (looks_mroIn X (by unfold mroIn; rw [K.c, Option.bind_some, if_neg (by rw [K.ne]; decide), K.ob]))
  refine codeAny_call_builtin SF.slot.plain SF.entry (@check_slot (model prog w) _ _ s "object.__setattr__" "object" "__setattr__" (.ref x) [.str name tk, v] [] _ SF.kind SF.split sub (SF.args (.ref x) (.str name tk) v) ?_)
  obtain ⟨attr, ha, hr⟩ := Option.bind_eq_some_iff.mp ht
  have hm : Looks (model prog w) s.heap (mroOf (.ref C)) cd.mro := (looks_clsIn X K.c).andThen .now
  have L3 : Looks (model prog w) s.heap (storeTaker? attr) none := by
    cases attr with
    | none => exact .now
    | some a =>
      obtain ⟨b, hb, hbn⟩ := Option.map_eq_some_iff.mp hr
      refine (looks_takesIn X hb).andThen ?_
      cases b
      · exact .now
      · cases hbn
  rw [osa_eq, refuse_eq]
  refine wpAny_bind (wpAny_bind (I.type.here (wpAny_bind (hm.here ?_))))
  rw [K.passes]
  refine wpAny_pure (wpAny_bind (I.type.here (wpAny_bind ((looks_findIn X ha).here (wpAny_bind (L3.here ?_))))))
  exact H _
theorem Led.upd {pre post : List Ob} {a : Addr} {o o' : Obj} {f : Obj → Obj} (F : Fr h₀ L h m) (N : Led h₀ L h (pre ++ (a, o) :: post)) (e : f o = o') (hf : o'.isFreed = false) : Fr h₀ L (h.update a f) m ∧ Led h₀ L (h.update a f) (pre ++ (a, o') :: post) := by
  obtain ⟨U1, U2⟩ := news_upd F N.n (Led.ne N).1 (Led.ne N).2 e hf
  exact ⟨U1, Led.set N U2⟩
/-- the first attribute of an exception: its dict is made -/
theorem sX0 {Q : Unit → Shared → Prop} {rest : List Ob} (K : ExcK w C cd) (ht : takerIn (hd.heap_1 w.params) C name = some none) (Z : Site w n A base outer env L h₀) (F : Fr h₀ L h m) (N : Led h₀ L h ((x, exO C t0 none) :: rest))
    (H : ∀ d es h t, Fr h₀ L h m → Led h₀ L h ((x, exO C t0 (some d)) :: (d, dictOf es 1) :: rest) → Rec es [(name, v)] → Q () (st σ h t)) : wpAny (model PW w) A (setAttr (.ref x) name v) Q E (st σ h t) := by
  have X := Z.X.keeps F.keep
  have I : InstAt h x (exO C t0 none) C none := ⟨N.get (.head _), rfl, rfl, trivial⟩
  refine set_plain (s := st σ h t) X I K.sa (exc_open (s := st σ h (t + 1)) X K I ht fun b => ?_)
  have F1 := F.push (dictOf [] 0)
  have N1 : Led h₀ L (h.push (dictOf [] 0)) ((x, exO C t0 none) :: (h.objs.size, dictOf [] 0) :: rest) := (Led.new F N (dictOf [] 0) rfl).perm (List.Perm.swap _ _ _)
  obtain ⟨F2, N2⟩ := Led.upd (pre := []) (f := fun o => { o with dict := some h.objs.size }) F1 N1 rfl rfl
  obtain ⟨F3, N3⟩ := Led.upd (pre := [_]) (f := Obj.putName name (PyData.keyHash w.params name) (.str name (t + 1)) v) F2 N2 (o' := dictOf (putL name (PyData.keyHash w.params name) (.str name (t + 1)) v []) 1) (putName_dict ..) rfl
  refine wpAny_bind (wpAny_pure (wpAny_bind (wpAny_bind (wpAny_loadPart (N.get (.head _)) (wpAny_bind ((looks_clsIn X K.c).here ?_))))))
  rw [K.dict]
  rw [if_neg (by decide)]
  show wpAny _ _ (alloc (dictOf [] 0) >>= fun d => update x (fun o => { o with dict := some d }) >>= fun _ => pure (some d)) _ _ _
  refine wpAny_bind (wpAny_alloc' ?_)
  refine wpAny_bind (wpAny_update' (N1.get (.head _)) ?_)
  refine wpAny_pure (a := some h.objs.size) (wpAny_bind (wpAny_pure (wpAny_bind ?_)))
  unfold nsSet
  refine wpAny_bind (wpAny_bind (wpAny_askSetting (wpAny_pure (wpAny_bind (wpAny_mkText (wpAny_bind (wpAny_loadPart (N2.get (.tail _ (.head _))) ?_)))))))
  dsimp only
  rw [aRefKeyMayBeTheName_at, if_neg (by simp)]
  refine wpAny_updatePart (N2.get (.tail _ (.head _))) ?_
  refine wpAny_bind (wpAny_lookBehind (N3.get (.tail _ (.head _))) (pastItsLine_dict (by show (1 : Nat) ≤ sizeLine + 1; rw [sizeLine_eq]; decide)) ?_)
  exact wpAny_pure (H h.objs.size _ _ _ F3 N3 (Rec.nil.put name _ _ v))
/-- further attributes of an exception -/
theorem sX {Q : Unit → Shared → Prop} {rest : List Ob} {fs : List (S × Value)} (K : ExcK w C cd) (ht : takerIn (hd.heap_1 w.params) C name = some none) (Z : Site w n A base outer env L h₀) (F : Fr h₀ L h m) (N : Led h₀ L h ((x, exO C t0 (some d)) :: (d, dictOf es k) :: rest)) (R : Rec es fs) (hz : fs.length ≤ 900)
    (H : ∀ es k h t, Fr h₀ L h m → Led h₀ L h ((x, exO C t0 (some d)) :: (d, dictOf es k) :: rest) → Rec es ((name, v) :: fs) → Q () (st σ h t)) : wpAny (model PW w) A (setAttr (.ref x) name v) Q E (st σ h t) := by
  have X := Z.X.keeps F.keep
  have D := N.get (.tail _ (.head _))
  have I : InstAt h x (exO C t0 (some d)) C (some (dictOf es k)) := ⟨N.get (.head _), rfl, rfl, D⟩
  refine set_plain (s := st σ h t) X I K.sa (exc_open (s := st σ h (t + 1)) X K I ht fun b => ?_)
  obtain ⟨F3, N3⟩ := Led.upd (pre := [_]) (f := Obj.putName name (PyData.keyHash w.params name) (.str name (t + 1)) v) F N (o' := dictOf (putL name (PyData.keyHash w.params name) (.str name (t + 1)) v es) (putN name es k)) (putName_dict ..) rfl
  refine wpAny_bind (wpAny_pure (wpAny_bind (wpAny_bind (wpAny_loadPart (N.get (.head _)) (wpAny_bind ((looks_clsIn X K.c).here ?_))))))
  rw [K.dict, if_neg (by decide)]
  refine wpAny_pure (a := some d) (wpAny_bind (wpAny_pure (wpAny_bind ?_)))
  unfold nsSet
  refine wpAny_bind (wpAny_bind (wpAny_askSetting (wpAny_pure (wpAny_bind (wpAny_mkText (wpAny_bind (wpAny_loadPart D ?_)))))))
  dsimp only
  rw [aRefKeyMayBeTheName_at, if_neg (by rw [show (es.toArray.any (·.refKey)) = false by rw [← Array.any_toList]; exact R.str]; simp)]
  refine wpAny_updatePart D ?_
  have hlen := putL_len (x := name) (hsh := PyData.keyHash w.params name) (key := .str name (t + 1)) (v := v) es
  have hl2 := R.len
  refine wpAny_bind (wpAny_lookBehind (N3.get (.tail _ (.head _))) (pastItsLine_dict (by rw [List.size_toArray, sizeLine_eq]; omega)) ?_)
  exact wpAny_pure (H _ _ _ _ F3 N3 (R.put name _ _ v))
/-- `Exception.__init__(self, what)` upon a made exception -/
theorem iX {Q : Value → Shared → Prop} {rest : List Ob} {nm q : S} {Nn : Addr} {bs bm : List Value} {hdct : Bool} {sn : List S} {sub : List Value} {ab : Bool} {col : Option Bool} {dd : Option Addr} {k0 k1 k2 k3 k5 : Option Value} {vs : List Value}
    (hC : (hd.heap_1 w.params).lookup C = some (excClassObj nm q C Nn bs bm hdct sn sub ab col dd k0 k1 k2 k3 k5 "Exception.__new__")) (hB : bm.contains (.type "Exception") = true) (Z : Site w n A base outer env L h₀) (F : Fr h₀ L h m) (N : Led h₀ L h ((x, exO C t0 none) :: rest)) (hz : vs.length ≤ 1000)
    (H : ∀ t' h, Fr h₀ L h m → Led h₀ L h ((x, exO C t' none) :: (t', tup vs) :: rest) → Q .none (st σ h t)) : wpAny (model PW w) A (call (.builtin "Exception.__init__") (.ref x :: vs)) Q E (st σ h t) := by
  have X := Z.X.keeps F.keep
  refine exc_init (h := h) (X _ _ hC) hB (N.get (.head _)) (by rw [sizeLine_eq]; exact Nat.le_trans hz (Nat.le_add_left 1000 16776216)) fun h' e1 e2 k => ?_
  have lt := Heap.lt_size (N.get (.head _))
  have hxs : x ≠ h.objs.size := Nat.ne_of_lt lt
  have F' : Fr h₀ L h' m := N.frBut F fun b o hb e => k b o hb e
  have N' : Led h₀ L h' rest := N.but fun b o hb e => k b o hb e
  have new : ∀ b, h.objs.size ≤ b → h₀.get? b = none := fun b hb => Heap.get?_none_of_le (Nat.le_trans F.above (Nat.le_of_lt (Nat.lt_of_lt_of_le F.ns.lt hb)))
  have nL : h.objs.size ≠ L := Nat.ne_of_gt F.ns.lt
  refine H h.objs.size h' F' ⟨fun p hp => ?_, ?_⟩
  · rcases List.mem_cons.mp hp with rfl | hp
    · exact ⟨e1, N.neL, N.no⟩
    rcases List.mem_cons.mp hp with rfl | hp
    · exact ⟨e2, nL, new _ (Nat.le_refl _)⟩
    · exact N'.n p hp
  · rw [List.map_cons, List.map_cons, List.nodup_cons, List.nodup_cons]
    refine ⟨fun q => ?_, fun q => ?_, N'.d⟩
    · rcases List.mem_cons.mp q with q | q
      · exact hxs q
      · obtain ⟨p, hp, e⟩ := List.mem_map.mp q
        exact N.off p hp e
    · obtain ⟨p, hp, e⟩ := List.mem_map.mp q
      have := N.lt p (.tail _ hp)
      rw [e] at this
      exact Nat.lt_irrefl _ this
end
section
variable {w : World} {n k : Nat} {A : Around} {base h₀ h : Heap} {outer : List Env} {L x C t0 d : Addr} {σ : Shared} {t : Nat} {m : S → Option Value} {news : List Ob} {E : Value → Shared → Prop} {env : Env} {rest : List Value} {P : Value → List Ob → Prop}
variable {nm q : S} {Nn : Addr} {bs bm : List Value} {hdct : Bool} {sn : List S} {sub : List Value} {ab : Bool} {col : Option Bool} {dd : Option Addr} {k0 k1 k2 k3 k5 : Option Value}
/-- an exception of the text's own is made -/
theorem con_exc {fI : Addr} (hC : (hd.heap_1 w.params).lookup C = some (excClassObj nm q C Nn bs bm hdct sn sub ab col dd k0 k1 k2 k3 k5 "Exception.__new__")) (hB : bm.contains (.type "Exception") = true) (hA : bm.contains (.type "AttributeError") = false) (hN : bm.contains (.type "NameError") = false)
    (hi : findIn (hd.heap_1 w.params) (.ref C) "__init__" = some (some (.ref fI))) (hf : typeIn (hd.heap_1 w.params) (.ref fI) = some (.type "function")) (hz : rest.length ≤ 1000)
    (H : ∀ x t, Con w (.ref fI) n (.ref x :: rest) ((x, exO C t none) :: (t, tup rest) :: news) (fun r news' => r = .none ∧ P (.ref x) news')) : Con w (.ref C) (n + 1) rest news P := by
  intro A base outer env L h₀ h t m σ R Z F N hQ
  have X := Z.X.keeps F.keep
  refine exc_make (h := h) (X _ _ hC) hB hA hN (looks_findIn X hi) (fun self => bind_fn X self hf) (by rw [sizeLine_eq]; exact Nat.le_trans hz (Nat.le_add_left 1000 16776216)) fun h' kk e1 e2 hsz => ?_
  have F' : Fr h₀ L h' m := F.keptAll kk
  have NT : Led h₀ L h' ((h.objs.size + 1, exO C h.objs.size none) :: (h.objs.size, tup rest) :: news) := Led.two F N kk e2 e1
  refine H _ _ _ base outer env L h₀ h' t m σ _ ?_ F' NT fun r news' h t hp F N => ?_
  · refine { Z with fr := Z.fr, hh := Z.hh, dp := ?_, un := ?_ }
    · have := Z.dp; rw [depth_under_make]; (clear hz H hQ kk hsz; omega)
    · have := Z.un; rw [units_under_make]; (clear hz H hQ kk hsz; omega)
  · exact ⟨hp.1, hQ _ news' h t hp.2 F N⟩
theorem raise_ex {x : Sem Value} {Q : Flow → Shared → Prop} (hC : (hd.heap_1 w.params).lookup C = some (excClassObj nm q C Nn bs bm hdct sn sub ab col dd k0 k1 k2 k3 k5 "Exception.__new__")) (hbase : bm.contains (.type "BaseException") = true) (hh : A.handled = none)
    (H : wpAny (model PW w) A x (fun v s₁ => Ex3 fun e t od => An4 (v = .ref e) ((hd.heap_1 w.params).In s₁.heap) (s₁.heap.get? e = some (exO C t od)) (E (.ref e) s₁)) E (st σ h t)) :
    wpAny (model PW w) A (raiseStmt env (some x) none) Q E (st σ h t) := by
  have hcB : (Value.ref C :: bm).contains (.type "BaseException") = true := by rw [List.contains_cons, hbase, Bool.or_true]
  unfold raiseStmt
  refine wpAny_bind (wpAny_mono H (fun v s₁ h₁ => ?_) fun _ _ x => x)
  obtain ⟨e, t, od, rfl, X, he, hE⟩ := h₁
  obtain ⟨hp, g, d, tk, os⟩ := s₁
  have hC := X _ _ hC
  repeat (first | with_reducible refine wpAny_loadPart_at he ?_ | with_reducible refine wpAny_loadPart_at hC ?_ | (with_reducible refine wpAny_isSubtype_exc hC ?_; rw [hcB]) | wp_step)
  exact wpAny_raiseNew_none hh hE
/-- `raise C(..)` -/
theorem Raise_ {e : Expr} {pos : Pos} {Q : Flow → Shared → Prop} (hC : (hd.heap_1 w.params).lookup C = some (excClassObj nm q C Nn bs bm hdct sn sub ab col dd k0 k1 k2 k3 k5 "Exception.__new__")) (hbase : bm.contains (.type "BaseException") = true) (hh : A.handled = none)
    (H : wpAny (model PW w) A (eval e env) (fun v s₁ => Ex3 fun e t od => An4 (v = .ref e) ((hd.heap_1 w.params).In s₁.heap) (s₁.heap.get? e = some (exO C t od)) (E (.ref e) s₁)) E (st σ h t)) :
    wpAny (model PW w) A (exec (.Raise (some e) none pos) env) Q E (st σ h t) := by
  rw [arm_exec_Raise]
  exact wpAny_bind (wpAny_standAt (raise_ex hC hbase hh (wpAny_bind (wpAny_mono H (fun v s₃ h₃ => wpAny_bind (wpAny_standAt (wpAny_pure h₃))) fun _ _ x => x))))
end
end Og
end

-- Og21
section
open PySem PySem.W PyProof.Rows PySem.Calls
open PySem.Sem (wp)
set_option maxRecDepth 100000
set_option Elab.async false
set_option linter.unusedVariables false
set_option maxHeartbeats 1000000
namespace Og
theorem Site.turn {w : World} {n : Nat} {A : Around} {base : Heap} {outer : List Env} {env : Env} {L : Addr} {h₀ h₁ : Heap} (x : Site w n A base outer env L h₀) (T : KtsTurn (outer.filterMap (·.frame)) h₀ h₁) : Site w n A base outer env L h₁ := by
  obtain ⟨A₀, B⟩ := x.B
  obtain ⟨p, loose, mean, mg, mb, _, TB⟩ := x.T
  have B₁ : Below A₀ base outer h₁ := ⟨B.stack, fun b o e => T.other b o (B.stays b o e) (fun hm => by
    rw [(B.frames.mem hm).1] at e
    cases e), B.frames.of_keeps fun b o e _ => by
    obtain ⟨sl', hs'⟩ := T.up e
    exact ⟨_, hs', rfl⟩⟩
  exact { x with B := ⟨A₀, B₁⟩, X := x.XB.keeps B₁.stays, T := ⟨p, loose, mean, mg, mb, TB.keeps B₁.stays, TB⟩, D := x.D.turn T }
/-- back in the caller, whose outer frames may have been marked -/
theorem turn_back {A₀ : Around} {base g g' h₀ h' : Heap} {outer : List Env} {env : Env} {L L' : Addr} {m m' : S → Option Value} {news' : List Ob} (B : Below A₀ base outer h₀) (FG : Fr h₀ L g m) (lf : env.frame = some L)
    (T' : KtsTurn ((env :: outer).filterMap (·.frame)) g g') (F' : Fr g' L' h' m') (N' : Led g' L' h' news') : ∃ h₁, KtsTurn (outer.filterMap (·.frame)) h₀ h₁ ∧ Fr h₁ L h' m ∧ Led h₁ L h' news' := by
  obtain ⟨oL, es, ep, hLg, hLd, hLk, hLf⟩ := FG.ns
  have nL₀ : h₀.get? L = none := kts_self FG
  obtain ⟨sl, hs⟩ := T'.up hLg
  obtain ⟨T₁, S₁⟩ := kts_turn_at (h := h') (fs := outer.filterMap (·.frame)) (g := h₀)
    (fun b hb => by
      obtain ⟨_, o, ho', _⟩ := B.frames.mem hb
      exact ⟨o, ho'⟩)
    (fun b o e nmem => F'.keep b o (T'.other b o (FG.keep b o e) (fun q => by
      rcases mem_frames lf q with z | z
      · rw [z, nL₀] at e
        cases e
      · exact nmem z)))
    (fun b o e hm => by
      obtain ⟨sl', hs'⟩ := T'.up (FG.keep b o e)
      exact ⟨sl', F'.keep _ _ hs'⟩)
  refine ⟨_, T₁, ⟨⟨_, es, ep, F'.keep _ _ hs, hLd, hLk, hLf⟩, S₁, by rw [T₁.size]; exact FG.above⟩, ⟨fun p hp => ⟨(N'.n p hp).1, fun q => ?_, ?_⟩, N'.d⟩⟩
  · have := (N'.n p hp).2.2; rw [q, hs] at this; cases this
  · refine T₁.none_ _ ?_
    cases q : h₀.get? p.1 with
    | none => rfl
    | some o =>
      obtain ⟨sl', hs'⟩ := T'.up (FG.keep _ _ q)
      have := (N'.n p hp).2.2
      rw [hs'] at this
      cases this
/-- the call gives back; the outer frames may have been marked -/
noncomputable def ConS (w : World) (f : Value) (n : Nat) (vs : List Value) (news : List Ob) (P : Value → List Ob → Prop) : Prop :=
  ∀ (A : Around) (base : Heap) (outer : List Env) (env : Env) (L : Addr) (h₀ h : Heap) (t : Nat) (m : S → Option Value) (σ : Shared) (R : Result → Shared → Prop),
    Site w n A base outer env L h₀ → Fr h₀ L h m → Led h₀ L h news →
    (∀ r news' h₁ h t, KtsTurn (outer.filterMap (·.frame)) h₀ h₁ → P r news' → Fr h₁ L h m → Led h₁ L h news' → R (.ok (.ret r)) (st σ h t)) →
    codeAny (model PW w) A (.call f ⟨vs, []⟩) R (st σ h t)
theorem ConS.use {w : World} {f : Value} {n k : Nat} {vs : List Value} {news : List Ob} {P : Value → List Ob → Prop} {A : Around} {base : Heap} {outer : List Env} {env : Env} {L : Addr} {h₀ h : Heap} {t : Nat} {m : S → Option Value} {σ : Shared} {Q E : Value → Shared → Prop}
    (C : ConS w f k vs news P) (Z : Site w n A base outer env L h₀) (F : Fr h₀ L h m) (N : Led h₀ L h news) (hk : k ≤ n)
    (H : ∀ r news' h₁ h t, KtsTurn (outer.filterMap (·.frame)) h₀ h₁ → Site w n A base outer env L h₁ → P r news' → Fr h₁ L h m → Led h₁ L h news' → Q r (st σ h t)) : wpAny (model PW w) A (call f vs) Q E (st σ h t) :=
  wpAny_call (C _ _ _ _ _ _ _ _ _ _ _ (Z.le hk) F N fun r news' h₁ h t T => H r news' h₁ h t T (Z.turn T))
/-- with no outer frames nothing is marked -/
theorem turn_none {g g' h : Heap} {L : Addr} {m : S → Option Value} {news : List Ob} (T : KtsTurn [] g g') (F : Fr g' L h m) (N : Led g' L h news) : Fr g L h m ∧ Led g L h news :=
  ⟨⟨F.ns, fun b o e => F.keep b o (T.other b o e (fun q => nomatch q)), by rw [← T.size]; exact F.above⟩, ⟨fun p hp => ⟨(N.n p hp).1, (N.n p hp).2.1, by
    cases q : g.get? p.1 with
    | none => rfl
    | some o =>
      have h1 := T.other _ _ q (fun z => nomatch z)
      have h2 := (N.n p hp).2.2
      rw [h1] at h2; cases h2⟩, N.d⟩⟩
inductive RetS (g : Heap) (fs : List Addr) (L : Addr) (σ : Shared) (P : Value → List Ob → Prop) (fl : Flow) (s' : Shared) : Prop where
  | mk (g' : Heap) (m' : S → Option Value) (news' : List Ob) (h : Heap) (t : Nat) (e : s' = st σ h t) (T : KtsTurn fs g g') (F : Fr g' L h m') (N : Led g' L h news') (p : P (retOf fl) news') : RetS g fs L σ P fl s'
theorem RetS.intro {g g' : Heap} {fs : List Addr} {L : Addr} {σ : Shared} {P : Value → List Ob → Prop} {fl : Flow} {h : Heap} {t : Nat} {m' : S → Option Value} {news' : List Ob} (T : KtsTurn fs g g') (F : Fr g' L h m') (N : Led g' L h news') (p : P (retOf fl) news') :
    RetS g fs L σ P fl (st σ h t) := ⟨g', m', news', h, t, rfl, T, F, N, p⟩
-- entries, with whatever end
section
variable {prog : Program} {w : World} {A A₀ : Around} {s : Shared} {base h₀ : Heap} {outer : List Env} {env : Env} {L : Addr} {m : S → Option Value} {news : List Ob}
  {R : Result → Shared → Prop} {name qual : S} {params : Arguments} {body : List Stmt} {scope : PySem.Scope} {cl : List (S × Addr)} {dV kV doc pm cdv ct : Value} {an : Option Addr} {fo : Obj} {f : Addr} {args : Args} {binds : List (S × Value)}
theorem rawX_plain (B : Below A₀ base outer h₀) (F : Fr h₀ L s.heap m) (N : News h₀ L s.heap news) (hlim : h₀.NoLimit) (hA : A.frames = some (env :: outer)) (hf : env.frame = some L) (hke : env.scope.kind = .function)
    (ho : s.heap.get? f = some fo) (hd : fo.data = .func (fnX name qual params body scope cl dV kV doc pm an cdv ct)) (hcd : s.heap.CodeRec cdv qual) (hroom : A.depth < recursionLimit)
    (hbind : BindsTo s (fnX name qual params body scope cl dV kV doc pm an cdv ct) args binds) (hloc : ∀ y ∈ binds, scope.names.lookup y.1 = some .local)
    (h : ∀ g L' h₁, Fr h₀ L g m → Fr g L' h₁ (fun y => binds.reverse.lookup y) → News g L' h₁ news → Below A base (env :: outer) g → h₀.StaysIn g → (∀ p ∈ news, p.1 < L') →
      wpAny (model prog w) (A.deeper (envX qual scope L' f cdv cl)) (execs body (envX qual scope L' f cdv cl))
        (fun fl s' => R (.ok (.ret (match fl with | .ret v => v | _ => .none))) s')
        (fun e s' => wpAny (model prog w) (A.deeper (envX qual scope L' f cdv cl)) (leaving (envX qual scope L' f cdv cl) e) (fun _ s'' => R (.error e) s'') (fun e' s'' => R (.error e') s'') s')
        { s with heap := h₁, toks := s.toks + binds.length })
    (hcell : ∀ x ∈ scope.names, x.2 ≠ .cell) (hco : scope.isCoroutine = false) (hgen : scope.isGenerator = false) (hk : scope.kind = .function) : codeAny (model prog w) A (.call (.ref f) args) R s := by
  obtain ⟨FG, BG, st, lv⟩ := groundX (R := R) B F N hA hf hke
  refine codeAny_call_def (fd := fnX name qual params body scope cl dV kV doc pm an cdv ct) (body := body) (binds := binds) hroom ho hd (hlim.keeps F.keep) hcd rfl hbind hcell hloc (fun h₁ hns hk₁ => ?_) hco hgen hk
  exact h _ s.heap.objs.size h₁ FG ⟨hns, fun b o e => hk₁ b o (of_hideAll _ e), Nat.le_of_eq (hideAll_size _ _)⟩
    (fun p hp => ⟨hk₁ _ _ (N p hp).1, Nat.ne_of_lt (Heap.lt_size (N p hp).1), hideAll_none _ (List.mem_map_of_mem hp)⟩) BG st (fun p hp => Heap.lt_size (N p hp).1)
theorem rawX_cells (B : Below A₀ base outer h₀) (F : Fr h₀ L s.heap m) (N : News h₀ L s.heap news) (hlim : h₀.NoLimit) (hA : A.frames = some (env :: outer)) (hf : env.frame = some L) (hke : env.scope.kind = .function)
    (ho : s.heap.get? f = some fo) (hd : fo.data = .func (fnX name qual params body scope [] dV kV doc pm an cdv ct)) (hcd : s.heap.CodeRec cdv qual) (hroom : A.depth < recursionLimit)
    (hbind : BindsTo s (fnX name qual params body scope [] dV kV doc pm an cdv ct) args binds)
    (hkind : ∀ n, ∀ x ∈ binds, scope.names.lookup x.1 = some .local ∨ (scope.names.lookup x.1 = some .cell ∧ ((cellsFrom n scope.names []).lookup x.1).isSome = true))
    (hnd : ((cellsFrom 0 scope.names []).map (·.1)).Nodup)
    (h : ∀ g L' h₁ tk cells, Fr h₀ L g m → Fr g L' h₁ (bindL (envOfC qual scope L' f cdv).kindOf binds fun _ => none) → News g L' h₁ (cells ++ news) →
      CellsAre (bindC (envOfC qual scope L' f cdv).kindOf binds fun _ => none) (cellsFrom (L' + 1) scope.names []) cells → Below A base (env :: outer) g → h₀.StaysIn g → (∀ p ∈ news, p.1 < L') →
      wpAny (model prog w) (A.deeper (envOfC qual scope L' f cdv)) (execs body (envOfC qual scope L' f cdv))
        (fun fl s' => R (.ok (.ret (match fl with | .ret v => v | _ => .none))) s')
        (fun e s' => wpAny (model prog w) (A.deeper (envOfC qual scope L' f cdv)) (leaving (envOfC qual scope L' f cdv) e) (fun _ s'' => R (.error e) s'') (fun e' s'' => R (.error e') s'') s')
        { s with heap := h₁, toks := tk })
    (hco : scope.isCoroutine = false) (hgen : scope.isGenerator = false) (hk : scope.kind = .function) : codeAny (model prog w) A (.call (.ref f) args) R s := by
  obtain ⟨FG, BG, st, lv⟩ := groundX (R := R) B F N hA hf hke
  refine codeAny_call_function hroom ho hd hco hgen rfl hcd (hbind _ _ _ _ ?_)
  refine wpAny_newFunctionEnv_cells hk (hkind _) fun env' he s' x => ?_
  subst he
  refine ⟨(hlim.keeps F.keep).keeps x.toInCall.keep, codeAny_func ?_⟩
  obtain ⟨h₁, tk, rfl, _⟩ := x.done
  have hk₁ := x.toInCall.keep
  obtain ⟨cells, NC, Y⟩ := Cl.news (h₀ := s.heap) (Nat.le_refl _) fun n c hm => ⟨x.cell n c (lookup_of_mem_nodup (cellsFrom_names scope.names 0 (s.heap.objs.size + 1) [] [] rfl ▸ hnd) hm), x.above n c hm⟩
  refine h _ s.heap.objs.size h₁ tk cells FG ⟨x.toInCall.ns, fun b o e => hk₁ b o (of_hideAll _ e), Nat.le_of_eq (hideAll_size _ _)⟩ (fun p hp => ?_) Y BG st (fun p hp => Heap.lt_size (N p hp).1)
  rcases List.mem_append.mp hp with hp | hp
  · refine ⟨(NC p hp).1, (NC p hp).2.1, ?_⟩
    cases q : (hideAll s.heap (news.map (·.1))).get? p.1 with
    | none => rfl
    | some o => have := of_hideAll _ q; rw [(NC p hp).2.2] at this; cases this
  · exact ⟨hk₁ _ _ (N p hp).1, Nat.ne_of_lt (Heap.lt_size (N p hp).1), hideAll_none _ (List.mem_map_of_mem hp)⟩
end
section
variable {w : World} {n : Nat} {f : Addr} {args : List Value} {news : List Ob} {P : Value → List Ob → Prop} {name qual : S} {params : Arguments} {body : List Stmt} {scope : PySem.Scope} {cl : List (S × Addr)} {dV kV doc pm cdv ct oc : Value} {an od : Option Addr} {osl : Array (Option Value)} {binds bs : List (S × Value)}
theorem enterS (ho : (hd.heap_1 w.params).lookup f = some ⟨oc, od, .func (fnOf name qual params body scope dV kV doc pm an cdv ct), osl⟩) (hcd : codeIn (hd.heap_1 w.params) cdv qual = true)
    (hbind : ∀ s : Shared, (hd.heap_1 w.params).In s.heap → BindsTo s (fnOf name qual params body scope dV kV doc pm an cdv ct) ⟨args, []⟩ binds) (hbs : binds.reverse = bs)
    (hloc : (binds.all fun x => decide (scope.names.lookup x.1 = some .local)) = true) (hco : scope.isCoroutine = false) (hgen : scope.isGenerator = false) (hk : scope.kind = .function) (hcell : ∀ x ∈ scope.names, x.2 ≠ .cell)
    (H : ∀ (A : Around) (base : Heap) (outer : List Env) (g : Heap) (L : Addr) (σ : Shared) (h : Heap) (t : Nat), Site w n A base outer (envX qual scope L f cdv []) L g → (∃ A₀, A = Around.deeper A₀ (envX qual scope L f cdv []) ∧ A₀.frames = some outer) → Fr g L h (lk bs) → Led g L h news →
      wpAny (model PW w) A (execs body (envX qual scope L f cdv [])) (RetS g (outer.filterMap (·.frame)) L σ P) NoE (st σ h t)) : ConS w (.ref f) (n + 1) args news P := by
  intro A base outer env L h₀ h t m σ R x F N hQ
  obtain ⟨p, loose, mean, mg, mb, T, TB⟩ := x.T
  obtain ⟨A₀, B⟩ := x.B
  have XS := x.X.keeps F.keep
  refine rawX_plain (s := st σ h t) (cl := []) B F N.n T.nolimit x.fr x.lf x.kf (XS _ _ ho) rfl (codeRec_of XS hcd) (by have := x.dp; exact Nat.lt_of_add_right_lt this) (hbind _ XS) (locs hloc) (fun g L' h₁ FG F' N' B' st lt => ?_) hcell hco hgen hk
  refine wpAny_mono (H _ _ _ g L' σ h₁ _ (x.push (h := h₁) (h₁ := h₁) B' st FG hk) ⟨A, rfl, x.fr⟩ (by rw [show (lk bs) = fun y => binds.reverse.lookup y from by rw [hbs]; rfl]; exact F') ⟨N', N.d⟩) (fun fl s' hr => ?_) (fun _ _ z => z.elim)
  obtain ⟨g', m', news', h', tk', rfl, T', F2, N2, hp⟩ := hr
  obtain ⟨h₂, T₂, F3, N3⟩ := turn_back B FG x.lf T' F2 N2
  cases fl <;> exact hQ _ news' h₂ h' tk' T₂ hp F3 N3
theorem enterCS (ho : (hd.heap_1 w.params).lookup f = some ⟨oc, od, .func (fnX name qual params body scope [] dV kV doc pm an cdv ct), osl⟩) (hcd : codeIn (hd.heap_1 w.params) cdv qual = true)
    (hbind : ∀ s : Shared, (hd.heap_1 w.params).In s.heap → BindsTo s (fnX name qual params body scope [] dV kV doc pm an cdv ct) ⟨args, []⟩ binds)
    (hkd : ∀ n, ∀ x ∈ binds, scope.names.lookup x.1 = some .local ∨ (scope.names.lookup x.1 = some .cell ∧ ((cellsFrom n scope.names []).lookup x.1).isSome = true)) (hnd : ((cellsFrom 0 scope.names []).map (·.1)).Nodup)
    (hcs : ∀ L : Nat, ((cellsFrom (L + 1) scope.names []).map (·.2)).Nodup ∧ ∀ c ∈ (cellsFrom (L + 1) scope.names []).map (·.2), L < c)
    (hbs : ∀ L, blL (envOfC qual scope L f cdv).kindOf binds [] = bs) (hco : scope.isCoroutine = false) (hgen : scope.isGenerator = false) (hk : scope.kind = .function)
    (H : ∀ (A : Around) (base : Heap) (outer : List Env) (g : Heap) (L : Addr) (σ : Shared) (h : Heap) (t : Nat) (cells : List Ob), Site w n A base outer (envX qual scope L f cdv (cellsFrom (L + 1) scope.names [])) L g → Fr g L h (lk bs) →
      CellsAre (bindC (envOfC qual scope L f cdv).kindOf binds fun _ => none) (cellsFrom (L + 1) scope.names []) cells → Led g L h (cells ++ news) →
      wpAny (model PW w) A (execs body (envX qual scope L f cdv (cellsFrom (L + 1) scope.names []))) (RetS g (outer.filterMap (·.frame)) L σ P) NoE (st σ h t)) : ConS w (.ref f) (n + 1) args news P := by
  intro A base outer env L h₀ h t m σ R x F N hQ
  obtain ⟨p, loose, mean, mg, mb, T, TB⟩ := x.T
  obtain ⟨A₀, B⟩ := x.B
  have XS := x.X.keeps F.keep
  refine rawX_cells (s := st σ h t) B F N.n T.nolimit x.fr x.lf x.kf (XS _ _ ho) rfl (codeRec_of XS hcd) (by have := x.dp; exact Nat.lt_of_add_right_lt this) (hbind _ XS) hkd hnd (fun g L' h₁ tk cells FG F' N' hc B' st lt => ?_) hco hgen hk
  have NL : Led g L' h₁ (cells ++ news) := ⟨N', by
    rw [List.map_append, List.nodup_append]
    refine ⟨by rw [cells_lt hc]; exact (hcs L').1, N.d, fun a ha b hb e => ?_⟩
    obtain ⟨p, hp, rfl⟩ := List.mem_map.mp hb
    rw [cells_lt hc] at ha
    have h1 : L' < a := (hcs L').2 a ha
    have h2 : p.1 < L' := lt p hp
    have h3 : a = p.1 := e
    rw [h3] at h1; exact absurd h1 (Nat.not_lt.mpr (Nat.le_of_lt h2))⟩
  refine wpAny_mono (H _ _ _ g L' σ h₁ tk cells (x.push (h := h₁) (h₁ := h₁) B' st FG hk) (by rw [show (lk bs) = bindL _ binds (fun _ => none) from by rw [← hbs L']; exact (bindL_lk _ binds []).symm]; exact F') hc NL) (fun fl s' hr => ?_) (fun _ _ z => z.elim)
  obtain ⟨g', m', news', h', tk', rfl, T', F2, N2, hp⟩ := hr
  obtain ⟨h₂, T₂, F3, N3⟩ := turn_back B FG x.lf T' F2 N2
  cases fl <;> exact hQ _ news' h₂ h' tk' T₂ hp F3 N3
end
end Og
end

-- Og22
section
open PySem PySem.W PyProof.Rows PySem.Calls
set_option maxRecDepth 100000
set_option Elab.async false
set_option linter.unusedVariables false
set_option maxHeartbeats 1000000
namespace Og
/-- the table of a text's inner codes: bare, or with the one code -/
noncomputable def LamT (pos : Pos) (qual : S) (ps : Array Value) (rest : List Ob) : Prop :=
  ps = #[] ∨ Ex4 fun c' oc vs t => An4 (ps = #[rawInt pos.line, rawInt pos.col, .ref c']) ((c', oc) ∈ rest) (oc.data = .fields vs) (vs[1]? = some (.str qual t))
theorem LamT.mono {pos : Pos} {qual : S} {ps : Array Value} {rest rest' : List Ob} (x : LamT pos qual ps rest) (q : ∀ p ∈ rest, p ∈ rest') : LamT pos qual ps rest' :=
  x.imp id fun ⟨c', oc, vs, t, a, b, r, r2⟩ => ⟨c', oc, vs, t, a, q _ b, r, r2⟩
/-- a made lambda -/
noncomputable def NewLam (qual : S) (params : Arguments) (body : Expr) (scope : PySem.Scope) (clos : List (S × Addr)) (P : Addr) (pos : Pos) (rest : List Ob) (f : Addr) (news' : List Ob) : Prop :=
  Ex4 fun pm c' ctv oc => Ex4 fun vs t ps' rest' => An5 (news' = (f, kla_obj "<lambda>" qual params body scope clos pm c' ctv) :: (P, tabObj ps') :: rest') ((f, kla_obj "<lambda>" qual params body scope clos pm c' ctv) ∈ news') ((c', oc) ∈ news') (oc.data = .fields vs) (An4 (vs[1]? = some (.str qual t)) (LamT pos qual ps' rest') (∀ p ∈ rest, p ∈ rest') (∀ p ∈ rest, p ∈ news'))
section
variable {w : World} {n : Nat} {A : Around} {base h₀ h : Heap} {outer : List Env} {L a c P : Addr} {σ : Shared} {tk : Nat} {m : S → Option Value} {rest : List Ob} {E : Value → Shared → Prop} {Q : Value → Shared → Prop} {cn : S} {cs : PySem.Scope} {cl clos : List (S × Addr)} {params : Arguments} {body : Expr} {scope : PySem.Scope} {pos : Pos} {ps : Array Value}
theorem lamE (Z : Site w n A base outer (envX cn cs L a (.ref c) cl) L h₀) (F : Fr h₀ L h m) (N : Led h₀ L h ((P, tabObj ps) :: rest)) (C : CodeHd h₀ c P) (hl : LamT pos ((envX cn cs L a (.ref c) cl).qual ++ "<lambda>") ps rest) (hdef : defaultsOf params (envX cn cs L a (.ref c) cl) = ([], [])) (hcl : closureFor scope (envX cn cs L a (.ref c) cl) = pure clos)
    (H : ∀ f news' h tk, NewLam ((envX cn cs L a (.ref c) cl).qual ++ "<lambda>") params body scope clos P pos rest f news' → Fr h₀ L h m → Led h₀ L h news' → Q (.ref f) (st σ h tk)) : wpAny (model PW w) A (eval (.Lambda params body scope pos) (envX cn cs L a (.ref c) cl)) Q E (st σ h tk) := by
  obtain ⟨p, loose, mean, mg, mb, T, TB⟩ := Z.T
  refine kla_eval hdef ?_
  rcases hl with rfl | ⟨c', oc, vs, t, rfl, hc, hd, hv⟩
  · refine kla_nest (s := st σ h tk) (ps := #[]) F N.n T C rfl (.head N.off) (by simp [TriplesOk]) (by simp [codeAmong]) hcl fun f c' oc vs t ctv h' tk F' N' hd hv l1 l2 => ?_
    have NN : Led h₀ L h' ((f, kla_obj "<lambda>" ((envX cn cs L a (.ref c) cl).qual ++ "<lambda>") params body scope clos ((mg "__name__").getD .none) c' ctv) :: (c', oc) :: (P, tabObj (#[] ++ #[rawInt pos.line, rawInt pos.col, .ref c'])) :: rest) := by
      have h1 : Led h₀ L h' ((P, tabObj (#[] ++ #[rawInt pos.line, rawInt pos.col, .ref c'])) :: rest) := ⟨fun q hq => N' q (.tail _ (.tail _ hq)), N.d⟩
      have h2 : Led h₀ L h' ((c', oc) :: (P, tabObj (#[] ++ #[rawInt pos.line, rawInt pos.col, .ref c'])) :: rest) := Led.cons (fun q hq => N' q (.tail _ hq)) h1.d fun q hq => by
        rcases List.mem_cons.mp hq with rfl | hq
        · exact l1 (P, tabObj #[]) (.head _)
        · exact l1 q (.tail _ hq)
      refine Led.cons N' h2.d fun q hq => ?_
      rcases List.mem_cons.mp hq with rfl | hq
      · exact l2
      rcases List.mem_cons.mp hq with rfl | hq
      · exact Nat.lt_trans (l1 (P, tabObj #[]) (.head _)) l2
      · exact Nat.lt_trans (l1 q (.tail _ hq)) l2
    refine H f _ h' tk ⟨_, c', ctv, oc, vs, t, _, (c', oc) :: rest, rfl, .head _, .tail _ (.tail _ (.head _)), hd, hv, .inr ⟨c', oc, vs, t, by simp, .head _, hd, hv⟩, fun p hp => .tail _ hp, fun p hp => .tail _ (.tail _ (.tail _ hp))⟩ F' (NN.perm (.cons _ (.swap _ _ _)))
  · refine kla_hit (s := st σ h tk) (c' := c') F N.n T C rfl (.head _) (by simp [TriplesOk, rawInt]) (by simp [codeAmong, rawInt]) hcl fun f ctv h' tk F' N' l1 => ?_
    exact H f _ h' tk ⟨_, c', ctv, oc, vs, t, _, rest, rfl, .head _, .tail _ (.tail _ hc), hd, hv, .inr ⟨c', oc, vs, t, rfl, hc, hd, hv⟩, fun p hp => hp, fun p hp => .tail _ (.tail _ hp)⟩ F' (Led.cons N' N.d l1)
end
section
variable {w : World} {n : Nat} {f c' : Addr} {news : List Ob} {P : Value → List Ob → Prop} {qual : S} {params : Arguments} {body : Expr} {scope : PySem.Scope} {clos : List (S × Addr)} {pm ctv : Value} {oc : Obj} {vs : Array Value} {t : Tok}
/-- a lambda without parameters is called -/
theorem enterL (hf : (f, kla_obj "<lambda>" qual params body scope clos pm c' ctv) ∈ news) (hc : (c', oc) ∈ news) (hdt : oc.data = .fields vs) (hv : vs[1]? = some (.str qual t))
    (hbind : bindArgs (kla_fn "<lambda>" qual params body scope clos pm (.ref c') ctv) ⟨[], []⟩ = pure []) (hco : scope.isCoroutine = false) (hgen : scope.isGenerator = false) (hk : scope.kind = .function) (hcell : ∀ x ∈ scope.names, x.2 ≠ .cell)
    (H : ∀ (A : Around) (base : Heap) (outer : List Env) (g : Heap) (L : Addr) (σ : Shared) (h : Heap) (t : Nat), Site w n A base outer (envX qual scope L f (.ref c') clos) L g → Fr g L h (lk []) → Led g L h news →
      wpAny (model PW w) A (eval body (envX qual scope L f (.ref c') clos)) (fun v s' => Ret g L σ P (.ret v) s') NoE (st σ h t)) : Con w (.ref f) (n + 1) [] news P := by
  intro A base outer env L h₀ h t m σ R x F N hQ
  obtain ⟨p, loose, mean, mg, mb, T, TB⟩ := x.T
  obtain ⟨A₀, B⟩ := x.B
  refine kla_code (s := st σ h t) (K := hd.heap_1 w.params) B F x.X N.n T x.fr x.lf x.kf hf (codeRec_news N.n hc hdt hv) (by have := x.dp; exact Nat.lt_of_add_right_lt this) hbind (fun y hy => nomatch hy) (fun g L' h₁ FG F' N' B' X' T' => ?_) hco hgen hk hcell
  have st' : h₀.StaysIn g := FG.keep
  refine wpAny_mono (H _ _ _ g L' σ h₁ _ (x.push (h := h₁) (h₁ := h₁) B' st' FG hk) F' ⟨N', N.d⟩) (fun v s' hr => ?_) (fun _ _ z => z.elim)
  obtain ⟨m', news', h', tk', rfl, F2, N2, hp⟩ := hr
  exact leaveK_ F2 N2.n fun F3 N3 => hQ _ news' h' tk' hp F3 ⟨N3, N2.d⟩
theorem enterLE (hf : (f, kla_obj "<lambda>" qual params body scope clos pm c' ctv) ∈ news) (hc : (c', oc) ∈ news) (hdt : oc.data = .fields vs) (hv : vs[1]? = some (.str qual t))
    (hbind : bindArgs (kla_fn "<lambda>" qual params body scope clos pm (.ref c') ctv) ⟨[], []⟩ = pure []) (hco : scope.isCoroutine = false) (hgen : scope.isGenerator = false) (hk : scope.kind = .function) (hcell : ∀ x ∈ scope.names, x.2 ≠ .cell)
    (H : ∀ (A : Around) (base : Heap) (outer : List Env) (g : Heap) (L : Addr) (σ : Shared) (h : Heap) (t : Nat), Site w n A base outer (envX qual scope L f (.ref c') clos) L g → Fr g L h (lk []) → Led g L h news →
      wpAny (model PW w) A (eval body (envX qual scope L f (.ref c') clos)) (fun _ _ => False) (Leav w A (envX qual scope L f (.ref c') clos) (RaiseK base g outer σ news)) (st σ h t)) : ConE w (.ref f) (n + 1) [] news := by
  intro A base outer env L h₀ h t m σ R x F N hQ
  obtain ⟨p, loose, mean, mg, mb, T, TB⟩ := x.T
  obtain ⟨A₀, B⟩ := x.B
  refine kla_code (s := st σ h t) (K := hd.heap_1 w.params) B F x.X N.n T x.fr x.lf x.kf hf (codeRec_news N.n hc hdt hv) (by have := x.dp; exact Nat.lt_of_add_right_lt this) hbind (fun y hy => nomatch hy) (fun g L' h₁ FG F' N' B' X' T' => ?_) hco hgen hk hcell
  have st' : h₀.StaysIn g := FG.keep
  refine wpAny_mono (H _ _ _ g L' σ h₁ _ (x.push (h := h₁) (h₁ := h₁) B' st' FG hk) F' ⟨N', N.d⟩) (fun v s' hr => hr.elim) (fun e s' z => ?_)
  exact wpAny_mono z (fun _ s'' z => hQ g m e s'' FG z) fun e' s'' z => hQ g m e' s'' FG z
end
section
variable {M : Model} {A : Around} {E : Value → Shared → Prop} {s : Shared} {Q : Value → Shared → Prop} {a : Addr}
theorem is_refN (H : Q (.bool false) s) : wpAny M A (compareOp .Is (.ref a) .none) Q E s := wpAny_is_other rfl (fun h => nomatch h) H
theorem isNot_refN (H : Q (.bool true) s) : wpAny M A (compareOp .IsNot (.ref a) .none) Q E s := wpAny_isNot_other rfl (fun h => nomatch h) H
end
end Og
end

-- Og23
section
open PySem PySem.W PyProof.Rows PySem.Calls
open PySem.Sem (wp)
set_option maxRecDepth 100000
set_option Elab.async false
set_option linter.unusedVariables false
set_option maxHeartbeats 1000000
namespace Og
/-- upon a good stack, and nothing is raised -/
noncomputable abbrev gw {α : Type} (M : Model) (A : Around) (t : Sem α) (Q : α → Shared → Prop) (s : Shared) : Prop := wpG M A t Q (fun _ _ => False) s
section
variable {α β : Type} {M : Model} {A : Around} {s : Shared} {env : Env}
theorem gw_any {t : Sem α} {Q : α → Shared → Prop} (h : wpAny M A t Q (fun _ _ => False) s) : gw M A t Q s := wpG_any h
theorem gw_mono {t : Sem α} {Q Q' : α → Shared → Prop} (h : gw M A t Q s) (hQ : ∀ a s, Q a s → Q' a s) : gw M A t Q' s := wpG_mono h hQ fun _ _ x => x
theorem gw_bind {m : Sem α} {f : α → Sem β} {Q : β → Shared → Prop} (h : gw M A m (fun a s' => gw M A (f a) Q s') s) : gw M A (m >>= f) Q s := wpG_bind h
theorem gw_bindA {m : Sem α} {f : α → Sem β} {Q : β → Shared → Prop} (h : wpAny M A m (fun a s' => gw M A (f a) Q s') (fun _ _ => False) s) : gw M A (m >>= f) Q s := wpG_bind (wpG_any h)
theorem gw_up {t : Sem α} {Q : α → Shared → Prop} {E : Value → Shared → Prop} (h : gw M A t Q s) : wpG M A t Q E s := wpG_mono h (fun _ _ x => x) fun _ _ x => x.elim
theorem gw_onRaise {m : Sem α} {k : Value → Sem Unit} {Q : α → Shared → Prop} (h : gw M A m Q s) : gw M A (m.onRaise k) Q s := fun Γ p hΓ hG => by
  rw [Sem.wp_onRaise]
  exact Sem.wp_mono M Γ m (fun _ _ _ h' => h') (fun e p' s' h' => h'.elim) p s (h Γ p hΓ hG)
-- statements
theorem gw_cons {st : Stmt} {rest : List Stmt} {Q : Flow → Shared → Prop} (h : gw M A (exec st env) (fun f s' => match f with | .next => gw M A (execs rest env) Q s' | f => Q f s') s) : gw M A (execs (st :: rest) env) Q s := fun Γ p hΓ hG => by
  rw [execs_cons, Sem.wp_bind']
  refine Sem.wp_mono M Γ _ (fun f p' s' h' => ?_) (fun _ _ _ h' => h') _ _ (h Γ p hΓ hG)
  cases f <;> first | exact h' Γ p' hΓ hG | exact h'
theorem gw_Assign_Name {x : S} {pos' pos : Pos} {value : Expr} {Q : Flow → Shared → Prop} (h : gw M A (eval value env) (fun v s₁ => wpAny M A (storeName env x v) (fun _ => Q .next) (fun _ _ => False) s₁) s)
    (hs : swapsWith value (some (.Name x pos')) pos.line env = pure false) : gw M A (exec (.Assign [.Name x pos'] value pos) env) Q s := fun Γ p hΓ hG => by
  simp only [exec_Assign_Name env x pos' value pos hs, Sem.wp_bind', Sem.wp_cmd_standAt, Sem.wp_bindName, Sem.wp_pure']
  exact Sem.wp_mono M Γ _ (fun v _ s₁ h₁ => h₁ Γ _ hΓ) (fun _ _ _ h' => h') _ _ (h Γ _ hΓ hG)
theorem gw_Assign_Sub {o i : Expr} {pos' pos : Pos} {value : Expr} {Q : Flow → Shared → Prop} (h : wpAny M A (eval value env) (fun v s₁ => wpAny M A (eval o env) (fun ov s₂ => wpAny M A (eval i env) (fun iv s₃ => gw M A (setItem ov iv v) (fun _ => Q .next) s₃) (fun _ _ => False) s₂) (fun _ _ => False) s₁) (fun _ _ => False) s)
    (hs : swapsWith value (some (.Subscript o i pos')) pos.line env = pure false) : gw M A (exec (.Assign [.Subscript o i pos'] value pos) env) Q s := fun Γ p hΓ hG => by
  simp only [exec_Assign_Subscript o i pos' value pos hs, assign_Subscript, Sem.wp_bind', Sem.wp_holding, Sem.wp_cmd_standAt, Sem.wp_release, Sem.wp_pure']
  exact Sem.wp_mono M Γ _ (fun v p₁ s₁ h₁ => Sem.wp_mono M Γ _ (fun ov p₂ s₂ h₂ => Sem.wp_mono M Γ _ (fun iv _ s₃ h₃ => h₃ Γ _ hΓ hG)
    (fun _ _ _ h' => h') _ _ (h₂ Γ p₂ hΓ)) (fun _ _ _ h' => h') _ _ (h₁ Γ p₁ hΓ)) (fun _ _ _ h' => h') _ _ (h Γ _ hΓ)
theorem gw_Assign_Attr {o : Expr} {attr : S} {pos' pos : Pos} {value : Expr} {Q : Flow → Shared → Prop} (h : gw M A (eval value env) (fun v s₁ => wpAny M A (eval o env) (fun ov s₂ => wpAny M A (setAttr ov attr v) (fun _ => Q .next) (fun _ _ => False) s₂) (fun _ _ => False) s₁) s)
    (hs : swapsWith value (some (.Attribute o attr pos')) pos.line env = pure false) : gw M A (exec (.Assign [.Attribute o attr pos'] value pos) env) Q s := fun Γ p hΓ hG => by
  simp only [plainObj_exec_Assign_Attribute o attr pos' value pos hs, assign_Attribute, Sem.wp_bind', Sem.wp_holding, Sem.wp_cmd_standAt, Sem.wp_release, Sem.wp_pure']
  exact Sem.wp_mono M Γ _ (fun v p₁ s₁ h₁ => Sem.wp_mono M Γ _ (fun ov _ s₂ h₂ => h₂ Γ _ hΓ) (fun _ _ _ h' => h') _ _ (h₁ Γ p₁ hΓ)) (fun _ _ _ h' => h') _ _ (h Γ _ hΓ hG)
theorem gw_Return {e : Expr} {pos : Pos} {Q : Flow → Shared → Prop} (h : gw M A (eval e env) (fun v => Q (.ret v)) s) : gw M A (exec (.Return (some e) pos) env) Q s := fun Γ p hΓ hG => by
  simp only [exec_Return_some, Sem.wp_bind', Sem.wp_cmd_standAt, Sem.wp_pure']; exact h Γ _ hΓ hG
theorem gw_Expr {e : Expr} {pos : Pos} {Q : Flow → Shared → Prop} (h : gw M A (eval e env) (fun v s' => match v with | .ref _ => False | _ => Q .next s') s) (hi : interactive env = false) (hs : swapsWith e none pos.line env = pure false) :
    gw M A (exec (.Expr e pos) env) Q s := by
  rw [exec_Expr env e pos hi hs]
  refine gw_bindA (wpAny_standAt (gw_bind (gw_mono h (fun v s' h' => ?_))))
  have hv : ∀ a, v ≠ .ref a := fun a hva => by subst hva; exact h'
  rw [dropValue_plain hv]
  refine wpG_pure ?_
  cases v <;> first | exact h' | exact (hv _ rfl).elim
theorem gw_If {test : Expr} {body orelse : List Stmt} {pos : Pos} {Q : Flow → Shared → Prop} (h : gw M A (isTrue test env (eval test env)) (fun b s₂ => if b then gw M A (execs body env) Q s₂ else gw M A (execs orelse env) Q s₂) s) :
    gw M A (exec (.If test body orelse pos) env) Q s := fun Γ p hΓ hG => by
  simp only [exec_If, Sem.wp_bind', Sem.wp_cmd_standAt]
  refine Sem.wp_mono M Γ _ (fun b p₂ s₂ h₂ => ?_) (fun _ _ _ h' => h') _ _ (h Γ _ hΓ hG)
  cases b <;> exact h₂ Γ p₂ hΓ hG
theorem gw_not {x : Expr} {pos : Pos} {whole : Sem Value} {Q : Bool → Shared → Prop} (h : gw M A (isTrue x env (eval x env)) (fun c s' => Q (!c) s') s) : gw M A (isTrue (.UnaryOp .Not x pos) env whole) Q s := by
  show gw M A (do return !(← isTrue x env (eval x env))) Q s
  exact gw_bind (gw_mono h fun c s' h' => wpG_pure h')
theorem gw_true {e : Expr} {whole : Sem Value} {Q : Bool → Shared → Prop} (h : gw M A whole (fun v s₁ => wpAny M A (truthy v) Q (fun _ _ => False) s₁) s) (he : isTrue e env whole = (do let v ← whole; standAt e.pos; holding [v] (truthy v))) : gw M A (isTrue e env whole) Q s := by
  rw [he]
  exact gw_bind (gw_mono h fun v s₁ h₁ => gw_any (wpAny_bind (wpAny_standAt (wpAny_holding h₁))))
theorem gw_runOwn {c : Code} {h : Option Value} {Q : Flow → Shared → Prop} (ok : okCode c = true) (hc : codeG M (A.mark h) c (fun r s' => match r with | .ok f => Q f s' | .error e => False) s) (hnb : h ≠ some byPass) : gw M A (runOwn c env h) Q s := by
  unfold runOwn
  exact gw_onRaise (wpG_run ok hc hnb)
theorem gw_For {target iter : Expr} {body orelse : List Stmt} {pos : Pos} {Q : Flow → Shared → Prop} (h : wpAny M A (eval iter env) (fun x s₁ => wpAny M A (pyIter x) (fun it s₂ => codeG M A (.forLoop target it body orelse env) (fun r s' => match r with | .ok f => Q f s' | .error e => False) s₂) (fun _ _ => False) s₁) (fun _ _ => False) s)
    (hs : ∀ x, foldedSetIterable iter env x = pure x) : gw M A (exec (.For target iter body orelse pos) env) Q s := by
  rw [exec_For]
  exact gw_bindA (wpAny_standAt (gw_bindA (wpAny_mono h (fun x s₁ h₁ => gw_bindA (wpAny_of_eq (hs x) (gw_bindA (wpAny_standAt (gw_bindA (wpAny_holding
    (wpAny_mono h₁ (fun it s₂ h₂ => gw_runOwn rfl h₂ (by intro x; cases x)) fun _ _ h' => h'))))))) fun _ _ h' => h')))
theorem codeG_loop {c : Code} {R : Result → Shared → Prop} (hq : c.quiet = true) (ok : okCode c = true) (I : Nat → Shared → Prop)
    (turn : ∀ n s, I n s → wpG M (A.under c) (M.den c) (fun fin s' => match fin with
        | .done f => R (.ok f) s'
        | .again c' => (c' = c ∧ ∃ m, m < n ∧ I m s') ∨ (c'.quiet = true ∧ okCode c' = true ∧ codeG M A c' R s')) (fun e s' => R (.error e) s') s)
    (n : Nat) (h : I n s) : codeG M A c R s := by
  induction n using Nat.strongRecOn generalizing s with
  | ind n ih =>
    refine codeG_of_tree (wpG_mono (turn n s h) (fun fin s' hf => ?_) fun _ _ h' => h')
    cases fin with
    | done f => exact hf
    | again c' =>
      rcases hf with ⟨rfl, m, hm, hI⟩ | hf
      · exact ⟨hq, ok, ih m hm hI⟩
      · exact hf
end
section
variable {prog : Program} {w : World} {A : Around} {s : Shared} {env : Env}
theorem codeG_block {stmts : List Stmt} {R : Result → Shared → Prop} (h : gw (model prog w) A (execs stmts env) (fun f s' => R (.ok f) s') s) : codeG (model prog w) A (.block stmts env) R s := by
  refine codeG_of_tree ?_
  show wpG _ _ (do return Fin.done (← (execs stmts env).onRaise (fun x => do noteFrame x env; theTreesLotGoes x))) _ _ s
  exact gw_up (gw_bind (gw_onRaise (gw_mono h fun f s' h' => wpG_pure h')))
theorem codeG_forLoop {R : Result → Shared → Prop} {target : Expr} {it : Value} {body orelse : List Stmt} (I : Nat → Shared → Prop)
    (turn : ∀ n s, I n s → wpAny (model prog w) A (pyNext it) (fun r s₁ => match r with
      | none => gw (model prog w) A (execs orelse env) (fun f s₃ => R (.ok f) s₃) s₁
      | some v => wpAny (model prog w) A (letOwnedTupleGo target it v) (fun _ s₁' =>
          wpAny (model prog w) A (assign target env v) (fun _ s₂ => gw (model prog w) A (execs body env) (fun f s₃ => match f with
            | .next | .cont => ∃ m, m < n ∧ I m s₃
            | .brk => R (.ok .next) s₃
            | .ret v => R (.ok (.ret v)) s₃) s₂) (fun _ _ => False) s₁') (fun _ _ => False) s₁) (fun _ _ => False) s)
    (n : Nat) (h : I n s) : codeG (model prog w) A (.forLoop target it body orelse env) R s := by
  refine codeG_loop rfl rfl I (fun n s hI => ?_) n h
  show wpG _ A ((forTurn target it body orelse env).onRaise (fun x => do noteFrame x env; theTreesLotGoes x)) _ _ s
  refine gw_up (gw_onRaise ?_)
  simp only [forTurn]
  refine gw_bindA (wpAny_standAt (gw_bindA (wpAny_onRaise (wpAny_mono (turn n s hI) (fun r s₁ h₁ => ?_) fun _ _ h' => h'.elim))))
  cases r with
  | none => exact wpG_pure (.inr ⟨rfl, rfl, codeG_block h₁⟩)
  | some v =>
    refine gw_bindA (wpAny_mono h₁ (fun _ s₁' h₁' => ?_) fun _ _ h' => h')
    refine gw_bindA (wpAny_mono h₁' (fun _ s₂ h₂ => gw_bind (gw_mono h₂ (fun f s₃ h₃ => ?_))) fun _ _ h' => h')
    cases f with
    | next => exact wpG_pure (.inl ⟨rfl, h₃⟩)
    | cont => exact wpG_pure (.inl ⟨rfl, h₃⟩)
    | brk => exact wpG_pure h₃
    | ret v => exact wpG_pure h₃
-- calls
theorem gw_Call {func : Expr} {args : List Expr} {pos : Pos} {Q : Value → Shared → Prop} {M : Model} (h : wpAny M A (eval func env) (fun f s₁ => gw M A (callWith pos f [] (backTo pos (starEach args env)) []) Q s₁) (fun _ _ => False) s)
    (he : eval (.Call func args [] pos) env = (do callWith pos (← eval func env) [] (backTo pos (starEach args env)) (backToKw pos (keywordEach [] env)))) : gw M A (eval (.Call func args [] pos) env) Q s := by
  rw [he]; exact gw_bindA h
theorem gw_callWith_of {P : Heap → Prop} {M : Model} {f : Value} {first : List Value} {pos : Pos} {Q : Value → Shared → Prop} {args : List (Bool × Sem Value)} (hplain : args.any (·.1) = false)
    (hk : ∀ h, P h → ∃ k, (k = Keeper.frame ∨ k = Keeper.machine) ∧ Looks M h (keeperOf f) k)
    (h : gw M A (evalArgs f true args []) (fun a s₁ => P s₁.heap ∧ gw M A (call f (first ++ a.pos) a.kw) Q s₁) s) : gw M A (callWith pos f first args []) Q s := by
  unfold callWith
  refine gw_bind (wpG_holding (gw_mono h (fun a s₁ h₁ => gw_bindA (wpAny_standAt ?_))))
  obtain ⟨k, hk', L⟩ := hk _ h₁.1
  simp only [hplain, List.any_nil, Bool.or_false]
  refine gw_bindA (L.here ?_)
  have tail : ∀ {t : Sem Value}, gw M A t Q s₁ → gw M A (t >>= fun r => holding [r] point >>= fun _ => pure r) Q s₁ :=
    fun ht => gw_bind (gw_mono ht (fun r s₂ hr => gw_any (wpAny_bind (wpAny_holding (wpAny_point (wpAny_pure hr))))))
  have marked (mk : Value) : gw M A (callMarked mk f (first ++ a.pos) a.kw) Q s₁ := by unfold callMarked; exact fun Γ p hΓ hG => by rw [Sem.wp_keep]; exact h₁.2 Γ p hΓ hG
  rcases hk' with rfl | rfl <;> dsimp only <;> first | exact tail h₁.2 | (split <;> first | exact tail h₁.2 | exact tail (marked _))
theorem gw_callWith_type {M : Model} {pos : Pos} {T : String} {first : List Value} {args : List (Bool × Sem Value)} {Q : Value → Shared → Prop} (hplain : args.any (·.1) = false)
    (h : gw M A (evalArgs (.type T) true args []) (fun a s₁ => gw M A (call (.type T) (first ++ a.pos) a.kw) Q s₁) s) : gw M A (callWith pos (.type T) first args []) Q s := by
  unfold callWith
  refine gw_bind (wpG_holding (gw_mono h (fun a s₁ h₁ => gw_bindA (wpAny_standAt ?_))))
  simp only [hplain, List.any_nil, Bool.or_false]
  refine gw_bindA (wpAny_pure ?_)
  exact gw_bind (gw_mono h₁ (fun r s₂ hr => gw_any (wpAny_bind (wpAny_holding (wpAny_point (wpAny_pure hr))))))
theorem gw_evalArgs {M : Model} {f : Value} {x : Sem Value} {rest : List (Bool × Sem Value)} {Q : Args → Shared → Prop} (h : gw M A (spliced ((false, x) :: rest)) (fun vs s' => Q ⟨vs, []⟩ s') s) : gw M A (evalArgs f true ((false, x) :: rest) []) Q s := by
  unfold evalArgs
  show gw M A (spliced ((false, x) :: rest) >>= _) Q s
  refine gw_bind (gw_mono h (fun vs s' h' => ?_))
  exact wpG_holding (gw_any (wpAny_bind (wpAny_pure (wpAny_bind (wpAny_pure (wpAny_pure h'))))))
theorem gw_call {M : Model} {f : Value} {pos : List Value} {Q : Value → Shared → Prop}
    (hc : codeG M A (.call f ⟨pos, []⟩) (fun r s' => match r with | .ok (.ret v) => Q v s' | .ok _ => False | .error e => False) s) : gw M A (call f pos []) Q s := wpG_call hc
-- entries
theorem codeG_func {R : Result → Shared → Prop} {body : List Stmt} (h : gw (model prog w) (A.deeper env) (execs body env) (fun f s' => R (.ok (.ret (match f with | .ret v => v | _ => .none))) s') s) : codeG (model prog w) A (.func body env) R s := by
  refine codeG_of_tree ?_
  show wpG _ (A.deeper env) (do point; match ← (execs body env).onRaise (leaving env) with | .ret v => ret v | _ => ret .none) _ _ s
  refine gw_up (gw_bindA (wpAny_point (gw_bind (gw_onRaise (gw_mono h (fun f s' h' => ?_))))))
  cases f <;> exact wpG_pure h'
theorem codeG_call_function {R : Result → Shared → Prop} {a : Addr} {args : Args} {o : Obj} {fd : FuncData} {body : List Stmt} (hroom : A.depth < recursionLimit) (ho : s.heap.get? a = some o)
    (hd' : o.data = .func fd) (hco : fd.scope.isCoroutine = false) (hgen : fd.scope.isGenerator = false) (hbody : fd.body = .stmts body) (hcd : s.heap.CodeRec fd.code fd.qualname)
    (h : wpAny (model prog w) A.in1 (bindArgs fd args) (fun binds s₁ =>
      wpAny (model prog w) A.in1 (newFunctionEnv fd.scope fd.globals fd.closure binds (fd.qualname ++ ".<locals>.") (some a) fd.code none fd.builtins)
        (fun env s₂ => s₂.heap.NoLimit ∧ codeG (model prog w) A (.func body env) R s₂) (fun e s' => R (.error e) s') s₁) (fun e s' => R (.error e) s') s) :
    codeG (model prog w) A (.call (.ref a) args) R s := by
  refine codeG_of_tree (wpG_any ?_)
  show wpAny _ A.in1 (callAny (.ref a) args) _ _ s
  simp only [callAny]
  refine wpAny_bind (wpAny_load ho ?_)
  obtain ⟨c, oc, vs, tq, hc, hoc, hdc, hq⟩ := hcd
  simp only [hd', callFunction, hco, hgen, hbody, hc]
  rw [hc] at h
  refine wpAny_bind (m := field (.ref c) 1) (wpAny_field hoc hdc hq (wpAny_bind (wpAny_pure ?_)))
  exact wpAny_bind (wpAny_mono h (fun binds s₁ h₁ => wpAny_bind (wpAny_mono h₁ (fun env s₂ h₂ => wpAny_bind (wpAny_enterFrame h₂.1 hroom
    (wpAny_pure ⟨rfl, rfl, h₂.2⟩))) fun _ _ h' => h')) fun _ _ h' => h')
end
section
variable {prog : Program} {w : World} {A A₀ : Around} {s : Shared} {base h₀ : Heap} {outer : List Env} {env : Env} {L : Addr} {m : S → Option Value} {news : List Ob}
  {R : Result → Shared → Prop} {name qual : S} {params : Arguments} {body : List Stmt} {scope : PySem.Scope} {cl : List (S × Addr)} {dV kV doc pm cdv ct : Value} {an : Option Addr} {fo : Obj} {f : Addr} {args : Args} {binds : List (S × Value)}
theorem rawG_plain (B : Below A₀ base outer h₀) (F : Fr h₀ L s.heap m) (N : News h₀ L s.heap news) (hlim : h₀.NoLimit) (hA : A.frames = some (env :: outer)) (hf : env.frame = some L) (hke : env.scope.kind = .function)
    (ho : s.heap.get? f = some fo) (hd : fo.data = .func (fnX name qual params body scope cl dV kV doc pm an cdv ct)) (hcd : s.heap.CodeRec cdv qual) (hroom : A.depth < recursionLimit)
    (hbind : BindsTo s (fnX name qual params body scope cl dV kV doc pm an cdv ct) args binds) (hloc : ∀ y ∈ binds, scope.names.lookup y.1 = some .local)
    (h : ∀ g L' h₁, Fr h₀ L g m → Fr g L' h₁ (fun y => binds.reverse.lookup y) → News g L' h₁ news → Below A base (env :: outer) g → h₀.StaysIn g → (∀ p ∈ news, p.1 < L') →
      gw (model prog w) (A.deeper (envX qual scope L' f cdv cl)) (execs body (envX qual scope L' f cdv cl))
        (fun fl s' => R (.ok (.ret (match fl with | .ret v => v | _ => .none))) s') { s with heap := h₁, toks := s.toks + binds.length })
    (hcell : ∀ x ∈ scope.names, x.2 ≠ .cell) (hco : scope.isCoroutine = false) (hgen : scope.isGenerator = false) (hk : scope.kind = .function) : codeG (model prog w) A (.call (.ref f) args) R s := by
  obtain ⟨FG, BG, st, lv⟩ := groundX (R := R) B F N hA hf hke
  refine codeG_call_function hroom ho hd hco hgen rfl hcd (hbind _ _ _ _ ?_)
  refine wpAny_newFunctionEnv hcell hloc (fun h₁ hns hsb => ⟨(hlim.keeps F.keep).fresh _ hsb, codeG_func ?_⟩) hk
  have hk₁ : ∀ b o, s.heap.get? b = some o → h₁.get? b = some o := fun b o e => hsb.extBut b o (Nat.ne_of_lt (Heap.lt_size e)) (Heap.get?_push_of_some _ e)
  exact h _ s.heap.objs.size h₁ FG ⟨hns, fun b o e => hk₁ b o (of_hideAll _ e), Nat.le_of_eq (hideAll_size _ _)⟩
    (fun p hp => ⟨hk₁ _ _ (N p hp).1, Nat.ne_of_lt (Heap.lt_size (N p hp).1), hideAll_none _ (List.mem_map_of_mem hp)⟩) BG st (fun p hp => Heap.lt_size (N p hp).1)
theorem rawG_cells (B : Below A₀ base outer h₀) (F : Fr h₀ L s.heap m) (N : News h₀ L s.heap news) (hlim : h₀.NoLimit) (hA : A.frames = some (env :: outer)) (hf : env.frame = some L) (hke : env.scope.kind = .function)
    (ho : s.heap.get? f = some fo) (hd : fo.data = .func (fnX name qual params body scope [] dV kV doc pm an cdv ct)) (hcd : s.heap.CodeRec cdv qual) (hroom : A.depth < recursionLimit)
    (hbind : BindsTo s (fnX name qual params body scope [] dV kV doc pm an cdv ct) args binds)
    (hkind : ∀ n, ∀ x ∈ binds, scope.names.lookup x.1 = some .local ∨ (scope.names.lookup x.1 = some .cell ∧ ((cellsFrom n scope.names []).lookup x.1).isSome = true))
    (hnd : ((cellsFrom 0 scope.names []).map (·.1)).Nodup)
    (h : ∀ g L' h₁ tk cells, Fr h₀ L g m → Fr g L' h₁ (bindL (envOfC qual scope L' f cdv).kindOf binds fun _ => none) → News g L' h₁ (cells ++ news) →
      CellsAre (bindC (envOfC qual scope L' f cdv).kindOf binds fun _ => none) (cellsFrom (L' + 1) scope.names []) cells → Below A base (env :: outer) g → h₀.StaysIn g → (∀ p ∈ news, p.1 < L') →
      gw (model prog w) (A.deeper (envOfC qual scope L' f cdv)) (execs body (envOfC qual scope L' f cdv))
        (fun fl s' => R (.ok (.ret (match fl with | .ret v => v | _ => .none))) s') { s with heap := h₁, toks := tk })
    (hco : scope.isCoroutine = false) (hgen : scope.isGenerator = false) (hk : scope.kind = .function) : codeG (model prog w) A (.call (.ref f) args) R s := by
  obtain ⟨FG, BG, st, lv⟩ := groundX (R := R) B F N hA hf hke
  refine codeG_call_function hroom ho hd hco hgen rfl hcd (hbind _ _ _ _ ?_)
  refine wpAny_newFunctionEnv_cells hk (hkind _) fun env' he s' x => ?_
  subst he
  refine ⟨(hlim.keeps F.keep).keeps x.toInCall.keep, codeG_func ?_⟩
  obtain ⟨h₁, tk, rfl, _⟩ := x.done
  have hk₁ := x.toInCall.keep
  obtain ⟨cells, NC, Y⟩ := Cl.news (h₀ := s.heap) (Nat.le_refl _) fun n c hm => ⟨x.cell n c (lookup_of_mem_nodup (cellsFrom_names scope.names 0 (s.heap.objs.size + 1) [] [] rfl ▸ hnd) hm), x.above n c hm⟩
  refine h _ s.heap.objs.size h₁ tk cells FG ⟨x.toInCall.ns, fun b o e => hk₁ b o (of_hideAll _ e), Nat.le_of_eq (hideAll_size _ _)⟩ (fun p hp => ?_) Y BG st (fun p hp => Heap.lt_size (N p hp).1)
  rcases List.mem_append.mp hp with hp | hp
  · refine ⟨(NC p hp).1, (NC p hp).2.1, ?_⟩
    cases q : (hideAll s.heap (news.map (·.1))).get? p.1 with
    | none => rfl
    | some o => have := of_hideAll _ q; rw [(NC p hp).2.2] at this; cases this
  · exact ⟨hk₁ _ _ (N p hp).1, Nat.ne_of_lt (Heap.lt_size (N p hp).1), hideAll_none _ (List.mem_map_of_mem hp)⟩
end
/-- a call upon a good stack; the outer frames may have been marked -/
noncomputable def ConG (w : World) (f : Value) (n : Nat) (vs : List Value) (news : List Ob) (P : Value → List Ob → Prop) : Prop :=
  ∀ (A : Around) (base : Heap) (outer : List Env) (env : Env) (L : Addr) (h₀ h : Heap) (t : Nat) (m : S → Option Value) (σ : Shared) (R : Result → Shared → Prop),
    Site w n A base outer env L h₀ → Fr h₀ L h m → Led h₀ L h news →
    (∀ r news' h₁ h t, KtsTurn (outer.filterMap (·.frame)) h₀ h₁ → P r news' → Fr h₁ L h m → Led h₁ L h news' → R (.ok (.ret r)) (st σ h t)) →
    codeG (model PW w) A (.call f ⟨vs, []⟩) R (st σ h t)
theorem ConG.use {w : World} {f : Value} {n k : Nat} {vs : List Value} {news : List Ob} {P : Value → List Ob → Prop} {A : Around} {base : Heap} {outer : List Env} {env : Env} {L : Addr} {h₀ h : Heap} {t : Nat} {m : S → Option Value} {σ : Shared} {Q : Value → Shared → Prop}
    (C : ConG w f k vs news P) (Z : Site w n A base outer env L h₀) (F : Fr h₀ L h m) (N : Led h₀ L h news) (hk : k ≤ n)
    (H : ∀ r news' h₁ h t, KtsTurn (outer.filterMap (·.frame)) h₀ h₁ → Site w n A base outer env L h₁ → P r news' → Fr h₁ L h m → Led h₁ L h news' → Q r (st σ h t)) : gw (model PW w) A (call f vs []) Q (st σ h t) :=
  gw_call (C _ _ _ _ _ _ _ _ _ _ _ (Z.le hk) F N fun r news' h₁ h t T => H r news' h₁ h t T (Z.turn T))
section
variable {w : World} {n : Nat} {f : Addr} {args : List Value} {news : List Ob} {P : Value → List Ob → Prop} {name qual : S} {params : Arguments} {body : List Stmt} {scope : PySem.Scope} {cl : List (S × Addr)} {dV kV doc pm cdv ct oc : Value} {an od : Option Addr} {osl : Array (Option Value)} {binds bs : List (S × Value)}
theorem enterG (ho : (hd.heap_1 w.params).lookup f = some ⟨oc, od, .func (fnOf name qual params body scope dV kV doc pm an cdv ct), osl⟩) (hcd : codeIn (hd.heap_1 w.params) cdv qual = true)
    (hbind : ∀ s : Shared, (hd.heap_1 w.params).In s.heap → BindsTo s (fnOf name qual params body scope dV kV doc pm an cdv ct) ⟨args, []⟩ binds) (hbs : binds.reverse = bs)
    (hloc : (binds.all fun x => decide (scope.names.lookup x.1 = some .local)) = true) (hco : scope.isCoroutine = false) (hgen : scope.isGenerator = false) (hk : scope.kind = .function) (hcell : ∀ x ∈ scope.names, x.2 ≠ .cell)
    (H : ∀ (A : Around) (base : Heap) (outer : List Env) (g : Heap) (L : Addr) (σ : Shared) (h : Heap) (t : Nat), Site w n A base outer (envX qual scope L f cdv []) L g → Fr g L h (lk bs) → Led g L h news →
      gw (model PW w) A (execs body (envX qual scope L f cdv [])) (RetS g (outer.filterMap (·.frame)) L σ P) (st σ h t)) : ConG w (.ref f) (n + 1) args news P := by
  intro A base outer env L h₀ h t m σ R x F N hQ
  obtain ⟨p, loose, mean, mg, mb, T, TB⟩ := x.T
  obtain ⟨A₀, B⟩ := x.B
  have XS := x.X.keeps F.keep
  refine rawG_plain (s := st σ h t) (cl := []) B F N.n T.nolimit x.fr x.lf x.kf (XS _ _ ho) rfl (codeRec_of XS hcd) (by have := x.dp; exact Nat.lt_of_add_right_lt this) (hbind _ XS) (locs hloc) (fun g L' h₁ FG F' N' B' st lt => ?_) hcell hco hgen hk
  refine gw_mono (H _ _ _ g L' σ h₁ _ (x.push (h := h₁) (h₁ := h₁) B' st FG hk) (by rw [show (lk bs) = fun y => binds.reverse.lookup y from by rw [hbs]; rfl]; exact F') ⟨N', N.d⟩) (fun fl s' hr => ?_)
  obtain ⟨g', m', news', h', tk', rfl, T', F2, N2, hp⟩ := hr
  obtain ⟨h₂, T₂, F3, N3⟩ := turn_back B FG x.lf T' F2 N2
  cases fl <;> exact hQ _ news' h₂ h' tk' T₂ hp F3 N3
theorem enterCG (ho : (hd.heap_1 w.params).lookup f = some ⟨oc, od, .func (fnX name qual params body scope [] dV kV doc pm an cdv ct), osl⟩) (hcd : codeIn (hd.heap_1 w.params) cdv qual = true)
    (hbind : ∀ s : Shared, (hd.heap_1 w.params).In s.heap → BindsTo s (fnX name qual params body scope [] dV kV doc pm an cdv ct) ⟨args, []⟩ binds)
    (hkd : ∀ n, ∀ x ∈ binds, scope.names.lookup x.1 = some .local ∨ (scope.names.lookup x.1 = some .cell ∧ ((cellsFrom n scope.names []).lookup x.1).isSome = true)) (hnd : ((cellsFrom 0 scope.names []).map (·.1)).Nodup)
    (hcs : ∀ L : Nat, ((cellsFrom (L + 1) scope.names []).map (·.2)).Nodup ∧ ∀ c ∈ (cellsFrom (L + 1) scope.names []).map (·.2), L < c)
    (hbs : ∀ L, blL (envOfC qual scope L f cdv).kindOf binds [] = bs) (hco : scope.isCoroutine = false) (hgen : scope.isGenerator = false) (hk : scope.kind = .function)
    (H : ∀ (A : Around) (base : Heap) (outer : List Env) (g : Heap) (L : Addr) (σ : Shared) (h : Heap) (t : Nat) (cells : List Ob), Site w n A base outer (envX qual scope L f cdv (cellsFrom (L + 1) scope.names [])) L g → Fr g L h (lk bs) →
      CellsAre (bindC (envOfC qual scope L f cdv).kindOf binds fun _ => none) (cellsFrom (L + 1) scope.names []) cells → Led g L h (cells ++ news) →
      gw (model PW w) A (execs body (envX qual scope L f cdv (cellsFrom (L + 1) scope.names []))) (RetS g (outer.filterMap (·.frame)) L σ P) (st σ h t)) : ConG w (.ref f) (n + 1) args news P := by
  intro A base outer env L h₀ h t m σ R x F N hQ
  obtain ⟨p, loose, mean, mg, mb, T, TB⟩ := x.T
  obtain ⟨A₀, B⟩ := x.B
  have XS := x.X.keeps F.keep
  refine rawG_cells (s := st σ h t) B F N.n T.nolimit x.fr x.lf x.kf (XS _ _ ho) rfl (codeRec_of XS hcd) (by have := x.dp; exact Nat.lt_of_add_right_lt this) (hbind _ XS) hkd hnd (fun g L' h₁ tk cells FG F' N' hc B' st lt => ?_) hco hgen hk
  have NL : Led g L' h₁ (cells ++ news) := ⟨N', by
    rw [List.map_append, List.nodup_append]
    refine ⟨by rw [cells_lt hc]; exact (hcs L').1, N.d, fun a ha b hb e => ?_⟩
    obtain ⟨p, hp, rfl⟩ := List.mem_map.mp hb
    rw [cells_lt hc] at ha
    have h1 : L' < a := (hcs L').2 a ha
    have h2 : p.1 < L' := lt p hp
    have h3 : a = p.1 := e
    rw [h3] at h1; exact absurd h1 (Nat.not_lt.mpr (Nat.le_of_lt h2))⟩
  refine gw_mono (H _ _ _ g L' σ h₁ tk cells (x.push (h := h₁) (h₁ := h₁) B' st FG hk) (by rw [show (lk bs) = bindL _ binds (fun _ => none) from by rw [← hbs L']; exact (bindL_lk _ binds []).symm]; exact F') hc NL) (fun fl s' hr => ?_)
  obtain ⟨g', m', news', h', tk', rfl, T', F2, N2, hp⟩ := hr
  obtain ⟨h₂, T₂, F3, N3⟩ := turn_back B FG x.lf T' F2 N2
  cases fl <;> exact hQ _ news' h₂ h' tk' T₂ hp F3 N3
end
end Og
end

-- Og24
section
open PySem PySem.W PyProof.Rows PySem.Calls
open PySem.Sem (wp)
set_option maxRecDepth 100000
set_option Elab.async false
set_option linter.unusedVariables false
set_option maxHeartbeats 1000000
namespace Og
local macro_rules | `(tactic| wp_walk) => return Og.tacWW
section
variable {prog : Program} {w : World} {A : Around} {s : Shared} {R : Result → Shared → Prop}
theorem codeG_builtin {id : String} {args : Args} {b : Builtin} (hb : entryFor table id = some b)
    (h : wpG (model prog w) (A.under (.builtin id args)) (b args) (fun fin s' => match fin with | .done f => R (.ok f) s' | .again c' => c'.quiet = true ∧ okCode c' = true ∧ codeG (model prog w) A c' R s') (fun e s' => R (.error e) s') s) :
    codeG (model prog w) A (.builtin id args) R s := by
  refine codeG_of_tree ?_
  show wpG _ _ (match entryFor table id with | some b => b args | none => unsupported ((withoutEnding? id "#data").getD id)) _ _ s
  rw [hb]; exact h
theorem codeG_call_builtin {id : String} {args : Args} {b : Builtin} (hq : (Code.builtin id args).quiet = true) (ok : okCode (.builtin id args) = true) (hb : entryFor table id = some b)
    (h : wpAny (model prog w) A.in1 (checkBuiltinCall id args) (fun _ s₁ => wpG (model prog w) (A.under (.builtin id args)) (b args)
      (fun fin s' => match fin with | .done f => R (.ok f) s' | .again c' => c'.quiet = true ∧ okCode c' = true ∧ codeG (model prog w) A c' R s') (fun e s' => R (.error e) s') s₁) (fun e s' => R (.error e) s') s) : codeG (model prog w) A (.call (.builtin id) args) R s := by
  refine codeG_of_tree (wpG_any ?_)
  show wpAny _ A.in1 (do checkBuiltinCall id args; again (.builtin id args)) _ _ s
  exact wpAny_bind (wpAny_mono h (fun _ s₁ h₁ => wpAny_pure ⟨hq, ok, codeG_builtin hb h₁⟩) fun _ _ h' => h')
end
section
variable {prog : Program} {w : World} {A : Around} {E : Value → Shared → Prop} {s : Shared}
theorem code_ba_new (a : Value) {Q₁ : Value → Shared → Prop} (h : Q₁ (.ref s.heap.objs.size) { s with heap := s.heap.push (baO #[]) }) :
    codeAny (model prog w) A (.call (.builtin "bytearray.__new__") ⟨[.type "bytearray", a], []⟩) (wants Q₁ E) s := by
  refine codeAny_of_tree ?_
  show wpAny _ A.in1 (do checkBuiltinCall "bytearray.__new__" ⟨[.type "bytearray", a], []⟩; again (.builtin "bytearray.__new__" ⟨[.type "bytearray", a], []⟩)) _ _ s
  refine wpAny_bind (wpAny_of_eq (ba_newCall a) (wpAny_pure ⟨plainId_quiet ba_plain_new _, codeAny_builtin_stack ba_entry_new rfl fun p st => ?_⟩))
  rw [Around.under_plainId ba_plain_new _]
  have hsub := ba_sub
  have hown := ba_owner_new
  obtain ⟨hp, g, d, tk, os⟩ := s
  simp only [hown]
  wp_walk
  exact h
theorem ba_bind (v : Value) : Builtin.Bytes.bindOptional "bytearray.__init__" "bytearray" ["source", "encoding", "errors"] [v] [] = pure [some v, none, none] := by kernel_rfl
theorem bytes_no_index : typeLookup (.type "bytes") "__index__" = pure none := by rw [typeLookup_type, builtinLookup_eq_fast]; kernel_rfl
theorem bytes_buf (b : Array UInt8) (tb : Tok) : Builtin.Bytes.buffer? "bytearray.__init__" (.bytes b tb) true = pure (some b) := by
  unfold Builtin.Bytes.buffer?
  kernel_rfl
theorem ba_write {M : Addr} {b0 : Array UInt8} {f : Array UInt8 → Array UInt8} {Q : Unit → Shared → Prop} (hM : s.heap.get? M = some (baO b0)) (hz : (f b0).size ≤ sizeLine) (H : ∀ h', h'.get? M = some (baO (f b0)) → (∀ a o, a ≠ M → s.heap.get? a = some o → h'.get? a = some o) → Q () { s with heap := h' }) :
    wpAny (model prog w) A (Builtin.Bytes.write (.ref M) f) Q E s := by
  show wpAny _ _ (updateBytearray M f) _ _ _
  unfold updateBytearray
  refine wpAny_bind (wpAny_load hM ?_)
  dsimp only
  have e : (s.heap.update M (Obj.mapBytearray f)).get? M = some (baO (f b0)) := by rw [Heap.get?_update_self _ hM rfl]; rfl
  refine wpAny_bind (wpAny_update' hM ?_)
  refine wpAny_lookBehind e ?_ ?_
  · show (if (f b0).size > sizeLine then some "bytearray:memory" else none) = none
    rw [if_neg (Nat.not_lt.mpr hz)]
  · exact H _ e fun a o ha ho => by rw [Heap.get?_update_other _ _ (Ne.symm ha)]; exact ho
theorem ba_args_init (a b : Value) : argsOk "bytearray.__init__" ⟨[a, b], []⟩ := by
  unfold argsOk; rw [signature?_of (id := "bytearray.__init__") (n := ['_', '_', 't', 'i', 'n', 'i', '_', '_']) (o := ['y', 'a', 'r', 'r', 'a', 'e', 't', 'y', 'b']) (by kernel_rfl) ba_owner]; kernel_rfl
theorem gw_special {M : Model} {T id : String} {name : S} {v : Value} {args : List Value} {Q : Option Value → Shared → Prop} (slot : Slot T name id) (hT : s.TypeIs v T) (h : gw M A (call (.builtin id) (v :: args) []) (fun r s' => Q (some r) s') s) : gw M A (callSpecial? v name args []) Q s := by
  unfold callSpecial?
  refine gw_bindA (wpAny_specialOf hT slot.lookup ?_)
  refine wpG_holding (gw_bindA (wpAny_of_eq (slot.bind v) ?_))
  exact gw_bind (gw_mono h fun r s' hq => wpG_pure hq)
theorem gw_no {α : Type} {M : Model} {c : Prop} [Decidable c] {x y : Sem α} {Q : α → Shared → Prop} (hc : ¬ c) (h : gw M A y Q s) : gw M A (if c then x else y) Q s := by rw [if_neg hc]; exact h
theorem gw_yes {α : Type} {M : Model} {c : Prop} [Decidable c] {x y : Sem α} {Q : α → Shared → Prop} (hc : c) (h : gw M A x Q s) : gw M A (if c then x else y) Q s := by rw [if_pos hc]; exact h
theorem ba_init {M : Addr} {b b0 : Array UInt8} {tb : Tok} {Q : PySem.Fin → Shared → Prop} (hM : s.heap.get? M = some (baO b0)) (hz : b.size ≤ sizeLine) (H : ∀ h', h'.get? M = some (baO b) → (∀ a o, a ≠ M → s.heap.get? a = some o → h'.get? a = some o) → Q (.done (.ret .none)) { s with heap := h' }) :
    gw (model prog w) A (Builtin.«bytearray.__init__» ⟨[.ref M, .bytes b tb], []⟩) Q s := by
  have hT : s.TypeIs (.ref M) "bytearray" := ⟨_, hM, rfl⟩
  unfold Builtin.«bytearray.__init__»
  refine gw_bindA ?_
  unfold Builtin.Bytes.ownRelease
  refine wpAny_bind (ba_own hT ba_release (by decide +kernel) (by decide +kernel) (wpAny_pure ?_))
  show gw _ _ (Builtin.Bytes.bindOptional _ _ _ _ _ >>= _) _ _
  refine gw_bindA (wpAny_of_eq (ba_bind (.bytes b tb)) ?_)
  show gw _ _ (Builtin.Bytes.checkCodecArg _ _ _ _ >>= _) _ _
  refine gw_bindA (wpAny_of_eq (a := ()) rfl ?_)
  show gw _ _ (Builtin.Bytes.checkCodecArg _ _ _ _ >>= _) _ _
  refine gw_bindA (wpAny_of_eq (a := ()) rfl ?_)
  refine gw_bind ?_
  show gw _ _ (Builtin.Bytes.exported (.ref M) >>= fun b => match toBool b with | true => pure b | false => (Builtin.Bytes.exportsOf (.ref M) >>= fun n => pure (decide (n > 0)))) _ _
  refine gw_bind (wpG_exported ?_)
  show gw _ _ (Builtin.Bytes.exportsOf (.ref M) >>= fun n => pure (decide (n > 0))) _ _
  refine gw_any ?_
  unfold Builtin.Bytes.exportsOf
  refine wpAny_bind (wpAny_bind (wpAny_load hM (wpAny_pure (wpAny_pure ?_))))
  rw [if_neg (by decide)]
  refine gw_any ?_
  have f1 := bytes_no_index
  refine wpAny_bind (ba_write hM (by show 0 ≤ sizeLine; exact Nat.zero_le _) fun h1 e1 k1 => ?_)
  refine wpAny_bind (wpAny_of_eq (a := none) (show asStr? (.bytes b tb) = pure none from rfl) ?_)
  rw [if_neg (by decide)]
  refine wpAny_bind (wpAny_of_eq (a := ()) rfl ?_)
  refine wpAny_bind (wpAny_of_eq (a := none) (show specialOf (.bytes b tb) "__index__" = pure none from f1) ?_)
  rw [if_neg (by decide)]
  refine wpAny_bind (wpAny_of_eq (a := some b) (bytes_buf b tb) ?_)
  refine wpAny_bind (wpAny_rule (wpAny_bind (ba_write (s := { s with heap := h1 }) e1 hz fun h2 e2 k2 => ?_)))
  exact wpAny_pure (H h2 e2 fun a o ha ho => k2 a o ha (k1 a o ha ho))
end
section
variable {w : World} {n : Nat} {A : Around} {base h₀ h : Heap} {outer : List Env} {L M : Addr} {σ : Shared} {t : Nat} {m : S → Option Value} {news : List Ob} {E : Value → Shared → Prop} {env : Env} {Q : Value → Shared → Prop} {b : Array UInt8} {tb : Tok}
theorem Led.reput {h' : Heap} {a : Addr} {o o' : Obj} (N : Led h₀ L h ((a, o) :: news)) (k : Heap.ExtBut a h h') (e : h'.get? a = some o') : Led h₀ L h' ((a, o') :: news) :=
  ⟨fun p hp => by
    rcases List.mem_cons.mp hp with rfl | hp
    · exact ⟨e, N.neL, N.no⟩
    · exact (N.but k).n p hp, N.d⟩
theorem baG (F : Fr h₀ L h m) (N : Led h₀ L h news) (hz : b.size ≤ sizeLine) (H : ∀ M h, Fr h₀ L h m → Led h₀ L h ((M, baO b) :: news) → Q (.ref M) (st σ h t)) : gw (model PW w) A (call (.type "bytearray") [.bytes b tb] []) Q (st σ h t) := by
  have ft := ba_called
  obtain ⟨c, tl, hmro⟩ := ft.mro
  have hmade := ft.made
  have hsub := ft.sub
  refine gw_call (codeG_of_tree ?_)
  show wpG _ _ (callAny (.type "bytearray") _) _ _ _
  refine wpG_any (wpAny_pure ⟨Code.quiet_builtin _ (by decide +kernel), rfl, codeG_builtin PySem.F.entry_type_call ?_⟩)
  have h1 := ft.notType
  have h2 := ft.canCreate
  have h3 := ba_typeCall (.bytes b tb)
  unfold Builtin.«type.__call__»
  simp only [h1, h2, h3, hmro, hmade, pure_bind, Bool.false_eq_true, if_false, List.isEmpty_cons, Bool.not_false]
  refine wpG_bindA (wpAny_holding (wpAny_call (codeAny_mono (code_ba_new (E := fun _ _ => False) (Q₁ := fun v s' => v = .ref h.objs.size ∧ s' = st σ (h.push (baO #[])) t) (.bytes b tb) ⟨rfl, rfl⟩) fun r s' hr => ?_)))
  rcases r with e | (v | _ | _ | _) <;> first | exact hr.elim | skip
  obtain ⟨rfl, rfl⟩ := hr
  have F1 := F.push (baO #[])
  have N1 := Led.new F N (baO #[]) rfl
  have hT : (st σ (h.push (baO #[])) t).TypeIs (.ref h.objs.size) "bytearray" := ⟨_, N1.get (.head _), rfl⟩
  refine wpG_bindA (wpAny_isInstance hT hsub ?_)
  rw [if_neg (by decide)]
  refine wpG_bind (wpG_holding (gw_special ft.init hT (gw_call (codeG_call_builtin (plainId_quiet ft.init.plain _) rfl ba_entry_init (ft.init.check _ _ _ _ _ _ _ _ hT (ba_args_init _ _) ?_)))))
  refine gw_up (ba_init (s := st σ (h.push (baO #[])) t) (N1.get (.head _)) hz fun h' e k => ?_)
  have kk : Heap.ExtBut h.objs.size (h.push (baO #[])) h' := fun b o hb e => k b o hb e
  exact wpG_pure (H h.objs.size h' (N1.frBut F1 kk) (N1.reput kk e))
theorem bytes_no_int : typeLookup (.type "bytes") "__int__" = pure none := by rw [typeLookup_type, builtinLookup_eq_fast]; kernel_rfl
theorem bytes_no_float : typeLookup (.type "bytes") "__float__" = pure none := by rw [typeLookup_type, builtinLookup_eq_fast]; kernel_rfl
theorem bytes_sub_ba : isSubtype (.type "bytes") (.type "bytearray") = pure false := by rw [isSubtype_type]; kernel_rfl
theorem bytes_sub_cx : isSubtype (.type "bytes") (.type "complex") = pure false := by rw [isSubtype_type]; kernel_rfl
theorem ba_parts {prog : Program} {A : Around} {E : Value → Shared → Prop} {s : Shared} {a : Addr} {i j : Int} {t1 t2 : Tok} {Q : Value × Value × Value → Shared → Prop} (hs : s.heap.get? a = some { cls := .type "slice", data := .fields #[.int i t1, .int j t2, .none] }) (H : Q (rawPart (some i), rawPart (some j), rawPart none) s) :
    wpAny (model prog w) A (Builtin.Bytes.sliceParts (.ref a)) Q E s := by
  unfold Builtin.Bytes.sliceParts
  refine wpAny_bind (wpAny_field (x := .none) hs rfl rfl ?_)
  kby_none
  refine wpAny_ite (KBy.ite_no (show ¬ ((Value.none == rawInt 0) = true) from Bool.false_ne_true) ?_)
  refine wpAny_bind (wpAny_field (x := .int i t1) hs rfl rfl ?_)
  refine wpAny_bind (wpAny_ite (KBy.ite_no (show ¬ ((Value.int _ _ == Value.none) = true) from Bool.false_ne_true) ?_))
  refine wpAny_bind (wpAny_specialOf (T := "int") (typeIs_int _ _ _) PySem.F.slot_int_index.lookup ?_)
  refine wpAny_ite (KBy.ite_no (show ¬ (Option.isNone (some _) = true) from Bool.false_ne_true) ?_)
  refine wpAny_bind (wpAny_of_eq rfl (wpAny_pure ?_))
  refine wpAny_bind (wpAny_field (x := .int j t2) hs rfl rfl ?_)
  refine wpAny_bind (wpAny_ite (KBy.ite_no (show ¬ ((Value.int _ _ == Value.none) = true) from Bool.false_ne_true) ?_))
  refine wpAny_bind (wpAny_specialOf (T := "int") (typeIs_int _ _ _) PySem.F.slot_int_index.lookup ?_)
  refine wpAny_ite (KBy.ite_no (show ¬ (Option.isNone (some _) = true) from Bool.false_ne_true) ?_)
  refine wpAny_bind (wpAny_of_eq rfl (wpAny_pure ?_))
  exact wpAny_pure H
theorem orM_false {M : Model} {A : Around} {E : Value → Shared → Prop} {s : Shared} {x y : Sem Bool} {Q : Bool → Shared → Prop} (hx : wpAny M A x (fun b s' => b = false ∧ wpAny M A y Q E s') E s) : wpAny M A (x <||> y) Q E s :=
  wpAny_bind (wpAny_mono hx (fun b s' h => by obtain ⟨rfl, h⟩ := h; exact h) fun _ _ e => e)
theorem has_none {M : Model} {A : Around} {E : Value → Shared → Prop} {s : Shared} {tb : Tok} {b : Array UInt8} {name : S} {Q : Bool → Shared → Prop} (hl : typeLookup (.type "bytes") name = pure none) (H : Q false s) : wpAny M A (do return (← specialOf (.bytes b tb) name).isSome) Q E s :=
  wpAny_bind (wpAny_of_eq (a := none) (show specialOf (.bytes b tb) name = pure none from hl) (wpAny_pure H))
theorem ba_store {a : Addr} {i j : Int} {c : Array UInt8} {Q : PySem.Fin → Shared → Prop} (F : Fr h₀ L h m) (N : Led h₀ L h ((M, baO c) :: news)) (hz : b.size ≤ sizeLine)
    {t1 t2 : Tok} (hsm : (a, ({ cls := .type "slice", data := .fields #[.int i t1, .int j t2, .none] } : Obj)) ∈ news) (hsb : sliceBounds (some i) (some j) none c.size = (i, j, 1)) (hij : i ≤ j) (hlen : (b.size : Int) = j - i) (hcz : (c.extract 0 i.toNat ++ b ++ c.extract (max i j).toNat c.size).size ≤ sizeLine)
    (H : ∀ h, Fr h₀ L h m → Led h₀ L h ((M, baO (c.extract 0 i.toNat ++ b ++ c.extract (max i j).toNat c.size)) :: news) → Q (.done (.ret .none)) (st σ h t)) : gw (model PW w) A (Builtin.«bytearray.__setitem__» ⟨[.ref M, .ref a, .bytes b tb], []⟩) Q (st σ h t) := by
  have hT : (st σ h t).TypeIs (.ref M) "bytearray" := ⟨_, N.get (.head _), rfl⟩
  have hs := N.get (.tail _ hsm)
  have hTs : (st σ h t).TypeIs (.ref a) "slice" := ⟨_, hs, rfl⟩
  unfold Builtin.«bytearray.__setitem__»
  show gw _ _ (Builtin.Bytes.subscript? _ >>= _) _ _
  refine gw_bindA ?_
  unfold Builtin.Bytes.subscript?
  refine wpAny_bind (wpAny_specialOf hTs slice_no_index (wpAny_pure ?_))
  refine gw_bindA (wpAny_typeOf hTs ?_)
  refine gw_no (by decide) ?_
  refine gw_bindA (ba_parts hs ?_)
  refine gw_no (by show ¬ (false = true); decide) ?_
  refine gw_bindA (wpAny_isInstance (PySem.W.typeIs_bytes _ b tb) bytes_sub_ba ?_)
  refine gw_yes (by decide) ?_
  refine gw_bindA ?_
  with_reducible refine orM_false ?_
  with_reducible refine has_none bytes_no_index ⟨rfl, ?_⟩
  with_reducible refine orM_false ?_
  with_reducible refine has_none bytes_no_int ⟨rfl, ?_⟩
  with_reducible refine orM_false ?_
  with_reducible refine has_none bytes_no_float ⟨rfl, ?_⟩
  refine wpAny_isInstance (PySem.W.typeIs_bytes _ b tb) bytes_sub_cx ?_
  refine gw_bindA (wpAny_of_eq (a := none) (show asStr? (.bytes b tb) = pure none from rfl) ?_)
  refine gw_no (by decide) ?_
  refine gw_bindA (wpAny_rule ?_)
  refine gw_bind (baG F N hz fun M2 h F N => ?_)
  refine gw_bindA (wpAny_holding (ba_parts (N.get (.tail _ (.tail _ hsm))) ?_))
  have hM2 := N.get (.head _)
  have hM := N.get (.tail _ (.head _))
  refine gw_bindA (wpAny_bind (m := Builtin.Bytes.payload? (.ref M2)) (wpAny_bind (wpAny_load hM2 (wpAny_pure (wpAny_pure ?_)))))
  refine gw_bindA (wpAny_bind (m := Builtin.Bytes.payload? (.ref M)) (wpAny_bind (wpAny_load hM (wpAny_pure (wpAny_pure ?_)))))
  refine gw_bindA (wpAny_of_eq (sliceIndices_raw (some i) (some j) none c.size (fun e => nomatch e)) ?_)
  rw [hsb]
  dsimp only
  refine gw_yes (by decide) ?_
  refine gw_bindA (wpAny_rule ?_)
  refine gw_no (by rw [hlen, show max i j = j by exact Int.max_eq_right hij]; simp) ?_
  refine gw_any ?_
  refine wpAny_bind (ba_write hM hcz fun h' e k => ?_)
  have kk : Heap.ExtBut M h h' := fun b o hb e => k b o hb e
  have NM : Led h₀ L h ((M, baO c) :: (M2, baO b) :: news) := N.perm (List.Perm.swap _ _ _)
  exact wpAny_pure (H h' (NM.frBut F kk) ((NM.reput kk e).sub (.cons_cons _ (List.sublist_cons_self _ _))))
theorem slice_bounds {off sz : Int} {n : Nat} (h0 : 0 ≤ off) (h1 : 0 ≤ sz) (hfit : off + sz ≤ n) : sliceBounds (some off) (some (off + sz)) none n = (off, off + sz, 1) := by
  have h2 := Int.add_nonneg h0 h1
  have h3 : off ≤ n := Int.le_trans (Int.le_add_of_nonneg_right h1) hfit
  have e1 : ¬ off < 0 := Int.not_lt.mpr h0
  have e2 : ¬ (off + sz) < 0 := Int.not_lt.mpr h2
  simp only [sliceBounds, Option.getD_none, e1, e2, if_false, show ((1 : Int) > 0) = True from by simp, if_true]
  rw [Int.min_eq_left h3, Int.max_eq_right h0, Int.min_eq_left hfit, Int.max_eq_right h2]
/-- a slice of a bytearray is laid anew, as long as it was -/
theorem storeG {ks vs : List Int} {off sz : Int} {Q : Unit → Shared → Prop} {c : Array UInt8} (F : Fr h₀ L h m) (N : Led h₀ L h ((M, baO c) :: news)) (hk : bI c = ks) (hv : bI b = vs) (hz : ks.length ≤ 1000000) (h0 : 0 ≤ off) (h1 : 0 ≤ sz) (hfit : off + sz ≤ ks.length) (hlen : (vs.length : Int) = sz)
    {t1 t2 : Tok} (H : ∀ c' h, bI c' = ks.take off.toNat ++ vs ++ ks.drop (off + sz).toNat → Fr h₀ L h m → Led h₀ L h ((M, baO c') :: news) → Q () (st σ h t)) :
    gw (model PW w) A (setItem (.ref M) (.ref h.objs.size) (.bytes b tb)) Q (st σ (h.push { cls := .type "slice", data := .fields #[.int off t1, .int (off + sz) t2, .none] }) t) := by
  have F1 := F.push { cls := .type "slice", data := .fields #[.int off t1, .int (off + sz) t2, .none] }
  have N1 : Led h₀ L _ ((M, baO c) :: (h.objs.size, { cls := .type "slice", data := .fields #[.int off t1, .int (off + sz) t2, .none] }) :: news) := (Led.new F N { cls := .type "slice", data := .fields #[.int off t1, .int (off + sz) t2, .none] } rfl).perm (List.Perm.swap _ _ _)
  have hcs : c.size = ks.length := by rw [← hk]; exact (KBw.ints_length c).symm
  have hbs : b.size = vs.length := by rw [← hv]; exact (KBw.ints_length b).symm
  have hT : (st σ (h.push { cls := .type "slice", data := .fields #[.int off t1, .int (off + sz) t2, .none] }) t).TypeIs (.ref M) "bytearray" := ⟨_, N1.get (.head _), rfl⟩
  unfold setItem
  refine wpG_holding (gw_bindA ?_)
  unfold sequenceKey
  refine wpAny_bind (wpAny_typeOf hT ?_)
  dsimp only
  rw [if_pos (by decide)]
  refine wpAny_pure (gw_bind (gw_special ba_slot_set hT (gw_call (codeG_call_builtin (plainId_quiet ba_slot_set.plain _) rfl ba_entry_set (ba_slot_set.check _ _ _ _ _ _ _ _ hT (ba_args_set _ _ _) ?_)))))
  have hex : ∀ i j, (c.extract i j).size ≤ c.size := fun i j => by rw [Array.size_extract]; exact Nat.le_trans (Nat.sub_le _ _) (Nat.min_le_right _ _)
  refine gw_up (ba_store F1 N1 (by rw [hbs, sizeLine_eq]; omega) (.head _) (slice_bounds h0 h1 (by rw [hcs]; exact hfit)) (by exact Int.le_add_of_nonneg_right h1) (by rw [hbs]; omega) (by have e0 := hex 0 off.toNat; have e1 := hex (max off (off + sz)).toNat c.size; rw [Array.size_append, Array.size_append, sizeLine_eq]; (clear h1 H hex; omega)) fun h F N => ?_)
  refine wpG_pure (H _ h ?_ F (N.sub (.cons_cons _ (List.sublist_cons_self _ _))))
  rw [Int.max_eq_right (Int.le_add_of_nonneg_right h1)]
  subst hk hv
  show List.map _ _ = List.take _ (List.map _ _) ++ List.map _ _ ++ List.drop _ (List.map _ _)
  rw [Array.toList_append, Array.toList_append, Array.toList_extract, Array.toList_extract, List.map_append, List.map_append]
  congr 1
  · congr 1
    simp [List.extract_eq_drop_take, List.map_take]
  · rw [List.extract_eq_drop_take, List.map_take, List.map_drop]
    exact List.take_of_length_le (by simp)
end
end Og
end

-- Og25
section
open PySem PySem.W PyProof.Rows PySem.Calls
open PySem.Sem (wp)
set_option maxRecDepth 100000
set_option Elab.async false
set_option linter.unusedVariables false
set_option maxHeartbeats 1000000
namespace Og
section
variable {prog : Program} {w : World} {A : Around} {C : Addr} {R : Result → Shared → Prop} {h : Heap} {g : Array GenState} {d : Drawn} {t : Nat} {os : OsState}
theorem make_coreG {rest : List Value} {init : Value} (Y : Makes (model prog w) h C) (hi : Looks (model prog w) h (typeLookup (.ref C) "__init__") (some init))
    (hb : ∀ self, Looks (model prog w) h (bindSpecial init self) (init, [self])) (hne : (some init != some (Value.builtin "object.__init__")) = true)
    (hq : codeG (model prog w) (A.under (.builtin "type.__call__" ⟨.ref C :: rest, []⟩)) (.call init ⟨.ref (h.objs.size + 1) :: rest, []⟩) (InitBack (h.objs.size + 1) R) ⟨(h.push emptyDict).push (instObj C h.objs.size), g, d, t, os⟩) :
    codeG (model prog w) A (.call (.ref C) ⟨rest, []⟩) R ⟨h, g, d, t, os⟩ := by
  have Y' := Y
  obtain ⟨⟨oc, od, cd, sl, hC, e1, e2, e4⟩, made, base, self, top, call, typ⟩ := Y
  refine codeG_of_tree (wpG_any ?_)
  show wpAny _ _ (callAny (.ref C) _) _ _ _
  refine nd_load hC ?_
  show wpAny _ _ (callAny.viaDunder (.ref C) _) _ _ _
  unfold callAny.viaDunder
  refine wpAny_bind (call.at ?_)
  dsimp only
  rw [tc_bind]
  refine wpAny_bind (wpAny_pure (wpAny_bind (wpAny_pure ?_)))
  refine wpAny_pure (a := PySem.Fin.again (.call (.builtin "type.__call__") ⟨.ref C :: rest, []⟩)) ⟨rfl, rfl, ?_⟩
  refine codeG_call_builtin (Code.quiet_builtin _ (by decide +kernel)) rfl entry_typeCall ?_
  with_reducible refine check_slot tc_kind tc_split typ (tc_args _ _ _) ?_
  unfold Builtin.«type.__call__»
  have hm : Looks (model prog w) h (mroOf (.ref C)) cd.mro := ((Looks.ld (part := none) hC).andThen .now).andThen .now
  have n1 : (Value.ref C == Value.type "type") = false := rfl
  show wpG _ _ (mroOf (.ref C) >>= _) _ _ _
  refine wpG_bindA (hm.at ?_)
  rw [e4, if_neg (by decide)]
  refine wpG_bindA (made.at ?_)
  refine wpG_bindA (wpAny_pure ?_)
  refine wpG_bindA (wpAny_holding (wpAny_call (new_K Y' hi (.inl hne) ?_)))
  have k : ∀ b o, h.get? b = some o → ((h.push emptyDict).push (instObj C h.objs.size)).get? b = some o := fun b o e => Heap.get?_push_of_some _ (Heap.get?_push_of_some _ e)
  have hx : ((h.push emptyDict).push (instObj C h.objs.size)).get? (h.objs.size + 1) = some (instObj C h.objs.size) := by heap_get
  have t1 : Looks (model prog w) ((h.push emptyDict).push (instObj C h.objs.size)) (typeOf (.ref (h.objs.size + 1))) (.ref C) := (Looks.ld hx).andThen .now
  have s1 := self.keeps k
  have i1 := hi.keeps k
  have b1 := (hb (.ref (h.objs.size + 1))).keeps k
  refine wpG_bindA ((show Looks (model prog w) _ (isInstance (.ref (h.objs.size + 1)) (.ref C)) true from t1.andThen s1).at ?_)
  rw [if_neg (by decide)]
  refine wpG_bind (wpG_holding ?_)
  unfold callSpecial? specialOf
  refine wpG_bindA (wpAny_bind (t1.at (i1.at ?_)))
  refine wpG_holding (wpG_bindA (b1.at ?_))
  refine wpG_bind (wpG_call (codeG_mono hq fun r s' z => ?_))
  rcases r with e | (v | _ | _ | _) <;> first | exact z | exact z.elim | skip
  obtain ⟨rfl, z⟩ := z
  exact wpG_pure (wpG_pure z)
end
section
variable {w : World} {n : Nat} {rest : List Value} {news : List Ob} {P : Value → List Ob → Prop}
theorem conG_make {C fI : Addr} (hm : makesIn (hd.heap_1 w.params) C = true) (hi : findIn (hd.heap_1 w.params) (.ref C) "__init__" = some (some (.ref fI))) (hf : typeIn (hd.heap_1 w.params) (.ref fI) = some (.type "function"))
    (H : ∀ x dx, ConG w (.ref fI) n (.ref x :: rest) ((x, instObj C dx) :: (dx, emptyDict) :: news) (fun r news' => r = .none ∧ P (.ref x) news')) : ConG w (.ref C) (n + 1) rest news P := by
  intro A base outer env L h₀ h t m σ R Z F N hQ
  have X := Z.X.keeps F.keep
  refine make_coreG (h := h) (makes_of X hm) (looks_findIn X hi) (fun self => bind_fn X self hf) rfl ?_
  have F1 := F.push emptyDict
  have N1 := Led.new F N emptyDict rfl
  have F2 := F1.push (instObj C h.objs.size)
  have N2 := Led.new F1 N1 (instObj C h.objs.size) rfl
  rw [Heap.size_push] at N2
  refine H _ _ _ base outer env L h₀ _ t m σ _ ?_ F2 N2 fun r news' h₁ h t T hp F N => ?_
  · refine { Z with fr := Z.fr, hh := Z.hh, dp := ?_, un := ?_ }
    · have := Z.dp; rw [depth_under_make]; omega
    · have := Z.un; rw [units_under_make]; omega
  · exact ⟨hp.1, hQ _ news' h₁ h t T hp.2 F N⟩
end
-- the calls of a body upon a good stack
section
variable {w : World} {n : Nat} {A : Around} {base h₀ h : Heap} {outer : List Env} {env : Env} {L : Addr} {σ : Shared} {t : Nat} {s : Shared} {f : Value} {pos : Pos} {first : List Value} {Q : Value → Shared → Prop}
theorem gw_cwK {e : Expr} {rest : List Expr} (hk : keepIn (hd.heap_1 w.params) f = true) (he : starEach (e :: rest) env = (false, eval e env) :: starEach rest env) (hp : (backTo pos (starEach rest env)).any (·.1) = false)
    (H : gw (model PW w) A (spliced (backTo pos (starEach (e :: rest) env))) (fun vs s₁ => (hd.heap_1 w.params).In s₁.heap ∧ gw (model PW w) A (call f (first ++ vs) []) Q s₁) s) : gw (model PW w) A (callWith pos f first (backTo pos (starEach (e :: rest) env)) []) Q s := by
  rw [he] at H ⊢
  exact gw_callWith_of (P := (hd.heap_1 w.params).In) (by show (false || (backTo pos (starEach rest env)).any (·.1)) = false; rw [hp]; rfl) (fun h X => looks_keep hk X) (gw_evalArgs H)
theorem gw_cwK0 (hk : keepIn (hd.heap_1 w.params) f = true) (X : (hd.heap_1 w.params).In s.heap) (H : gw (model PW w) A (call f (first ++ []) []) Q s) : gw (model PW w) A (callWith pos f first (backTo pos (starEach [] env)) []) Q s :=
  gw_callWith_of (P := (hd.heap_1 w.params).In) rfl (fun h X => looks_keep hk X) (gw_any (evalArgs_nil3 ⟨X, H⟩))
theorem gw_cwT {T : String} {e : Expr} {rest : List Expr} (he : starEach (e :: rest) env = (false, eval e env) :: starEach rest env) (hp : (backTo pos (starEach rest env)).any (·.1) = false)
    (H : gw (model PW w) A (spliced (backTo pos (starEach (e :: rest) env))) (fun vs s₁ => gw (model PW w) A (call (.type T) vs []) Q s₁) s) : gw (model PW w) A (callWith pos (.type T) [] (backTo pos (starEach (e :: rest) env)) []) Q s := by
  rw [he] at H ⊢
  exact gw_callWith_type (by show (false || (backTo pos (starEach rest env)).any (·.1)) = false; rw [hp]; rfl) (gw_evalArgs H)
theorem gw_spliced_cons {M : Model} {x : Sem Value} {rest : List (Bool × Sem Value)} {Q : List Value → Shared → Prop} (H : gw M A x (fun v s₁ => wpAny M A (spliced rest) (fun vs s₂ => Q (v :: vs) s₂) (fun _ _ => False) s₁) s) : gw M A (spliced ((false, x) :: rest)) Q s := by
  rw [spliced]
  refine gw_bind (gw_mono H (fun v s₁ h₁ => ?_))
  simp only [Bool.false_eq_true, if_false]
  exact gw_any (wpAny_bind (wpAny_pure (wpAny_bind (wpAny_holding (wpAny_mono h₁ (fun vs s₂ h₂ => wpAny_pure h₂) fun _ _ x => x)))))
theorem gw_spl {e : Expr} {rest : List Expr} {Q : List Value → Shared → Prop} (H : gw (model PW w) A (eval e env) (fun v s₁ => wpAny (model PW w) A (spliced (backTo pos (starEach rest env))) (fun vs s₂ => Q (v :: vs) s₂) (fun _ _ => False) s₁) s) (he : starEach (e :: rest) env = (false, eval e env) :: starEach rest env) :
    gw (model PW w) A (spliced (backTo pos (starEach (e :: rest) env))) Q s := by
  rw [he]; exact gw_spliced_cons H
end
/-- a loop over the ledger's iterator, upon a good stack -/
theorem for_goG {w : World} {n : Nat} {A : Around} {h₀ h : Heap} {env : Env} {L I : Addr} {σ : Shared} {t : Nat} {o : Obj} {xs : List (S × Value)} {news : List Ob} {It : Nat → Obj → Prop} {V : Nat → Value → Prop} {need : List Ob → Prop} {target : Expr} {body : List Stmt} {Q : Flow → Shared → Prop} (T : Turns w A h₀ L I n It V need) (J : Nat → List (S × Value) → List Ob → Prop)
    (F : Fr h₀ L h (lk xs)) (N : Led h₀ L h ((I, o) :: news)) (h0 : It 0 o) (j0 : J 0 xs news) (hneed : ∀ i xs news, J i xs news → need news)
    (step : ∀ i v o xs news h t, i < n → V i v → It (i + 1) o → J i xs news → Fr h₀ L h (lk xs) → Led h₀ L h ((I, o) :: news) →
      wpAny (model PW w) A (assign target env v) (fun _ s₂ => gw (model PW w) A (execs body env) (Step h₀ L σ Q fun xs' news' => ∃ nw, news' = (I, o) :: nw ∧ J (i + 1) xs' nw) s₂) (fun _ _ => False) (st σ h t))
    (done : ∀ xs news h t, J n xs news → Fr h₀ L h (lk xs) → Led h₀ L h news → Q .next (st σ h t)) (ht : ∀ v, letOwnedTupleGo target (.ref I) v = pure ()) :
    codeG (model PW w) A (.forLoop target (.ref I) body [] env) (fun r s' => match r with | .ok f => Q f s' | .error e => False) (st σ h t) := by
  refine codeG_forLoop (ForI h₀ L σ I n It J) ?_ n ⟨0, o, xs, news, h, t, rfl, Nat.zero_le _, rfl, h0, j0, F, N⟩
  rintro k s' ⟨i, o, xs, news, h, t, rfl, hi, rfl, hit, hj, F, N⟩
  by_cases hlt : i < n
  · refine T.item i o h t _ news σ _ _ hlt hit F N (hneed _ _ _ hj) fun v o' h t hv hit' F N => ?_
    show wpAny _ _ (letOwnedTupleGo target (.ref I) v) _ _ _
    rw [ht]
    refine wpAny_pure (wpAny_mono (step i v o' xs news h t hlt hv hit' hj F N) (fun _ s₂ h₂ => gw_mono h₂ (fun fl s₃ h₃ => ?_)) fun _ _ e => e)
    cases fl with
    | ret v => exact h₃
    | brk => exact h₃
    | next =>
      obtain ⟨xs', _, h₃, t₃, rfl, F₃, N₃, nw, rfl, hj₃⟩ := h₃
      exact ⟨n - (i + 1), by exact Nat.sub_succ_lt_self n i hlt, i + 1, o', xs', nw, h₃, t₃, rfl, hlt, rfl, hit', hj₃, F₃, N₃⟩
    | cont =>
      obtain ⟨xs', _, h₃, t₃, rfl, F₃, N₃, nw, rfl, hj₃⟩ := h₃
      exact ⟨n - (i + 1), by exact Nat.sub_succ_lt_self n i hlt, i + 1, o', xs', nw, h₃, t₃, rfl, hlt, rfl, hit', hj₃, F₃, N₃⟩
  · obtain rfl : i = n := by exact Nat.le_antisymm hi (Nat.le_of_not_lt hlt)
    exact T.done o h t _ news σ _ _ hit F N (hneed _ _ _ hj) fun h t F N => gw_any (wpAny_execs_nil (done xs news h t hj F N))
end Og
end

-- Og26
section
open PySem PySem.W PyProof.Rows PySem.Calls
set_option maxRecDepth 100000
set_option Elab.async false
set_option linter.unusedVariables false
set_option maxHeartbeats 1000000
namespace Og
section
variable {w : World} {n k : Nat} {A : Around} {base h₀ h : Heap} {outer : List Env} {env : Env} {L l d : Addr} {σ : Shared} {t : Nat} {m : S → Option Value} {news : List Ob} {E : Value → Shared → Prop} {Q : Value → Shared → Prop} {o : Obj}
/-- a list is copied -/
theorem copyL {its : Array Value} (F : Fr h₀ L h m) (N : Led h₀ L h news) (hl : lAt h₀ l its news) (hz : its.size ≤ 1000) (H : ∀ D c h, Fr h₀ L h m → Led h₀ L h ((D, listOf its c) :: news) → Q (.ref D) (st σ h t)) : wpAny (model PW w) A (call (.type "list") [.ref l]) Q E (st σ h t) := by
  obtain ⟨o, ho, hc, n, hd⟩ := hl.list F.keep N.n
  refine call_list_seq (s := st σ h t) (hsz := by rw [sizeLine_eq]; exact Nat.le_trans hz (Nat.le_add_left 1000 16776216)) l (.inl rfl) ho hc hd fun h' c' hk hD => H _ c' h' (F.keptAll hk) ⟨news_pushed F N.n hk hD rfl, ?_⟩
  rw [List.map_cons, List.nodup_cons]
  refine ⟨fun q => ?_, N.d⟩
  obtain ⟨p, hp, e⟩ := List.mem_map.mp q
  have := N.lt p hp
  rw [e] at this
  exact Nat.lt_irrefl _ this
theorem code_iadd {R : Result → Shared → Prop} {s : Shared} {x : S} {v : Value} {ep Sx : Nat} (hh : A.handled = none) (lo : d ≠ sysModules) (hda : s.heap.DictAt (PySem.strKind PW w) d [(x, v)] ep) (hSd : Sx ≠ d) (hS : s.heap.get? Sx = some { cls := .type "list", data := .seq #[] 0 })
    (hR : ∀ h' tk acc' c', (∀ b o, b ≠ Sx → s.heap.get? b = some o → h'.get? b = some o) → h'.get? Sx = some { cls := .type "list", dict := none, data := .seq acc' c', slots := #[] } → ItemsOf (fun i v' => ∃ k y, [(x, v)][i]? = some (k, y) ∧ (PySem.strKind PW w).is k v' = true) acc' 1 → R (.ok (.ret (.ref Sx))) { s with heap := h', toks := tk }) :
    codeAny (model PW w) A (.builtin "list.__iadd__" ⟨[.ref Sx, .ref d], []⟩) R s := by
  refine codeAny_builtin PySem.F.entry_list_iadd ?_
  rw [Around.under_plainId PySem.F.plain_list_iadd _]
  show wpAny _ _ (Builtin.List.listExtendWith (.ref Sx) (.ref d) (.ref Sx)) _ _ _
  exact kdl_extend (kdl_dict (knd := PySem.strKind PW w) (kvs := [(x, v)]) (ep := ep) (by simpa using lo)) hh hda Sx hSd hSd (.ref Sx) 0 hS hR (by rw [sizeLine_eq]; show 1 ≤ 16777216; decide)
/-- a dict of one text key is sorted -/
theorem sorted1 {x : S} {v : Value} (Z : Site w n A base outer env L h₀) (F : Fr h₀ L h m) (N : Led h₀ L h news) (hd : (d, o) ∈ news) (ho : o.IsDictOf (PySem.strKind PW w) [(x, v)]) (lo : d ≠ sysModules)
    (H : ∀ D c u h t, Fr h₀ L h m → Led h₀ L h ((D, listOf (List.toArray [.str x u]) c) :: news) → Q (.ref D) (st σ h t)) : wpAny (model PW w) A (call (.builtin "sorted") [.ref d]) Q E (st σ h t) := by
  obtain ⟨ep, ha⟩ := KdkAt.of ho
  have hda := ha.dictAt (N.n _ hd).1
  refine Calls.call_function_entry kind_sorted plain_sorted entry_sorted (args_sorted1 _) ?_
  unfold Builtin.«sorted»
  refine wpAny_bind (m := checkCount "sorted" 1 1 _) (wpAny_pure ?_)
  refine wpAny_bind ?_
  unfold collect
  refine wpAny_bind (wpAny_runValue (codeAny_builtin PySem.F.entry_proto_collect ?_))
  rw [Around.under_plainId PySem.F.plain_proto_collect _]
  show wpAny _ _ (newList [] >>= fun l => again (.builtin "list.__iadd__" ⟨[l, .ref d], []⟩)) _ _ _
  refine wpAny_bind (wpAny_newObj_type ?_)
  have hlt := hda.lt_size
  refine wpAny_pure ⟨plainId_quiet PySem.F.plain_list_iadd _, code_iadd (s := st σ (h.push { cls := .type "list", data := .seq #[] }) t) Z.hh lo (hda.push _) (Nat.ne_of_gt hlt) (Heap.get?_push_size h rfl) fun h' tk acc' c' hk hS' hacc => ?_⟩
  show wpAny _ _ (load h.objs.size >>= _) _ _ _
  refine wpAny_bind (wpAny_load hS' (wpAny_pure ?_))
  have ka : ∀ b o, h.get? b = some o → h'.get? b = some o := fun b o e => hk b o (Nat.ne_of_lt (Heap.lt_size e)) (Heap.get?_push_of_some _ e)
  have F1 : Fr h₀ L h' m := F.keptAll ka
  have N1 := N.keeps ka
  obtain ⟨kx, u, hacc1⟩ : ∃ kx u, acc'.toList = [.str kx u] ∧ kx = x := by
    obtain ⟨h1, h2⟩ := hacc
    have h1' : acc'.size = 1 := h1
    have h3 : acc'[0]? = some acc'[0] := by simp [h1']
    obtain ⟨k, y, e1, e2⟩ := h2 0 _ h3
    simp at e1
    obtain ⟨rfl, rfl⟩ := e1
    have : ∃ u, acc'[0] = .str x u := by
      cases hq : acc'[0] <;> rw [hq] at e2 <;> simp [PySem.strKind, Value.isStrOf] at e2
      exact ⟨_, by rw [e2]⟩
    obtain ⟨u, hu⟩ := this
    refine ⟨x, u, ?_, rfl⟩
    rw [← hu]
    apply List.ext_getElem?
    intro i
    rcases i with _ | i
    · simp [h1']
    · simp; exact Nat.le_trans (Nat.le_of_eq h1) (Nat.le_add_left 1 i)
  obtain ⟨hacc1, rfl⟩ := hacc1
  dsimp only
  rw [hacc1]
  refine wpAny_bind (wpAny_newList ?_)
  have hoL : (h'.push (seqObj "list" (List.toArray [Value.str kx u]) 0)).get? h'.objs.size = some (seqObj "list" (List.toArray [Value.str kx u]) 0) := Heap.get?_push_size h' rfl
  refine wpAny_bind (wpAny_holding (wpAny_call_entry (s := st σ (h'.push (seqObj "list" (List.toArray [Value.str kx u]) 0)) tk) slot_list_sort ⟨_, hoL, rfl⟩ entry_list_sort (list_sort_treeK (κ := PyProof.Rows.strKind) strKind_oneLt hoL (fun p hp => ?_) (fun v₁ v₂ rest e => by cases e) (by show 1 < 64; decide) fun st' hp hs => ⟨_, rfl, ?_⟩) (args_list_sort _)))
  · rw [pairsOf_toList] at hp
    obtain rfl : p = (.str kx u, .str kx u) := by simpa using hp
    exact ⟨_, rfl⟩
  have hout : (arrOf st').map (·.2) = List.toArray [Value.str kx u] := by
    have hp2 : (arrOf st').toList.Perm [(Value.str kx u, Value.str kx u)] := by have := hp.toList; rwa [pairsOf_toList] at this
    have e := List.perm_singleton.mp hp2
    apply Array.toList_inj.mp
    rw [Array.toList_map, e]; rfl
  rw [hout]
  obtain ⟨e, he⟩ := sortedHeap_at (out := List.toArray [Value.str kx u]) hoL
  have kb : ∀ b o, h'.get? b = some o → (sortedHeap (h'.push (seqObj "list" (List.toArray [Value.str kx u]) 0)) h'.objs.size [Value.str kx u] (List.toArray [Value.str kx u])).get? b = some o := fun b o e => by
    have hlt := Heap.lt_size e
    rw [sortedHeap_old (Nat.ne_of_lt hlt) (by rw [Heap.size_push]; exact Nat.lt_succ_of_lt hlt)]
    exact Heap.get?_push_of_some _ e
  refine wpAny_pure ⟨_, rfl, ?_⟩
  have F2 := F1.keptAll kb
  refine H _ e u _ tk F2 ⟨?_, ?_⟩
  · exact news_pushed (s := st σ h' tk) (h' := sortedHeap (h'.push (seqObj "list" (List.toArray [Value.str kx u]) 0)) h'.objs.size [Value.str kx u] (List.toArray [Value.str kx u])) F1 N1.n kb he rfl
  rw [List.map_cons, List.nodup_cons]
  refine ⟨fun q => ?_, N1.d⟩
  obtain ⟨p, hp, e⟩ := List.mem_map.mp q
  have := N1.lt p hp
  rw [e] at this
  exact Nat.lt_irrefl _ this
/-- an item of a dict with text keys is set -/
theorem setD {Q : Unit → Shared → Prop} {kvs : List (S × Value)} {x : S} {tx : Tok} {v : Value} (F : Fr h₀ L h m) (N : Led h₀ L h ((d, o) :: news)) (hd : o.IsDictOf (PySem.strKind PW w) kvs) (hz : kvs.length ≤ 1000)
    (H : ∀ h t o', Fr h₀ L h m → Led h₀ L h ((d, o') :: news) → o'.IsDictOf (PySem.strKind PW w) (stored kvs x v) → Q () (st σ h t)) : wpAny (model PW w) A (setItem (.ref d) (.str x tx) v) Q E (st σ h t) := by
  refine wpAny_setItem_pairs (s := st σ h t) (knd := PySem.strKind PW w) (k := x) (hsz := by rw [sizeLine_eq]; exact Nat.le_trans hz (Nat.le_add_left 1000 16776216)) (strKind_is PW w x tx) (Heap.dictOf_iff.mpr ⟨o, N.get (.head _), hd⟩) fun h' hmm hs => ?_
  obtain ⟨o', ho', hd'⟩ := Heap.dictOf_iff.mp hmm
  exact H h' _ o' (N.frPut F hs) (N.put hs ho') hd'
end
end Og
end

-- Og27
section
open PySem PySem.W PyProof.Rows PySem.Calls
open PySem.Sem (wp)
set_option maxRecDepth 100000
set_option Elab.async false
set_option linter.unusedVariables false
set_option maxHeartbeats 1000000
namespace Og
/-- a statement, what follows it out of sight -/
theorem gw_consK {M : Model} {A : Around} {s : Shared} {env : Env} {st : Stmt} {rest : List Stmt} {Q : Flow → Shared → Prop} (h : ∀ K : Flow → Shared → Prop, (∀ s', gw M A (execs rest env) Q s' → K .next s') → (∀ v s', Q (.ret v) s' → K (.ret v) s') → wpAny M A (exec st env) K (fun _ _ => False) s) : gw M A (execs (st :: rest) env) Q s :=
  gw_cons (gw_any (h (fun f s' => match f with | .next => gw M A (execs rest env) Q s' | f => Q f s') (fun _ h => h) fun _ _ h => h))
theorem gw_consKG {M : Model} {A : Around} {s : Shared} {env : Env} {st : Stmt} {rest : List Stmt} {Q : Flow → Shared → Prop} (h : ∀ K : Flow → Shared → Prop, (∀ s', gw M A (execs rest env) Q s' → K .next s') → (∀ v s', Q (.ret v) s' → K (.ret v) s') → gw M A (exec st env) K s) : gw M A (execs (st :: rest) env) Q s :=
  gw_cons (h (fun f s' => match f with | .next => gw M A (execs rest env) Q s' | f => Q f s') (fun _ h => h) fun _ _ h => h)
/-- the objects that change are brought to the front again -/
theorem Led.redo {h₀ h : Heap} {L : Addr} {rest rest1 : List Ob} (pre D : List Ob) (N : Led h₀ L h (pre ++ rest1)) (old : ((D ++ rest).map (·.1)).Nodup) (k : ∀ p ∈ D ++ rest, p ∈ rest1) :
    ∃ rest2, An3 (Led h₀ L h (pre ++ (D ++ rest2))) (∀ p ∈ rest, p ∈ rest2) (∀ p ∈ rest1, p ∈ D ++ rest2):= by
  rw [List.map_append, List.nodup_append] at old
  have d := N.d
  rw [List.map_append, List.nodup_append] at d
  have mem : ∀ p ∈ D ++ rest1.filter (fun p => decide (p.1 ∉ D.map (·.1))), p ∈ rest1 := fun p hp => by
    rcases List.mem_append.mp hp with hp | hp
    · exact k p (List.mem_append_left _ hp)
    · exact (List.mem_filter.mp hp).1
  refine ⟨rest1.filter (fun p => decide (p.1 ∉ D.map (·.1))), ⟨fun p hp => ?_, ?_⟩, fun p hp => List.mem_filter.mpr ⟨k p (List.mem_append_right _ hp), decide_eq_true fun q => ?_⟩, fun p hp => ?_⟩
  · rcases List.mem_append.mp hp with hp | hp
    · exact N.n p (List.mem_append_left _ hp)
    · exact N.n p (List.mem_append_right _ (mem p hp))
  · rw [List.map_append, List.nodup_append]
    refine ⟨d.1, ?_, fun a ha b hb e => ?_⟩
    · rw [List.map_append, List.nodup_append]
      refine ⟨old.1, (List.Sublist.map _ List.filter_sublist).nodup d.2.1, fun a ha b hb e => ?_⟩
      obtain ⟨p, hp, rfl⟩ := List.mem_map.mp hb
      exact of_decide_eq_true (List.mem_filter.mp hp).2 (e ▸ ha)
    · obtain ⟨p, hp, rfl⟩ := List.mem_map.mp hb
      exact d.2.2 a ha p.1 (List.mem_map_of_mem (mem p hp)) e
  · exact old.2.2 p.1 q p.1 (List.mem_map_of_mem hp) rfl
  · by_cases q : p.1 ∈ D.map (·.1)
    · obtain ⟨d, hd, e⟩ := List.mem_map.mp q
      have e1 := N.get (a := p.1) (o := p.2) (List.mem_append_right _ hp)
      have e2 := N.get (a := d.1) (o := d.2) (List.mem_append_right _ (k d (List.mem_append_left _ hd)))
      have e : d.1 = p.1 := e
      rw [e, e1] at e2
      have e3 : p = d := Prod.ext e.symm (Option.some.inj e2)
      exact e3 ▸ List.mem_append_left _ hd
    · exact List.mem_append_right _ (List.mem_filter.mpr ⟨hp, decide_eq_true q⟩)
-- what is laid aside ahead of the law
noncomputable def goneO (o : Obj) : Bool := match o.cls, o.data with
  | .none, .fields _ => true
  | .type "list", .seq _ _ => true
  | _, _ => false
theorem gone_dict {o : Obj} {es : Array DictEntry} {n : Nat} (h : o.data = .dict es n) : goneO o = false := by
  obtain ⟨c, d, x, s⟩ := o
  cases h
  unfold goneO
  split <;> first | rfl | (rename_i h2; cases h2)
section
variable {h : Heap} {as : List Addr}
noncomputable abbrev Gone (h : Heap) (as : List Addr) : Prop := ∀ a ∈ as, ∃ o, h.get? a = some o ∧ goneO o = true
theorem gone_get (H : Gone h as) {b : Addr} {o : Obj} (e : h.get? b = some o) (hn : goneO o = false) : (hideAll h as).get? b = some o :=
  hideAll_get _ e fun q => by
    obtain ⟨o', e', h'⟩ := H b q
    rw [e] at e'; cases e'
    rw [hn] at h'; cases h'
theorem gone_ns {a : Addr} {mm : S → Option Value} (H : Gone h as) (x : h.Ns a mm) : (hideAll h as).Ns a mm :=
  let ⟨o, es, ep, e, hd, r⟩ := x; ⟨o, es, ep, gone_get H e (gone_dict hd), hd, r⟩
theorem gone_K {K : Frag} (H : Gone h as) (X : K.In h) (hK : (K.all fun p => !goneO p.2) = true) : K.In (hideAll h as) := fun a o e =>
  gone_get H (X a o e) (by simpa using List.all_eq_true.mp hK (a, o) (mem_of_lookupK e))
theorem gone_top {p : Program} {loose : List S} {mean : ExcName → Option Value} {mg mb : S → Option Value} (H : Gone h as) (T : Top p loose mean mg mb h) :
    Top topProg (loose ++ (recsOf p).map (·.name) ++ (litsOf p).map (·.1) ++ (clssOf p loose).map (·.name)) mean mg mb (hideAll h as) where
  g := gone_ns H T.g
  b := gone_ns H T.b
  nolimit := let ⟨mc, a, r⟩ := T.nolimit; ⟨mc, gone_ns H a, r⟩
  nodigits := let ⟨mc, a, r⟩ := T.nodigits; ⟨mc, gone_ns H a, r⟩
  fn := fun d hd => absurd (show d ∈ ([] : List DefRec) from hd) List.not_mem_nil
  own := fun o ho => absurd (show o ∈ ([] : List OwnSpec) from ho) List.not_mem_nil
  const := fun x d e => by cases (show (none : Option PyData) = some d from e)
  free := fun x h1 h2 _ _ _ => T.free x h1 (fun q => h2 (List.mem_append_left _ (List.mem_append_left _ (List.mem_append_left _ q))))
    (fun q => h2 (List.mem_append_left _ (List.mem_append_left _ (List.mem_append_right _ q)))) (fun q => h2 (List.mem_append_left _ (List.mem_append_right _ q))) fun q => h2 (List.mem_append_right _ q)
  builtins := T.builtins
  tab := fun d hd => absurd (show d ∈ ([] : List DefRec) from hd) List.not_mem_nil
  bmain := let ⟨bm, ob, a1, a2, a3, a4, r⟩ := T.bmain; ⟨bm, ob, a1, a2, gone_get H a3 (by unfold goneO; rw [a4, r.2]; rfl), a4, r⟩
  seer := fun e => absurd (show false = true from e) Bool.false_ne_true
end
section
variable {w : World} {n : Nat} {f : Addr} {args : List Value} {news : List Ob} {P : Value → List Ob → Prop} {name qual : S} {params : Arguments} {body : List Stmt} {scope : PySem.Scope} {dV kV doc pm cdv ct oc : Value} {an od : Option Addr} {osl : Array (Option Value)} {binds bs : List (S × Value)}
/-- a call by the law's caller -/
noncomputable def ConT (w : World) (f : Value) (vs : List Value) (news : List Ob) (P : Value → List Ob → Prop) : Prop :=
  ∀ (h : Heap) (t : Nat) (σ : Shared) (R : Result → Shared → Prop) (p : Program) (loose : List S) (mean : ExcName → Option Value) (mg mb : S → Option Value),
    (hd.heap_1 w.params).In (hideAll h (news.map (·.1))) → Top p loose mean mg mb (hideAll h (news.map (·.1))) → (∀ p ∈ news, h.get? p.1 = some p.2) → (news.map (·.1)).Nodup →
    (∀ r news' L h' t m, P r news' → Fr (hideAll h (news.map (·.1))) L h' m → Led (hideAll h (news.map (·.1))) L h' news' → R (.ok (.ret r)) (st σ h' t)) →
    codeG (model PW w) callerA (.call f ⟨vs, []⟩) R (st σ h t)
theorem enterCT (ho : (hd.heap_1 w.params).lookup f = some ⟨oc, od, .func (fnX name qual params body scope [] dV kV doc pm an cdv ct), osl⟩) (hcd : codeIn (hd.heap_1 w.params) cdv qual = true)
    (hbind : ∀ s : Shared, (hd.heap_1 w.params).In s.heap → BindsTo s (fnX name qual params body scope [] dV kV doc pm an cdv ct) ⟨args, []⟩ binds)
    (hkd : ∀ n, ∀ x ∈ binds, scope.names.lookup x.1 = some .local ∨ (scope.names.lookup x.1 = some .cell ∧ ((cellsFrom n scope.names []).lookup x.1).isSome = true)) (hnd : ((cellsFrom 0 scope.names []).map (·.1)).Nodup)
    (hcs : ∀ L : Nat, ((cellsFrom (L + 1) scope.names []).map (·.2)).Nodup ∧ ∀ c ∈ (cellsFrom (L + 1) scope.names []).map (·.2), L < c)
    (hbs : ∀ L, blL (envOfC qual scope L f cdv).kindOf binds [] = bs) (hco : scope.isCoroutine = false) (hgen : scope.isGenerator = false) (hk : scope.kind = .function)
    (h0 : callerA.depth + 1 + n < recursionLimit) (h1 : callerA.units + 3 + 8 * n < cLine)
    (H : ∀ (A : Around) (base : Heap) (outer : List Env) (g : Heap) (L : Addr) (σ : Shared) (h : Heap) (t : Nat) (cells : List Ob), outer = [] → Site w n A base outer (envX qual scope L f cdv (cellsFrom (L + 1) scope.names [])) L g → Fr g L h (lk bs) →
      CellsAre (bindC (envOfC qual scope L f cdv).kindOf binds fun _ => none) (cellsFrom (L + 1) scope.names []) cells → Led g L h (cells ++ news) →
      gw (model PW w) A (execs body (envX qual scope L f cdv (cellsFrom (L + 1) scope.names []))) (RetS g (outer.filterMap (·.frame)) L σ P) (st σ h t)) : ConT w (.ref f) args news P := by
  intro h t σ R p loose mean mg mb X T hn nd hQ
  have back : ∀ b o, (hideAll h (news.map (·.1))).get? b = some o → h.get? b = some o := fun b o e => of_hideAll _ e
  have XS : (hd.heap_1 w.params).In h := X.keeps back
  refine codeG_call_function (by exact Nat.lt_of_sub_eq_succ rfl) (XS _ _ ho) rfl hco hgen rfl (codeRec_of XS hcd) (hbind (st σ h t) XS _ _ _ _ ?_)
  refine wpAny_newFunctionEnv_cells hk (hkd _) fun env' he s' x => ?_
  subst he
  refine ⟨(T.nolimit.keeps back).keeps x.toInCall.keep, codeG_func ?_⟩
  obtain ⟨h₁, tk, rfl, _⟩ := x.done
  have hk₁ := x.toInCall.keep
  obtain ⟨cells, NC, Y⟩ := Cl.news (h₀ := h) (Nat.le_refl _) fun n c hm => ⟨x.cell n c (lookup_of_mem_nodup (cellsFrom_names scope.names 0 (h.objs.size + 1) [] [] rfl ▸ hnd) hm), x.above n c hm⟩
  have lt : ∀ p ∈ news, p.1 < h.objs.size := fun p hp => Heap.lt_size (hn p hp)
  have NL : Led (hideAll h (news.map (·.1))) h.objs.size h₁ (cells ++ news) := ⟨fun p hp => by
    rcases List.mem_append.mp hp with hp | hp
    · refine ⟨(NC p hp).1, (NC p hp).2.1, ?_⟩
      cases q : (hideAll h (news.map (·.1))).get? p.1 with
      | none => rfl
      | some o => have := of_hideAll _ q; rw [(NC p hp).2.2] at this; cases this
    · exact ⟨hk₁ _ _ (hn p hp), Nat.ne_of_lt (lt p hp), hideAll_none _ (List.mem_map_of_mem hp)⟩, by
    rw [List.map_append, List.nodup_append]
    refine ⟨by rw [cells_lt Y]; exact (hcs _).1, nd, fun a ha b hb e => ?_⟩
    obtain ⟨p, hp, rfl⟩ := List.mem_map.mp hb
    rw [cells_lt Y] at ha
    have h1 : h.objs.size < a := (hcs _).2 a ha
    have h2 : p.1 < h.objs.size := lt p hp
    have h3 : a = p.1 := e
    rw [h3] at h1; exact absurd h1 (Nat.not_lt.mpr (Nat.le_of_lt h2))⟩
  have Z : Site w n (callerA.deeper (envX qual scope h.objs.size f cdv (cellsFrom (h.objs.size + 1) scope.names []))) (hideAll h (news.map (·.1))) [] (envX qual scope h.objs.size f cdv (cellsFrom (h.objs.size + 1) scope.names [])) h.objs.size (hideAll h (news.map (·.1))) :=
    ⟨rfl, rfl, rfl, hk, rfl, h0, h1, ⟨callerA, below_caller _⟩, X, X, ⟨p, loose, mean, mg, mb, T, T⟩, fun _ hm => nomatch hm⟩
  refine gw_mono (H _ _ [] _ h.objs.size σ h₁ tk cells rfl Z ⟨by rw [show (lk bs) = bindL _ binds (fun _ => none) from by rw [← hbs h.objs.size]; exact (bindL_lk _ binds []).symm]; exact x.toInCall.ns, fun b o e => hk₁ b o (of_hideAll _ e), Nat.le_of_eq (hideAll_size _ _)⟩ Y NL) (fun fl s' hr => ?_)
  obtain ⟨g', m', news', h', tk', rfl, T', F2, N2, hp⟩ := hr
  obtain ⟨F3, N3⟩ := turn_none T' F2 N2
  cases fl <;> exact hQ _ news' _ h' tk' _ hp F3 N3
end
end Og
end

-- OgA
section
open PySem PySem.W PyProof.Rows PySem.Calls
set_option maxRecDepth 100000
set_option Elab.async false
set_option linter.unusedVariables false
set_option maxHeartbeats 1000000
namespace Og
noncomputable def plE : Expr → Bool
  | .Starred _ _ => false
  | _ => true
theorem star_pl {e : Expr} {rest : List Expr} {env : Env} (h : plE e = true) : starEach (e :: rest) env = (false, eval e env) :: starEach rest env := by
  cases e <;> first | rfl | cases h
noncomputable def noC : Expr → Bool
  | .ListComp .. | .SetComp .. | .DictComp .. => false
  | _ => true
theorem sw_no {e : Expr} {tg : Option Expr} {n : Nat} {env : Env} (h : noC e = true) : swapsWith e tg n env = pure false := by
  cases e <;> first | rfl | cases h
noncomputable def plainF : Expr → Bool
  | .Attribute .. => false
  | _ => true
theorem call_pl {e : Expr} {args : List Expr} {pos : Pos} {env : Env} (h : plainF e = true) : eval (.Call e args [] pos) env = (do
      let __do_lift ← eval e env
      callWith pos __do_lift [] (backTo pos (starEach args env)) (backToKw pos (keywordEach [] env))) := by
  cases e <;> first | rfl | cases h
noncomputable def plA : Expr → Bool
  | .Call .. => false
  | _ => true
theorem attr_pl {e : Expr} {x : S} {pos : Pos} {env : Env} (h : plA e = true) : eval (.Attribute e x pos) env = (do
      let o ← eval e env
      standAt (Pos.atName pos)
      let r ← holding [o] (getAttr o x true)
      letTemporaryGo e o r
      pure r) := by
  cases e <;> first | rfl | cases h
theorem any_pl {pos : Pos} {env : Env} : ∀ {rest : List Expr}, rest.all plE = true → (backTo pos (starEach rest env)).any (·.1) = false
  | [], _ => rfl
  | e :: r, h => by
    rw [List.all_cons, Bool.and_eq_true_iff] at h
    rw [star_pl h.1]
    show (false || (backTo pos (starEach r env)).any (·.1)) = false
    rw [any_pl h.2]; rfl
theorem assign_Attr {M : Model} {A : Around} {E : Value → Shared → Prop} {s : Shared} {env : Env} {o : Expr} {x : S} {pos : Pos} {v : Value} {Q : Unit → Shared → Prop}
    (h : wpAny M A (eval o env) (fun ov s₂ => wpAny M A (setAttr ov x v) Q E s₂) E s) : wpAny M A (assign (.Attribute o x pos) env v) Q E s := fun Γ p hΓ => by
  simp only [assign_Attribute, Sem.wp_bind', Sem.wp_holding, Sem.wp_cmd_standAt, Sem.wp_release, Sem.wp_pure']
  exact Sem.wp_mono M Γ _ (fun ov p₂ s₂ h₂ => h₂ Γ _ hΓ) (fun _ _ _ h' => h') _ _ (h Γ _ hΓ)
/-- who runs -/
structure Md where
  w : World
  A : Around
  E : Value → Shared → Prop
/-- where -/
structure Gd where
  g : Heap
  L : Addr
  σ : Shared
structure As (G : Gd) (t : Nat) (xs : List (S × Value)) (news : List Ob) (φ : Shared → Prop) : Prop where
  h : ∀ h, Fr G.g G.L h (lk xs) → Led G.g G.L h news → φ (st G.σ h t)
noncomputable def W (M : Md) {α : Type} (m : Sem α) (Q : α → Shared → Prop) : Shared → Prop := wpAny (model PW M.w) M.A m Q M.E
theorem W.of {M : Md} {α : Type} {m : Sem α} {Q : α → Shared → Prop} {s : Shared} (h : wpAny (model PW M.w) M.A m Q M.E s) : W M m Q s := h
noncomputable def Br (b : Bool) (p q : Shared → Prop) : Shared → Prop := fun s => if b = true then p s else q s
/-- what the module's own names want -/
structure Kn (w : World) (g : Heap) : Prop where
  X : (hd.heap_1 w.params).In g
  T : Ex5 fun p loose mean mg mb => Top p loose mean mg mb g
theorem Site.kn {w : World} {n : Nat} {A : Around} {base : Heap} {outer : List Env} {env : Env} {L : Addr} {g : Heap} (Z : Site w n A base outer env L g) : Kn w g :=
  ⟨Z.X, let ⟨p, loose, mean, mg, mb, T, _⟩ := Z.T; ⟨p, loose, mean, mg, mb, T⟩⟩
section
variable {w : World} {A : Around} {E : Value → Shared → Prop} {g h : Heap} {L : Addr} {σ : Shared} {t : Nat} {xs : List (S × Value)} {news : List Ob} {α : Type} {m : Sem α} {Q : α → Shared → Prop} {φ : Shared → Prop}
theorem inW (F : Fr g L h (lk xs)) (N : Led g L h news) (H : As ⟨g, L, σ⟩ t xs news (W ⟨w, A, E⟩ m Q)) : wpAny (model PW w) A m Q E (st σ h t) := H.1 h F N
theorem inQ (F : Fr g L h (lk xs)) (N : Led g L h news) (H : As ⟨g, L, σ⟩ t xs news φ) : φ (st σ h t) := H.1 h F N
theorem outW (H : ∀ h t, Fr g L h (lk xs) → Led g L h news → wpAny (model PW w) A m Q E (st σ h t)) : As ⟨g, L, σ⟩ t xs news (W ⟨w, A, E⟩ m Q) := .mk fun h => H h t
theorem outQ (H : ∀ h t, Fr g L h (lk xs) → Led g L h news → φ (st σ h t)) : As ⟨g, L, σ⟩ t xs news φ := .mk fun h => H h t
end
section
variable {M : Md} {G : Gd} {t : Nat} {xs : List (S × Value)} {news : List Ob} {env : Env}
-- statements
section
variable {Q : Flow → Shared → Prop} {s : Stmt} {rest body orelse : List Stmt} {pos p' : Pos} {x : S} {e e' o i : Expr}
noncomputable abbrev kSeq (M : Md) (rest : List Stmt) (env : Env) (Q : Flow → Shared → Prop) (f : Flow) : Shared → Prop := match f with
  | .next => W M (execs rest env) Q
  | f => Q f
theorem aCons (H : As G t xs news (W M (exec s env) (kSeq M rest env Q))) : As G t xs news (W M (execs (s :: rest) env) Q) := .mk fun h F N => wpAny_execs_cons (wpAny_mono (H.1 h F N) (fun f s q => by cases f <;> exact q) fun _ _ e => e)
theorem aNil (H : As G t xs news (Q .next)) : As G t xs news (W M (execs [] env) Q) := .mk fun h F N => wpAny_execs_nil (H.1 h F N)
noncomputable abbrev kIf (M : Md) (body orelse : List Stmt) (env : Env) (Q : Flow → Shared → Prop) (b : Bool) : Shared → Prop := Br b (W M (execs body env) Q) (W M (execs orelse env) Q)
theorem aIf (H : As G t xs news (W M (isTrue e env (eval e env)) (kIf M body orelse env Q))) : As G t xs news (W M (exec (.If e body orelse pos) env) Q) := .mk fun h F N => wpAny_If (H.1 h F N)
noncomputable abbrev kRet (Q : Flow → Shared → Prop) (v : Value) : Shared → Prop := Q (.ret v)
theorem aRet (H : As G t xs news (W M (eval e env) (kRet Q))) : As G t xs news (W M (exec (.Return (some e) pos) env) Q) := .mk fun h F N => wpAny_Return_some (H.1 h F N)
noncomputable abbrev kN (Q : Flow → Shared → Prop) (_ : Unit) : Shared → Prop := Q .next
noncomputable abbrev kSt (M : Md) (x : S) (env : Env) (Q : Flow → Shared → Prop) (v : Value) : Shared → Prop := W M (storeName env x v) (kN Q)
theorem aAsg (H : As G t xs news (W M (eval e env) (kSt M x env Q))) (hs : noC e = true) : As G t xs news (W M (exec (.Assign [.Name x p'] e pos) env) Q) := .mk fun h F N => wpAny_Assign_Name (H.1 h F N) (sw_no hs)
noncomputable abbrev kEx (Q : Flow → Shared → Prop) (v : Value) : Shared → Prop := match v with
  | .ref _ => fun _ => False
  | _ => Q .next
theorem aExpr (H : As G t xs news (W M (eval e env) (kEx Q))) (hi : interactive env = false) (hs : noC e = true) : As G t xs news (W M (exec (.Expr e pos) env) Q) := .mk fun h F N => wpAny_Expr (wpAny_mono (H.1 h F N) (fun v s q => by cases v <;> exact q) fun _ _ e => e) hi (sw_no hs)
noncomputable abbrev kAsg (M : Md) (e : Expr) (env : Env) (Q : Flow → Shared → Prop) (v : Value) : Shared → Prop := W M (assign e env v) (kN Q)
theorem aAsgT {elts : List Expr} {k : Nat} {tp : Pos} (H : As G t xs news (W M (eval e env) (kAsg M (.Tuple elts k tp) env Q))) (hs : swapsWithSole [.Tuple elts k tp] e pos.line env = pure false) (hw : swappedStores [.Tuple elts k tp] e env = pure none) : As G t xs news (W M (exec (.Assign [.Tuple elts k tp] e pos) env) Q) := .mk fun h F N => Assign_Tuple (H.1 h F N) hs hw
noncomputable abbrev kSS3 (M : Md) (v ov : Value) (Q : Unit → Shared → Prop) (iv : Value) : Shared → Prop := W M (setItem ov iv v) Q
noncomputable abbrev kSS2 (M : Md) (i : Expr) (env : Env) (v : Value) (Q : Unit → Shared → Prop) (ov : Value) : Shared → Prop := W M (eval i env) (kSS3 M v ov Q)
noncomputable abbrev kSS1 (M : Md) (o i : Expr) (env : Env) (Q : Flow → Shared → Prop) (v : Value) : Shared → Prop := W M (eval o env) (kSS2 M i env v (kN Q))
theorem aAsgS (H : As G t xs news (W M (eval e env) (kSS1 M o i env Q))) (hs : noC e = true) : As G t xs news (W M (exec (.Assign [.Subscript o i p'] e pos) env) Q) := .mk fun h F N => wpAny_Assign_Subscript (H.1 h F N) (sw_no hs)
theorem aAsSub {v : Value} {Q : Unit → Shared → Prop} (H : As G t xs news (W M (eval o env) (kSS2 M i env v Q))) : As G t xs news (W M (assign (.Subscript o i pos) env v) Q) := .mk fun h F N => assign_Sub (H.1 h F N)
theorem aAsAt {v : Value} {Q : Unit → Shared → Prop} (H : As G t xs news (W M (eval o env) (fun ov => W M (setAttr ov x v) Q))) : As G t xs news (W M (assign (.Attribute o x pos) env v) Q) := .mk fun h F N => assign_Attr (H.1 h F N)
noncomputable abbrev kSA2 (M : Md) (x : S) (v : Value) (Q : Flow → Shared → Prop) (ov : Value) : Shared → Prop := W M (setAttr ov x v) (kN Q)
noncomputable abbrev kSA1 (M : Md) (o : Expr) (x : S) (env : Env) (Q : Flow → Shared → Prop) (v : Value) : Shared → Prop := W M (eval o env) (kSA2 M x v Q)
theorem aAsgA (H : As G t xs news (W M (eval e env) (kSA1 M o x env Q))) (hs : noC e = true) : As G t xs news (W M (exec (.Assign [.Attribute o x p'] e pos) env) Q) := .mk fun h F N => plainObj_wpAny_Assign_Attribute (H.1 h F N) (sw_no hs)
theorem aAsN {v : Value} {Q : Unit → Shared → Prop} (H : As G t xs news (W M (storeName env x v) Q)) : As G t xs news (W M (assign (.Name x pos) env v) Q) := .mk fun h F N => wpAny_assign_Name (H.1 h F N)
-- tuple targets
noncomputable abbrev kN2 (M : Md) (env : Env) (x : S) (a : Value) (Q : Flow → Shared → Prop) (_ : Unit) : Shared → Prop := W M (storeName env x a) (kN Q)
noncomputable abbrev kN3 (M : Md) (env : Env) (y x : S) (b a : Value) (Q : Flow → Shared → Prop) (_ : Unit) : Shared → Prop := W M (storeName env y b) (kN2 M env x a Q)
noncomputable def kG2 (M : Md) (G : Gd) (env : Env) (x y : S) (Q : Flow → Shared → Prop) : List Value → Shared → Prop := Got G.σ G.g G.L (St2 M.w M.A G.σ G.g G.L env x y Q M.E)
noncomputable def kG3 (M : Md) (G : Gd) (env : Env) (x y z : S) (Q : Flow → Shared → Prop) : List Value → Shared → Prop := Got G.σ G.g G.L (St3 M.w M.A G.σ G.g G.L env x y z Q M.E)
theorem aG2 {x y : S} {a b : Value} (H : ∀ t, As G t xs news (W M (storeName env y b) (kN2 M env x a Q))) : As G t xs news (kG2 M G env x y Q [a, b]) := .mk fun h F N => Got.intro F N (St2.intro fun h t F N => (H t).1 h F N)
theorem aG3 {x y z : S} {a b c : Value} (H : ∀ t, As G t xs news (W M (storeName env z c) (kN3 M env y x b a Q))) : As G t xs news (kG3 M G env x y z Q [a, b, c]) := .mk fun h F N => Got.intro F N (St3.intro fun h t F N => (H t).1 h F N)
variable {y z : S} {px py pz tpos vpos : Pos} {kt kv : Nat} {els : List Expr}
theorem aAsg2 (hh : M.A.handled = none) (H : As G t xs news (W M (spliced (backTo vpos (starEach els env))) (kG2 M G env x y Q)))
    (hs : swapsWithSole [.Tuple [.Name x px, .Name y py] kt tpos] (.Tuple els kv vpos) pos.line env = pure false) (hw : swappedStores [.Tuple [.Name x px, .Name y py] kt tpos] (.Tuple els kv vpos) env = pure (some [x, y])) :
    As G t xs news (W M (exec (.Assign [.Tuple [.Name x px, .Name y py] kt tpos] (.Tuple els kv vpos) pos) env) Q) := .mk fun h F N => asg2 hh (H.1 h F N) hs hw
theorem aAsg3 (hh : M.A.handled = none) (H : As G t xs news (W M (spliced (backTo vpos (starEach els env))) (kG3 M G env x y z Q)))
    (hs : swapsWithSole [.Tuple [.Name x px, .Name y py, .Name z pz] kt tpos] (.Tuple els kv vpos) pos.line env = pure false) (hw : swappedStores [.Tuple [.Name x px, .Name y py, .Name z pz] kt tpos] (.Tuple els kv vpos) env = pure (some [x, y, z])) :
    As G t xs news (W M (exec (.Assign [.Tuple [.Name x px, .Name y py, .Name z pz] kt tpos] (.Tuple els kv vpos) pos) env) Q) := .mk fun h F N => asg3 hh (H.1 h F N) hs hw
end
-- trees
section
variable {Q : Value → Shared → Prop} {l r e o : Expr} {op : Operator} {pos apos : Pos} {x : S} {args : List Expr} {k : Nat} {rest : List Expr} {v : Value}
noncomputable abbrev kBinR (M : Md) (op : Operator) (a : Value) (Q : Value → Shared → Prop) (b : Value) : Shared → Prop := W M (binaryOp op a b) Q
noncomputable abbrev kBinL (M : Md) (op : Operator) (r : Expr) (env : Env) (Q : Value → Shared → Prop) (a : Value) : Shared → Prop := W M (eval r env) (kBinR M op a Q)
theorem aBin (H : As G t xs news (W M (eval l env) (kBinL M op r env Q))) : As G t xs news (W M (eval (.BinOp l op r pos) env) Q) := .mk fun h F N => wpAny_BinOp (H.1 h F N)
noncomputable abbrev kMe2 (M : Md) (pos : Pos) (args : List Expr) (env : Env) (Q : Value → Shared → Prop) (fx : Value × List Value) : Shared → Prop := W M (callWith pos fx.1 fx.2 (backTo pos (starEach args env)) []) Q
noncomputable abbrev kMe1 (M : Md) (x : S) (pl : Sem Bool) (pos : Pos) (args : List Expr) (env : Env) (Q : Value → Shared → Prop) (ov : Value) : Shared → Prop := W M (getMethod ov x pl) (kMe2 M pos args env Q)
theorem aMeth {pl : Sem Bool} (H : As G t xs news (W M (eval o env) (kMe1 M x pl pos args env Q))) (hm : eval (.Call (.Attribute o x apos) args [] pos) env = do
      let ov ← eval o env
      standAt (Pos.atName apos)
      let __x ← holding [ov] (getMethod ov x pl)
      match __x with
        | (f, first) => callWith pos f first (backTo pos (starEach args env)) []) : As G t xs news (W M (eval (.Call (.Attribute o x apos) args [] pos) env) Q) := .mk fun h F N => MethodCall_ (H.1 h F N) hm
noncomputable abbrev kCall (M : Md) (pos : Pos) (args : List Expr) (env : Env) (Q : Value → Shared → Prop) (f : Value) : Shared → Prop := W M (callWith pos f [] (backTo pos (starEach args env)) []) Q
theorem aCall (H : As G t xs news (W M (eval e env) (kCall M pos args env Q))) (hm : plainF e = true) : As G t xs news (W M (eval (.Call e args [] pos) env) Q) := .mk fun h F N => Call_ (H.1 h F N) (call_pl hm)
noncomputable abbrev kAt (M : Md) (x : S) (Q : Value → Shared → Prop) (ov : Value) : Shared → Prop := W M (getAttr ov x true) Q
theorem aAttr (H : As G t xs news (W M (eval e env) (kAt M x Q))) (hm : plA e = true) : As G t xs news (W M (eval (.Attribute e x pos) env) Q) := .mk fun h F N => Attribute_any_ (H.1 h F N) (attr_pl hm)
noncomputable abbrev kSu2 (M : Md) (e r : Expr) (o : Value) (Q : Value → Shared → Prop) (i : Value) : Shared → Prop := W M (subscriptTail e r o i) Q
noncomputable abbrev kSu1 (M : Md) (e r : Expr) (env : Env) (Q : Value → Shared → Prop) (o : Value) : Shared → Prop := W M (eval r env) (kSu2 M e r o Q)
theorem aSub (H : As G t xs news (W M (eval e env) (kSu1 M e r env Q))) : As G t xs news (W M (eval (.Subscript e r pos) env) Q) := .mk fun h F N => Subscript_ (H.1 h F N)
theorem aBool {b : Bool} (H : As G t xs news (Q (.bool b))) : As G t xs news (W M (eval (.Constant (.bool b) k pos) env) Q) := .mk fun h F N => Constant_bool (H.1 h F N)
theorem aNone (H : As G t xs news (Q .none)) : As G t xs news (W M (eval (.Constant .none k pos) env) Q) := .mk fun h F N => Constant_none (H.1 h F N)
theorem aInt {i : Int} (H : As G t.succ xs news (Q (.int i t))) : As G t xs news (W M (eval (.Constant (.int i) k pos) env) Q) := .mk fun h F N => wpAny_Constant_int (H.1 h F N)
theorem aStr {i : S} (H : As G t.succ xs news (Q (.str i t))) : As G t xs news (W M (eval (.Constant (.str i) k pos) env) Q) := .mk fun h F N => wpAny_Constant_str (H.1 h F N)
theorem aByt {i : List UInt8} (H : As G t.succ xs news (Q (.bytes i.toArray t))) : As G t xs news (W M (eval (.Constant (.bytes i) k pos) env) Q) := .mk fun h F N => Constant_bytes (H.1 h F N)
theorem aBo1 {bop : BoolOp} (H : As G t xs news (W M (eval e env) Q)) : As G t xs news (W M (eval (.BoolOp bop [e] pos) env) Q) := .mk fun h F N => BoolOp_one (H.1 h F N)
noncomputable abbrev kBoA2 (M : Md) (e : Expr) (rest : List Expr) (pos : Pos) (env : Env) (Q : Value → Shared → Prop) (v : Value) (c : Bool) : Shared → Prop := Br c (W M (eval (.BoolOp .And (e :: rest) pos) env) Q) (Q v)
noncomputable abbrev kBoA (M : Md) (e : Expr) (rest : List Expr) (pos : Pos) (env : Env) (Q : Value → Shared → Prop) (v : Value) : Shared → Prop := W M (truthy v) (kBoA2 M e rest pos env Q v)
theorem aBoA (H : As G t xs news (W M (eval l env) (kBoA M e rest pos env Q))) : As G t xs news (W M (eval (.BoolOp .And (l :: e :: rest) pos) env) Q) := .mk fun h F N => BoolOp_and (H.1 h F N)
noncomputable abbrev kBoO2 (M : Md) (e : Expr) (rest : List Expr) (pos : Pos) (env : Env) (Q : Value → Shared → Prop) (v : Value) (c : Bool) : Shared → Prop := Br c (Q v) (W M (eval (.BoolOp .Or (e :: rest) pos) env) Q)
noncomputable abbrev kBoO (M : Md) (e : Expr) (rest : List Expr) (pos : Pos) (env : Env) (Q : Value → Shared → Prop) (v : Value) : Shared → Prop := W M (truthy v) (kBoO2 M e rest pos env Q v)
theorem aBoO (H : As G t xs news (W M (eval l env) (kBoO M e rest pos env Q))) : As G t xs news (W M (eval (.BoolOp .Or (l :: e :: rest) pos) env) Q) := .mk fun h F N => BoolOp_or (H.1 h F N)
noncomputable abbrev kUn (M : Md) (u : UnaryOp) (Q : Value → Shared → Prop) (v : Value) : Shared → Prop := W M (unaryOp u v) Q
theorem aUn {u : UnaryOp} (H : As G t xs news (W M (eval e env) (kUn M u Q))) : As G t xs news (W M (eval (.UnaryOp u e pos) env) Q) := .mk fun h F N => UnaryOp_ (H.1 h F N)
noncomputable abbrev kIfE (M : Md) (l r : Expr) (env : Env) (Q : Value → Shared → Prop) (b : Bool) : Shared → Prop := Br b (W M (eval l env) Q) (W M (eval r env) Q)
theorem aIfE (H : As G t xs news (W M (isTrue e env (eval e env)) (kIfE M l r env Q))) : As G t xs news (W M (eval (.IfExp e l r pos) env) Q) := .mk fun h F N => IfExp_ (H.1 h F N)
variable {cop : CmpOp}
noncomputable abbrev kCmR (M : Md) (op : CmpOp) (a : Value) (Q : Value → Shared → Prop) (b : Value) : Shared → Prop := W M (compareOp op a b) Q
noncomputable abbrev kCmL (M : Md) (op : CmpOp) (r : Expr) (env : Env) (Q : Value → Shared → Prop) (a : Value) : Shared → Prop := W M (eval r env) (kCmR M op a Q)
theorem aCmp (H : As G t xs news (W M (eval l env) (kCmL M cop r env Q))) (hb : behindInMarks cop r = false) : As G t xs news (W M (eval (.Compare l [cop] [r] pos) env) Q) := .mk fun h F N => wpAny_Compare1 (H.1 h F N) hb
noncomputable abbrev kTup (M : Md) (Q : Value → Shared → Prop) (vs : List Value) : Shared → Prop := W M (newTuple vs) Q
theorem aTup {elts : List Expr} (H : As G t xs news (W M (spliced (backTo pos (starEach elts env))) (kTup M Q))) : As G t xs news (W M (eval (.Tuple elts k pos) env) Q) := .mk fun h F N => Tuple_ (H.1 h F N)
noncomputable abbrev kLst (M : Md) (Q : Value → Shared → Prop) (vs : List Value) : Shared → Prop := W M (newList vs) Q
theorem aLst {elts : List Expr} (H : As G t xs news (W M (spliced (backTo pos (starEach elts env))) (kLst M Q))) : As G t xs news (W M (eval (.List elts pos) env) Q) := .mk fun h F N => List_ (H.1 h F N)
variable {lower upper step : Option Expr}
noncomputable def kSl3 (l u : Value) (Q : Value → Shared → Prop) (v : Value) : Shared → Prop := fun s => Q (.ref s.heap.objs.size) { s with heap := s.heap.push { cls := .type "slice", data := .fields #[l, u, v] } }
noncomputable abbrev kSl2 (M : Md) (step : Option Expr) (l : Value) (env : Env) (Q : Value → Shared → Prop) (u : Value) : Shared → Prop := W M (evalPart step env) (kSl3 l u Q)
noncomputable abbrev kSl1 (M : Md) (upper step : Option Expr) (env : Env) (Q : Value → Shared → Prop) (l : Value) : Shared → Prop := W M (evalPart upper env) (kSl2 M step l env Q)
theorem aSlice (H : As G t xs news (W M (evalPart lower env) (kSl1 M upper step env Q))) : As G t xs news (W M (eval (.Slice lower upper step pos) env) Q) := .mk fun h F N => wpAny_Slice (H.1 h F N)
theorem aPartN (H : As G t xs news (Q .none)) : As G t xs news (W M (evalPart none env) Q) := .mk fun h F N => evalPart_none_step (H.1 h F N)
theorem aPartS (H : As G t xs news (W M (eval e env) Q)) : As G t xs news (W M (evalPart (some e) env) Q) := .mk fun h F N => evalPart_some_step (H.1 h F N)
end
-- names
section
variable {Q : Value → Shared → Prop} {cn : S} {cs scope : PySem.Scope} {ccd v : Value} {cl cl' : List (S × Addr)} {x : S} {pos : Pos} {a c C : Addr} {o oC : Obj} {mC : S → Option Value}
theorem aL (hx : cs.names.lookup x = some .local) (hv : xs.lookup x = some v) (hk : cs.kind = .function) (hd : (x == ("__debug__" : S)) = false) (H : As G t xs news (Q v)) : As G t xs news (W M (eval (.Name x pos) (envX cn cs G.L a ccd cl)) Q) := .mk fun h F N => nameX_L F hv (H.1 h F N) hk hx hd
theorem aK (K : Kn M.w G.g) (e : nsIn (hd.heap_1 M.w.params) mainGlobals x = some (some v)) (hx : (envX cn cs G.L a ccd cl).kindOf x = some .globalImplicit) (hk : cs.kind = .function) (hd : (x == ("__debug__" : S)) = false) (H : As G t xs news (Q v)) : As G t xs news (W M (eval (.Name x pos) (envX cn cs G.L a ccd cl)) Q) := .mk fun h F N => by
  obtain ⟨p, loose, mean, mg, mb, T⟩ := K.T
  exact nameX_K F K.X (topRead_of T) e (H.1 h F N) hk hx hd
theorem aB (K : Kn M.w G.g) (hv : bootBuiltins x = some v) (e : nsIn (hd.heap_1 M.w.params) mainGlobals x = some none) (hx : (envX cn cs G.L a ccd cl).kindOf x = some .globalImplicit) (hk : cs.kind = .function) (hn : x ≠ "__name__") (hd : (x == ("__debug__" : S)) = false) (H : As G t xs news (Q v)) : As G t xs news (W M (eval (.Name x pos) (envX cn cs G.L a ccd cl)) Q) := .mk fun h F N => by
  obtain ⟨p, loose, mean, mg, mb, T⟩ := K.T
  exact nameX_B F K.X (topRead_of T) e hv hn (H.1 h F N) hk hx hd
theorem aC (hc : cl.lookup x = some c) (hm : (c, o) ∈ news) (hd : o.data = .cell (some v)) (hx : (envX cn cs G.L a ccd cl).kindOf x = some .cell) (hk : cs.kind = .function) (hb : (x == ("__debug__" : S)) = false) (H : As G t xs news (Q v)) : As G t xs news (W M (eval (.Name x pos) (envX cn cs G.L a ccd cl)) Q) := .mk fun h F N => nameX_C (s := st G.σ h t) N.n hc hm hd (H.1 h F N) hk hx hb
theorem aF (hc : cl.lookup x = some c) (hm : (c, o) ∈ news) (hd : o.data = .cell (some v)) (hx : (envX cn cs G.L a ccd cl).kindOf x = some .free) (hk : cs.kind = .function) (hb : (x == ("__debug__" : S)) = false) (hn : (x == ("__classdict__" : S)) = false) (H : As G t xs news (Q v)) : As G t xs news (W M (eval (.Name x pos) (envX cn cs G.L a ccd cl)) Q) := .mk fun h F N => nameX_F (s := st G.σ h t) N.n hc hm hd (H.1 h F N) hk hx hb hn
theorem aCL (hm : (C, oC) ∈ news) (ho : LCg.NsObj oC mC) (hv : mC x = some v) (hx : (compEnvC scope cl C (envX cn cs G.L a ccd cl')).kindOf x = some .local) (hk : scope.kind = .function) (hd : (x == ("__debug__" : S)) = false) (H : As G t xs news (Q v)) : As G t xs news (W M (eval (.Name x pos) (compEnvC scope cl C (envX cn cs G.L a ccd cl'))) Q) := .mk fun h F N => nCL N hm ho hv hx hk hd (H.1 h F N)
theorem aCK (K : Kn M.w G.g) (e : nsIn (hd.heap_1 M.w.params) mainGlobals x = some (some v)) (hx : (compEnvC scope cl C (envX cn cs G.L a ccd cl')).kindOf x = some .globalImplicit) (hk : scope.kind = .function) (hd : (x == ("__debug__" : S)) = false) (H : As G t xs news (Q v)) : As G t xs news (W M (eval (.Name x pos) (compEnvC scope cl C (envX cn cs G.L a ccd cl'))) Q) := .mk fun h F N => by
  obtain ⟨p, loose, mean, mg, mb, T⟩ := K.T
  exact nameG_K (s := st G.σ h t) F K.X (topRead_of T) e (H.1 h F N) rfl hk hx hd
theorem aCB (K : Kn M.w G.g) (hv : bootBuiltins x = some v) (e : nsIn (hd.heap_1 M.w.params) mainGlobals x = some none) (hx : (compEnvC scope cl C (envX cn cs G.L a ccd cl')).kindOf x = some .globalImplicit) (hk : scope.kind = .function) (hn : x ≠ "__name__") (hd : (x == ("__debug__" : S)) = false) (H : As G t xs news (Q v)) : As G t xs news (W M (eval (.Name x pos) (compEnvC scope cl C (envX cn cs G.L a ccd cl'))) Q) := .mk fun h F N => by
  obtain ⟨p, loose, mean, mg, mb, T⟩ := K.T
  have T := topRead_of T
  exact Name_function_global hk hx (loadGlobal_builtin (env := compEnvC scope cl C (envX cn cs G.L a ccd cl')) (T.g.keeps F.keep) (mg_none_of K.X T.g e) (T.b.keeps F.keep) ((T.builtins x hn).trans hv) (H.1 h F N)) hd
theorem aCC (hc : cl.lookup x = some c) (hm : (c, o) ∈ news) (hd : o.data = .cell (some v)) (hx : (compEnvC scope cl C (envX cn cs G.L a ccd cl')).kindOf x = some .cell) (hk : scope.kind = .function) (hb : (x == ("__debug__" : S)) = false) (H : As G t xs news (Q v)) : As G t xs news (W M (eval (.Name x pos) (compEnvC scope cl C (envX cn cs G.L a ccd cl'))) Q) := .mk fun h F N => nCC N hc hm hd hx hk hb (H.1 h F N)
variable {Q : Unit → Shared → Prop}
theorem aS (hx : cs.names.lookup x = some .local) (hk : cs.kind = .function) (H : As G t.succ ((x, v) :: xs) news (Q ())) : As G t xs news (W M (storeName (envX cn cs G.L a ccd cl) x v) Q) := .mk fun h F N =>
  storeX_L F N.n (fun h' F' N' => H.1 h' (by rw [← lk_put]; exact F') ⟨N', N.d⟩) hk hx
theorem aSC {v₀ : Option Value} (hc : cl.lookup x = some c) (hd : o.data = .cell v₀) (hx : (envX cn cs G.L a ccd cl).kindOf x = some .cell) (hk : cs.kind = .function)
    (H : ∀ o, o.data = .cell (some v) → As G t xs ((c, o) :: news) (Q ())) : As G t xs ((c, o) :: news) (W M (storeName (envX cn cs G.L a ccd cl) x v) Q) := .mk fun h F N => by
  refine wpAny_storeName_cell (s := st G.σ h t) hk hx hc ⟨o, N.get (.head _), hd⟩ fun h' hv hs => ?_
  obtain ⟨o', ho', hd'⟩ := hv
  exact (H o' hd').1 h' (N.frPut F hs) (N.put hs ho')
end
-- tests
section
variable {Q : Bool → Shared → Prop} {l r e r₂ : Expr} {op op₂ : CmpOp} {pos : Pos} {whole : Sem Value} {rest : List Expr} {b : Bool} {p q : Shared → Prop} {i : Int} {u : Tok}
noncomputable abbrev kTr (M : Md) (Q : Bool → Shared → Prop) (v : Value) : Shared → Prop := W M (truthy v) Q
theorem tCmp (H : As G t xs news (W M (eval l env) (kCmL M op r env (kTr M Q)))) (hb : behindInMarks op r = false) : As G t xs news (W M (isTrue (.Compare l [op] [r] pos) env whole) Q) := .mk fun h F N => wpAny_isTrue_Compare1 (H.1 h F N) hb
noncomputable abbrev kCh3 (M : Md) (op : CmpOp) (r : Expr) (env : Env) (b : Value) (Q : Bool → Shared → Prop) (c : Bool) : Shared → Prop := Br c (W M (eval r env) (kCmR M op b (kTr M Q))) (Q false)
noncomputable abbrev kCh2 (M : Md) (op op₂ : CmpOp) (r : Expr) (env : Env) (a : Value) (Q : Bool → Shared → Prop) (b : Value) : Shared → Prop := W M (compareOp op a b) (kTr M (kCh3 M op₂ r env b Q))
noncomputable abbrev kCh1 (M : Md) (op op₂ : CmpOp) (r r₂ : Expr) (env : Env) (Q : Bool → Shared → Prop) (a : Value) : Shared → Prop := W M (eval r env) (kCh2 M op op₂ r₂ env a Q)
theorem tCh2 (H : As G t xs news (W M (eval l env) (kCh1 M op op₂ r r₂ env Q))) (hm : lastMarks [op, op₂] [r, r₂] = false) : As G t xs news (W M (isTrue (.Compare l [op, op₂] [r, r₂] pos) env whole) Q) := .mk fun h F N => chain2 (H.1 h F N) hm
noncomputable abbrev kAnd (M : Md) (rest : List Expr) (pos : Pos) (env : Env) (whole : Sem Value) (Q : Bool → Shared → Prop) (c : Bool) : Shared → Prop := Br c (W M (isTrue (.BoolOp .And rest pos) env whole) Q) (Q false)
theorem tAnd (H : As G t xs news (W M (isTrue e env (eval e env)) (kAnd M rest pos env whole Q))) : As G t xs news (W M (isTrue (.BoolOp .And (e :: rest) pos) env whole) Q) := .mk fun h F N => isTrue_and (H.1 h F N)
theorem tAnd0 (H : As G t xs news (Q true)) : As G t xs news (W M (isTrue (.BoolOp .And [] pos) env whole) Q) := .mk fun h F N => isTrue_and_nil (H.1 h F N)
noncomputable abbrev kOr (M : Md) (rest : List Expr) (pos : Pos) (env : Env) (whole : Sem Value) (Q : Bool → Shared → Prop) (c : Bool) : Shared → Prop := Br c (Q true) (W M (isTrue (.BoolOp .Or rest pos) env whole) Q)
theorem tOr (H : As G t xs news (W M (isTrue e env (eval e env)) (kOr M rest pos env whole Q))) : As G t xs news (W M (isTrue (.BoolOp .Or (e :: rest) pos) env whole) Q) := .mk fun h F N => isTrue_or (H.1 h F N)
theorem tOr0 (H : As G t xs news (Q false)) : As G t xs news (W M (isTrue (.BoolOp .Or [] pos) env whole) Q) := .mk fun h F N => isTrue_or_nil (H.1 h F N)
noncomputable abbrev kNot (Q : Bool → Shared → Prop) (c : Bool) : Shared → Prop := Q (!c)
theorem tNot (H : As G t xs news (W M (isTrue e env (eval e env)) (kNot Q))) : As G t xs news (W M (isTrue (.UnaryOp .Not e pos) env whole) Q) := .mk fun h F N => isTrue_not (H.1 h F N)
theorem tPl (H : As G t xs news (W M whole (kTr M Q))) (hm : isTrue e env whole = do
      let v ← whole
      standAt (Expr.pos e)
      holding [v] (truthy v)) : As G t xs news (W M (isTrue e env whole) Q) := .mk fun h F N => isTrue_plain (H.1 h F N) hm
theorem tB (H : As G t xs news (Q b)) : As G t xs news (W M (truthy (.bool b)) Q) := .mk fun h F N => wpAny_truthy_bool (H.1 h F N)
theorem brT (H : As G t xs news p) : As G t xs news (Br true p q) := .mk fun h F N => br_t (H.1 h F N)
theorem brF (H : As G t xs news q) : As G t xs news (Br false p q) := .mk fun h F N => br_f (H.1 h F N)
theorem brP (e : b = true) (H : As G t xs news p) : As G t xs news (Br b p q) := .mk fun h F N => br_pos e (H.1 h F N)
theorem brN (e : b = false) (H : As G t xs news q) : As G t xs news (Br b p q) := .mk fun h F N => br_neg e (H.1 h F N)
end
-- operators
section
variable {Q : Value → Shared → Prop} {i j : Int} {u u' : Tok} {x y : S} {a b : Value} {c : Addr}
theorem oAdd (H : As G t.succ xs news (Q (.int (i + j) t))) : As G t xs news (W M (binaryOp .Add (.int i u) (.int j u')) Q) := .mk fun h F N => by (with_reducible refine W.of (PyProof.Rows.add_int ?_)); exact H.1 h F N
theorem oSub (H : As G t.succ xs news (Q (.int (i - j) t))) : As G t xs news (W M (binaryOp .Sub (.int i u) (.int j u')) Q) := .mk fun h F N => by (with_reducible refine W.of (PyProof.Rows.sub_int ?_)); exact H.1 h F N
theorem oMul (hm : IntMulOk i j) (H : As G t.succ xs news (Q (.int (i * j) t))) : As G t xs news (W M (binaryOp .Mult (.int i u) (.int j u')) Q) := .mk fun h F N => by (with_reducible refine W.of (P.mul_int ?_ hm)); exact H.1 h F N
theorem oDiv (hj : j ≠ 0) (hp : Builtin.divisionGoesByPylong i j = false) (H : As G t.succ xs news (Q (.int (i.fdiv j) t))) : As G t xs news (W M (binaryOp .FloorDiv (.int i u) (.int j u')) Q) := .mk fun h F N => by (with_reducible refine W.of (floordiv_int hj ?_ (.inl hp))); exact H.1 h F N
theorem oMod (hj : j ≠ 0) (H : As G t.succ xs news (Q (.int (i.fmod j) t))) : As G t xs news (W M (binaryOp .Mod (.int i u) (.int j u')) Q) := .mk fun h F N => by (with_reducible refine W.of (mod_int' hj ?_)); exact H.1 h F N
theorem oNeg (H : As G t.succ xs news (Q (.int (-i) t))) : As G t xs news (W M (unaryOp .USub (.int i u)) Q) := .mk fun h F N => by (with_reducible refine W.of (PyProof.Rows.neg_int ?_)); exact H.1 h F N
theorem oLt (H : As G t xs news (Q (.bool (decide (i < j))))) : As G t xs news (W M (compareOp .Lt (.int i u) (.int j u')) Q) := .mk fun h F N => by (with_reducible refine W.of (P.lt_int ?_)); exact H.1 h F N
theorem oLe (H : As G t xs news (Q (.bool (decide (i ≤ j))))) : As G t xs news (W M (compareOp .LtE (.int i u) (.int j u')) Q) := .mk fun h F N => by (with_reducible refine W.of (P.le_int ?_)); exact H.1 h F N
theorem oGt (H : As G t xs news (Q (.bool (decide (i > j))))) : As G t xs news (W M (compareOp .Gt (.int i u) (.int j u')) Q) := .mk fun h F N => by (with_reducible refine W.of (P.gt_int ?_)); exact H.1 h F N
theorem oGe (H : As G t xs news (Q (.bool (decide (i ≥ j))))) : As G t xs news (W M (compareOp .GtE (.int i u) (.int j u')) Q) := .mk fun h F N => by (with_reducible refine W.of (P.ge_int ?_)); exact H.1 h F N
theorem oEq (H : As G t xs news (Q (.bool (i == j)))) : As G t xs news (W M (compareOp .Eq (.int i u) (.int j u')) Q) := .mk fun h F N => by (with_reducible refine W.of (P.eq_int ?_)); exact H.1 h F N
theorem oNe (H : As G t xs news (Q (.bool (i != j)))) : As G t xs news (W M (compareOp .NotEq (.int i u) (.int j u')) Q) := .mk fun h F N => by (with_reducible refine W.of (P.ne_int ?_)); exact H.1 h F N
theorem oEqS (H : As G t xs news (Q (.bool (x.cps.toList == y.cps.toList)))) : As G t xs news (W M (compareOp .Eq (.str x u) (.str y u')) Q) := .mk fun h F N => by (with_reducible refine W.of (P.eq_str ?_)); exact H.1 h F N
theorem oNeS (H : As G t xs news (Q (.bool (x.cps.toList != y.cps.toList)))) : As G t xs news (W M (compareOp .NotEq (.str x u) (.str y u')) Q) := .mk fun h F N => by (with_reducible refine W.of (P.ne_str ?_)); exact H.1 h F N
theorem oIsN (H : As G t xs news (Q (.bool false))) : As G t xs news (W M (compareOp .Is (.ref c) .none) Q) := .mk fun h F N => is_refN (H.1 h F N)
theorem oNIsN (H : As G t xs news (Q (.bool true))) : As G t xs news (W M (compareOp .IsNot (.ref c) .none) Q) := .mk fun h F N => isNot_refN (H.1 h F N)
theorem oIs (hp : PySem.plainIs a a = true) (H : As G t xs news (Q (.bool true))) : As G t xs news (W M (compareOp .Is a a) Q) := .mk fun h F N => wpAny_is_self hp (H.1 h F N)
theorem oNIs (hp : PySem.plainIs a a = true) (H : As G t xs news (Q (.bool false))) : As G t xs news (W M (compareOp .IsNot a a) Q) := .mk fun h F N => wpAny_isNot_self hp (H.1 h F N)
theorem oAbs (H : ∀ u t, As G t xs news (Q (.int (iabs i) u))) : As G t xs news (W M (call (.builtin "abs") [.int i u]) Q) := .mk fun h F N => call_abs_int fun u t => (H u t).1 h F N
end
-- calls
section
variable {Q : Value → Shared → Prop} {f v : Value} {pos : Pos} {e : Expr} {rest : List Expr} {first vs : List Value} {T id : String}
noncomputable abbrev kArg2 (v : Value) (Q : List Value → Shared → Prop) (vs : List Value) : Shared → Prop := Q (v :: vs)
noncomputable abbrev kArg (M : Md) (rest : List Expr) (pos : Pos) (env : Env) (Q : List Value → Shared → Prop) (v : Value) : Shared → Prop := W M (spliced (backTo pos (starEach rest env))) (kArg2 v Q)
theorem sMore {Q : List Value → Shared → Prop} (H : As G t xs news (W M (eval e env) (kArg M rest pos env Q))) (he : plE e = true) : As G t xs news (W M (spliced (backTo pos (starEach (e :: rest) env))) Q) := .mk fun h F N => spliced_more (H.1 h F N) (star_pl he)
theorem sNone {Q : List Value → Shared → Prop} (H : As G t xs news (Q [])) : As G t xs news (W M (spliced (backTo pos (starEach [] env))) Q) := .mk fun h F N => spliced_none (H.1 h F N)
noncomputable def kCK (M : Md) (f : Value) (first : List Value) (Q : Value → Shared → Prop) (vs : List Value) : Shared → Prop := fun s => (hd.heap_1 M.w.params).In s.heap ∧ W M (call f (first ++ vs)) Q s
theorem wK (K : Kn M.w G.g) (hk : keepIn (hd.heap_1 M.w.params) f = true) (he : plE e = true) (hp : rest.all plE = true) (H : As G t xs news (W M (spliced (backTo pos (starEach (e :: rest) env))) (kCK M f first Q))) :
    As G t xs news (W M (callWith pos f first (backTo pos (starEach (e :: rest) env)) []) Q) := .mk fun h F N => callWith_K K.X hk (H.1 h F N) (star_pl he) (any_pl hp)
theorem wKg (K : Kn M.w G.g) (H : As G t xs news (W M (call f (first ++ vs)) Q)) : As G t xs news (kCK M f first Q vs) := .mk fun h F N => ⟨K.X.keeps F.keep, H.1 h F N⟩
theorem wK0 (K : Kn M.w G.g) (hk : keepIn (hd.heap_1 M.w.params) f = true) (H : As G t xs news (W M (call f (first ++ [])) Q)) : As G t xs news (W M (callWith pos f first (backTo pos (starEach [] env)) []) Q) := .mk fun h F N => callWith_K0 (K.X.keeps F.keep) hk (H.1 h F N)
noncomputable abbrev kCf (M : Md) (f : Value) (first : List Value) (Q : Value → Shared → Prop) (vs : List Value) : Shared → Prop := W M (call f (first ++ vs)) Q
noncomputable abbrev kCg (M : Md) (f : Value) (Q : Value → Shared → Prop) (vs : List Value) : Shared → Prop := W M (call f vs) Q
theorem wBu (H : As G t xs news (W M (spliced (backTo pos (starEach (e :: rest) env))) (kCg M (.builtin id) Q))) (he : plE e = true) (hp : rest.all plE = true) :
    As G t xs news (W M (callWith pos (.builtin id) [] (backTo pos (starEach (e :: rest) env)) []) Q) := .mk fun h F N => PyProof.Rows.callWith_builtin1 (H.1 h F N) (star_pl he) (any_pl hp)
theorem wTy (H : As G t xs news (W M (spliced (backTo pos (starEach (e :: rest) env))) (kCg M (.type T) Q))) (he : plE e = true) (hp : rest.all plE = true) :
    As G t xs news (W M (callWith pos (.type T) [] (backTo pos (starEach (e :: rest) env)) []) Q) := .mk fun h F N => PyProof.Rows.callWith_type1 (H.1 h F N) (star_pl he) (any_pl hp)
theorem wMe (H : As G t xs news (W M (spliced (backTo pos (starEach (e :: rest) env))) (kCf M (.builtin id) first Q))) (he : plE e = true) (hp : rest.all plE = true) :
    As G t xs news (W M (callWith pos (.builtin id) first (backTo pos (starEach (e :: rest) env)) []) Q) := .mk fun h F N => PyProof.Rows.callWith_method1 (H.1 h F N) (star_pl he) (any_pl hp)
theorem wMe0 (H : As G t xs news (W M (call (.builtin id) first) Q)) : As G t xs news (W M (callWith pos (.builtin id) first (backTo pos (starEach [] env)) []) Q) := .mk fun h F N => PyProof.Rows.callWith_method0 (H.1 h F N)
end
-- objects
section
variable {Q : Value → Shared → Prop} {x dx C l d T : Addr} {name : S} {v a b c : Value} {es : List DictEntry} {k kt : Nat} {expr : Bool} {vs : List Value} {value slice e1 e2 e3 : Expr} {i : Int} {u : Tok} {its : Array Value} {pos : Pos} {o : Obj}
theorem aGA (K : Kn M.w G.g) (hi : (x, instObj C dx) ∈ news) (hd : (dx, dictOf es k) ∈ news) (hl : getL name es = some (some v)) (hv : handedIn v = true) (ok : AtOk M.w C name) (H : As G t.succ xs news (Q v)) : As G t xs news (W M (getAttr (.ref x) name expr) Q) := .mk fun h F N =>
  get_own F K.X (InstAt.of_news N.n hi hd) ok.g ok.d ok.f rfl hl hv (H.1 h F N)
theorem aTS (H : As G t xs news (W M (subscriptTail (.Name "_" ⟨0, 0, 0, 0⟩) slice v a) Q)) : As G t xs news (W M (subscriptTail value slice v a) Q) := .mk fun h F N => tS (H.1 h F N)
theorem aGT {its : List Value} {j : Nat} (hm : tAt G.g l its.toArray news) (hlo : -(2 ^ 63) ≤ i) (hhi : i < 2 ^ 63) (hj : seqIndex? i its.length = some j) (hx : its[j]? = some v) (H : As G t xs news (Q v))
    (hs : subscripted slice false (.ref l) (.int i u) = operate [.ref l, .int i u] (getItem (.ref l) (.int i u))) (hg : ∀ r, letTemporaryGo value (.ref l) r = pure ()) : As G t xs news (W M (subscriptTail value slice (.ref l) (.int i u)) Q) := .mk fun h F N =>
  gT F N hm hlo hhi hj hx (H.1 h F N) hs hg
theorem aNwL (hz : vs.length ≤ sizeLine) (H : ∀ l, As G t xs ((l, listOf vs.toArray 0) :: news) (Q (.ref l))) : As G t xs news (W M (newList vs) Q) := .mk fun h F N => nwL F N hz fun l h F N => (H l).1 h F N
theorem aNwT (hz : vs.length ≤ sizeLine) (H : ∀ l, As G t xs ((l, tup vs) :: news) (Q (.ref l))) : As G t xs news (W M (newTuple vs) Q) := .mk fun h F N => nwT F N hz fun l h F N => (H l).1 h F N
theorem aLm {id : String} {nm : S} {pl : Sem Bool} {Q : Value × List Value → Shared → Prop} (hm : (l, listOf its k) ∈ news) (hs : Slot "list" nm id) (hT : typeOf (.builtin id) = pure (.type "method_descriptor")) (H : As G t xs news (Q (.builtin id, [.ref l]))) : As G t xs news (W M (getMethod (.ref l) nm pl) Q) := .mk fun h F N =>
  listMethod_K N.n hm hs hT (H.1 h F N)
theorem aIxM {tb : Tok} {b : Array UInt8} {pl : Sem Bool} {Q : Value × List Value → Shared → Prop} (H : As G t xs news (Q (.builtin "bytes.index", [.bytes b tb]))) : As G t xs news (W M (getMethod (.bytes b tb) "index" pl) Q) := .mk fun h F N => by (with_reducible refine W.of (ixM ?_)); exact H.1 h F N
noncomputable abbrev kT1 (M : Md) (e : Expr) (env : Env) (v : Value) (Q : Unit → Shared → Prop) (_ : Unit) : Shared → Prop := W M (assign e env v) Q
theorem aT2 {Q : Unit → Shared → Prop} (hh : M.A.handled = none) (ht : tAt G.g T (List.toArray [a, b]) news) (hs : assignEach [e1, e2] env = [(false, assign e1 env), (false, assign e2 env)])
    (H : ∀ t, As G t xs news (W M (assign e1 env a) (kT1 M e2 env b Q))) : As G t xs news (W M (assign (.Tuple [e1, e2] kt pos) env (.ref T)) Q) := .mk fun h F N => asT2 hh F N ht hs fun h t F N => (H t).1 h F N
theorem aRg1 (H : ∀ r t₁ t₂ t₃ t, As G t xs ((r, rgO 0 i t₁ t₂ t₃) :: news) (Q (.ref r))) : As G t xs news (W M (call (.type "range") [.int i u]) Q) := .mk fun h F N => rg1 F N fun r t₁ t₂ t₃ h t F N => (H r t₁ t₂ t₃ t).1 h F N
theorem aMax {j : Int} {u' : Tok} (hh : M.A.handled = none) (H : ∀ u t, As G t xs news (Q (.int (max i j) u))) : As G t xs news (W M (call (.builtin "max") [.int i u, .int j u']) Q) := .mk fun h F N => maxI hh F N fun u h t F N => (H u t).1 h F N
theorem aMin {j : Int} {u' : Tok} (hh : M.A.handled = none) (H : ∀ u t, As G t xs news (Q (.int (min i j) u))) : As G t xs news (W M (call (.builtin "min") [.int i u, .int j u']) Q) := .mk fun h F N => minI hh F N fun u h t F N => (H u t).1 h F N
-- dicts
variable {keys : List (Option Expr)} {values : List Expr}
noncomputable def kKd (M : Md) (d : Addr) (Q : Value → Shared → Prop) (vs : List (Value × Value)) : Shared → Prop := KdnMade PW M.w (strKind PW M.w) d Q vs
theorem aDct (K : Kn M.w G.g) (hlits : strLits keys = true) (hall : keys.all (·.isSome) = true) (hl : keys.length = values.length) (h0 : keys ≠ []) (hlen : keys.length ≤ 15)
    (H : ∀ d o, d ≠ sysModules → o.IsDictOf (strKind PW M.w) [] → As G t xs ((d, o) :: news) (W M (evalPairs (pairTrees keys values env pos)) (kKd M d Q))) : As G t xs news (W M (eval (.Dict keys values pos) env) Q) := .mk fun h F N => by
  obtain ⟨p, loose, mean, mg, mb, T⟩ := K.T
  exact kdn_str (s := st G.σ h t) hlits F N.n T.nolimit hall hl h0 hlen fun d h' o F' N' lt nz hd => (H d o (by simpa using nz) hd).1 h' F' (Led.cons N' N.d lt)
theorem aDctM {vs : List (Value × Value)} (hd : o.IsDictOf (strKind PW M.w) []) (hk : allStrKeys vs = true) (hn : ((strPairs vs).map (·.1)).Nodup)
    (H : ∀ o t, o.IsDictOf (strKind PW M.w) (strPairs vs) → As G t xs ((d, o) :: news) (Q (.ref d))) : As G t xs ((d, o) :: news) (kKd M d Q vs) := .mk fun h F N => dctM F N hd hk hn fun h o t F N q => (H o t q).1 h F N
noncomputable abbrev kPr2 (kv vv : Value) (Q : List (Value × Value) → Shared → Prop) (r : List (Value × Value)) : Shared → Prop := Q ((kv, vv) :: r)
noncomputable abbrev kPr1 (M : Md) (kv : Value) (ks : List (Option Expr)) (vs : List Expr) (env : Env) (pos : Pos) (Q : List (Value × Value) → Shared → Prop) (vv : Value) : Shared → Prop := W M (evalPairs (pairTrees ks vs env pos)) (kPr2 kv vv Q)
noncomputable abbrev kPr (M : Md) (e : Expr) (ks : List (Option Expr)) (vs : List Expr) (env : Env) (pos : Pos) (Q : List (Value × Value) → Shared → Prop) (kv : Value) : Shared → Prop := W M (eval e env) (kPr1 M kv ks vs env pos Q)
theorem aPr {ks : List (Option Expr)} {vs : List Expr} {Q : List (Value × Value) → Shared → Prop} (H : As G t xs news (W M (eval e1 env) (kPr M e2 ks vs env pos Q))) : As G t xs news (W M (evalPairs (pairTrees (some e1 :: ks) (e2 :: vs) env pos)) Q) := .mk fun h F N => pairTrees_cons_walk (H.1 h F N)
theorem aPr0 {Q : List (Value × Value) → Shared → Prop} (H : As G t xs news (Q [])) : As G t xs news (W M (evalPairs (pairTrees [] [] env pos)) Q) := .mk fun h F N => pairTrees_nil_walk (H.1 h F N)
theorem aDct0 (K : Kn M.w G.g) (H : ∀ d, d ≠ sysModules → As G t xs ((d, dictOf [] 0) :: news) (Q (.ref d))) : As G t xs news (W M (eval (.Dict [] [] pos) env) Q) := .mk fun h F N => by
  refine wpAny_Dict_empty (s := st G.σ h t) ((H _ ?_).1 _ (F.push _) (Led.new F N _ rfl))
  obtain ⟨p, loose, mean, mg, mb, T⟩ := K.T
  obtain ⟨o, es, ep, ho, _⟩ := T.g
  have h1 : mainGlobals < G.g.objs.size := Heap.lt_size ho
  have h2 := F.above
  have h3 : G.L < h.objs.size := F.ns.lt
  have h4 : (3 : Nat) < G.g.objs.size := h1
  intro q
  have h5 : h.objs.size = 1 := q
  exact absurd (Nat.lt_trans (Nat.lt_of_lt_of_le h4 h2) h3) (by rw [h5]; decide)
theorem aR {Q : Unit → Shared → Prop} {rest : List Ob} {fs : List (S × Value)} (ok : StOk M.w C name) (K : Kn M.w G.g) (R : Rec es fs) (hz : fs.length ≤ 999)
    (H : ∀ es k, Rec es ((name, v) :: fs) → As G t.succ.succ xs ((x, instObj C dx) :: (dx, dictOf es k) :: rest) (Q ())) : As G t xs ((x, instObj C dx) :: (dx, dictOf es k) :: rest) (W M (setAttr (.ref x) name v) Q) := .mk fun h F N => by
  have D := Led.ne (pre := [(x, instObj C dx)]) N
  exact set_dict (s := st G.σ h t) (es' := putL name (PyData.keyHash M.w.params name) (.str name (t + 1)) v es) (n' := putN name es k) F K.X N.n (InstAt.of_news N.n (.head _) (.tail _ (.head _))) rfl ok.s ok.p ok.t ok.d (R.known name) rfl (.tail (D.1 _ (.head _)) (.head D.2)) (Nat.le_trans (putL_len es) (by have := R.len; exact Nat.succ_le_succ (Nat.le_trans this hz))) fun h' F' N' => (H _ _ (R.put ..)).1 h' F' (Led.set (pre := [(x, instObj C dx)]) N N')
end
-- comprehensions
section
variable {elt iter : Expr} {x y : S} {px py pos spos : Pos} {ifs : List Expr} {scope : PySem.Scope} {cl : List (S × Addr)} {c : Expr}
noncomputable abbrev kCo1 (M : Md) (elt : Expr) (x : S) (px : Pos) (iter : Expr) (ifs : List Expr) (scope : PySem.Scope) (pos : Pos) (cl : List (S × Addr)) (env : Env) (use : Option (Value → Sem Unit)) (Q : Value → Shared → Prop) (xv : Value) : Shared → Prop := W M (pyIter xv) (CompAt M.w M.A M.E elt x px iter ifs scope pos cl env use Q)
theorem aComp {Q : Value → Shared → Prop} (hclos : closureFor scope env = pure cl) (hkind : scope.kind = .function) (hnames : ∀ y ∈ scope.names, y.2 = .local → scope.names.lookup y.1 = some .local)
    (H : As G t xs news (W M (eval iter env) (kCo1 M elt x px iter ifs scope pos cl env none Q)))
    (hs : ∀ x, foldedSetIterable iter env x = pure x) : As G t xs news (W M (eval (.ListComp elt [⟨.Name x px, iter, ifs, 0⟩] scope pos) env) Q) := .mk fun h F N => comp_start hclos hkind hnames (H.1 h F N) hs
theorem aCompA {Q : Flow → Shared → Prop} (hsw : swapsWith (.ListComp elt [⟨.Name x px, iter, ifs, 0⟩] scope pos) (some (.Name y py)) spos.line env = pure true)
    (hclos : closureFor scope env = pure cl) (hkind : scope.kind = .function) (hnames : ∀ y ∈ scope.names, y.2 = .local → scope.names.lookup y.1 = some .local)
    (H : As G t xs news (W M (eval iter env) (kCo1 M elt x px iter ifs scope pos cl env (some (assign (.Name y py) env)) (fun _ s' => Q .next s'))))
    (hs : ∀ x, foldedSetIterable iter env x = pure x) : As G t xs news (W M (exec (.Assign [.Name y py] (.ListComp elt [⟨.Name x px, iter, ifs, 0⟩] scope pos) spos) env) Q) := .mk fun h F N => comp_startA hsw hclos hkind hnames (H.1 h F N) hs
variable {Q : Bool → Shared → Prop}
theorem aTst0 (H : As G t xs news (Q true)) : As G t xs news (W M (forIn [] true fun c r => if r = true then do let ok ← isTrue c env (eval c env); pure (ForInStep.yield ok) else pure (ForInStep.yield r)) Q) := .mk fun h F N => wpAny_tests_nil (H.1 h F N)
theorem aTst1 (H : As G t xs news (W M (isTrue c env (eval c env)) Q)) : As G t xs news (W M (forIn [c] true fun c r => if r = true then do let ok ← isTrue c env (eval c env); pure (ForInStep.yield ok) else pure (ForInStep.yield r)) Q) := .mk fun h F N => wpAny_tests_one (H.1 h F N)
end
end
end Og
namespace Og
section
variable {w : World} {A : Around} {E : Value → Shared → Prop} {G : Gd} {t : Nat} {xs : List (S × Value)} {news : List Ob} {α : Type} {m : Sem α} {Q : α → Shared → Prop} {p q : Shared → Prop} {b : Bool}
theorem reW (H : As G t xs news (W ⟨w, A, E⟩ m Q)) : As G t xs news (fun s => wpAny (model PW w) A m Q E s) := H
theorem reIn (K : Kn w G.g) (H : As G t xs news p) : As G t xs news (fun s => (hd.heap_1 w.params).In s.heap ∧ p s) := .mk fun h F N => ⟨K.X.keeps F.keep, H.1 h F N⟩
theorem reBr (H : As G t xs news (Br b p q)) : As G t xs news (fun s => if b = true then p s else q s) := H
end
theorem Con.var {w : World} {f : Value} {n : Nat} {vs : List Value} {news : List Ob} {P : Value → List Ob → Prop} (H : ∀ Ψ, (∀ r n, P r n → Ψ r n) → Con w f n vs news Ψ) : Con w f n vs news P := H P fun _ _ h => h
theorem ConS.var {w : World} {f : Value} {n : Nat} {vs : List Value} {news : List Ob} {P : Value → List Ob → Prop} (H : ∀ Ψ, (∀ r n, P r n → Ψ r n) → ConS w f n vs news Ψ) : ConS w f n vs news P := H P fun _ _ h => h
theorem ConG.var {w : World} {f : Value} {n : Nat} {vs : List Value} {news : List Ob} {P : Value → List Ob → Prop} (H : ∀ Ψ, (∀ r n, P r n → Ψ r n) → ConG w f n vs news Ψ) : ConG w f n vs news P := H P fun _ _ h => h
section
variable {g g' h : Heap} {fs : List Addr} {L : Addr} {σ : Shared} {P Ψ : Value → List Ob → Prop} {fl : Flow} {t : Nat} {m' : S → Option Value} {news' : List Ob}
theorem Ret.via (k : ∀ r n, P r n → Ψ r n) (F : Fr g L h m') (N : Led g L h news') (p : P (retOf fl) news') : Ret g L σ Ψ fl (st σ h t) := Ret.intro F N (k _ _ p)
theorem RetS.via (k : ∀ r n, P r n → Ψ r n) (T : KtsTurn fs g g') (F : Fr g' L h m') (N : Led g' L h news') (p : P (retOf fl) news') : RetS g fs L σ Ψ fl (st σ h t) := RetS.intro T F N (k _ _ p)
end
section
variable {w : World} {f : Value} {n k : Nat} {vs : List Value} {news n' : List Ob} {A : Around} {base : Heap} {outer : List Env} {env : Env} {L : Addr} {h₀ h : Heap} {t : Nat} {m : S → Option Value} {σ : Shared} {Q E : Value → Shared → Prop} {α β γ δ : Type}
theorem Con.u0 {v : Value} (C : Con w f k vs news (fun r n => r = v ∧ n = n')) (Z : Site w n A base outer env L h₀) (F : Fr h₀ L h m) (N : Led h₀ L h news) (hk : k ≤ n)
    (H : ∀ h t, Fr h₀ L h m → Led h₀ L h n' → Q v (st σ h t)) : wpAny (model PW w) A (call f vs) Q E (st σ h t) := Con.use C Z F N hk fun r n h t q F N => by obtain ⟨rfl, rfl⟩ := q; exact H h t F N
theorem Con.u1 {v : α → Value} (C : Con w f k vs news (fun r n => (∃ t, r = v t) ∧ n = n')) (Z : Site w n A base outer env L h₀) (F : Fr h₀ L h m) (N : Led h₀ L h news) (hk : k ≤ n)
    (H : ∀ u h t, Fr h₀ L h m → Led h₀ L h n' → Q (v u) (st σ h t)) : wpAny (model PW w) A (call f vs) Q E (st σ h t) := Con.use C Z F N hk fun r n h t q F N => by obtain ⟨⟨u, rfl⟩, rfl⟩ := q; exact H u h t F N
theorem Con.q2 {v : α → β → Value} {p : α → β → Prop} (C : Con w f k vs news (fun r n => (Ex2 fun a b => r = v a b ∧ p a b) ∧ n = n')) (Z : Site w n A base outer env L h₀) (F : Fr h₀ L h m) (N : Led h₀ L h news) (hk : k ≤ n)
    (H : ∀ a b h t, p a b → Fr h₀ L h m → Led h₀ L h n' → Q (v a b) (st σ h t)) : wpAny (model PW w) A (call f vs) Q E (st σ h t) := Con.use C Z F N hk fun r n h t q F N => by obtain ⟨⟨a, b, rfl, q⟩, rfl⟩ := q; exact H a b h t q F N
theorem Con.e2 {v : α → β → Value} {n' : α → β → List Ob} (C : Con w f k vs news (fun r n => Ex2 fun a b => r = v a b ∧ n = n' a b)) (Z : Site w n A base outer env L h₀) (F : Fr h₀ L h m) (N : Led h₀ L h news) (hk : k ≤ n)
    (H : ∀ a b h t, Fr h₀ L h m → Led h₀ L h (n' a b) → Q (v a b) (st σ h t)) : wpAny (model PW w) A (call f vs) Q E (st σ h t) := Con.use C Z F N hk fun r n h t q F N => by obtain ⟨a, b, rfl, rfl⟩ := q; exact H a b h t F N
theorem Con.e3 {v : α → β → γ → Value} {n' : α → β → γ → List Ob} (C : Con w f k vs news (fun r n => Ex3 fun a b c => r = v a b c ∧ n = n' a b c)) (Z : Site w n A base outer env L h₀) (F : Fr h₀ L h m) (N : Led h₀ L h news) (hk : k ≤ n)
    (H : ∀ a b c h t, Fr h₀ L h m → Led h₀ L h (n' a b c) → Q (v a b c) (st σ h t)) : wpAny (model PW w) A (call f vs) Q E (st σ h t) := Con.use C Z F N hk fun r n h t q F N => by obtain ⟨a, b, c, rfl, rfl⟩ := q; exact H a b c h t F N
theorem Con.q3 {v : α → β → γ → Value} {n' : α → β → γ → List Ob} {p : α → β → γ → Prop} (C : Con w f k vs news (fun r n => Ex3 fun a b c => An3 (r = v a b c) (n = n' a b c) (p a b c))) (Z : Site w n A base outer env L h₀) (F : Fr h₀ L h m) (N : Led h₀ L h news) (hk : k ≤ n)
    (H : ∀ a b c h t, p a b c → Fr h₀ L h m → Led h₀ L h (n' a b c) → Q (v a b c) (st σ h t)) : wpAny (model PW w) A (call f vs) Q E (st σ h t) := Con.use C Z F N hk fun r n h t q F N => by obtain ⟨a, b, c, rfl, rfl, q⟩ := q; exact H a b c h t q F N
theorem Con.r3 {v : α → β → γ → Value} {n' : α → β → γ → List Ob} {p : α → β → γ → Prop} (C : Con w f k vs news (fun r n => Ex3 fun a b c => An3 (r = v a b c) (p a b c) (n = n' a b c))) (Z : Site w n A base outer env L h₀) (F : Fr h₀ L h m) (N : Led h₀ L h news) (hk : k ≤ n)
    (H : ∀ a b c h t, p a b c → Fr h₀ L h m → Led h₀ L h (n' a b c) → Q (v a b c) (st σ h t)) : wpAny (model PW w) A (call f vs) Q E (st σ h t) := Con.use C Z F N hk fun r n h t q F N => by obtain ⟨a, b, c, rfl, q, rfl⟩ := q; exact H a b c h t q F N
end
end Og
namespace Og
section
variable {M : Md} {G : Gd} {t : Nat} {xs : List (S × Value)} {news n' : List Ob} {n k : Nat} {base : Heap} {outer : List Env} {env : Env} {f : Value} {vs : List Value} {α β γ : Type} {Q : Value → Shared → Prop}
theorem Con.au0 {v : Value} (C : Con M.w f k vs news (fun r n => r = v ∧ n = n')) (Z : Site M.w n M.A base outer env G.L G.g) (hk : k ≤ n) (H : ∀ t, As G t xs n' (Q v)) : As G t xs news (W M (call f vs) Q) := .mk fun h F N => Con.u0 C Z F N hk fun h t F N => (H t).1 h F N
theorem Con.au1 {v : α → Value} (C : Con M.w f k vs news (fun r n => (∃ t, r = v t) ∧ n = n')) (Z : Site M.w n M.A base outer env G.L G.g) (hk : k ≤ n) (H : ∀ u t, As G t xs n' (Q (v u))) : As G t xs news (W M (call f vs) Q) := .mk fun h F N => Con.u1 C Z F N hk fun u h t F N => (H u t).1 h F N
theorem Con.aq2 {v : α → β → Value} {p : α → β → Prop} (C : Con M.w f k vs news (fun r n => (Ex2 fun a b => r = v a b ∧ p a b) ∧ n = n')) (Z : Site M.w n M.A base outer env G.L G.g) (hk : k ≤ n) (H : ∀ a b t, p a b → As G t xs n' (Q (v a b))) : As G t xs news (W M (call f vs) Q) := .mk fun h F N => Con.q2 C Z F N hk fun a b h t q F N => (H a b t q).1 h F N
theorem Con.ae2 {v : α → β → Value} {n' : α → β → List Ob} (C : Con M.w f k vs news (fun r n => Ex2 fun a b => r = v a b ∧ n = n' a b)) (Z : Site M.w n M.A base outer env G.L G.g) (hk : k ≤ n) (H : ∀ a b t, As G t xs (n' a b) (Q (v a b))) : As G t xs news (W M (call f vs) Q) := .mk fun h F N => Con.e2 C Z F N hk fun a b h t F N => (H a b t).1 h F N
theorem Con.ae3 {v : α → β → γ → Value} {n' : α → β → γ → List Ob} (C : Con M.w f k vs news (fun r n => Ex3 fun a b c => r = v a b c ∧ n = n' a b c)) (Z : Site M.w n M.A base outer env G.L G.g) (hk : k ≤ n) (H : ∀ a b c t, As G t xs (n' a b c) (Q (v a b c))) : As G t xs news (W M (call f vs) Q) := .mk fun h F N => Con.e3 C Z F N hk fun a b c h t F N => (H a b c t).1 h F N
theorem Con.aq3 {v : α → β → γ → Value} {n' : α → β → γ → List Ob} {p : α → β → γ → Prop} (C : Con M.w f k vs news (fun r n => Ex3 fun a b c => An3 (r = v a b c) (n = n' a b c) (p a b c))) (Z : Site M.w n M.A base outer env G.L G.g) (hk : k ≤ n) (H : ∀ a b c t, p a b c → As G t xs (n' a b c) (Q (v a b c))) : As G t xs news (W M (call f vs) Q) := .mk fun h F N => Con.q3 C Z F N hk fun a b c h t q F N => (H a b c t q).1 h F N
end
section
variable {M : Md} {G : Gd} {t : Nat} {xs : List (S × Value)} {news : List Ob} {Q : Value → Shared → Prop} {b c : Array UInt8} {tb tc u u' : Tok} {ks ls : List Int} {l : Addr} {its : Array Value} {vs : List Value} {ns : List Int} {kk : Nat} {i j : Int} {value slice : Expr} {vl vu : Value} {lo hi : Option Int}
theorem alenB (hk : bI b = ks) (hfit : ks.length ≤ 1099511627776) (H : ∀ u t, As G t xs news (Q (.int (ks.length : Int) u))) : As G t xs news (W M (call (.builtin "len") [.bytes b tb]) Q) := .mk fun h F N => lenB hk hfit fun u t => (H u t).1 h F N
theorem alenL (hl : lAt G.g l its news) (hfit : (its.size : Int) < 2 ^ 63) (H : ∀ u t, As G t xs news (Q (.int (its.size : Int) u))) : As G t xs news (W M (call (.builtin "len") [.ref l]) Q) := .mk fun h F N => lenL F N hl hfit fun u t => (H u t).1 h F N
theorem abgI (hk : bI b = ks) (hfit : ks.length ≤ 1099511627776) (h0 : 0 ≤ i) (h1 : i < (ks.length : Int)) (H : ∀ u t, As G t xs news (Q (.int (ks.getD i.toNat 0) u))) (hs : subscripted slice false (.bytes b tb) (.int i u) = operate [.bytes b tb, .int i u] (getItem (.bytes b tb) (.int i u))) (ht : ∀ r, letTemporaryGo value (.bytes b tb) r = pure ()) : As G t xs news (W M (subscriptTail value slice (.bytes b tb) (.int i u)) Q) := .mk fun h F N => bgI hk hfit h0 h1 (fun u t => (H u t).1 h F N) hs ht
theorem algI (hm : (l, listOf vs.toArray kk) ∈ news) (hi : IntsAre vs ns) (h0 : 0 ≤ i) (h1 : i < ns.length) (hfit : i < 2 ^ 63) (H : ∀ u, As G t xs news (Q (.int (ns.getD i.toNat 0) u))) (hs : subscripted slice false (.ref l) (.int i u) = operate [.ref l, .int i u] (getItem (.ref l) (.int i u))) : As G t xs news (W M (subscriptTail value slice (.ref l) (.int i u)) Q) := .mk fun h F N => lgI N hm hi h0 h1 hfit (fun u => (H u).1 h F N) hs
theorem apowI (hn : 0 ≤ j) (hs : (Builtin.Int.intBits i : Int) * j ≤ 2 ^ 27) (H : ∀ u t, As G t xs news (Q (.int (i ^ j.toNat) u))) : As G t xs news (W M (binaryOp .Pow (.int i u) (.int j u')) Q) := .mk fun h F N => by (with_reducible refine W.of (powI hn hs ?_)); exact fun u t => (H u t).1 h F N
theorem adivI (hj : j ≠ 0) (hp : Builtin.divisionGoesByPylong i j = false) (H : ∀ u t, As G t xs news (Q (.int (i.fdiv j) u))) : As G t xs news (W M (binaryOp .FloorDiv (.int i u) (.int j u')) Q) := .mk fun h F N => by (with_reducible refine W.of (divI hj hp ?_)); exact fun u t => (H u t).1 h F N
theorem amodI (hj : j ≠ 0) (H : ∀ u t, As G t xs news (Q (.int (i.fmod j) u))) : As G t xs news (W M (binaryOp .Mod (.int i u) (.int j u')) Q) := .mk fun h F N => by (with_reducible refine W.of (modI hj ?_)); exact fun u t => (H u t).1 h F N
theorem amulI (hm : IntMulOk i j) (H : ∀ u t, As G t xs news (Q (.int (i * j) u))) : As G t xs news (W M (binaryOp .Mult (.int i u) (.int j u')) Q) := .mk fun h F N => by (with_reducible refine W.of (mulI hm ?_)); exact fun u t => (H u t).1 h F N
theorem aaddB (hb : bI b = ks) (hc : bI c = ls) (hsz : ks.length + ls.length ≤ 16777216) (H : ∀ u t, bI (b ++ c) = ks ++ ls → As G t xs news (Q (.bytes (b ++ c) u))) : As G t xs news (W M (binaryOp .Add (.bytes b tb) (.bytes c tc)) Q) := .mk fun h F N => by (with_reducible refine W.of (addB hb hc hsz ?_)); exact fun u t e => (H u t e).1 h F N
theorem aeqB (hb : bI b = ks) (hc : bI c = ls) (H : As G t xs news (Q (.bool (decide (ks = ls))))) : As G t xs news (W M (compareOp .Eq (.bytes b tb) (.bytes c tc)) Q) := .mk fun h F N => by (with_reducible refine W.of (eqB hb hc ?_)); exact H.1 h F N
theorem aneB (hb : bI b = ks) (hc : bI c = ls) (H : As G t xs news (Q (.bool (!decide (ks = ls))))) : As G t xs news (W M (compareOp .NotEq (.bytes b tb) (.bytes c tc)) Q) := .mk fun h F N => by (with_reducible refine W.of (neB hb hc ?_)); exact H.1 h F N
theorem aeqBt (hb : bI b = ks) (hc : bI c = ks) (H : As G t xs news (Q (.bool true))) : As G t xs news (W M (compareOp .Eq (.bytes b tb) (.bytes c tc)) Q) := aeqB hb hc (by rw [decide_eq_true rfl]; exact H)
theorem aneBt (hb : bI b = ks) (hc : bI c = ks) (H : As G t xs news (Q (.bool false))) : As G t xs news (W M (compareOp .NotEq (.bytes b tb) (.bytes c tc)) Q) := aneB hb hc (by rw [decide_eq_true rfl]; exact H)
theorem abytesA (hM : (l, baO b) ∈ news) (hz : (bI b).length ≤ 1000000) (H : ∀ u t, As G t xs news (Q (.bytes b u))) : As G t xs news (W M (call (.type "bytes") [.ref l]) Q) := .mk fun h F N => bytesA F N hM hz fun u t => (H u t).1 h F N
theorem amkB (hh : M.A.handled = none) (hl : lAt G.g l vs.toArray news) (hi : IntsAre vs ns) (hr : In ns) (hn : ns.length ≤ 16777216) (H : ∀ u t, As G t xs news (Q (.bytes (byteArr ns) u))) : As G t xs news (W M (call (.type "bytes") [.ref l]) Q) := .mk fun h F N => mkB F N hh hl hi hr hn fun h u t F N => (H u t).1 h F N
theorem aslB (hk : bI b = ks) (hl : IsPart vl lo) (hu : IsPart vu hi) (hz : ks.length ≤ 16777216) (H : ∀ c u t, bI c = (ks.drop (lo.elim 0 (clipAt ks.length))).take (hi.elim ks.length (clipAt ks.length) - lo.elim 0 (clipAt ks.length)) → As G t xs news (Q (.bytes c u)))
    (hs : ∀ a, subscripted slice false (.bytes b tb) (.ref a) = operate [.ref a, .bytes b tb] (getItem (.bytes b tb) (.ref a))) (ht : ∀ r, letTemporaryGo value (.bytes b tb) r = pure ()) : As G t xs news (kSl3 vl vu (kSu2 M value slice (.bytes b tb) Q) .none) := .mk fun h F N => slB F N hk hl hu hz (fun c u h t F N e => (H c u t e).1 h F N) (hs _) ht
theorem asplit {b : Bool} {p q : Shared → Prop} (h1 : b = true → As G t xs news p) (h2 : b = false → As G t xs news q) : As G t xs news (Br b p q) := by
  cases b
  · exact brF (h2 rfl)
  · exact brT (h1 rfl)
end
end Og
end

section
open PySem PySem.W PyProof.Rows PySem.Calls Og
set_option maxRecDepth 100000
set_option Elab.async false
set_option linter.unusedVariables false
set_option maxHeartbeats 1000000
local macro_rules | `(tactic| walk_at $s:str) => match Og.tac s.getString with
  | some t => return t
  | none => Lean.Macro.throwUnsupported

-- C1
namespace Og
/-- what a shape tells -/
inductive ShapeAt (news : List Ob) (x : Addr) (cat : S) (size digits scale : Int) (sgn : Bool) : Prop where
  | mk (dx : Addr) (es : List DictEntry) (k : Nat) (m1 : (x, instObj 525 dx) ∈ news) (m2 : (dx, dictOf es k) ∈ news) (t1 : Tok) (g1 : getL "category" es = some (some (.str cat t1))) (t2 : Tok) (g2 : getL "size" es = some (some (.int size t2)))
    (t3 : Tok) (g3 : getL "usage" es = some (some (.str "display" t3))) (t4 : Tok) (g4 : getL "sign" es = some (some (.str "trailing" t4))) (g5 : getL "is_separate" es = some (some (.bool false))) (g6 : getL "is_justified" es = some (some (.bool false)))
    (t7 : Tok) (g7 : getL "digits" es = some (some (.int digits t7))) (t8 : Tok) (g8 : getL "scale" es = some (some (.int scale t8))) (g9 : getL "is_signed" es = some (some (.bool sgn)))
theorem ShapeAt.mono {news news' : List Ob} {x : Addr} {cat : S} {size d scale : Int} {sgn : Bool} (hs : ShapeAt news x cat size d scale sgn) (k : ∀ p ∈ news, p ∈ news') : ShapeAt news' x cat size d scale sgn := by
  obtain ⟨dx, es, n, m1, m2, t1, g1, t2, g2, t3, g3, t4, g4, g5, g6, t7, g7, t8, g8, g9⟩ := hs
  exact .mk dx es n (k _ m1) (k _ m2) t1 g1 t2 g2 t3 g3 t4 g4 g5 g6 t7 g7 t8 g8 g9

theorem con_unit_bound (w : World) {news : List Ob} {x : Addr} {cat : S} {size d scale : Int} {sgn : Bool} (hs : ShapeAt news x cat size d scale sgn) (h0 : 0 ≤ d) (h1 : d ≤ 20) :
    Con w (.ref 543) 1 [.ref x] news (fun r news' => (∃ t, r = .int (10 ^ d.toNat) t) ∧ news' = news) := by
  refine Con.var fun Ψ kk => enter (binds := [("shape", .ref x)]) (bs := [("shape", .ref x)]) (by k_is) (by k_is) (fun s X => BindsTo.of_eq rfl) rfl rfl rfl rfl rfl (by decide) ?_
  intro A base outer g L σ h t Z F N
  obtain ⟨dx, es, k, m1, m2, _, g1, _, g2, _, g3, _, g4, g5, g6, _, g7, _, g8, g9⟩ := id hs
  walk_at "ogs"
  with_reducible refine apowI h0 ?_ ?_
  · have e : (Builtin.Int.intBits 10 : Int) = 4 := by decide +kernel
    rw [e]; omega
  intro u t
  walk_at "og"
  exact Ret.via kk F N ⟨⟨_, rfl⟩, rfl⟩

noncomputable def keptU (sgn : Bool) (d : Int) (u : Int) : Int := if decide (u < 0) && sgn then 0 - (iabs u).fmod (10 ^ d.toNat) else (iabs u).fmod (10 ^ d.toNat)
theorem con_kept_units (w : World) {news : List Ob} {x : Addr} {cat : S} {size d scale : Int} {sgn : Bool} (hs : ShapeAt news x cat size d scale sgn) (h0 : 0 ≤ d) (h1 : d ≤ 20) (v : Int) (tv : Tok) :
    Con w (.ref 585) 2 [.ref x, .int v tv] news (fun r news' => (∃ t, r = .int (keptU sgn d v) t) ∧ news' = news) := by
  refine Con.var fun Ψ kk => enter (binds := [("shape", .ref x), ("units", .int v tv)]) (bs := [("units", .int v tv), ("shape", .ref x)]) (by k_is) (by k_is) (fun s X => BindsTo.of_eq rfl) rfl rfl rfl rfl rfl (by decide) ?_
  intro A base outer g L σ h t Z F N
  obtain ⟨dx, es, k, m1, m2, _, g1, _, g2, _, g3, _, g4, g5, g6, _, g7, _, g8, g9⟩ := id hs
  walk_at "ogs"
  refine Con.au1 (con_unit_bound w hs h0 h1) Z (by decide) ?_
  intro u t
  walk_at "ogs"
  with_reducible refine amodI (Int.ne_of_gt (Int.pow_pos (by decide))) ?_
  intro u t
  walk_at "ogs"
  have e1 : ∀ b, decide (v < 0) = b → keptU sgn d v = if b && sgn then 0 - (iabs v).fmod (10 ^ d.toNat) else (iabs v).fmod (10 ^ d.toNat) := fun b e => by unfold keptU; rw [e]
  refine asplit (fun hb => ?_) (fun hb => ?_)
  · walk_at "ogs"
    refine asplit (fun hs => ?_) (fun hs => ?_)
    all_goals (walk_at "og"; exact Ret.via kk F N ⟨⟨_, by rw [e1 _ hb, hs]; rfl⟩, rfl⟩)
  · walk_at "og"
    exact Ret.via kk F N ⟨⟨_, by rw [e1 _ hb]; rfl⟩, rfl⟩

end Og

-- C2
namespace Og
noncomputable def rst (v : Int) : Nat → Int
  | 0 => v
  | i + 1 => (rst v i).fdiv 10
noncomputable def low (v : Int) : Nat → List Int
  | 0 => []
  | i + 1 => low v i ++ [(rst v i).fmod 10]
theorem low_length (v : Int) : ∀ i, (low v i).length = i
  | 0 => rfl
  | i + 1 => by rw [low, List.length_append, low_length v i]; rfl
noncomputable def figs (v : Int) (d : Nat) : List Int := (low v d).reverse
/-- a new list of ints at the ledger's head -/
noncomputable def NewInts (news : List Ob) (ns : List Int) (r : Value) (news' : List Ob) : Prop := Ex3 fun l vs k => An3 (r = .ref l) (news' = (l, listOf (List.toArray vs) k) :: news) (IntsAre vs ns)
theorem con_figures_for (w : World) {news : List Ob} (v : Int) (tv : Tok) (d : Int) (td : Tok) (h0 : 0 ≤ d) (h1 : d ≤ 20) :
    Con w (.ref 592) 1 [.int v tv, .int d td] news (NewInts news (figs v d.toNat)) := by
  refine Con.var fun Ψ kk => enter (binds := [("number", .int v tv), ("count", .int d td)]) (bs := [("count", .int d td), ("number", .int v tv)]) (by k_is) (by k_is) (fun s X => BindsTo.of_eq rfl) rfl rfl rfl rfl rfl (by decide) ?_
  intro A base outer g L σ h t Z F N
  walk_at "og"
  refine wpAny_For ?_ (by intro _; rfl)
  walk_at "og"
  refine itRg F N (by decide) (by decide) (by omega) (by exact Int.le_trans h1 (Int.ofNat_le.mpr (Nat.le_add_left 20 99999980))) ?_
  clear F N; intro I o h F N hIt
  refine for_go (turns_range Z.hh I 0 _) (fun i xs nw => Ex3 fun tr vs k => An4 (gv xs "rest" = some (.int (rst v i) tr)) (gv xs "found" = some (.ref l)) (IntsAre vs (low v i)) (nw = (l, listOf vs.toArray k) :: news)) F N hIt ⟨_, [], 0, rfl, rfl, .nil, rfl⟩ (fun _ _ _ _ => trivial) ?_ ?_ PassesOwn.never (fun _ => rfl)
  · clear F N hIt; rintro i v o xs nw h t hi ⟨ti, rfl⟩ _ ⟨tr, vs, k, l1, l2, hvs, rfl⟩ F N
    walk_at "og"
    refine apLp [(I, o)] F N ?_ ?_
    · rw [List.size_toArray, hvs.length, low_length]; rw [sizeLine_eq]; omega
    clear F N; intro h F N
    rw [push_ofList] at N
    walk_at "og"
    exact ⟨_, _, _, _, rfl, F, N, _, rfl, _, _, _, rfl, l2, Og.IntsAre.snoc hvs, rfl⟩
  · clear F N hIt; rintro xs nw h t ⟨tr, vs, k, l1, l2, hvs, rfl⟩ F N
    walk_at "og"
    refine revL F N (.inr ⟨_, .head _, rfl, _, rfl⟩) (IsPart.int _ _) ?_ (by with_unfolding_all rfl) (fun _ => by with_unfolding_all rfl) ?_
    · clear F N; intro D h F N
      refine Ret.via kk F (N.sub (.cons_cons _ (List.sublist_cons_self _ _))) ⟨D, vs.reverse, 0, rfl, rfl, ?_⟩
      rw [Int.sub_zero] at hvs; exact IntsAre.reverse hvs
    · rw [List.size_toArray, hvs.length, low_length, sizeLine_eq]; omega
/-- figures of a number at or above 0 -/
noncomputable def nfig (v : Int) : Nat → Int → Int → Int
  | 0, c, _ => c
  | f + 1, c, r => if r > 0 then nfig v f (c + 1) (r.fdiv 10) else c
theorem con_figure_count (w : World) {news : List Ob} (v : Int) (tv : Tok) (h0 : 0 ≤ v) :
    Con w (.ref 564) 1 [.int v tv] news (fun r news' => (∃ t, r = .int (nfig v v.toNat 1 (v.fdiv 10)) t) ∧ news' = news) := by
  refine Con.var fun Ψ kk => enter (binds := [("number", .int v tv)]) (bs := [("number", .int v tv)]) (by k_is) (by k_is) (fun s X => BindsTo.of_eq rfl) rfl rfl rfl rfl rfl (by decide) ?_
  intro A base outer g L σ h t Z F N
  walk_at "og"
  refine while_go (fun k xs nw => Ex4 fun c r tc tr => An6 (gv xs "count" = some (.int c tc)) (gv xs "rest" = some (.int r tr)) (0 ≤ r) (r.toNat ≤ k) (nfig v k c r = nfig v v.toNat 1 (v.fdiv 10)) (nw = news)) F N ⟨_, _, _, _, rfl, rfl, by rw [Int.fdiv_eq_ediv_of_nonneg _ (by decide)]; omega, by rw [Int.fdiv_eq_ediv_of_nonneg _ (by decide)]; omega, rfl, rfl⟩ ?_ PassesOwn.never
  clear F N; rintro k xs nw h t ⟨c, r, tc, tr, l1, l2, hr, hk, hn, rfl⟩ F N
  walk_at "ogs"
  refine asplit (fun hb => ?_) (fun hb => ?_)
  · have hr' : r > 0 := of_decide_eq_true hb
    obtain ⟨k', rfl⟩ : ∃ k', k = k' + 1 := ⟨k - 1, by (clear h0 hr hn kk; omega)⟩
    walk_at "og"
    have e : r.fdiv 10 = r / 10 := Int.fdiv_eq_ediv_of_nonneg _ (by decide)
    exact ⟨_, _, _, _, rfl, F, N, k', Nat.lt_succ_self _, _, _, _, _, rfl, rfl, by rw [e]; (clear h0 hr kk hk hn e; omega), by rw [e]; (clear h0 hr kk hn e; omega), by rw [← hn]; show _ = (if r > 0 then _ else _); rw [if_pos hr'], rfl⟩
  · have hr' : ¬ r > 0 := of_decide_eq_false hb
    walk_at "og"
    exact Ret.via kk F N ⟨⟨_, by rw [← hn]; cases k with
      | zero => rfl
      | succ k => show Value.int c _ = Value.int (if r > 0 then _ else _) _; rw [if_neg hr']⟩, rfl⟩
end Og

-- C3
namespace Og
noncomputable def dec : Nat → Int → Int → Int × Int
  | 0, u, s => (u, s)
  | f + 1, u, s => if s > 0 ∧ u.fmod 10 = 0 then dec f (u.fdiv 10) (s - 1) else (u, s)
/-- a new pair of ints -/
noncomputable def NewPair (news : List Ob) (p : Int × Int) (r : Value) (news' : List Ob) : Prop := Ex3 fun T t₁ t₂ => r = .ref T ∧ news' = (T, tup [.int p.1 t₁, .int p.2 t₂]) :: news
theorem con_decimal (w : World) {news : List Ob} (v : Int) (tv : Tok) (d : Int) (td : Tok) (h0 : 0 ≤ d) :
    Con w (.ref 113) 1 [.int v tv, .int d td] news (NewPair news (dec d.toNat v d)) := by
  refine Con.var fun Ψ kk => enter (binds := [("units", .int v tv), ("scale", .int d td)]) (bs := [("scale", .int d td), ("units", .int v tv)]) (by k_is) (by k_is) (fun s X => binds_K X rfl (by k_is) rfl rfl rfl) rfl rfl rfl rfl rfl (by decide) ?_
  intro A base outer g L σ h t Z F N
  walk_at "ogs"
  refine brN (decide_eq_false (by exact Int.not_lt_of_ge h0)) ?_
  walk_at "og"
  refine while_go (fun k xs nw => Ex4 fun c r tc tr => An6 (gv xs "units" = some (.int c tc)) (gv xs "scale" = some (.int r tr)) (0 ≤ r) (r.toNat = k) (dec k c r = dec d.toNat v d) (nw = news)) F N ⟨_, _, _, _, rfl, rfl, h0, rfl, rfl, rfl⟩ ?_ PassesOwn.never
  clear F N; rintro k xs nw h t ⟨c, r, tc, tr, l1, l2, hr, rfl, hn, rfl⟩ F N
  walk_at "ogs"
  refine asplit (fun hb => ?_) (fun hb => ?_)
  · have hr' : r > 0 := of_decide_eq_true hb
    obtain ⟨k', hk⟩ : ∃ k', r.toNat = k' + 1 := ⟨r.toNat - 1, by (clear h0 hr kk; omega)⟩
    rw [hk] at hn ⊢
    walk_at "ogs"
    refine asplit (fun hc => ?_) (fun hc => ?_)
    · have hc' : c.fmod 10 = 0 := by simpa using hc
      walk_at "og"
      exact ⟨_, _, _, _, rfl, F, N, k', Nat.lt_succ_self _, _, _, _, _, rfl, rfl, by exact Int.sub_nonneg_of_le hr', by (clear h0 hr kk hc'; omega), by rw [← hn]; show _ = (if r > 0 ∧ c.fmod 10 = 0 then _ else _); rw [if_pos ⟨hr', hc'⟩], rfl⟩
    · have hc' : ¬ c.fmod 10 = 0 := by simpa using hc
      walk_at "og"
      exact Ret.via kk F N ⟨_, _, _, rfl, by rw [← hn]; show _ = (_, tup [.int (if r > 0 ∧ c.fmod 10 = 0 then _ else _ : Int × Int).1 _, .int (if r > 0 ∧ c.fmod 10 = 0 then _ else _ : Int × Int).2 _]) :: _; rw [if_neg (fun q => hc' q.2)]⟩
  · have hr' : ¬ r > 0 := of_decide_eq_false hb
    have hk : r.toNat = 0 := by omega
    rw [hk] at hn
    walk_at "og"
    exact Ret.via kk F N ⟨_, _, _, rfl, by rw [← hn]; rfl⟩
theorem con_decimal0 (w : World) {news : List Ob} (v : Int) (tv : Tok) :
    Con w (.ref 113) 1 [.int v tv] news (NewPair news (v, 0)) := by
  refine Con.var fun Ψ kk => enter (binds := [("units", .int v tv), ("scale", .int 0 316)]) (bs := [("scale", .int 0 316), ("units", .int v tv)]) (by k_is) (by k_is) (fun s X => binds_K X rfl (by k_is) rfl rfl rfl) rfl rfl rfl rfl rfl (by decide) ?_
  intro A base outer g L σ h t Z F N
  walk_at "og"
  refine while_go (fun k xs nw => Ex2 fun tc tr => An3 (gv xs "units" = some (.int v tc)) (gv xs "scale" = some (.int 0 tr)) (nw = news)) F N (k := 0) ⟨_, _, rfl, rfl, rfl⟩ ?_ PassesOwn.never
  clear F N; rintro k xs nw h t ⟨tc, tr, l1, l2, rfl⟩ F N
  walk_at "og"
  exact Ret.via kk F N ⟨_, _, _, rfl, rfl⟩
theorem con_law_decimal (w : World) {news : List Ob} (v : Int) (tv : Tok) (d : Int) (td : Tok) (h0 : 0 ≤ d) :
    Con w (.ref 1008) 1 [.int v tv, .int d td] news (NewPair news (dec d.toNat v d)) := by
  refine Con.var fun Ψ kk => enter (binds := [("units", .int v tv), ("scale", .int d td)]) (bs := [("scale", .int d td), ("units", .int v tv)]) (by k_is) (by k_is) (fun s X => BindsTo.of_eq rfl) rfl rfl rfl rfl rfl (by decide) ?_
  intro A base outer g L σ h t Z F N
  walk_at "og"
  refine while_go (fun k xs nw => Ex4 fun c r tc tr => An6 (gv xs "units" = some (.int c tc)) (gv xs "scale" = some (.int r tr)) (0 ≤ r) (r.toNat = k) (dec k c r = dec d.toNat v d) (nw = news)) F N ⟨_, _, _, _, rfl, rfl, h0, rfl, rfl, rfl⟩ ?_ PassesOwn.never
  clear F N; rintro k xs nw h t ⟨c, r, tc, tr, l1, l2, hr, rfl, hn, rfl⟩ F N
  walk_at "ogs"
  refine asplit (fun hb => ?_) (fun hb => ?_)
  · have hr' : r > 0 := of_decide_eq_true hb
    obtain ⟨k', hk⟩ : ∃ k', r.toNat = k' + 1 := ⟨r.toNat - 1, by (clear h0 hr kk; omega)⟩
    rw [hk] at hn ⊢
    walk_at "ogs"
    refine asplit (fun hc => ?_) (fun hc => ?_)
    · have hc' : c.fmod 10 = 0 := by simpa using hc
      walk_at "og"
      exact ⟨_, _, _, _, rfl, F, N, k', Nat.lt_succ_self _, _, _, _, _, rfl, rfl, by exact Int.sub_nonneg_of_le hr', by (clear h0 hr kk hc'; omega), by rw [← hn]; show _ = (if r > 0 ∧ c.fmod 10 = 0 then _ else _); rw [if_pos ⟨hr', hc'⟩], rfl⟩
    · have hc' : ¬ c.fmod 10 = 0 := by simpa using hc
      walk_at "og"
      exact Ret.via kk F N ⟨_, _, _, rfl, by rw [← hn]; show _ = (_, tup [.int (if r > 0 ∧ c.fmod 10 = 0 then _ else _ : Int × Int).1 _, .int (if r > 0 ∧ c.fmod 10 = 0 then _ else _ : Int × Int).2 _]) :: _; rw [if_neg (fun q => hc' q.2)]⟩
  · have hr' : ¬ r > 0 := of_decide_eq_false hb
    have hk : r.toNat = 0 := by omega
    rw [hk] at hn
    walk_at "og"
    exact Ret.via kk F N ⟨_, _, _, rfl, by rw [← hn]; rfl⟩
end Og

-- C4
namespace Og
theorem mulOk10 {u : Int} {k : Nat} (hk : k ≤ 16) : IntMulOk u (10 ^ k) := by
  refine IntMulOk.of_right ?_
  have : ∀ k : Fin 17, Builtin.Int.intBits (10 ^ k.val) ≤ 64 := by decide +kernel
  exact this ⟨k, by exact Nat.lt_succ_of_le hk⟩
theorem con_units_at (w : World) {news : List Ob} {T : Addr} {u s sc : Int} {tu ts tsc : Tok} (hT : (T, tup [.int u tu, .int s ts]) ∈ news) (b : Bool) (h0 : 0 ≤ s) (h1 : s ≤ sc) (h2 : sc ≤ 16) :
    Con w (.ref 177) 1 [.ref T, .int sc tsc, .bool b] news (fun r news' => (∃ t, r = .int (u * 10 ^ (sc - s).toNat) t) ∧ news' = news) := by
  refine Con.var fun Ψ kk => enter (binds := [("a", .ref T), ("scale", .int sc tsc), ("is_rounded", .bool b)]) (bs := [("is_rounded", .bool b), ("scale", .int sc tsc), ("a", .ref T)]) (by k_is) (by k_is) (fun s X => BindsTo.of_eq rfl) rfl rfl rfl rfl rfl (by decide) ?_
  intro A base outer g L σ h t Z F N
  have m1 : tAt g T (List.toArray [.int u tu, .int s ts]) news := .inr ⟨_, hT, rfl, _, rfl⟩
  walk_at "ogs"
  refine brP (decide_eq_true h1) ?_
  walk_at "ogs"
  refine apowI (by exact Int.sub_nonneg_of_le h1) ?_ ?_
  · have e : (Builtin.Int.intBits 10 : Int) = 4 := by decide +kernel
    rw [e]; omega
  intro u t
  walk_at "ogs"
  refine amulI (mulOk10 (by omega)) ?_
  intro u t
  walk_at "og"
  exact Ret.via kk F N ⟨⟨_, rfl⟩, rfl⟩
end Og

-- C5
namespace Og
noncomputable def minusR : List Int := [125, 74, 75, 76, 77, 78, 79, 80, 81, 82]
noncomputable def plusR : List Int := [123, 65, 66, 67, 68, 69, 70, 71, 72, 73]
noncomputable def codes (v : Int) (d : Nat) : List Int := (figs v d).map (48 + ·)
theorem figs_length (v : Int) (d : Nat) : (figs v d).length = d := by rw [figs, List.length_reverse, low_length]
theorem codes_length (v : Int) (d : Nat) : (codes v d).length = d := by rw [codes, List.length_map, figs_length]
theorem low_in (v : Int) : ∀ d, ∀ f ∈ low v d, 0 ≤ f ∧ f < 10
  | 0, f, h => nomatch h
  | d + 1, f, h => by
    rcases List.mem_append.mp h with h | h
    · exact low_in v d f h
    · rw [List.mem_singleton.mp h]; exact ⟨Int.fmod_nonneg_of_pos _ (by decide), Int.fmod_lt_of_pos _ (by decide)⟩
theorem codes_mem {v : Int} {d : Nat} {c : Int} (h : c ∈ codes v d) : 48 ≤ c ∧ c ≤ 57 := by
  obtain ⟨f, hf, rfl⟩ := List.mem_map.mp h
  have := low_in v d f (List.mem_reverse.mp hf)
  omega
theorem codes_in (v : Int) (d : Nat) : In (codes v d) := fun c h => by have := codes_mem h; omega
theorem in_set {ns : List Int} {x : Int} {i : Nat} (h : In ns) (hx : 0 ≤ x ∧ x < 256) : In (ns.set i x) := fun c hc => by
  rcases List.mem_or_eq_of_mem_set hc with h' | rfl
  · exact h c h'
  · exact hx
theorem row_in {ns : List Int} (h : ∀ c ∈ ns, 0 ≤ c ∧ c < 256) (i : Nat) : 0 ≤ ns.getD i 0 ∧ ns.getD i 0 < 256 := by
  rw [List.getD_eq_getElem?_getD]
  cases e : ns[i]? with
  | none => exact ⟨Int.le_refl _, by decide⟩
  | some c => exact h c (List.mem_of_getElem? e)
noncomputable def disp (sgn : Bool) (d : Nat) (u : Int) : List Int :=
  if sgn then (codes (iabs u) d).set (d - 1) ((if u < 0 then minusR else plusR).getD ((codes (iabs u) d).getD (d - 1) 0 - 48).toNat 0) else codes (iabs u) d
theorem con_display_octets (w : World) {news : List Ob} {x : Addr} {cat : S} {size d scale : Int} {sgn : Bool} (hs : ShapeAt news x cat size d scale sgn) (h0 : 1 ≤ d) (h1 : d ≤ 20) (v : Int) (tv : Tok) :
    Con w (.ref 597) 2 [.ref x, .int v tv] news (fun r news' => (∃ t, r = .bytes (byteArr (disp sgn d.toNat v)) t) ∧ news' = news) := by
  refine Con.var fun Ψ kk => enter (binds := [("shape", .ref x), ("units", .int v tv)]) (bs := [("units", .int v tv), ("shape", .ref x)]) (by k_is) (by k_is) (fun s X => BindsTo.of_eq rfl) rfl rfl rfl rfl rfl (by decide) ?_
  intro A base outer g L σ h t Z F N
  obtain ⟨dx, es, k, m1, m2, _, g1, _, g2, _, g3, _, g4, g5, g6, _, g7, _, g8, g9⟩ := id hs
  walk_at "ogs"
  refine Con.aq3 (con_figures_for w _ _ _ _ (by exact Int.le_of_lt h0) (by exact h1)) Z (by decide) ?_
  intro l vs k t hvs
  walk_at "og"
  refine itL F N (.inr ⟨_, .head _, rfl, _, rfl⟩) ?_
  clear F N; intro I o h F N hIt hne
  refine comp_goA (turns_list Z.hh l I vs.toArray hne) (fun i ys nw => IntsAre ys (((figs (iabs v) d.toNat).take i).map (48 + ·)) ∧ nw = (l, listOf (List.toArray vs) k) :: news) (by decide) (by rfl) (by rfl) ?_ (by rfl) (by rfl) F N hIt ⟨.nil, rfl⟩ ?_ ?_ ?_
  · rw [List.size_toArray, hvs.length, figs, List.length_reverse, low_length, sizeLine_eq]; omega
  · rintro i ys nw ⟨a, rfl⟩
    exact ⟨.inr ⟨_, .head _, rfl, _, rfl⟩, by rw [a.length, List.length_map]; exact List.length_take_le _ _⟩
  · clear F N hIt; rintro i v' ys o nw h t C oC D m₂ E hi hV hIt ⟨hys, rfl⟩ F N cO cV
    obtain ⟨f, tf, rfl, hf⟩ := Og.IntsAre.at hvs (by simpa using hV)
    walk_at "og"
    exact CStep.intro F N ⟨_, rfl, by rw [List.take_add_one, hf, List.map_append]; exact Og.IntsAre.snoc hys, rfl⟩
  · clear F N hIt; rintro D ys nw h t F N ⟨hys, rfl⟩
    rw [List.take_of_length_le (by rw [← hvs.length, List.size_toArray]; exact Nat.le_refl _)] at hys
    change IntsAre ys (codes (iabs v) d.toNat) at hys
    have hlen := codes_length (iabs v) d.toNat
    cases sgn
    · walk_at "ogs"
      refine amkB Z.hh (.inr ⟨_, .head _, rfl, _, rfl⟩) hys (codes_in _ _) (by rw [hlen]; omega) ?_
      intro u t
      walk_at "og"
      exact Ret.via kk F N.tail.tail ⟨⟨_, rfl⟩, rfl⟩
    · walk_at "ogs"
      have hdn : 1 ≤ d.toNat := by omega
      have hpl : ((codes (iabs v) d.toNat).getD (d.toNat - 1) 0) ∈ codes (iabs v) d.toNat := by
        rw [List.getD_eq_getElem?_getD, List.getElem?_eq_getElem (by rw [hlen]; exact Nat.sub_one_lt_of_lt hdn), Option.getD_some]
        exact List.getElem_mem _
      have hcm := codes_mem hpl
      refine alenL (.inr ⟨_, .head _, rfl, _, rfl⟩) (by rw [List.size_toArray, hys.length, hlen]; omega) ?_
      intro u t
      have e1 : ((ys.toArray.size : Nat) : Int) = d := by rw [List.size_toArray, hys.length, hlen]; omega
      rw [e1]
      walk_at "ogs"
      refine asplit (fun hb => ?_) (fun hb => ?_)
      · have ed : (d - 1).toNat = d.toNat - 1 := by exact Int.pred_toNat d
        walk_at "ogs"
        refine algI (by exact List.Mem.head _) hys (by exact Int.sub_nonneg_of_le h0) (by rw [hlen]; (clear hne hlen kk hcm; omega)) (by (clear hne hlen kk hdn hcm ed; omega)) ?_ (by with_unfolding_all rfl)
        intro u
        walk_at "ogs"
        refine abgI (ks := minusR) (by with_unfolding_all rfl) (by decide) ?_ ?_ ?_ (by with_unfolding_all rfl) (fun _ => by with_unfolding_all rfl)
        · rw [ed]; (clear h0 h1 hne hlen kk hdn e1 ed; omega)
        · rw [ed]; show _ < (10 : Int); (clear h0 h1 hne hlen kk hdn e1 ed; omega)
        intro u t
        walk_at "og"
        refine lsI F N hys (by exact Int.sub_nonneg_of_le h0) (by rw [hlen]; (clear hne hlen kk hcm; omega)) (by (clear hne hlen kk hdn hcm ed; omega)) ?_
        clear F N hys; intro ws h hys F N
        walk_at "ogs"
        refine amkB Z.hh (.inr ⟨_, .head _, rfl, _, rfl⟩) hys (in_set (codes_in _ _) (row_in (by decide) _)) (by rw [List.length_set, hlen]; (clear hne hlen kk hdn hcm; omega)) ?_
        intro u t
        walk_at "og"
        exact Ret.via kk F N.tail.tail ⟨⟨_, by unfold disp; rw [if_pos rfl, if_pos (of_decide_eq_true hb), ed]; rfl⟩, rfl⟩
      · have ed : (d - 1).toNat = d.toNat - 1 := by exact Int.pred_toNat d
        walk_at "ogs"
        refine algI (by exact List.Mem.head _) hys (by exact Int.sub_nonneg_of_le h0) (by rw [hlen]; (clear hne hlen kk hcm; omega)) (by (clear hne hlen kk hdn hcm ed; omega)) ?_ (by with_unfolding_all rfl)
        intro u
        walk_at "ogs"
        refine abgI (ks := plusR) (by with_unfolding_all rfl) (by decide) ?_ ?_ ?_ (by with_unfolding_all rfl) (fun _ => by with_unfolding_all rfl)
        · rw [ed]; (clear h0 h1 hne hlen kk hdn e1 ed; omega)
        · rw [ed]; show _ < (10 : Int); (clear h0 h1 hne hlen kk hdn e1 ed; omega)
        intro u t
        walk_at "og"
        refine lsI F N hys (by exact Int.sub_nonneg_of_le h0) (by rw [hlen]; (clear hne hlen kk hcm; omega)) (by (clear hne hlen kk hdn hcm ed; omega)) ?_
        clear F N hys; intro ws h hys F N
        walk_at "ogs"
        refine amkB Z.hh (.inr ⟨_, .head _, rfl, _, rfl⟩) hys (in_set (codes_in _ _) (row_in (by decide) _)) (by rw [List.length_set, hlen]; (clear hne hlen kk hdn hcm; omega)) ?_
        intro u t
        walk_at "og"
        exact Ret.via kk F N.tail.tail ⟨⟨_, by unfold disp; rw [if_pos rfl, if_neg (of_decide_eq_false hb), ed]; rfl⟩, rfl⟩
end Og

-- C6
namespace Og
/-- a shape's attributes -/
inductive ShEn (nb : Nat) (w : World) (cat : S) (size d sc : Int) (sg : Bool) : Obj → Prop where
  | mk (es : List DictEntry) (k : Nat) (fs : List (S × Value)) (R : Rec es fs) (hz : fs.length ≤ nb) (t1 : Tok) (l1 : gv fs "category" = some (.str cat t1)) (t2 : Tok) (l2 : gv fs "size" = some (.int size t2)) (t3 : Tok) (l3 : gv fs "usage" = some (.str "display" t3)) (t4 : Tok) (l4 : gv fs "sign" = some (.str "trailing" t4))
    (l5 : gv fs "is_separate" = some (.bool false)) (l6 : gv fs "is_justified" = some (.bool false)) (t7 : Tok) (l7 : gv fs "digits" = some (.int d t7)) (t8 : Tok) (l8 : gv fs "scale" = some (.int sc t8)) (l9 : gv fs "is_signed" = some (.bool sg)) (l0 : gv fs "sign_place" = none) : ShEn nb w cat size d sc sg (dictOf es k)
noncomputable abbrev ShEs := ShEn 100
/-- a new shape at the ledger's head -/
noncomputable def NewShape (w : World) (cat : S) (size d sc : Int) (sg : Bool) (news : List Ob) (r : Value) (news' : List Ob) : Prop :=
  Ex3 fun x dx es => An3 (r = .ref x) (news' = (x, instObj 525 dx) :: (dx, es) :: news) (ShEs w cat size d sc sg es)
theorem ShEn.at {nb : Nat} {w : World} {cat : S} {size d sc : Int} {sg : Bool} {o : Obj} {news : List Ob} {x dx : Addr} (h : ShEn nb w cat size d sc sg o) (m1 : (x, instObj 525 dx) ∈ news) (m2 : (dx, o) ∈ news) : ShapeAt news x cat size d sc sg := by
  obtain ⟨es, k, fs, R, hz, t1, l1, t2, l2, t3, l3, t4, l4, l5, l6, t7, l7, t8, l8, l9, l0⟩ := h
  exact .mk dx es k m1 m2 t1 (R.at l1) t2 (R.at l2) t3 (R.at l3) t4 (R.at l4) (R.at l5) (R.at l6) t7 (R.at l7) t8 (R.at l8) (R.at l9)
theorem ShEn.nsp {nb : Nat} {w : World} {cat : S} {size d sc : Int} {sg : Bool} {o : Obj} {news : List Ob} {x dx : Addr} (h : ShEn nb w cat size d sc sg o) (m1 : (x, instObj 525 dx) ∈ news) (m2 : (dx, o) ∈ news) : NoAttr news x 525 "sign_place" := by
  obtain ⟨es, k, fs, R, hz, t1, l1, t2, l2, t3, l3, t4, l4, l5, l6, t7, l7, t8, l8, l9, l0⟩ := h
  exact ⟨dx, es, k, m1, m2, R.no l0⟩
theorem con_shape_init (w : World) {news : List Ob} {x dx : Addr} {cat : S} {tc : Tok} {size : Int} {ts : Tok} :
    Con w (.ref 508) 1 [.ref x, .str cat tc, .int size ts] ((x, instObj 525 dx) :: (dx, dictOf [] 0) :: news) (fun r news' => r = .none ∧ NewShape w cat size 0 0 false news (.ref x) news') := by
  refine Con.var fun Ψ kk => ?_
  refine enter (binds := [("self", .ref x), ("category", .str cat tc), ("size", .int size ts), ("picture", .none), ("usage", .str "display" 890), ("sign", .str "trailing" 891), ("is_separate", .bool false), ("is_justified", .bool false), ("is_blank_zero", .bool false)]) (bs := [("is_blank_zero", .bool false), ("is_justified", .bool false), ("is_separate", .bool false), ("sign", .str "trailing" 891), ("usage", .str "display" 890), ("picture", .none), ("size", .int size ts), ("category", .str cat tc), ("self", .ref x)]) (by k_is) (by k_is) (fun s X => binds_K X rfl (by k_is) rfl rfl rfl) rfl rfl rfl rfl rfl (by decide) ?_
  intro A base outer g L σ h t Z F N
  have R := Rec.nil
  walk_at "og"
  exact Ret.via kk F N ⟨rfl, _, _, _, rfl, rfl, .mk _ _ _ R (Nat.le_of_ble_eq_true rfl) _ rfl _ rfl _ rfl _ rfl rfl rfl _ rfl _ rfl rfl rfl⟩
theorem con_Shape (w : World) {news : List Ob} {cat : S} {tc : Tok} {size : Int} {ts : Tok} : Con w (.ref 525) 2 [.str cat tc, .int size ts] news (NewShape w cat size 0 0 false news) :=
  con_make' (by k_is) (by k_is) (by k_is) fun x dx => con_shape_init w
theorem con_shape_init4 (w : World) {news : List Ob} {x dx : Addr} {cat : S} {tc tu : Tok} {size : Int} {ts : Tok} :
    Con w (.ref 508) 1 [.ref x, .str cat tc, .int size ts, .none, .str "display" tu] ((x, instObj 525 dx) :: (dx, dictOf [] 0) :: news) (fun r news' => r = .none ∧ Ex3 fun x1 dx es => An3 ((Value.ref x) = .ref x1) (news' = (x1, instObj 525 dx) :: (dx, es) :: news) (ShEn 20 w cat size 0 0 false es)) := by
  refine Con.var fun Ψ kk => ?_
  refine enter (binds := [("self", .ref x), ("category", .str cat tc), ("size", .int size ts), ("picture", .none), ("usage", .str "display" tu), ("sign", .str "trailing" 891), ("is_separate", .bool false), ("is_justified", .bool false), ("is_blank_zero", .bool false)]) (bs := [("is_blank_zero", .bool false), ("is_justified", .bool false), ("is_separate", .bool false), ("sign", .str "trailing" 891), ("usage", .str "display" tu), ("picture", .none), ("size", .int size ts), ("category", .str cat tc), ("self", .ref x)]) (by k_is) (by k_is) (fun s X => binds_K X rfl (by k_is) rfl rfl rfl) rfl rfl rfl rfl rfl (by decide) ?_
  intro A base outer g L σ h t Z F N
  have R := Rec.nil
  walk_at "og"
  exact Ret.via kk F N ⟨rfl, _, _, _, rfl, rfl, .mk _ _ _ R (Nat.le_of_ble_eq_true rfl) _ rfl _ rfl _ rfl _ rfl rfl rfl _ rfl _ rfl rfl rfl⟩
theorem con_Shape4 (w : World) {news : List Ob} {cat : S} {tc tu : Tok} {size : Int} {ts : Tok} : Con w (.ref 525) 2 [.str cat tc, .int size ts, .none, .str "display" tu] news (fun r news' => Ex3 fun x dx es => An3 (r = .ref x) (news' = (x, instObj 525 dx) :: (dx, es) :: news) (ShEn 20 w cat size 0 0 false es)) :=
  con_make' (by k_is) (by k_is) (by k_is) fun x dx => con_shape_init4 w
theorem kt3 {x : S} {a b c : Value} {fs : List (S × Value)} {v : Option Value} (h1 : (x == ("is_signed" : S)) = false) (h2 : (x == ("scale" : S)) = false) (h3 : (x == ("digits" : S)) = false) (l : fs.lookup x = v) : List.lookup x ((("is_signed" : S), a) :: (("scale" : S), b) :: (("digits" : S), c) :: fs) = v := lk_tl h1 (lk_tl h2 (lk_tl h3 l))
theorem con_numbered_shape (w : World) {news : List Ob} {cat : S} {tc tu : Tok} {size d sc : Int} {ts td tsc : Tok} {sg : Bool} : Con w (.ref 557) 3 [.str cat tc, .int size ts, .str "display" tu, .int d td, .int sc tsc, .bool sg] news (NewShape w cat size d sc sg news) := by
  refine Con.var fun Ψ kk => ?_
  refine enter (binds := [("category", .str cat tc), ("size", .int size ts), ("usage", .str "display" tu), ("digits", .int d td), ("scale", .int sc tsc), ("is_signed", .bool sg)]) (bs := [("is_signed", .bool sg), ("scale", .int sc tsc), ("digits", .int d td), ("usage", .str "display" tu), ("size", .int size ts), ("category", .str cat tc)]) (by k_is) (by k_is) (fun s X => BindsTo.of_eq rfl) rfl rfl rfl rfl rfl (by decide) ?_
  intro A base outer g L σ h t Z F N
  walk_at "ogs"
  refine Con.aq3 (con_Shape4 w) Z (by decide) ?_
  intro x dx es t hes
  obtain ⟨es, k, fs, RS, hz, t1, l1, t2, l2, t3, l3, t4, l4, l5, l6, t7, l7, t8, l8, l9, l0⟩ := hes
  walk_at "og"
  refine sR ⟨by k_is, by k_is, by k_is, by k_is⟩ Z F N RS (by exact Nat.le_trans hz (Nat.le_add_left 20 979)) ?_
  clear F N RS; intro h t es k F N RS
  walk_at "og"
  refine sR ⟨by k_is, by k_is, by k_is, by k_is⟩ Z F N RS (by rw [List.length_cons]; exact Nat.le_trans (Nat.succ_le_succ hz) (Nat.le_add_left (Nat.succ 20) 978)) ?_
  clear F N RS; intro h t es k F N RS
  walk_at "og"
  refine sR ⟨by k_is, by k_is, by k_is, by k_is⟩ Z F N RS (by rw [List.length_cons, List.length_cons]; omega) ?_
  clear F N RS; intro h t es k F N RS
  walk_at "og"
  exact Ret.via kk F N ⟨_, _, _, rfl, rfl, .mk _ _ _ RS (by rw [List.length_cons, List.length_cons, List.length_cons]; omega) _ (kt3 (by decide) (by decide) (by decide) l1) _ (kt3 (by decide) (by decide) (by decide) l2) _ (kt3 (by decide) (by decide) (by decide) l3) _ (kt3 (by decide) (by decide) (by decide) l4) (kt3 (by decide) (by decide) (by decide) l5) (kt3 (by decide) (by decide) (by decide) l6) _ (lk_tl (by decide) (lk_tl (by decide) lk_hd)) _ (lk_tl (by decide) lk_hd) lk_hd (kt3 (by decide) (by decide) (by decide) l0)⟩
theorem con_text_shape (w : World) {news : List Ob} {b : Array UInt8} {tb : Tok} {ks : List Int} (hb : bI b = ks) (hz : ks.length ≤ 1000) : Con w (.ref 550) 3 [.bytes b tb] news (NewShape w "alphanumeric" ks.length 0 0 false news) := by
  refine Con.var fun Ψ kk => ?_
  refine enter (binds := [("octets", .bytes b tb)]) (bs := [("octets", .bytes b tb)]) (by k_is) (by k_is) (fun s X => BindsTo.of_eq rfl) rfl rfl rfl rfl rfl (by decide) ?_
  intro A base outer g L σ h t Z F N
  walk_at "ogs"
  refine alenB hb (by exact Nat.le_trans hz (Nat.le_add_left 1000 1099511626776)) ?_
  intro u t
  walk_at "ogs"
  refine Con.aq3 (con_Shape w) Z (by decide) ?_
  intro x dx es t hes
  walk_at "og"
  exact Ret.via kk F N ⟨_, _, _, rfl, rfl, hes⟩
end Og

-- C7
namespace Og
theorem con_octets_for (w : World) {news : List Ob} {x : Addr} {cat : S} {size d scale : Int} {sgn : Bool} (hs : ShapeAt news x cat size d scale sgn) (h0 : 1 ≤ d) (h1 : d ≤ 20) (v : Int) (tv : Tok) :
    Con w (.ref 616) 3 [.ref x, .int v tv] news (fun r news' => (∃ t, r = .bytes (byteArr (disp sgn d.toNat (keptU sgn d v))) t) ∧ news' = news) := by
  refine Con.var fun Ψ kk => ?_
  refine enter (binds := [("shape", .ref x), ("units", .int v tv)]) (bs := [("units", .int v tv), ("shape", .ref x)]) (by k_is) (by k_is) (fun s X => BindsTo.of_eq rfl) rfl rfl rfl rfl rfl (by decide) ?_
  intro A base outer g L σ h t Z F N
  obtain ⟨dx, es, k, m1, m2, _, g1, _, g2, _, g3, _, g4, g5, g6, _, g7, _, g8, g9⟩ := id hs
  walk_at "ogs"
  refine Con.au1 (con_kept_units w hs (by exact Int.le_of_lt h0) h1 _ _) Z (by decide) ?_
  intro _ t
  walk_at "ogs"
  refine Con.au1 (con_display_octets w hs h0 h1 _ _) Z (by decide) ?_
  intro _ t
  walk_at "og"
  exact Ret.via kk F N ⟨⟨_, rfl⟩, rfl⟩
theorem con_cut_octets (w : World) {news : List Ob} {x : Addr} {cat : S} {size d scale : Int} {sgn : Bool} (hs : ShapeAt news x cat size d scale sgn) (h0 : 1 ≤ d) (h1 : d ≤ 20) {T : Addr} {u s : Int} {tu ts : Tok} (hT : (T, tup [.int u tu, .int s ts]) ∈ news) (k0 : 0 ≤ s) (k1 : s ≤ scale) (k2 : scale ≤ 16) :
    Con w (.ref 670) 4 [.ref x, .ref T] news (fun r news' => (∃ t, r = .bytes (byteArr (disp sgn d.toNat (keptU sgn d (u * 10 ^ (scale - s).toNat)))) t) ∧ news' = news) := by
  refine Con.var fun Ψ kk => ?_
  refine enter (binds := [("shape", .ref x), ("number", .ref T)]) (bs := [("number", .ref T), ("shape", .ref x)]) (by k_is) (by k_is) (fun s X => BindsTo.of_eq rfl) rfl rfl rfl rfl rfl (by decide) ?_
  intro A base outer g L σ h t Z F N
  obtain ⟨dx, es, k, m1, m2, _, g1, _, g2, _, g3, _, g4, g5, g6, _, g7, _, g8, g9⟩ := id hs
  walk_at "ogs"
  refine Con.au1 (con_units_at w hT _ k0 k1 k2) Z (by decide) ?_
  intro _ t
  walk_at "ogs"
  refine Con.au1 (con_octets_for w hs h0 h1 _ _) Z (by decide) ?_
  intro _ t
  walk_at "og"
  exact Ret.via kk F N ⟨⟨_, rfl⟩, rfl⟩
theorem con_number_for (w : World) {news : List Ob} {x : Addr} {size d scale : Int} {sgn : Bool} (hs : ShapeAt news x "numeric" size d scale sgn) (h0 : 1 ≤ d) (h1 : d ≤ 20) {T : Addr} {u s : Int} {tu ts : Tok} (hT : (T, tup [.int u tu, .int s ts]) ∈ news) (k0 : 0 ≤ s) (k1 : s ≤ scale) (k2 : scale ≤ 16) :
    Con w (.ref 735) 5 [.ref x, .ref T] news (fun r news' => (∃ t, r = .bytes (byteArr (disp sgn d.toNat (keptU sgn d (u * 10 ^ (scale - s).toNat)))) t) ∧ news' = news) := by
  refine Con.var fun Ψ kk => ?_
  refine enter (binds := [("shape", .ref x), ("number", .ref T)]) (bs := [("number", .ref T), ("shape", .ref x)]) (by k_is) (by k_is) (fun s X => BindsTo.of_eq rfl) rfl rfl rfl rfl rfl (by decide) ?_
  intro A base outer g L σ h t Z F N
  obtain ⟨dx, es, k, m1, m2, _, g1, _, g2, _, g3, _, g4, g5, g6, _, g7, _, g8, g9⟩ := id hs
  walk_at "ogs"
  refine Con.au1 (con_cut_octets w hs h0 h1 hT k0 k1 k2) Z (by decide) ?_
  intro _ t
  walk_at "og"
  exact Ret.via kk F N ⟨⟨_, rfl⟩, rfl⟩
theorem con_is_numeric (w : World) {news : List Ob} {x : Addr} {cat : S} {size d scale : Int} {sgn : Bool} (hs : ShapeAt news x cat size d scale sgn) :
    Con w (.ref 536) 1 [.ref x] news (fun r news' => r = .bool (cat.cps.toList == (Str.ofString "numeric").cps.toList) ∧ news' = news) := by
  refine Con.var fun Ψ kk => ?_
  refine enter (binds := [("shape", .ref x)]) (bs := [("shape", .ref x)]) (by k_is) (by k_is) (fun s X => BindsTo.of_eq rfl) rfl rfl rfl rfl rfl (by decide) ?_
  intro A base outer g L σ h t Z F N
  obtain ⟨dx, es, k, m1, m2, _, g1, _, g2, _, g3, _, g4, g5, g6, _, g7, _, g8, g9⟩ := id hs
  walk_at "og"
  exact Ret.via kk F N ⟨rfl, rfl⟩
/-- the places that a number asks for -/
noncomputable def ndig (u s : Int) : Int := max (nfig (iabs u) (iabs u).toNat 1 ((iabs u).fdiv 10)) s
theorem con_number_shape (w : World) {news : List Ob} {T : Addr} {u s : Int} {tu ts : Tok} (hT : (T, tup [.int u tu, .int s ts]) ∈ news) :
    Con w (.ref 571) 4 [.ref T] news (NewShape w "numeric" (ndig u s) (ndig u s) s (decide (u < 0)) news) := by
  refine Con.var fun Ψ kk => ?_
  refine enter (binds := [("number", .ref T)]) (bs := [("number", .ref T)]) (by k_is) (by k_is) (fun s X => BindsTo.of_eq rfl) rfl rfl rfl rfl rfl (by decide) ?_
  intro A base outer g L σ h t Z F N
  have m1 : tAt g T (List.toArray [.int u tu, .int s ts]) news := .inr ⟨_, hT, rfl, _, rfl⟩
  walk_at "ogs"
  refine Con.au1 (con_figure_count w _ _ (iabs_nonneg _)) Z (by decide) ?_
  intro _ t
  walk_at "og"
  refine Con.use (con_numbered_shape w) Z F N (by decide) ?_
  clear F N; rintro r news' h t hr F N
  walk_at "og"
  exact Ret.via kk F N hr
end Og

-- C8
namespace Og
/-- figures to a number -/
noncomputable def jn (fs : List Int) : Int := fs.foldl (fun a f => 10 * a + f) 0
theorem jn_snoc (fs : List Int) (f : Int) : jn (fs ++ [f]) = 10 * jn fs + f := by simp [jn]
theorem con_joined_figures (w : World) {news : List Ob} {l : Addr} {vs : List Value} {kk : Nat} {fs : List Int} (hm : (l, listOf vs.toArray kk) ∈ news) (hf : ∀ f ∈ fs, 0 ≤ f ∧ f ≤ 9) (hvs : IntsAre vs fs) :
    Con w (.ref 623) 1 [.ref l] news (fun r news' => (∃ t, r = .int (jn fs) t) ∧ news' = news) := by
  refine Con.var fun Ψ kk => ?_
  refine enter (binds := [("figures", .ref l)]) (bs := [("figures", .ref l)]) (by k_is) (by k_is) (fun s X => BindsTo.of_eq rfl) rfl rfl rfl rfl rfl (by decide) ?_
  intro A base outer g L σ h t Z F N
  walk_at "og"
  refine wpAny_For ?_ (by intro _; rfl)
  walk_at "og"
  refine enL F N (.inr ⟨_, hm, rfl, _, rfl⟩) ?_
  clear F N; intro e it io h F N hio hne
  refine itE N ?_
  refine for_goEL (its := vs.toArray) Z.hh hne (fun i xs nw => ∃ tr, gv xs "found" = some (.int (jn (fs.take i)) tr) ∧ nw = news) ?_ F N hio ⟨_, rfl, rfl⟩ ?_ ?_ PassesOwn.never
  · rintro i xs nw ⟨_, _, rfl⟩; exact .inr ⟨_, hm, rfl, _, rfl⟩
  · clear F N; rintro i v T ti eo io xs nw h t hi hv ⟨tr, l1, rfl⟩ F N
    obtain ⟨f, tf, rfl, hfi⟩ := Og.IntsAre.at hvs (by simpa using hv)
    have hf' := hf f (List.mem_of_getElem? hfi)
    have m1 : tAt g T (List.toArray [.int (i : Int) ti, .int f tf]) ((T, tup [.int (i : Int) ti, .int f tf]) :: (e, eo) :: (it, io) :: nw) := .inr ⟨_, .head _, rfl, _, rfl⟩
    walk_at "ogs"
    refine brP (decide_eq_true hf'.1) ?_
    walk_at "og"
    rw [show decide (f ≤ 9) = true from decide_eq_true hf'.2]
    walk_at "og"
    exact ⟨_, _, _, _, rfl, F, N, _, rfl, _, by rw [List.take_add_one, hfi, Option.toList_some, jn_snoc]; rfl, rfl⟩
  · clear F N; rintro xs nw h t ⟨tr, l1, rfl⟩ F N
    walk_at "og"
    exact Ret.via kk F N ⟨⟨_, by rw [List.take_of_length_le (by rw [← hvs.length, List.size_toArray]; exact Nat.le_refl _)]; rfl⟩, rfl⟩

theorem plus_in : ∀ c ∈ plusR, 0 ≤ c ∧ c < 256 := by decide
theorem minus_in : ∀ c ∈ minusR, 0 ≤ c ∧ c < 256 := by decide
noncomputable abbrev plusB : Array UInt8 := List.toArray [123, 65, 66, 67, 68, 69, 70, 71, 72, 73]
noncomputable abbrev minusB : Array UInt8 := List.toArray [125, 74, 75, 76, 77, 78, 79, 80, 81, 82]
theorem plus_all : ∀ j : Fin 10, plusB.contains (plusR[j.val]?.getD 0).toNat.toUInt8 = true ∧ bfind plusB (plusR[j.val]?.getD 0) = some j.val := by decide +kernel
theorem minus_all : ∀ j : Fin 10, plusB.contains (minusR[j.val]?.getD 0).toNat.toUInt8 = false ∧ minusB.contains (minusR[j.val]?.getD 0).toNat.toUInt8 = true ∧ bfind minusB (minusR[j.val]?.getD 0) = some j.val := by decide +kernel
theorem plus_has (j : Nat) (hj : j < 10) {c : Int} (hc : plusR[j]? = some c) : plusB.contains c.toNat.toUInt8 = true := by have := (plus_all ⟨j, hj⟩).1; simpa only [hc, Option.getD_some] using this
theorem plus_ix (j : Nat) (hj : j < 10) {c : Int} (hc : plusR[j]? = some c) : bfind plusB c = some j := by have := (plus_all ⟨j, hj⟩).2; simpa only [hc, Option.getD_some] using this
theorem minus_has (j : Nat) (hj : j < 10) {c : Int} (hc : minusR[j]? = some c) : plusB.contains c.toNat.toUInt8 = false ∧ minusB.contains c.toNat.toUInt8 = true ∧ bfind minusB c = some j := by have := minus_all ⟨j, hj⟩; simpa only [hc, Option.getD_some] using this
/-- the figure and the sign of the last octet -/
theorem con_signed_figure (w : World) {news : List Ob} (neg : Bool) (j : Nat) (hj : j < 10) {c : Int} (hc : (if neg then minusR else plusR)[j]? = some c) (tc : Tok) :
    Con w (.ref 630) 1 [.int c tc] news (fun r news' => Ex2 fun T u => r = .ref T ∧ news' = (T, tup [.int (j : Int) u, .bool neg]) :: news) := by
  refine Con.var fun Ψ kk => ?_
  refine enter (binds := [("code", .int c tc)]) (bs := [("code", .int c tc)]) (by k_is) (by k_is) (fun s X => BindsTo.of_eq rfl) rfl rfl rfl rfl rfl (by decide) ?_
  intro A base outer g L σ h t Z F N
  cases neg
  · have hr : 0 ≤ c ∧ c < 256 := plus_in c (List.mem_of_getElem? hc)
    have h1 := plus_has j hj hc
    have h2 := plus_ix j hj hc
    walk_at "og"
    refine inB hr ?_
    rw [h1]
    walk_at "og"
    refine ixB hr h2 ?_
    intro u t
    walk_at "og"
    exact Ret.via kk F N ⟨_, _, rfl, rfl⟩
  · have hr : 0 ≤ c ∧ c < 256 := minus_in c (List.mem_of_getElem? hc)
    obtain ⟨h0, h1, h2⟩ := minus_has j hj hc
    walk_at "og"
    refine inB hr ?_
    rw [h0]
    walk_at "og"
    refine inB hr ?_
    rw [h1]
    walk_at "og"
    refine ixB hr h2 ?_
    intro u t
    walk_at "og"
    exact Ret.via kk F N ⟨_, _, rfl, rfl⟩
end Og

-- C9
namespace Og
theorem con_sign_place (w : World) {news : List Ob} {x : Addr} {size d scale : Int} {sgn : Bool} (hs : ShapeAt news x "numeric" size d scale sgn) :
    Con w (.ref 522) 1 [.ref x] news (fun r news' => (Ex2 fun p t => r = .int p t ∧ p = if sgn then size - 1 else -1) ∧ news' = news) := by
  refine Con.var fun Ψ kk => ?_
  refine enter (binds := [("self", .ref x)]) (bs := [("self", .ref x)]) (by k_is) (by k_is) (fun s X => BindsTo.of_eq rfl) rfl rfl rfl rfl rfl (by decide) ?_
  intro A base outer g L σ h t Z F N
  obtain ⟨dx, es, k, m1, m2, _, g1, _, g2, _, g3, _, g4, g5, g6, _, g7, _, g8, g9⟩ := id hs
  cases sgn
  · walk_at "og"
    exact Ret.via kk F N ⟨⟨_, _, rfl, rfl⟩, rfl⟩
  · walk_at "og"
    exact Ret.via kk F N ⟨⟨_, _, rfl, rfl⟩, rfl⟩

theorem disp_length (sgn : Bool) (d : Nat) (u : Int) : (disp sgn d u).length = d := by
  unfold disp; split
  · rw [List.length_set, codes_length]
  · exact codes_length _ _
theorem map_codes (v : Int) (d : Nat) : (codes v d).map (· - 48) = figs v d := by
  rw [codes, List.map_map]
  conv => rhs; rw [← List.map_id (figs v d)]
  apply List.map_congr_left
  intro a _
  show 48 + a - 48 = a
  exact Int.sub_eq_iff_eq_add'.mpr rfl
theorem disp_false (v : Int) (d : Nat) : (disp false d v).map (· - 48) = figs (iabs v) d := by unfold disp; rw [if_neg Bool.false_ne_true, map_codes]
theorem figs_in {v : Int} {d : Nat} : ∀ f ∈ figs v d, 0 ≤ f ∧ f ≤ 9 := fun f hf => by have := low_in v d f (List.mem_reverse.mp hf); omega
theorem disp_last (v : Int) (d : Nat) (h0 : 1 ≤ d) : Ex2 fun (j : Nat) (c : Int) => An4 (j < 10) ((if decide (v < 0) then minusR else plusR)[j]? = some c) ((disp true d v).getD (d - 1) 0 = c) (((disp true d v).map (· - 48)).set (d - 1) (j : Int) = figs (iabs v) d):= by
  have hlen := figs_length (iabs v) d
  have hlt : d - 1 < (figs (iabs v) d).length := by omega
  obtain ⟨f, hf⟩ : ∃ f, (figs (iabs v) d)[d - 1]? = some f := ⟨_, List.getElem?_eq_getElem hlt⟩
  have hfi := figs_in f (List.mem_of_getElem? hf)
  have hcf : (codes (iabs v) d)[d - 1]? = some (48 + f) := by rw [codes, List.getElem?_map, hf]; rfl
  have hrow : (if v < 0 then minusR else plusR).length = 10 := by split <;> rfl
  have hj : f.toNat < (if v < 0 then minusR else plusR).length := by rw [hrow]; (clear h0 hlen hlt hrow; omega)
  have hd : disp true d v = (codes (iabs v) d).set (d - 1) ((if v < 0 then minusR else plusR)[f.toNat]) := by
    unfold disp
    rw [if_pos rfl, List.getD_eq_getElem?_getD (l := codes (iabs v) d), hcf, Option.getD_some, show (48 + f - 48).toNat = f.toNat by omega, List.getD_eq_getElem?_getD, List.getElem?_eq_getElem hj, Option.getD_some]
  refine ⟨f.toNat, (if v < 0 then minusR else plusR)[f.toNat], by exact Nat.lt_of_lt_of_eq hj hrow, ?_, ?_, ?_⟩
  · simp only [decide_eq_true_eq]; exact List.getElem?_eq_getElem hj
  · rw [hd, List.getD_eq_getElem?_getD, List.getElem?_set_self (by rw [codes_length]; exact Nat.sub_one_lt_of_lt h0), Option.getD_some]
  · rw [hd, List.map_set, List.set_set, map_codes]
    have e : ((f.toNat : Nat) : Int) = (figs (iabs v) d)[d - 1] := by
      rw [List.getElem?_eq_getElem hlt] at hf
      rw [Option.some.inj hf]; omega
    rw [e, List.set_getElem_self]
theorem con_display_units (w : World) {news : List Ob} {x : Addr} {size d scale : Int} {sgn : Bool} (hs : ShapeAt news x "numeric" size d scale sgn) (hsp : NoAttr news x 525 "sign_place") (hsz : size = d) (h0 : 1 ≤ d) (h1 : d ≤ 20) (v : Int) {b : Array UInt8} {tb : Tok} (hb : bI b = disp sgn d.toNat v) :
    Con w (.ref 635) 3 [.ref x, .bytes b tb] news (fun r news' => (∃ t, r = .int (if sgn && decide (v < 0) then 0 - jn (figs (iabs v) d.toNat) else jn (figs (iabs v) d.toNat)) t) ∧ news' = news) := by
  refine Con.var fun Ψ kk => ?_
  refine enter (binds := [("shape", .ref x), ("octets", .bytes b tb)]) (bs := [("octets", .bytes b tb), ("shape", .ref x)]) (by k_is) (by k_is) (fun s X => BindsTo.of_eq rfl) rfl rfl rfl rfl rfl (by decide) ?_
  intro A base outer g L σ h t Z F N
  obtain ⟨dx, es, k, m1, m2, _, g1, _, g2, _, g3, _, g4, g5, g6, _, g7, _, g8, g9⟩ := id hs
  walk_at "og"
  refine itB F N ?_
  clear F N; intro I o h F N hIt
  have hbl : b.size = d.toNat := by rw [← KBw.ints_length, show KBw.bInts b = _ from hb, disp_length]
  refine comp_go (turns_bytes Z.hh I b tb) (fun i ys nw => IntsAre ys (((disp sgn d.toNat v).take i).map (· - 48)) ∧ nw = news) (by decide) (by rfl) (by rfl) ?_ F N hIt ⟨.nil, rfl⟩ ?_ ?_ ?_
  · rw [hbl, sizeLine_eq]; omega
  · rintro i ys nw ⟨a, rfl⟩
    exact ⟨trivial, by rw [a.length, List.length_map]; exact List.length_take_le _ _⟩
  · clear F N hIt; rintro i v' ys o nw h t C oC D m₂ E hi ⟨c, u, hV, rfl⟩ hIt ⟨hys, rfl⟩ F N cO cV
    have hf := KBw.ints_get hV
    rw [show KBw.bInts b = _ from hb] at hf
    walk_at "og"
    exact CStep.intro F N ⟨_, rfl, by rw [List.take_add_one, hf, List.map_append]; exact Og.IntsAre.snoc hys, rfl⟩
  · clear F N hIt; rintro D ys nw h t F N ⟨hys, rfl⟩
    rw [List.take_of_length_le (by rw [disp_length, hbl]; exact Nat.le_refl _)] at hys
    walk_at "og"
    obtain ⟨dx', es', k', q1, q2, q3⟩ := hsp
    refine gM Z F N (.tail _ q1) (.tail _ q2) q3 (by k_is) (by k_is) (by k_is) ?_
    walk_at "og"
    refine Con.use (con_sign_place w (hs.mono fun p hp => .tail _ hp)) Z F N (by decide) ?_
    clear F N q1 q2 q3; rintro r news' h t ⟨⟨p, _, rfl, hp⟩, rfl⟩ F N
    cases sgn
    · obtain rfl : p = -1 := hp
      rw [disp_false] at hys
      walk_at "ogs"
      refine Con.au1 (con_joined_figures w (.head _) figs_in hys) Z (by decide) ?_
      intro _ t
      walk_at "og"
      exact Ret.via kk F N.tail ⟨⟨_, rfl⟩, rfl⟩
    · obtain rfl : p = size - 1 := hp
      have hp : (size - 1 ≥ 0) := by omega
      walk_at "ogs"
      refine brP (decide_eq_true hp) ?_
      walk_at "ogs"
      refine brP (decide_eq_true hp) ?_
      walk_at "ogs"
      obtain ⟨j, c, hj, hc, hl, hm⟩ := disp_last v d.toNat (by omega)
      have eN : ((d.toNat : Nat) : Int) = d := Int.toNat_of_nonneg (Int.le_trans (by decide) h0)
      have hN : size - 1 < ((d.toNat : Nat) : Int) := by rw [eN, hsz]; exact Int.sub_one_lt_of_le (Int.le_refl _)
      have hN2 : d.toNat ≤ 20 := Int.toNat_le.mpr h1
      have ed : (size - 1).toNat = d.toNat - 1 := by rw [hsz]; exact Int.toNat_sub' d 1
      refine abgI hb (by rw [disp_length]; exact Nat.le_trans hN2 (by decide)) hp (by rw [disp_length]; exact hN) ?_ (by with_unfolding_all rfl) (fun _ => by with_unfolding_all rfl)
      intro u t
      rw [ed, hl]
      walk_at "ogs"
      refine Con.ae2 (con_signed_figure w (decide (v < 0)) j hj hc _) Z (by decide) ?_
      intro T u t
      walk_at "og"
      refine asT2 Z.hh F N (.inr ⟨_, .head _, rfl, _, rfl⟩) (by kernel_rfl) ?_
      clear F N; intro h t F N
      walk_at "og"
      refine lsI F N.tail hys hp (by rw [List.length_map, disp_length]; exact hN) (Int.lt_trans hN (Int.lt_of_le_of_lt (Int.ofNat_le.mpr hN2) (by decide))) ?_
      clear F N; intro ws h hws F N
      rw [ed, hm] at hws
      walk_at "ogs"
      refine Con.au1 (con_joined_figures w (.head _) figs_in hws) Z (by decide) ?_
      intro _ t
      walk_at "ogs"
      refine asplit (fun hb => ?_) (fun hb => ?_)
      all_goals (walk_at "og"; exact Ret.via kk F N.tail ⟨⟨_, by rw [hb]; rfl⟩, rfl⟩)
end Og

-- C10
namespace Og
/-- the number that octets of a shape tell -/
noncomputable def tld (sgn : Bool) (d : Nat) (v : Int) : Int := if sgn && decide (v < 0) then 0 - jn (figs (iabs v) d) else jn (figs (iabs v) d)
theorem con_units_in (w : World) {news : List Ob} {x : Addr} {size d scale : Int} {sgn : Bool} (hs : ShapeAt news x "numeric" size d scale sgn) (hsp : NoAttr news x 525 "sign_place") (hsz : size = d) (h0 : 1 ≤ d) (h1 : d ≤ 20) (v : Int) {b : Array UInt8} {tb : Tok} (hb : bI b = disp sgn d.toNat v) :
    Con w (.ref 656) 4 [.ref x, .bytes b tb] news (fun r news' => (∃ t, r = .int (tld sgn d.toNat v) t) ∧ news' = news) := by
  refine Con.var fun Ψ kk => ?_
  refine enter (binds := [("shape", .ref x), ("octets", .bytes b tb)]) (bs := [("octets", .bytes b tb), ("shape", .ref x)]) (by k_is) (by k_is) (fun s X => BindsTo.of_eq rfl) rfl rfl rfl rfl rfl (by decide) ?_
  intro A base outer g L σ h t Z F N
  obtain ⟨dx, es, k, m1, m2, _, g1, _, g2, _, g3, _, g4, g5, g6, _, g7, _, g8, g9⟩ := id hs
  walk_at "ogs"
  refine alenB hb (by rw [disp_length]; omega) ?_
  intro u t
  walk_at "ogs"
  refine brN (by rw [disp_length, bne_eq_false_iff_eq]; omega) ?_
  walk_at "ogs"
  refine Con.au1 (con_display_units w hs hsp hsz h0 h1 v hb) Z (by decide) ?_
  intro _ t
  walk_at "og"
  exact Ret.via kk F N ⟨⟨_, rfl⟩, rfl⟩
theorem con_number_in (w : World) {news : List Ob} {x : Addr} {size d scale : Int} {sgn : Bool} (hs : ShapeAt news x "numeric" size d scale sgn) (hsp : NoAttr news x 525 "sign_place") (hsz : size = d) (h0 : 1 ≤ d) (h1 : d ≤ 20) (hsc : 0 ≤ scale) (v : Int) {b : Array UInt8} {tb : Tok} (hb : bI b = disp sgn d.toNat v) :
    Con w (.ref 663) 5 [.ref x, .bytes b tb] news (NewPair news (dec scale.toNat (tld sgn d.toNat v) scale)) := by
  refine Con.var fun Ψ kk => ?_
  refine enter (binds := [("shape", .ref x), ("octets", .bytes b tb)]) (bs := [("octets", .bytes b tb), ("shape", .ref x)]) (by k_is) (by k_is) (fun s X => BindsTo.of_eq rfl) rfl rfl rfl rfl rfl (by decide) ?_
  intro A base outer g L σ h t Z F N
  obtain ⟨dx, es, k, m1, m2, _, g1, _, g2, _, g3, _, g4, g5, g6, _, g7, _, g8, g9⟩ := id hs
  walk_at "ogs"
  refine Con.au1 (con_units_in w hs hsp hsz h0 h1 v hb) Z (by decide) ?_
  intro _ t
  walk_at "ogs"
  refine Con.ae3 (con_decimal w _ _ _ _ hsc) Z (by decide) ?_
  intro T t₁ t₂ t
  walk_at "og"
  exact Ret.via kk F N ⟨_, _, _, rfl, rfl⟩
-- moving
theorem con_pattern_all (w : World) {news : List Ob} {T : Addr} {b : Array UInt8} {tb tt : Tok} (hT : (T, tup [.str "all" tt, .bytes b tb]) ∈ news) : Con w (.ref 749) 1 [.ref T] news (fun r news' => (∃ t, r = .bytes b t) ∧ news' = news) := by
  refine Con.var fun Ψ kk => ?_
  refine enter (binds := [("operand", .ref T)]) (bs := [("operand", .ref T)]) (by k_is) (by k_is) (fun s X => BindsTo.of_eq rfl) rfl rfl rfl rfl rfl (by decide) ?_
  intro A base outer g L σ h t Z F N
  have m1 : tAt g T (List.toArray [.str "all" tt, .bytes b tb]) news := .inr ⟨_, hT, rfl, _, rfl⟩
  walk_at "og"
  exact Ret.via kk F N ⟨⟨_, rfl⟩, rfl⟩
noncomputable def figT : List (S × Int) := [("ZERO", 48), ("SPACE", 32), ("HIGH", 255), ("LOW", 0), ("QUOTE", 34)]
theorem dgFig {w : World} {A : Around} {h₀ h : Heap} {L d : Addr} {σ : Shared} {t : Nat} {news : List Ob} {E : Value → Shared → Prop} {o : Obj} {Q : Value → Shared → Prop} {value slice : Expr} {x : S} {c : Int} {tx u1 u2 u3 u4 u5 t1 t2 t3 t4 t5 : Tok} (N : Led h₀ L h ((d, o) :: news))
    (hd : o.IsDictOf (PySem.strKind PW w) (strPairs [(.str "ZERO" u1, .bytes (List.toArray [48]) t1), (.str "SPACE" u2, .bytes (List.toArray [32]) t2), (.str "HIGH" u3, .bytes (List.toArray [255]) t3), (.str "LOW" u4, .bytes (List.toArray [0]) t4), (.str "QUOTE" u5, .bytes (List.toArray [34]) t5)])) (hx : (x, c) ∈ figT) (H : ∀ b tb t, bI b = [c] → Q (.bytes b tb) (st σ h t))
    (hs : subscripted slice false (.ref d) (.str x tx) = operate [.ref d, .str x tx] (getItem (.ref d) (.str x tx))) : wpAny (model PW w) A (subscriptTail value slice (.ref d) (.str x tx)) Q E (st σ h t) := by
  have hv : Ex2 fun b t => valueAt (strPairs [(.str "ZERO" u1, .bytes (List.toArray [48]) t1), (.str "SPACE" u2, .bytes (List.toArray [32]) t2), (.str "HIGH" u3, .bytes (List.toArray [255]) t3), (.str "LOW" u4, .bytes (List.toArray [0]) t4), (.str "QUOTE" u5, .bytes (List.toArray [34]) t5)]) x = some (Value.bytes b t) ∧ bI b = [c] := by
    simp only [figT, List.mem_cons, Prod.mk.injEq, List.not_mem_nil, or_false] at hx
    rcases hx with ⟨rfl, rfl⟩ | ⟨rfl, rfl⟩ | ⟨rfl, rfl⟩ | ⟨rfl, rfl⟩ | ⟨rfl, rfl⟩ <;> exact ⟨_, _, by with_unfolding_all rfl, by rfl⟩
  obtain ⟨b, tb, hv, hb⟩ := hv
  exact dgS N (.head _) hd hv (fun t => H b tb t hb) hs
theorem con_pattern_fig (w : World) {news : List Ob} {T : Addr} {x : S} {c : Int} {tx tt : Tok} (hT : (T, tup [.str "figure" tt, .str x tx]) ∈ news) (hx : (x, c) ∈ figT) : Con w (.ref 749) 1 [.ref T] news (fun r news' => (Ex2 fun b t => r = .bytes b t ∧ bI b = [c]) ∧ news' = news) := by
  refine Con.var fun Ψ kk => ?_
  refine enter (binds := [("operand", .ref T)]) (bs := [("operand", .ref T)]) (by k_is) (by k_is) (fun s X => BindsTo.of_eq rfl) rfl rfl rfl rfl rfl (by decide) ?_
  intro A base outer g L σ h t Z F N
  have m1 : tAt g T (List.toArray [.str "figure" tt, .str x tx]) news := .inr ⟨_, hT, rfl, _, rfl⟩
  walk_at "og"
  refine dgFig N hdict hx ?_ (by with_unfolding_all rfl)
  intro b tb t hb
  walk_at "og"
  exact Ret.via kk F N.tail ⟨⟨_, _, rfl, hb⟩, rfl⟩
end Og

-- C11
namespace Og
noncomputable def cyc (ps : List Int) (n : Nat) : List Int := ((List.replicate (n / ps.length + 1) ps).flatten).take n
theorem con_repeated (w : World) {news : List Ob} {b : Array UInt8} {tb : Tok} {ps : List Int} (hb : bI b = ps) (h0 : ps ≠ []) (hz : ps.length ≤ 16) (n : Nat) (hn : n ≤ 1000) (tn : Tok) :
    Con w (.ref 700) 1 [.bytes b tb, .int (n : Int) tn] news (fun r news' => (Ex2 fun c t => r = .bytes c t ∧ bI c = cyc ps n) ∧ news' = news) := by
  refine Con.var fun Ψ kk => ?_
  refine enter (binds := [("octets", .bytes b tb), ("size", .int (n : Int) tn)]) (bs := [("size", .int (n : Int) tn), ("octets", .bytes b tb)]) (by k_is) (by k_is) (fun s X => BindsTo.of_eq rfl) rfl rfl rfl rfl rfl (by decide) ?_
  intro A base outer g L σ h t Z F N
  have hl : 0 < ps.length := List.length_pos_iff.mpr h0
  walk_at "ogs"
  refine aeqB hb rfl ?_
  rw [show decide (ps = bI (List.toArray [])) = false from decide_eq_false h0]
  walk_at "ogs"
  refine alenB hb (by exact Nat.le_trans hz (Nat.le_add_left 16 1099511627760)) ?_
  intro u t
  refine adivI (by exact Int.natCast_ne_zero_iff_pos.mpr hl) (PyProof.noPylong_small (by omega)) ?_
  intro u t
  walk_at "og"
  have e : ((n : Int).fdiv (ps.length : Int) + 1) = ((n / ps.length + 1 : Nat) : Int) := by
    rw [Int.fdiv_eq_ediv_of_nonneg _ (by exact Int.natCast_nonneg ps.length)]; simp
  have hq : n / ps.length ≤ n := Nat.div_le_self _ _
  refine mulB hb h0 hz (by rw [e]; exact Int.le_trans (by decide) (Int.natCast_nonneg _)) (by rw [e]; exact Int.ofNat_le.mpr (show n / ps.length + 1 ≤ 1048576 by omega)) ?_
  intro c u t hc
  rw [e, Int.toNat_natCast] at hc
  walk_at "ogs"
  refine aslB hc .none (.int _ _) ?_ ?_ (fun _ => by with_unfolding_all rfl) (fun _ => by with_unfolding_all rfl)
  · rw [List.length_flatten, List.map_replicate, List.sum_replicate_nat]
    have : (n / ps.length + 1) * ps.length ≤ (1000 + 1) * 16 := Nat.mul_le_mul (by exact Nat.succ_le_succ (Nat.le_trans hq hn)) hz
    omega
  intro c u t hc
  walk_at "og"
  refine Ret.via kk F N ⟨⟨_, _, rfl, ?_⟩, rfl⟩
  rw [hc]
  show (List.drop 0 _).take (clipAt _ (n : Int) - 0) = _
  rw [List.drop_zero, Nat.sub_zero, clipAt_nat]
  unfold cyc
  rw [← List.take_take, List.take_length]
theorem con_aligned (w : World) {news : List Ob} {b : Array UInt8} {tb : Tok} {ps : List Int} (hb : bI b = ps) (hz : ps.length ≤ 1000) (tn : Tok) :
    Con w (.ref 693) 1 [.bytes b tb, .int (ps.length : Int) tn, .bool false] news (fun r news' => (Ex2 fun c t => r = .bytes c t ∧ bI c = ps) ∧ news' = news) := by
  refine Con.var fun Ψ kk => ?_
  refine enter (binds := [("octets", .bytes b tb), ("size", .int (ps.length : Int) tn), ("is_justified", .bool false)]) (bs := [("is_justified", .bool false), ("size", .int (ps.length : Int) tn), ("octets", .bytes b tb)]) (by k_is) (by k_is) (fun s X => binds_K X rfl (by k_is) rfl rfl rfl) rfl rfl rfl rfl rfl (by decide) ?_
  intro A base outer g L σ h t Z F N
  walk_at "ogs"
  refine aslB hb .none (.int _ _) (by exact Nat.le_trans hz (Nat.le_add_left 1000 16776216)) ?_ (fun _ => by with_unfolding_all rfl) (fun _ => by with_unfolding_all rfl)
  intro c u t hc
  walk_at "ogs"
  refine alenB hb (by exact Nat.le_trans hz (Nat.le_add_left 1000 1099511626776)) ?_
  intro u t
  walk_at "og"
  refine mulB (ks := [32]) (by rfl) (by decide) (by decide) (by omega) (by omega) ?_
  intro c' u t hc'
  walk_at "ogs"
  refine aaddB hc hc' ?_ ?_
  · simp only [Int.sub_self]
    show ((List.drop 0 _).take (clipAt _ (ps.length : Int) - 0)).length + _ ≤ _
    simp; omega
  intro u t he
  walk_at "og"
  refine Ret.via kk F N ⟨⟨_, _, rfl, ?_⟩, rfl⟩
  rw [he]
  show (List.drop 0 _).take (clipAt _ (ps.length : Int) - 0) ++ _ = _
  rw [List.drop_zero, Nat.sub_zero, clipAt_nat]
  simp
end Og

-- C12
namespace Og
/-- a new item -/
noncomputable def itF (level : Int) (name : S) (lc lk : Addr) (fs : List (S × Value)) : Prop :=
  Ex4 fun (t1 t2 t3 t4 : Tok) => Ex4 fun (t5 t6 t7 t8 : Tok) => fs = ([("shape", .none), ("size", .int 0 t8), ("offset", .int 0 t7), ("base", .str "" t6), ("renames", .none), ("parent", .none), ("kids", .ref lk), ("conditions", .ref lc), ("is_blank_zero", .bool false), ("is_justified", .bool false), ("value", .none), ("redefines", .str "" t5), ("occurs", .none), ("is_separate", .bool false), ("sign", .str "" t4), ("usage", .str "" t3), ("picture_text", .none), ("name", .str name t2), ("level", .int level t1)] : List (S × Value))
theorem con_Item (w : World) {news : List Ob} {level : Int} {name : S} {tl tn : Tok} : Con w (.ref 241) 2 [.int level tl, .str name tn] news (fun r news' => Ex4 fun x dx lc lk => Ex3 fun es k fs => An4 (r = .ref x) (news' = (x, instObj 241 dx) :: (dx, dictOf es k) :: (lk, listOf #[] 0) :: (lc, listOf #[] 0) :: news) (Rec es fs) (itF level name lc lk fs)) := by
  refine con_make' (by k_is) (by k_is) (by k_is) fun x dx => ?_
  refine Con.var fun Ψ kk => ?_
  refine enter (binds := [("self", .ref x), ("level", .int level tl), ("name", .str name tn)]) (bs := [("name", .str name tn), ("level", .int level tl), ("self", .ref x)]) (by k_is) (by k_is) (fun s X => BindsTo.of_eq rfl) rfl rfl rfl rfl rfl (by decide) ?_
  intro A base outer g L σ h t Z F N
  have R := Rec.nil
  walk_at "og"
  replace N := N.perm (Led.front3 _ _ _ _)
  walk_at "og"
  replace N := N.perm (Led.front3 _ _ _ _)
  walk_at "og"
  exact Ret.via kk F N ⟨rfl, _, _, _, _, _, _, _, rfl, rfl, R, _, _, _, _, _, _, _, _, rfl⟩
end Og

-- C13
namespace Og
noncomputable def daF (di ls df ll lw : Addr) (fs : List (S × Value)) : Prop := ∃ t : Tok, fs = ([("indexes", .ref di), ("size", .int 0 t), ("sorts", .ref ls), ("files", .ref df), ("linkage", .ref ll), ("working", .ref lw)] : List (S × Value))
theorem con_Data (w : World) {news : List Ob} : Con w (.ref 267) 2 [] news (fun r news' => Ex5 fun x dx lw ll df => Ex5 fun ls di es k fs => An6 (r = .ref x) (news' = (x, instObj 267 dx) :: (dx, dictOf es k) :: (di, dictOf [] 0) :: (ls, listOf #[] 0) :: (df, dictOf [] 0) :: (ll, listOf #[] 0) :: (lw, listOf #[] 0) :: news) (Rec es fs) (daF di ls df ll lw fs) (df ≠ sysModules) (di ≠ sysModules)) := by
  refine con_make' (by k_is) (by k_is) (by k_is) fun x dx => ?_
  refine Con.var fun Ψ kk => ?_
  refine enter (binds := [("self", .ref x)]) (bs := [("self", .ref x)]) (by k_is) (by k_is) (fun s X => BindsTo.of_eq rfl) rfl rfl rfl rfl rfl (by decide) ?_
  intro A base outer g L σ h t Z F N
  have R := Rec.nil
  walk_at "og"
  replace N := N.perm (Led.front3 _ _ _ _)
  walk_at "og"
  replace N := N.perm (Led.front3 _ _ _ _)
  walk_at "og"
  replace N := N.perm (Led.front3 _ _ _ _)
  walk_at "og"
  replace N := N.perm (Led.front3 _ _ _ _)
  walk_at "og"
  replace N := N.perm (Led.front3 _ _ _ _)
  walk_at "og"
  exact Ret.via kk F N ⟨rfl, _, _, _, _, _, _, _, _, _, _, rfl, rfl, R, ⟨_, rfl⟩, by assumption, by assumption⟩
theorem con_Program (w : World) {news : List Ob} {D f : Addr} {tp : Tok} : Con w (.ref 962) 2 [.str "P" tp, .ref D, .ref f, .none] news (fun r news' => Ex5 fun x dx es k fs => An4 (r = .ref x) (news' = (x, instObj 962 dx) :: (dx, dictOf es k) :: news) (Rec es fs) (fs = ([("procedures", .none), ("files", .ref f), ("data", .ref D), ("name", .str "P" tp)] : List (S × Value)))) := by
  refine con_make' (by k_is) (by k_is) (by k_is) fun x dx => ?_
  refine Con.var fun Ψ kk => ?_
  refine enter (binds := [("self", .ref x), ("name", .str "P" tp), ("data", .ref D), ("files", .ref f), ("procedures", .none)]) (bs := [("procedures", .none), ("files", .ref f), ("data", .ref D), ("name", .str "P" tp), ("self", .ref x)]) (by k_is) (by k_is) (fun s X => BindsTo.of_eq rfl) rfl rfl rfl rfl rfl (by decide) ?_
  intro A base outer g L σ h t Z F N
  have R := Rec.nil
  walk_at "og"
  exact Ret.via kk F N ⟨rfl, _, _, _, _, _, rfl, rfl, R, rfl⟩
end Og

-- C14
namespace Og
/-- what an item tells -/
inductive ItemAt (news : List Ob) (x : Addr) (nm : S) (off sz : Int) (sh : Addr) (val : Value) : Prop where
  | mk (dx : Addr) (es : List DictEntry) (k : Nat) (kl : Addr) (m1 : (x, instObj 241 dx) ∈ news) (m2 : (dx, dictOf es k) ∈ news) (m3 : (kl, listOf #[] 0) ∈ news) (t1 : Tok) (g1 : getL "name" es = some (some (.str nm t1))) (g2 : getL "kids" es = some (some (.ref kl)))
    (g3 : getL "parent" es = some (some .none)) (g4 : getL "occurs" es = some (some .none)) (t5 : Tok) (g5 : getL "redefines" es = some (some (.str "" t5))) (t6 : Tok) (g6 : getL "base" es = some (some (.str "" t6))) (t7 : Tok) (g7 : getL "offset" es = some (some (.int off t7)))
    (t8 : Tok) (g8 : getL "size" es = some (some (.int sz t8))) (g9 : getL "shape" es = some (some (.ref sh))) (g10 : getL "value" es = some (some val))
theorem ItemAt.mono {news news' : List Ob} {x sh : Addr} {nm : S} {off sz : Int} {val : Value} (hs : ItemAt news x nm off sz sh val) (k : ∀ p ∈ news, p ∈ news') : ItemAt news' x nm off sz sh val := by
  obtain ⟨dx, es, n, kl, m1, m2, m3, t1, g1, g2, g3, g4, t5, g5, t6, g6, t7, g7, t8, g8, g9, g10⟩ := hs
  exact .mk dx es n kl (k _ m1) (k _ m2) (k _ m3) t1 g1 g2 g3 g4 t5 g5 t6 g6 t7 g7 t8 g8 g9 g10
/-- what the data tell -/
inductive DataAt (news : List Ob) (x : Addr) (items : List Addr) (sz : Int) (di : Addr) : Prop where
  | mk (dx : Addr) (es : List DictEntry) (k : Nat) (df lw : Addr) (kw : Nat) (ll : Addr) (m1 : (x, instObj 267 dx) ∈ news) (m2 : (dx, dictOf es k) ∈ news) (m3 : (df, dictOf [] 0) ∈ news) (m4 : df ≠ sysModules) (m5 : (lw, listOf (items.map Value.ref).toArray kw) ∈ news) (m6 : (ll, listOf #[] 0) ∈ news)
    (g1 : getL "files" es = some (some (.ref df))) (g2 : getL "working" es = some (some (.ref lw))) (g3 : getL "linkage" es = some (some (.ref ll))) (t4 : Tok) (g4 : getL "size" es = some (some (.int sz t4))) (g5 : getL "indexes" es = some (some (.ref di)))
theorem DataAt.mono {news news' : List Ob} {x di : Addr} {items : List Addr} {sz : Int} (hs : DataAt news x items sz di) (k : ∀ p ∈ news, p ∈ news') : DataAt news' x items sz di := by
  obtain ⟨dx, es, n, df, lw, kw, ll, m1, m2, m3, m4, m5, m6, g1, g2, g3, t4, g4, g5⟩ := hs
  exact .mk dx es n df lw kw ll (k _ m1) (k _ m2) (k _ m3) m4 (k _ m5) (k _ m6) g1 g2 g3 t4 g4 g5

/-- a new list at the ledger's head -/
noncomputable def NewList (news : List Ob) (ys : List Value) (r : Value) (news' : List Ob) : Prop := Ex2 fun l k => r = .ref l ∧ news' = (l, listOf ys.toArray k) :: news
theorem con_records (w : World) {news : List Ob} {D di : Addr} {items : List Addr} {sz : Int} (hd : DataAt news D items sz di) (hz : items.length ≤ 100) :
    Con w (.ref 278) 1 [.ref D] news (NewList news (items.map Value.ref)) := by
  refine Con.var fun Ψ kk => ?_
  refine enter (binds := [("data", .ref D)]) (bs := [("data", .ref D)]) (by k_is) (by k_is) (fun s X => BindsTo.of_eq rfl) rfl rfl rfl rfl rfl (by decide) ?_
  intro A base outer g L σ h t Z F N
  obtain ⟨dx, es, k, df, lw, kw, ll, m1, m2, m3, m4, m5, m6, g1, g2, g3, _, g4, g5⟩ := id hd
  walk_at "og"
  refine wpAny_For ?_ (by intro _; rfl)
  walk_at "og"
  refine itD F N (.tail _ m3) empty_isDict m4 ?_
  clear F N; intro I io ep h F N hI hK
  refine for_go (turns_dict Z.hh df I [] ep (by rintro rfl; exact N.off _ (.tail _ m3) rfl)) (fun i xs nw => xs = _ ∧ nw = (l, listOf #[] 0) :: news) F N hI ⟨rfl, rfl⟩ (fun i xs nw q => ⟨_, q.2 ▸ .tail _ m3, hK⟩) (fun i v o xs nw h t hi => absurd hi (Nat.not_lt_zero _)) ?_ PassesOwn.never (fun _ => rfl)
  clear F N; rintro xs nw h t ⟨rfl, rfl⟩ F N
  walk_at "og"
  refine adL (ys := []) F N (.inr ⟨_, .head _, rfl, _, rfl⟩) (.inr ⟨_, .tail _ m5, rfl, _, rfl⟩) (by rw [List.length_map, sizeLine_eq]; simp; exact Nat.le_trans hz (Nat.le_add_left 100 16777116)) ?_
  clear F N; intro l1 h F N
  walk_at "og"
  refine adL F N (.inr ⟨_, .head _, rfl, _, rfl⟩) (.inr ⟨_, .tail _ (.tail _ m6), rfl, _, rfl⟩) (by rw [List.length_append, List.length_map, sizeLine_eq]; simp; exact Nat.le_trans hz (Nat.le_add_left 100 16777116)) ?_
  clear F N; intro l2 h F N
  walk_at "og"
  refine Ret.via kk F (N.sub (.cons_cons _ ((List.sublist_cons_self _ _).trans (List.sublist_cons_self _ _)))) ⟨_, 0, rfl, by simp⟩
/-- an item without kids -/
theorem con_items_under (w : World) {news : List Ob} {x sh : Addr} {nm : S} {off sz : Int} {val : Value} (hi : ItemAt news x nm off sz sh val) : Con w (.ref 285) 1 [.ref x] news (NewList news [.ref x]) := by
  refine Con.var fun Ψ kk => ?_
  refine enter (binds := [("item", .ref x)]) (bs := [("item", .ref x)]) (by k_is) (by k_is) (fun s X => BindsTo.of_eq rfl) rfl rfl rfl rfl rfl (by decide) ?_
  intro A base outer g L σ h t Z F N
  obtain ⟨dx, es, k, kl, m1, m2, m3, _, g1, g2, r⟩ := id hi
  walk_at "og"
  have hz : (1 : Nat) ≤ sizeLine := by rw [sizeLine_eq]; decide
  refine while_go (fun i xs nw => ∃ fo, An3 (gv xs "line" = some (.ref l)) (gv xs "found" = some (.ref fo)) ((i = 1 ∧ nw = (l, listOf (List.toArray [.ref x]) 0) :: (fo, listOf #[] 0) :: news) ∨ (i = 0 ∧ Ex2 fun k1 k2 => nw = (l, listOf #[] k1) :: (fo, listOf (List.toArray [.ref x]) k2) :: news))) F N (k := 1) ⟨_, rfl, rfl, .inl ⟨rfl, rfl⟩⟩ ?_ PassesOwn.never
  clear F N; rintro i xs nw h t ⟨fo, l1, l2, ⟨rfl, rfl⟩ | ⟨rfl, k1, k2, rfl⟩⟩ F N
  · walk_at "og"
    refine ne0L Z F N (.inr ⟨_, .tail _ (.head _), rfl, _, rfl⟩) (.inr ⟨_, .head _, rfl, _, rfl⟩) ?_
    replace N := N.tail
    walk_at "og"
    refine poL (ys := []) F N (by rw [sizeLine_eq]; decide) ?_
    clear F N; intro h F N
    walk_at "og"
    refine apL2 (ys := []) F N (by rw [sizeLine_eq]; decide) ?_
    clear F N; intro h F N
    walk_at "og"
    refine tS (revL F N (.inr ⟨_, .tail _ (.tail _ m3), rfl, _, rfl⟩) (IsPart.int _ _) ?_ (by with_unfolding_all rfl) (fun _ => rfl) (by rw [sizeLine_eq]; decide))
    clear F N; intro R h F N
    walk_at "og"
    refine exL2 (ys := []) (zs := []) F N (.head _) (by decide) ?_
    clear F N; intro h k' F N
    walk_at "og"
    exact ⟨_, _, _, _, rfl, F, N.tail, 0, by decide, fo, lk_tl (by decide) l1, lk_tl (by decide) l2, .inr ⟨rfl, _, _, rfl⟩⟩
  · walk_at "og"
    refine ne0L Z F N (.inr ⟨_, .tail _ (.head _), rfl, _, rfl⟩) (.inr ⟨_, .head _, rfl, _, rfl⟩) ?_
    replace N := N.tail
    walk_at "og"
    exact Ret.via kk F N.tail ⟨_, _, rfl, rfl⟩
theorem con_all_items (w : World) {news : List Ob} {D di : Addr} {items : List Addr} {sz : Int} (hd : DataAt news D items sz di) (hz : items.length ≤ 100) (hi : ∀ x ∈ items, Ex5 fun nm off sz sh val => ItemAt news x nm off sz sh val) :
    Con w (.ref 292) 2 [.ref D] news (NewList news (items.map Value.ref)) := by
  refine Con.var fun Ψ kk => ?_
  refine enter (binds := [("data", .ref D)]) (bs := [("data", .ref D)]) (by k_is) (by k_is) (fun s X => BindsTo.of_eq rfl) rfl rfl rfl rfl rfl (by decide) ?_
  intro A base outer g L σ h t Z F N
  walk_at "og"
  refine wpAny_For ?_ (by intro _; rfl)
  walk_at "ogs"
  refine Con.ae2 (con_records w (hd.mono fun p hp => .tail _ hp) hz) Z (by decide) ?_
  intro lr kr t
  walk_at "og"
  refine itL F N (.inr ⟨_, .head _, rfl, _, rfl⟩) ?_
  clear F N; intro I o h F N hI hne
  refine for_go (turns_list Z.hh lr I (items.map Value.ref).toArray hne) (fun i xs nw => gv xs "found" = some (.ref l) ∧ ∃ k, nw = (lr, listOf (items.map Value.ref).toArray kr) :: (l, listOf (List.toArray ((items.take i).map Value.ref)) k) :: news) F N hI ⟨rfl, 0, rfl⟩ ?_ ?_ ?_ PassesOwn.never (fun _ => rfl)
  · rintro i xs nw ⟨_, k, rfl⟩
    exact .inr ⟨_, .head _, rfl, _, rfl⟩
  · clear F N; rintro i v o xs nw h t hlt hv _ ⟨l1, k, rfl⟩ F N
    simp only [List.size_toArray, List.length_map] at hlt
    obtain ⟨x, hx⟩ : ∃ x, items[i]? = some x := ⟨items[i], by simp [hlt]⟩
    obtain rfl : v = .ref x := by simpa [hx] using hv.symm
    obtain ⟨nm, off, sz, sh, val, hit⟩ := hi x (List.mem_of_getElem? hx)
    walk_at "ogs"
    refine Con.ae2 (con_items_under w (hit.mono fun p hp => .tail _ (.tail _ (.tail _ hp)))) Z (by decide) ?_
    intro li ki t
    walk_at "og"
    refine exLp [_, _, _] F N (.head _) ?_ ?_
    · rw [List.length_map, List.length_take]; simp; omega
    clear F N; intro h k' F N
    dsimp only [List.cons_append, List.nil_append] at N
    rw [show (items.take i).map Value.ref ++ [Value.ref x] = (items.take (i + 1)).map Value.ref by rw [List.take_add_one, hx, List.map_append]; rfl] at N
    walk_at "og"
    exact ⟨_, _, _, _, rfl, F, N.tail, _, rfl, lk_tl (by decide) l1, _, rfl⟩
  · clear F N; rintro xs nw h t ⟨l1, k, rfl⟩ F N
    simp only [List.size_toArray, List.length_map, List.take_length] at N
    walk_at "og"
    exact Ret.via kk F N.tail ⟨_, _, rfl, rfl⟩
end Og

-- C15
namespace Og
section
variable (w : World) {news : List Ob} {x sh : Addr} {nm : S} {off sz : Int} {val : Value}
theorem con_items_around (hi : ItemAt news x nm off sz sh val) : Con w (.ref 299) 1 [.ref x] news (NewList news []) := by
  refine Con.var fun Ψ kk => ?_
  refine enter (binds := [("item", .ref x)]) (bs := [("item", .ref x)]) (by k_is) (by k_is) (fun s X => BindsTo.of_eq rfl) rfl rfl rfl rfl rfl (by decide) ?_
  intro A base outer g L σ h t Z F N
  obtain ⟨dx, es, k, kl, m1, m2, m3, _, g1, g2, g3, g4, _, g5, _, g6, _, g7, _, g8, g9, g10⟩ := id hi
  walk_at "og"
  refine while_go (fun i xs nw => gv xs "above" = some .none ∧ gv xs "found" = some (.ref l) ∧ nw = (l, listOf #[] 0) :: news) F N (k := 0) ⟨rfl, rfl, rfl⟩ ?_ PassesOwn.never
  clear F N; rintro i xs nw h t ⟨l1, l2, rfl⟩ F N
  walk_at "og"
  exact Ret.via kk F N ⟨_, _, rfl, rfl⟩
theorem con_root_of (hi : ItemAt news x nm off sz sh val) : Con w (.ref 306) 2 [.ref x] news (fun r news' => r = .ref x ∧ news' = news) := by
  refine Con.var fun Ψ kk => ?_
  refine enter (binds := [("item", .ref x)]) (bs := [("item", .ref x)]) (by k_is) (by k_is) (fun s X => BindsTo.of_eq rfl) rfl rfl rfl rfl rfl (by decide) ?_
  intro A base outer g L σ h t Z F N
  walk_at "ogs"
  refine Con.ae2 (con_items_around w hi) Z (by decide) ?_
  intro la ka t
  walk_at "og"
  refine ne0L Z F N (.inr ⟨_, .tail _ (.head _), rfl, _, rfl⟩) (.inr ⟨_, .head _, rfl, _, rfl⟩) ?_
  walk_at "og"
  exact Ret.via kk F N.tail.tail ⟨rfl, rfl⟩
theorem con_names_around (hi : ItemAt news x nm off sz sh val) : Con w (.ref 311) 2 [.ref x] news (NewList news []) := by
  refine Con.var fun Ψ kk => ?_
  refine enter (binds := [("item", .ref x)]) (bs := [("item", .ref x)]) (by k_is) (by k_is) (fun s X => BindsTo.of_eq rfl) rfl rfl rfl rfl rfl (by decide) ?_
  intro A base outer g L σ h t Z F N
  walk_at "ogs"
  refine Con.ae2 (con_items_around w hi) Z (by decide) ?_
  intro la ka t
  walk_at "og"
  refine itL F N (.inr ⟨_, .head _, rfl, _, rfl⟩) ?_
  clear F N; intro I o h F N hI hne
  refine comp_go (turns_list Z.hh la I #[] hne) (fun i ys nw => ys = [] ∧ nw = (la, listOf #[] ka) :: news) (by decide) (by rfl) (by rfl) (Nat.zero_le _) F N hI ⟨rfl, rfl⟩ ?_ ?_ ?_
  · rintro i ys nw ⟨rfl, rfl⟩
    exact ⟨.inr ⟨_, .head _, rfl, _, rfl⟩, Nat.zero_le _⟩
  · intro i v ys o nw h t C oC D m₂ E hi
    exact absurd hi (Nat.not_lt_zero _)
  · clear F N; rintro D ys nw h t F N ⟨rfl, rfl⟩
    walk_at "og"
    exact Ret.via kk F (N.sub (.cons_cons _ (List.sublist_cons_self _ _))) ⟨_, _, rfl, rfl⟩
theorem con_tables_around (hi : ItemAt news x nm off sz sh val) : Con w (.ref 316) 2 [.ref x] news (NewList news []) := by
  refine Con.var fun Ψ kk => ?_
  refine enter (binds := [("item", .ref x)]) (bs := [("item", .ref x)]) (by k_is) (by k_is) (fun s X => BindsTo.of_eq rfl) rfl rfl rfl rfl rfl (by decide) ?_
  intro A base outer g L σ h t Z F N
  obtain ⟨dx, es, k, kl, m1, m2, m3, _, g1, g2, g3, g4, _, g5, _, g6, _, g7, _, g8, g9, g10⟩ := id hi
  walk_at "ogs"
  refine Con.ae2 (con_items_around w hi) Z (by decide) ?_
  intro la ka t
  walk_at "og"
  refine tS (revL F N (.inr ⟨_, .head _, rfl, _, rfl⟩) (IsPart.int _ _) ?_ (by with_unfolding_all rfl) (fun _ => rfl) (by rw [sizeLine_eq]; decide))
  clear F N; intro R h F N
  replace N := N.sub (.cons_cons _ (List.sublist_cons_self _ _))
  walk_at "og"
  refine adL (ys := []) (zs := [.ref x]) F N (.inr ⟨_, .tail _ (.head _), rfl, _, rfl⟩) (.inr ⟨_, .head _, rfl, _, rfl⟩) (by rw [sizeLine_eq]; exact Nat.le_of_ble_eq_true rfl) ?_
  clear F N; intro l1 h F N
  replace N := N.sub (.cons_cons _ ((List.sublist_cons_self _ _).trans (List.sublist_cons_self _ _)))
  walk_at "og"
  refine itL F N (.inr ⟨_, .head _, rfl, _, rfl⟩) ?_
  clear F N; intro I o h F N hI hne
  refine comp_go (turns_list Z.hh l1 I (List.toArray [.ref x]) hne) (fun i ys nw => ys = [] ∧ nw = (l1, listOf (List.toArray [.ref x]) 0) :: news) (by decide) (by rfl) (by rfl) (by rw [sizeLine_eq]; exact Nat.le_of_ble_eq_true rfl) F N hI ⟨rfl, rfl⟩ ?_ ?_ ?_
  · rintro i ys nw ⟨rfl, rfl⟩
    exact ⟨.inr ⟨_, .head _, rfl, _, rfl⟩, Nat.zero_le _⟩
  · clear F N; rintro i v ys o nw h t C oC D m₂ E hlt hV hIt ⟨rfl, rfl⟩ F N cO cV
    obtain rfl : i = 0 := by have : i < 1 := hlt; exact Nat.eq_zero_of_le_zero (Nat.le_of_lt_succ hlt)
    obtain rfl : v = .ref x := by simpa using hV.symm
    walk_at "og"
    exact CStep.intro F N ⟨_, rfl, rfl, rfl⟩
  · clear F N; rintro D ys nw h t F N ⟨rfl, rfl⟩
    walk_at "og"
    exact Ret.via kk F (N.sub (.cons_cons _ (List.sublist_cons_self _ _))) ⟨_, _, rfl, rfl⟩
end
end Og

-- C16
namespace Og
section
variable (w : World) {news : List Ob} {x sh D di : Addr} {nm : S} {off sz dz : Int} {val : Value} {items : List Addr} {n0 : S}
theorem con_file_of (hd : DataAt news D items dz di) (hi : ItemAt news x nm off sz sh val) : Con w (.ref 823) 3 [.ref D, .ref x] news (fun r news' => (∃ t, r = .str "" t) ∧ news' = news) := by
  refine Con.var fun Ψ kk => ?_
  refine enterC (binds := [("data", .ref D), ("item", .ref x)]) (bs := [("item", .ref x), ("data", .ref D)]) (by k_is) (by k_is) (fun s X => BindsTo.of_eq rfl) (by intro n x hx; simp only [List.mem_cons, List.not_mem_nil, or_false] at hx; rcases hx with rfl | rfl <;> first | exact .inl rfl | exact .inr ⟨rfl, rfl⟩) (by decide +kernel) (cellsL1 (by intro L; rfl)) (by intro L; rfl) rfl rfl rfl ?_
  intro A base outer g L σ h t cells Z F hC N
  obtain ⟨o, rfl, k1⟩ := CellsAre.one hC
  dsimp only [List.cons_append, List.nil_append] at N
  walk_at "ogs"
  refine Con.au0 (con_root_of w (hi.mono fun p hp => .tail _ hp)) Z (by decide) ?_
  intro t
  walk_at "og"
  obtain ⟨dx, es, k, df, lw, kw, ll, m1, m2, m3, m4, m5, m6, g1, g2, g3, _, g4, g5⟩ := id hd
  refine wpAny_For ?_ (by intro _; rfl)
  walk_at "og"
  refine itD F N (.tail _ m3) empty_isDict m4 ?_
  clear F N; intro I io ep h F N hI hK
  refine for_go (turns_dict Z.hh df I [] ep (by rintro rfl; exact N.off _ (.tail _ m3) rfl)) (fun i xs nw => xs = _ ∧ nw = (L + 1, o) :: news) F N hI ⟨rfl, rfl⟩ (fun i xs nw q => ⟨_, q.2 ▸ .tail _ m3, hK⟩) (fun i v o xs nw h t hi => absurd hi (Nat.not_lt_zero _)) ?_ PassesOwn.never (fun _ => rfl)
  clear F N; rintro xs nw h t ⟨rfl, rfl⟩ F N
  walk_at "og"
  exact Ret.via kk F N.tail ⟨⟨_, rfl⟩, rfl⟩
theorem con_leads_through {la q : Addr} {ka : Nat} {ta : Tok} (hl : (la, listOf (List.toArray [.str "" ta]) ka) ∈ news) (hq : TupK w q [] news) : Con w (.ref 830) 1 [.ref la, .ref q] news (fun r news' => r = .bool true ∧ news' = news) := by
  refine Con.var fun Ψ kk => ?_
  refine enter (binds := [("around", .ref la), ("qualifiers", .ref q)]) (bs := [("qualifiers", .ref q), ("around", .ref la)]) (by k_is) (by k_is) (fun s X => BindsTo.of_eq rfl) rfl rfl rfl rfl rfl (by decide) ?_
  intro A base outer g L σ h t Z F N
  walk_at "og"
  refine wpAny_For ?_ (by intro _; rfl)
  walk_at "og"
  refine itL F N (.inr ⟨_, hl, rfl, _, rfl⟩) ?_
  clear F N; intro I o h F N hI hne
  refine for_go (turns_list Z.hh la I (List.toArray [.str "" ta]) hne) (fun i xs nw => (∃ t, gv xs "at" = some (.int 0 t)) ∧ gv xs "qualifiers" = some (.ref q) ∧ nw = news) F N hI ⟨⟨_, rfl⟩, rfl, rfl⟩ ?_ ?_ ?_ PassesOwn.never (fun _ => rfl)
  · rintro i xs nw ⟨_, _, rfl⟩; exact .inr ⟨_, hl, rfl, _, rfl⟩
  · clear F N; rintro i v o xs nw h t hlt hv _ ⟨⟨_, l1⟩, l2, rfl⟩ F N
    obtain rfl : i = 0 := by have : i < 1 := hlt; exact Nat.eq_zero_of_le_zero (Nat.le_of_lt_succ hlt)
    obtain rfl : v = .str "" ta := by simpa using hv.symm
    walk_at "og"
    refine lenT Z F N hq.tl (by decide) ?_
    intro u t
    walk_at "og"
    exact ⟨_, _, _, _, rfl, F, N, _, rfl, ⟨_, lk_tl (by decide) l1⟩, lk_tl (by decide) l2, rfl⟩
  · clear F N; rintro xs nw h t ⟨⟨_, l1⟩, l2, rfl⟩ F N
    walk_at "og"
    refine lenT Z F N hq (by decide) ?_
    intro u t
    walk_at "og"
    exact Ret.via kk F N ⟨rfl, rfl⟩
theorem con_only_one {lf : Addr} {kf : Nat} {v : Value} {tn : Tok} (hl : (lf, listOf (List.toArray [v]) kf) ∈ news) : Con w (.ref 837) 1 [.ref lf, .str nm tn] news (fun r news' => r = v ∧ news' = news) := by
  refine Con.var fun Ψ kk => ?_
  refine enter (binds := [("found", .ref lf), ("name", .str nm tn)]) (bs := [("name", .str nm tn), ("found", .ref lf)]) (by k_is) (by k_is) (fun s X => BindsTo.of_eq rfl) rfl rfl rfl rfl rfl (by decide) ?_
  intro A base outer g L σ h t Z F N
  walk_at "ogs"
  refine alenL (.inr ⟨_, hl, rfl, _, rfl⟩) (by show (1 : Int) < 2 ^ 63; decide) ?_
  intro u t
  walk_at "ogs"
  refine alenL (.inr ⟨_, hl, rfl, _, rfl⟩) (by show (1 : Int) < 2 ^ 63; decide) ?_
  intro u t
  walk_at "og"
  refine lgV F N (.inr ⟨_, hl, rfl, _, rfl⟩) (by decide) (by decide) rfl ?_ (by with_unfolding_all rfl)
  exact Ret.via kk F N ⟨rfl, rfl⟩
theorem con_find_item {q xi : Addr} {tn : Tok} (hd : DataAt news D items dz di) (hz : items.length ≤ 100) (hq : TupK w q [] news) (hi : ∀ x ∈ items, Ex5 fun nm off sz sh val => ItemAt news x nm off sz sh val ∧ (nm.cps.toList == n0.cps.toList) = (x == xi)) (hf : items.filter (· == xi) = [xi]) :
    Con w (.ref 842) 5 [.ref D, .str n0 tn, .ref q] news (fun r news' => r = .ref xi ∧ news' = news) := by
  refine Con.var fun Ψ kk => ?_
  refine enterC (binds := [("data", .ref D), ("name", .str n0 tn), ("qualifiers", .ref q)]) (bs := []) (by k_is) (by k_is) (fun s X => BindsTo.of_eq rfl) (by intro n x hx; simp only [List.mem_cons, List.not_mem_nil, or_false] at hx; rcases hx with rfl | rfl | rfl <;> first | exact .inl rfl | exact .inr ⟨rfl, rfl⟩) (by decide +kernel) (cellsL3 (by intro L; rfl)) (by intro L; rfl) rfl rfl rfl ?_
  intro A base outer g L σ h t cells Z F hC N
  obtain ⟨o3, o2, o1, rfl, k3, k2, k1⟩ := CellsAre.three hC
  dsimp only [List.cons_append, List.nil_append] at N
  walk_at "ogs"
  have up : ∀ p ∈ news, p ∈ (L + 1 + 1 + 1, o3) :: (L + 1 + 1, o2) :: (L + 1, o1) :: news := fun p hp => .tail _ (.tail _ (.tail _ hp))
  refine Con.ae2 (con_all_items w (hd.mono up) hz fun x hx => let ⟨a, b, c, d, e, r, _⟩ := hi x hx; ⟨a, b, c, d, e, r.mono up⟩) Z (by decide) ?_
  intro la ka t
  walk_at "og"
  refine itL F N (.inr ⟨_, .head _, rfl, _, rfl⟩) ?_
  clear F N; intro I o h F N hI hne
  refine comp_goA (turns_list Z.hh la I (items.map Value.ref).toArray hne) (fun i ys nw => ys = ((items.take i).filter (· == xi)).map Value.ref ∧ nw = (la, listOf (items.map Value.ref).toArray ka) :: (L + 1 + 1 + 1, o3) :: (L + 1 + 1, o2) :: (L + 1, o1) :: news) (by decide) (by rfl) (by rfl) (by rw [sizeLine_eq]; simp; exact Nat.le_trans hz (Nat.le_add_left 100 16777116)) (by kernel_rfl) (by rfl) F N hI ⟨rfl, rfl⟩ ?_ ?_ ?_
  · rintro i ys nw ⟨rfl, rfl⟩
    refine ⟨.inr ⟨_, .head _, rfl, _, rfl⟩, ?_⟩
    rw [List.length_map]; exact Nat.le_trans (List.length_filter_le ..) (List.length_take_le ..)
  · clear F N; rintro i v ys o nw h t C oC D' m₂ E hlt hV hIt ⟨rfl, rfl⟩ F N cO cV
    simp only [List.size_toArray, List.length_map] at hlt
    obtain ⟨x, hx⟩ : ∃ x, items[i]? = some x := ⟨items[i], by simp [hlt]⟩
    obtain rfl : v = .ref x := by simpa [hx] using hV.symm
    obtain ⟨nm', off', sz', sh', val', hit, hnm⟩ := hi x (List.mem_of_getElem? hx)
    obtain ⟨dx, es, k, kl, m1, m2, m3, _, g1, g2⟩ := id hit
    walk_at "ogs"
    rw [hnm]
    have ht : ∀ b, (x == xi) = b → ((items.take (i + 1)).filter (· == xi)).map Value.ref = ((items.take i).filter (· == xi)).map Value.ref ++ (if b = true then [Value.ref x] else []) := fun b hb => by
      rw [List.take_add_one, hx, List.filter_append, List.map_append]
      cases b <;> simp [hb]
    refine asplit (fun hb => ?_) (fun hb => ?_)
    · walk_at "og"
      exact CStep.intro F N ⟨_, rfl, (ht _ hb).symm, rfl⟩
    · walk_at "og"
      exact CStep.intro F N ⟨_, rfl, by rw [ht _ hb]; simp, rfl⟩
  · clear F N; rintro D' ys nw h t F N ⟨rfl, rfl⟩
    rw [List.take_of_length_le (by simp), hf] at N
    replace N := N.sub (.cons_cons _ (List.sublist_cons_self _ _))
    obtain ⟨nm', off', sz', sh', val', hit, hnm⟩ := hi xi (List.mem_filter.mp (hf ▸ List.mem_singleton.mpr rfl : xi ∈ items.filter (· == xi))).1
    walk_at "og"
    refine itL F N (.inr ⟨_, .head _, rfl, _, rfl⟩) ?_
    clear F N; intro I o h F N hI hne
    refine comp_go (turns_list Z.hh D' I (List.toArray [.ref xi]) hne) (fun i ys nw => ys = [Value.ref xi].take i ∧ nw = (D', lst [Value.ref xi]) :: (L + 1 + 1 + 1, o3) :: (L + 1 + 1, o2) :: (L + 1, o1) :: news) (by decide) (by rfl) (by rfl) (by rw [sizeLine_eq]; exact Nat.le_of_ble_eq_true rfl) F N hI ⟨rfl, rfl⟩ ?_ ?_ ?_
    · rintro i ys nw ⟨rfl, rfl⟩
      exact ⟨.inr ⟨_, .head _, rfl, _, rfl⟩, List.length_take_le ..⟩
    · clear F N; rintro i v ys o nw h t C oC D2 m₂ E hlt hV hIt ⟨rfl, rfl⟩ F N cO cV
      obtain rfl : i = 0 := by have : i < 1 := hlt; exact Nat.eq_zero_of_le_zero (Nat.le_of_lt_succ hlt)
      obtain rfl : v = .ref xi := by simpa using hV.symm
      walk_at "ogs"
      have up : ∀ p ∈ news, p ∈ (C, oC) :: (D2, lst []) :: (I, o) :: (D', lst [Value.ref xi]) :: (L + 1 + 1 + 1, o3) :: (L + 1 + 1, o2) :: (L + 1, o1) :: news := fun p hp => .tail _ (.tail _ (.tail _ (.tail _ (.tail _ (.tail _ (.tail _ hp))))))
      refine Con.ae2 (con_names_around w (hit.mono up)) Z (by decide) ?_
      intro ln kn t
      walk_at "ogs"
      refine Con.au1 (con_file_of w (hd.mono fun p hp => .tail _ (up p hp)) (hit.mono fun p hp => .tail _ (up p hp))) Z (by decide) ?_
      intro tf t
      walk_at "og"
      refine adL (ys := []) (zs := [.str "" tf]) F N (.inr ⟨_, .tail _ (.head _), rfl, _, rfl⟩) (.inr ⟨_, .head _, rfl, _, rfl⟩) (by rw [sizeLine_eq]; exact Nat.le_of_ble_eq_true rfl) ?_
      clear F N; intro l1 h F N
      walk_at "ogs"
      refine Con.au0 (con_leads_through w (.head _) (hq.mono fun p hp => .tail _ (.tail _ (.tail _ (up p hp))))) Z (by decide) ?_
      intro t
      walk_at "og"
      exact CStep.intro F N.tail.tail.tail ⟨_, rfl, rfl, rfl⟩
    · clear F N; rintro D2 ys nw h t F N ⟨rfl, rfl⟩
      replace N := N.sub (.cons_cons _ (List.sublist_cons_self _ _))
      walk_at "ogs"
      refine Con.au0 (con_only_one w (.head _)) Z (by decide) ?_
      intro t
      walk_at "og"
      exact Ret.via kk F N.tail.tail.tail.tail ⟨rfl, rfl⟩
end
end Og

-- C17
namespace Og
section
variable (w : World) {news : List Ob} {x sh D W M di : Addr} {nm : S} {off sz : Int} {val : Value}
theorem con_stretch {ls : Addr} {ks : Nat} (hi : ItemAt news x nm off sz sh val) (hl : (ls, listOf #[] ks) ∈ news) : Con w (.ref 849) 3 [.ref x, .ref ls, .none] news (fun r news' => Ex3 fun T t1 t2 => r = .ref T ∧ news' = (T, tup [.int off t1, .int sz t2]) :: news) := by
  refine Con.var fun Ψ kk => ?_
  refine enter (binds := [("item", .ref x), ("subscripts", .ref ls), ("part", .none)]) (bs := [("part", .none), ("subscripts", .ref ls), ("item", .ref x)]) (by k_is) (by k_is) (fun s X => BindsTo.of_eq rfl) rfl rfl rfl rfl rfl (by decide) ?_
  intro A base outer g L σ h t Z F N
  obtain ⟨dx, es, k, kl, m1, m2, m3, _, g1, g2, g3, g4, _, g5, _, g6, _, g7, _, g8, g9, g10⟩ := id hi
  walk_at "ogs"
  refine Con.ae2 (con_tables_around w hi) Z (by decide) ?_
  intro la ka t
  walk_at "ogs"
  refine alenL (.inr ⟨_, .tail _ hl, rfl, _, rfl⟩) (by show (0 : Int) < 2 ^ 63; decide) ?_
  intro u t
  walk_at "ogs"
  refine alenL (.inr ⟨_, .head _, rfl, _, rfl⟩) (by show (0 : Int) < 2 ^ 63; decide) ?_
  intro u t
  walk_at "og"
  refine wpAny_For ?_ (by intro _; rfl)
  walk_at "og"
  refine forZip0 Z F N (.inr ⟨_, .head _, rfl, _, rfl⟩) (.inr ⟨_, .tail _ hl, rfl, _, rfl⟩) ?_
  clear F N; intro h F N
  walk_at "og"
  exact Ret.via kk F (N.sub (.cons_cons _ (List.sublist_cons_self _ _))) ⟨_, _, _, rfl, rfl⟩
/-- what a world tells -/
inductive WorldAt (news : List Ob) (W D M di lr lt : Addr) : Prop where
  | mk (dx : Addr) (es : List DictEntry) (k : Nat) (pg px : Addr) (pes : List DictEntry) (pk : Nat) (m1 : (W, instObj 866 dx) ∈ news) (m2 : (dx, dictOf es k) ∈ news) (m3 : (pg, instObj 962 px) ∈ news) (m4 : (px, dictOf pes pk) ∈ news) (g1 : getL "data" pes = some (some (.ref D)))
    (g2 : getL "program" es = some (some (.ref pg))) (g3 : getL "memory" es = some (some (.ref M))) (g4 : getL "indexes" es = some (some (.ref di))) (g5 : getL "rows" es = some (some (.ref lr))) (g6 : getL "told_rows" es = some (some (.ref lt))) (t7 : Tok) (g7 : getL "open_row" es = some (some (.bytes #[] t7)))
theorem WorldAt.mono {news' : List Ob} {lr lt : Addr} (hs : WorldAt news W D M di lr lt) (k : ∀ p ∈ news, p ∈ news') : WorldAt news' W D M di lr lt := by
  obtain ⟨dx, es, n, pg, px, pes, pk, m1, m2, m3, m4, g1, g2, g3, g4, g5, g6, t7, g7⟩ := hs
  exact .mk dx es n pg px pes pk (k _ m1) (k _ m2) (k _ m3) (k _ m4) g1 g2 g3 g4 g5 g6 t7 g7
theorem con_memory_of {lr lt : Addr} (hw : WorldAt news W D M di lr lt) (hi : ItemAt news x nm off sz sh val) : Con w (.ref 884) 1 [.ref W, .ref x] news (fun r news' => Ex2 fun T t1 => r = .ref T ∧ news' = (T, tup [.ref M, .int 0 t1]) :: news) := by
  refine Con.var fun Ψ kk => ?_
  refine enter (binds := [("world", .ref W), ("item", .ref x)]) (bs := [("item", .ref x), ("world", .ref W)]) (by k_is) (by k_is) (fun s X => BindsTo.of_eq rfl) rfl rfl rfl rfl rfl (by decide) ?_
  intro A base outer g L σ h t Z F N
  obtain ⟨dx, es, k, kl, m1, m2, m3, _, g1, g2, g3, g4, _, g5, _, g6, _, g7, _, g8, g9, g10⟩ := id hi
  obtain ⟨wx, ws, wk, pg, px, pes, pk, p1, p2, p3, p4, q1, q2, q3, q4, q5, q6, q7⟩ := id hw
  walk_at "og"
  exact Ret.via kk F N ⟨_, _, rfl, rfl⟩
theorem con_part_of : Con w (.ref 891) 1 [.ref W, .none] news (fun r news' => r = .none ∧ news' = news) := by
  refine Con.var fun Ψ kk => ?_
  refine enter (binds := [("world", .ref W), ("part", .none)]) (bs := [("part", .none), ("world", .ref W)]) (by k_is) (by k_is) (fun s X => BindsTo.of_eq rfl) rfl rfl rfl rfl rfl (by decide) ?_
  intro A base outer g L σ h t Z F N
  walk_at "og"
  exact Ret.via kk F N ⟨rfl, rfl⟩
end
end Og

-- C18
namespace Og
/-- a reference to an item -/
noncomputable def RefK (w : World) (T : Addr) (nm : S) (news : List Ob) : Prop := Ex4 fun t1 t2 q1 q2 => An3 (TupK w T [.str "ref" t1, .str nm t2, .ref q1, .ref q2, .none] news) (TupK w q1 [] news) (TupK w q2 [] news)
theorem RefK.mono {w : World} {T : Addr} {nm : S} {news news' : List Ob} (x : RefK w T nm news) (q : ∀ p ∈ news, p ∈ news') : RefK w T nm news' :=
  let ⟨t1, t2, q1, q2, a, b, c⟩ := x; ⟨t1, t2, q1, q2, a.mono q, b.mono q, c.mono q⟩
/-- the items told apart by their names -/
structure Named (news : List Ob) (items : List Addr) (n0 : S) (xi : Addr) : Prop where
  z : items.length ≤ 100
  i : ∀ x ∈ items, Ex5 fun nm off sz sh val => ItemAt news x nm off sz sh val ∧ (nm.cps.toList == n0.cps.toList) = (x == xi)
  f : items.filter (· == xi) = [xi]
theorem Named.mono {news news' : List Ob} {items : List Addr} {n0 : S} {xi : Addr} (x : Named news items n0 xi) (q : ∀ p ∈ news, p ∈ news') : Named news' items n0 xi :=
  ⟨x.z, fun y hy => let ⟨a, b, c, d, e, r, z⟩ := x.i y hy; ⟨a, b, c, d, e, r.mono q, z⟩, x.f⟩
section
variable (w : World) {news : List Ob} {xi sh D W M di dj lr lt T : Addr} {nm n0 : S} {off sz dz : Int} {val : Value} {items : List Addr} {b : Array UInt8} {ks : List Int}
theorem con_spot_in (hw : WorldAt news W D M di lr lt) (hd : DataAt news D items dz dj) (hn : Named news items n0 xi) (hi : ItemAt news xi nm off sz sh val) (hM : (M, baO b) ∈ news) (hk : bI b = ks) (hkz : ks.length ≤ 1000000) (hfit : off + sz ≤ ks.length) (hT : RefK w T n0 news) :
    Con w (.ref 896) 7 [.ref W, .ref T] news (fun r news' => Ex2 fun T' t1 => r = .ref T' ∧ news' = (T', tup [.ref M, .int off t1, .ref sh]) :: news) := by
  refine Con.var fun Ψ kk => ?_
  refine enterC (binds := [("world", .ref W), ("ref", .ref T)]) (bs := [("ref", .ref T)]) (by k_is) (by k_is) (fun s X => BindsTo.of_eq rfl) (by intro n x hx; simp only [List.mem_cons, List.not_mem_nil, or_false] at hx; rcases hx with rfl | rfl <;> first | exact .inl rfl | exact .inr ⟨rfl, rfl⟩) (by decide +kernel) (cellsL1 (by intro L; rfl)) (by intro L; rfl) rfl rfl rfl ?_
  intro A base outer g L σ h t cells Z F hC N
  obtain ⟨o1, rfl, k1⟩ := CellsAre.one hC
  dsimp only [List.cons_append, List.nil_append] at N
  obtain ⟨t1, t2, q1, q2, hT, hq1, hq2⟩ := hT
  obtain ⟨dx, es, k, kl, p1, p2, p3, _, g1, g2, g3, g4, _, g5, _, g6, _, g7, _, g8, g9, g10⟩ := id hi
  obtain ⟨wx, ws, wk, pg, px, pes, pk, p4, p5, p6, p7, f1, f2, f3, f4, f5, f6, f7⟩ := id hw
  have m1 := hT.at Z
  have m2 := hq2.at Z
  walk_at "ogs"
  have up : ∀ p ∈ news, p ∈ (L + 1, o1) :: news := fun p hp => .tail _ hp
  have hn' := hn.mono up
  refine Con.au0 (con_find_item w (hd.mono up) hn'.z (hq1.mono up) hn'.i hn'.f) Z (by decide) ?_
  intro t
  walk_at "ogs"
  refine Con.au0 (con_part_of w) Z (by decide) ?_
  intro t
  walk_at "og"
  refine itT F N m2.tl ?_
  clear F N; intro I o h F N hI hne
  refine comp_go (turns_tuple Z.hh q2 I #[] hne) (fun i ys nw => ys = [] ∧ nw = (L + 1, o1) :: news) (by decide) (by rfl) (by rfl) (Nat.zero_le _) F N hI ⟨rfl, rfl⟩ ?_ ?_ ?_
  · rintro i ys nw ⟨rfl, rfl⟩
    exact ⟨m2.tl, Nat.zero_le _⟩
  · intro i v ys o nw h t C oC D m₂ E hi
    exact absurd hi (Nat.not_lt_zero _)
  · clear F N; rintro D2 ys nw h t F N ⟨rfl, rfl⟩
    walk_at "ogs"
    have up2 : ∀ p ∈ news, p ∈ (D2, lst []) :: (L + 1, o1) :: news := fun p hp => .tail _ (.tail _ hp)
    refine Con.ae3 (con_stretch w (hi.mono up2) (.head _)) Z (by decide) ?_
    intro T2 u1 u2 t
    walk_at "og"
    refine asT2 (Og.Site.hh Z) F N (.inr ⟨_, .head _, rfl, _, rfl⟩) (by kernel_rfl) ?_
    clear F N; intro h t F N
    walk_at "ogs"
    have up3 : ∀ p ∈ news, p ∈ (T2, tup [Value.int off u1, Value.int sz u2]) :: (D2, lst []) :: (L + 1, o1) :: news := fun p hp => .tail _ (.tail _ (.tail _ hp))
    refine Con.ae2 (con_memory_of w (hw.mono up3) (hi.mono up3)) Z (by decide) ?_
    intro T3 u3 t
    walk_at "og"
    refine asT2 (Og.Site.hh Z) F N (.inr ⟨_, .head _, rfl, _, rfl⟩) (by kernel_rfl) ?_
    clear F N; intro h t F N
    walk_at "og"
    refine lenA F N (.tail _ (.tail _ (.tail _ (.tail _ hM)))) hk hkz ?_
    intro u t
    walk_at "ogs"
    refine brN (decide_eq_false (by omega)) ?_
    walk_at "og"
    exact Ret.via kk F (N.sub (.cons_cons _ (.cons _ (.cons _ (.cons _ (.cons _ (List.Sublist.refl _))))))) ⟨_, _, rfl, by rw [Int.zero_add]⟩
/-- what lies at an item -/
noncomputable def cutAt (ks : List Int) (off sz : Int) : List Int := (ks.drop off.toNat).take sz.toNat
theorem clip_le {n i : Nat} (h : i ≤ n) : clipAt n (i : Int) = i := by rw [clipAt_nat]; exact Nat.min_eq_left h
theorem cut_eq {ks : List Int} {off sz : Int} (h0 : 0 ≤ off) (h1 : 0 ≤ sz) (hfit : off + sz ≤ ks.length) :
    (ks.drop ((some off).elim 0 (clipAt ks.length))).take ((some (off + sz)).elim ks.length (clipAt ks.length) - (some off).elim 0 (clipAt ks.length)) = cutAt ks off sz := by
  obtain ⟨a, rfl⟩ := Int.eq_ofNat_of_zero_le h0
  obtain ⟨b, rfl⟩ := Int.eq_ofNat_of_zero_le h1
  have h2 : a + b ≤ ks.length := Int.ofNat_le.mp hfit
  show (ks.drop (clipAt ks.length (a : Int))).take (clipAt ks.length ((a + b : Nat) : Int) - clipAt ks.length (a : Int)) = (ks.drop (a : Int).toNat).take (b : Int).toNat
  rw [clip_le h2, clip_le (Nat.le_trans (Nat.le_add_right a b) h2), Nat.add_sub_cancel_left, Int.toNat_natCast, Int.toNat_natCast]
theorem con_octets_at {cat : S} {d scale : Int} {sgn : Bool} (hw : WorldAt news W D M di lr lt) (hd : DataAt news D items dz dj) (hn : Named news items n0 xi) (hi : ItemAt news xi nm off sz sh val) (hM : (M, baO b) ∈ news) (hk : bI b = ks) (hkz : ks.length ≤ 1000000) (hfit : off + sz ≤ ks.length) (ho : 0 ≤ off) (hs0 : 0 ≤ sz) (hT : RefK w T n0 news) (hs : ShapeAt news sh cat sz d scale sgn) :
    Con w (.ref 903) 8 [.ref W, .ref T] news (fun r news' => Ex2 fun c t => An3 (r = .bytes c t) (bI c = cutAt ks off sz) (news' = news)) := by
  refine Con.var fun Ψ kk => ?_
  refine enter (binds := [("world", .ref W), ("ref", .ref T)]) (bs := [("ref", .ref T), ("world", .ref W)]) (by k_is) (by k_is) (fun s X => BindsTo.of_eq rfl) rfl rfl rfl rfl rfl (by decide) ?_
  intro A base outer g L σ h t Z F N
  walk_at "ogs"
  refine Con.ae2 (con_spot_in w hw hd hn hi hM hk hkz hfit hT) Z (by decide) ?_
  intro T2 u1 t
  walk_at "og"
  refine asT3 (Og.Site.hh Z) F N (.inr ⟨_, .head _, rfl, _, rfl⟩) (by kernel_rfl) ?_
  clear F N; intro h t F N
  obtain ⟨sx, ses, sk, p1, p2, _, s1, _, s2, _, s3, _, s4, s5, s6, _, s7, _, s8, s9⟩ := id hs
  walk_at "og"
  refine sliceA F N (.tail _ hM) hk (IsPart.int _ _) (IsPart.int _ _) hkz ?_ (by with_unfolding_all rfl) (fun _ => by with_unfolding_all rfl)
  clear F N; intro c R h F N hc
  rw [cut_eq ho hs0 hfit] at hc
  walk_at "ogs"
  refine abytesA (.head _) (by rw [hc, cutAt, List.length_take, List.length_drop]; (clear hs0 kk; omega)) ?_
  intro u t
  walk_at "og"
  exact Ret.via kk F (N.sub (.cons _ (.cons _ (List.Sublist.refl _)))) ⟨_, _, rfl, hc, rfl⟩
theorem con_is_index_no {b' : Value} {t1 : Tok} {kd : S} (hk' : (kd.cps.toList == ("ref" : S).cps.toList) = false) (hT : (T, tup [.str kd t1, b']) ∈ news) : Con w (.ref 877) 1 [.ref W, .ref T] news (fun r news' => r = .bool false ∧ news' = news) := by
  refine Con.var fun Ψ kk => ?_
  refine enter (binds := [("world", .ref W), ("operand", .ref T)]) (bs := [("operand", .ref T), ("world", .ref W)]) (by k_is) (by k_is) (fun s X => BindsTo.of_eq rfl) rfl rfl rfl rfl rfl (by decide) ?_
  intro A base outer g L σ h t Z F N
  have m1 : tAt g T (List.toArray [.str kd t1, b']) news := .inr ⟨_, hT, rfl, _, rfl⟩
  walk_at "og"
  rw [hk']
  walk_at "og"
  exact Ret.via kk F N ⟨rfl, rfl⟩
theorem con_is_index {io : Obj} {u0 : Tok} (b0 : Bool) (hw : WorldAt news W D M di lr lt) (hdi : (di, io) ∈ news) (hio : io.IsDictOf (strKind PW w) [("IX", .int 1 u0)]) (lo : di ≠ sysModules) (hb : (valueAt [(("IX" : S), Value.int 1 u0)] n0).isSome = b0) (hT : RefK w T n0 news) : Con w (.ref 877) 1 [.ref W, .ref T] news (fun r news' => r = .bool b0 ∧ news' = news) := by
  refine Con.var fun Ψ kk => ?_
  refine enter (binds := [("world", .ref W), ("operand", .ref T)]) (bs := [("operand", .ref T), ("world", .ref W)]) (by k_is) (by k_is) (fun s X => BindsTo.of_eq rfl) rfl rfl rfl rfl rfl (by decide) ?_
  intro A base outer g L σ h t Z F N
  obtain ⟨t1, t2, q1, q2, hT, hq1, hq2⟩ := hT
  obtain ⟨wx, ws, wk, pg, px, pes, pk, p4, p5, p6, p7, f1, f2, f3, f4, f5, f6, f7⟩ := id hw
  have m1 := hT.at Z
  have m2 := hq1.at Z
  walk_at "og"
  refine eqT0 Z F N m2.tl (.inr ⟨_, .head _, rfl, _, rfl⟩) ?_
  walk_at "og"
  refine inDS N (.tail _ hdi) hio lo ?_
  intro t
  walk_at "og"
  exact Ret.via kk F N.tail ⟨congrArg Value.bool hb, rfl⟩
end
end Og

-- C19
namespace Og
section
variable (w : World) {news : List Ob} {xi sh D W M di dj lr lt T P : Addr} {nm n0 cat : S} {off sz dz d scale u s : Int} {sgn : Bool} {val : Value} {items : List Addr} {b c : Array UInt8} {ks cs : List Int} {t1 t2 t3 : Tok}
theorem nfig_le (v : Int) : ∀ (f : Nat) (c r : Int) (k : Nat), 0 ≤ r → r < 10 ^ k → c ≤ nfig v f c r ∧ nfig v f c r ≤ c + k
  | 0, c, r, k, h0, h1 => by unfold nfig; omega
  | f + 1, c, r, k, h0, h1 => by
    unfold nfig
    split
    · cases k with
      | zero => simp at h1; omega
      | succ k =>
        have h2 : r.fdiv 10 < 10 ^ k := by
          rw [Int.fdiv_eq_ediv_of_nonneg _ (by decide)]
          rw [Int.pow_succ] at h1
          omega
        have h3 : 0 ≤ r.fdiv 10 := by rw [Int.fdiv_eq_ediv_of_nonneg _ (by decide)]; omega
        have := nfig_le v f (c + 1) (r.fdiv 10) k h3 h2
        push_cast at this ⊢
        (clear h0 h1 h2 h3; omega)
    · omega
theorem ndig_le {u s : Int} (hu : iabs u < 10 ^ 12) (hs : s ≤ 12) : 1 ≤ ndig u s ∧ ndig u s ≤ 12 := by
  have h0 := iabs_nonneg u
  have h := nfig_le (iabs u) (iabs u).toNat 1 ((iabs u).fdiv 10) 11 (by rw [Int.fdiv_eq_ediv_of_nonneg _ (by decide)]; omega) (by rw [Int.fdiv_eq_ediv_of_nonneg _ (by decide)]; omega)
  unfold ndig
  (clear hu h0; omega)
theorem con_operand_in_ref (hw : WorldAt news W D M di lr lt) (hd : DataAt news D items dz dj) (hn : Named news items n0 xi) (hi : ItemAt news xi nm off sz sh val) (hM : (M, baO b) ∈ news) (hk : bI b = ks) (hkz : ks.length ≤ 1000000) (hfit : off + sz ≤ ks.length) (ho : 0 ≤ off) (hs0 : 0 ≤ sz) (hT : RefK w T n0 news) (hs : ShapeAt news sh cat sz d scale sgn) :
    Con w (.ref 910) 8 [.ref W, .ref T] news (fun r news' => Ex3 fun T' c t => An3 (r = .ref T') (bI c = cutAt ks off sz) (news' = (T', tup [.ref sh, .bytes c t]) :: news)) := by
  refine Con.var fun Ψ kk => ?_
  refine enter (binds := [("world", .ref W), ("operand", .ref T)]) (bs := [("operand", .ref T), ("world", .ref W)]) (by k_is) (by k_is) (fun s X => BindsTo.of_eq rfl) rfl rfl rfl rfl rfl (by decide) ?_
  intro A base outer g L σ h t Z F N
  obtain ⟨t1, t2, q1, q2, hT', hq1, hq2⟩ := id hT
  have m1 := hT'.at Z
  walk_at "ogs"
  refine Con.ae2 (con_spot_in w hw hd hn hi hM hk hkz hfit hT) Z (by decide) ?_
  intro T2 u1 t
  walk_at "og"
  refine asT3 (Og.Site.hh Z) F N (.inr ⟨_, .head _, rfl, _, rfl⟩) (by kernel_rfl) ?_
  clear F N; intro h t F N
  obtain ⟨sx, ses, sk, p1, p2, _, s1, _, s2, _, s3, _, s4, s5, s6, _, s7, _, s8, s9⟩ := id hs
  walk_at "og"
  refine sliceA F N (.tail _ hM) hk (IsPart.int _ _) (IsPart.int _ _) hkz ?_ (by with_unfolding_all rfl) (fun _ => by with_unfolding_all rfl)
  clear F N; intro c R h F N hc
  rw [cut_eq ho hs0 hfit] at hc
  walk_at "ogs"
  refine abytesA (.head _) (by rw [hc, cutAt, List.length_take, List.length_drop]; (clear hs0 kk; omega)) ?_
  intro u t
  walk_at "og"
  exact Ret.via kk F (N.sub (.cons_cons _ (.cons _ (.cons _ (List.Sublist.refl _))))) ⟨_, _, _, rfl, hc, rfl⟩
theorem con_operand_in_number (hT : (T, tup [.str "number" t1, .ref P]) ∈ news) (hP : (P, tup [.int u t2, .int s t3]) ∈ news) (hu : iabs u < 10 ^ 12) (hs0 : 0 ≤ s) (hs : s ≤ 12) :
    Con w (.ref 910) 5 [.ref W, .ref T] news (fun r news' => Ex5 fun T' x dx es t => An3 (r = .ref T') (news' = (T', tup [.ref x, .bytes (byteArr (disp (decide (u < 0)) (ndig u s).toNat (keptU (decide (u < 0)) (ndig u s) u))) t]) :: (x, instObj 525 dx) :: (dx, es) :: news) (ShEs w "numeric" (ndig u s) (ndig u s) s (decide (u < 0)) es)) := by
  refine Con.var fun Ψ kk => ?_
  refine enter (binds := [("world", .ref W), ("operand", .ref T)]) (bs := [("operand", .ref T), ("world", .ref W)]) (by k_is) (by k_is) (fun s X => BindsTo.of_eq rfl) rfl rfl rfl rfl rfl (by decide) ?_
  intro A base outer g L σ h t Z F N
  have m1 : tAt g T (List.toArray [.str "number" t1, .ref P]) news := .inr ⟨_, hT, rfl, _, rfl⟩
  walk_at "ogs"
  refine Con.aq3 (con_number_shape w hP) Z (by decide) ?_
  intro x dx es t he
  have up : ∀ p ∈ news, p ∈ (x, instObj 525 dx) :: (dx, es) :: news := fun p hp => .tail _ (.tail _ hp)
  have hsh := he.at (.head _ : (x, instObj 525 dx) ∈ (x, instObj 525 dx) :: (dx, es) :: news) (.tail _ (.head _))
  obtain ⟨sx, ses, sk, p1, p2, _, s1, _, s2, _, s3, _, s4, s5, s6, _, s7, _, s8, s9⟩ := id hsh
  obtain ⟨d0, d1⟩ := ndig_le hu hs
  walk_at "ogs"
  refine Con.au1 (con_units_at w (up _ hP) false hs0 (Int.le_refl _) (by exact Int.le_trans hs (Int.ofNat_le.mpr (Nat.le_add_left 12 4)))) Z (by decide) ?_
  intro _ t
  rw [Int.sub_self, show (0 : Int).toNat = 0 from rfl, Int.pow_zero, Int.mul_one]
  walk_at "ogs"
  refine Con.au1 (con_octets_for w hsh d0 (by exact Int.le_trans d1 (Int.ofNat_le.mpr (Nat.le_add_left 12 8))) _ _) Z (by decide) ?_
  intro _ t
  walk_at "og"
  exact Ret.via kk F N ⟨_, _, _, _, _, rfl, rfl, he⟩
theorem con_operand_in_text (hT : (T, tup [.str "text" t1, .bytes c t2]) ∈ news) (hc : bI c = cs) (hz : cs.length ≤ 1000) :
    Con w (.ref 910) 5 [.ref W, .ref T] news (fun r news' => Ex5 fun T' x dx es t => An3 (r = .ref T') (news' = (T', tup [.ref x, .bytes c t]) :: (x, instObj 525 dx) :: (dx, es) :: news) (ShEs w "alphanumeric" cs.length 0 0 false es)) := by
  refine Con.var fun Ψ kk => ?_
  refine enter (binds := [("world", .ref W), ("operand", .ref T)]) (bs := [("operand", .ref T), ("world", .ref W)]) (by k_is) (by k_is) (fun s X => BindsTo.of_eq rfl) rfl rfl rfl rfl rfl (by decide) ?_
  intro A base outer g L σ h t Z F N
  have m1 : tAt g T (List.toArray [.str "text" t1, .bytes c t2]) news := .inr ⟨_, hT, rfl, _, rfl⟩
  walk_at "ogs"
  refine Con.aq3 (con_text_shape w hc hz) Z (by decide) ?_
  intro x dx es t he
  walk_at "og"
  exact Ret.via kk F N ⟨_, _, _, _, _, rfl, rfl, he⟩
theorem con_number_of_number (hT : (T, tup [.str "number" t1, .ref P]) ∈ news) : Con w (.ref 917) 1 [.ref W, .ref T] news (fun r news' => r = .ref P ∧ news' = news) := by
  refine Con.var fun Ψ kk => ?_
  refine enter (binds := [("world", .ref W), ("operand", .ref T)]) (bs := [("operand", .ref T), ("world", .ref W)]) (by k_is) (by k_is) (fun s X => BindsTo.of_eq rfl) rfl rfl rfl rfl rfl (by decide) ?_
  intro A base outer g L σ h t Z F N
  have m1 : tAt g T (List.toArray [.str "number" t1, .ref P]) news := .inr ⟨_, hT, rfl, _, rfl⟩
  walk_at "og"
  exact Ret.via kk F N ⟨rfl, rfl⟩
theorem con_number_of_zero (hT : (T, tup [.str "figure" t1, .str "ZERO" t2]) ∈ news) : Con w (.ref 917) 1 [.ref W, .ref T] news (NewPair news (0, 0)) := by
  refine Con.var fun Ψ kk => ?_
  refine enter (binds := [("world", .ref W), ("operand", .ref T)]) (bs := [("operand", .ref T), ("world", .ref W)]) (by k_is) (by k_is) (fun s X => BindsTo.of_eq rfl) rfl rfl rfl rfl rfl (by decide) ?_
  intro A base outer g L σ h t Z F N
  have m1 : tAt g T (List.toArray [.str "figure" t1, .str "ZERO" t2]) news := .inr ⟨_, hT, rfl, _, rfl⟩
  walk_at "og"
  refine eqT2 Z F N m1.tl (.inr ⟨_, .head _, rfl, _, rfl⟩) (SeqAt.EqAt.str_str _ _ _ _) (SeqAt.EqAt.str_str _ _ _ _) ?_
  walk_at "og"
  exact Ret.via kk F (N.sub (.cons_cons _ (.cons _ (List.Sublist.refl _)))) ⟨_, _, _, rfl, rfl⟩
theorem con_number_of_index {io : Obj} {u0 : Tok} (hw : WorldAt news W D M di lr lt) (hdi : (di, io) ∈ news) (hio : io.IsDictOf (strKind PW w) [("IX", .int 1 u0)]) (lo : di ≠ sysModules) (hT : RefK w T "IX" news) : Con w (.ref 917) 2 [.ref W, .ref T] news (NewPair news (1, 0)) := by
  refine Con.var fun Ψ kk => ?_
  refine enter (binds := [("world", .ref W), ("operand", .ref T)]) (bs := [("operand", .ref T), ("world", .ref W)]) (by k_is) (by k_is) (fun s X => BindsTo.of_eq rfl) rfl rfl rfl rfl rfl (by decide) ?_
  intro A base outer g L σ h t Z F N
  obtain ⟨t1, t2, q1, q2, hT', hq1, hq2⟩ := id hT
  obtain ⟨wx, ws, wk, pg, px, pes, pk, p4, p5, p6, p7, f1, f2, f3, f4, f5, f6, f7⟩ := id hw
  have m1 := hT'.at Z
  walk_at "og"
  refine eqT52 Z F N m1.tl (.inr ⟨_, .head _, rfl, _, rfl⟩) (SeqAt.EqAt.str_str _ _ _ _) (SeqAt.EqAt.str_str _ _ _ _) ?_
  replace N := N.tail
  walk_at "ogs"
  refine Con.au0 (con_is_index w true hw hdi hio lo rfl hT) Z (by decide) ?_
  intro t
  walk_at "og"
  refine dgS N hdi hio (v := .int 1 u0) rfl ?_ (by with_unfolding_all rfl)
  intro t
  walk_at "ogs"
  refine Con.ae3 (con_decimal0 w _ _) Z (by decide) ?_
  intro T2 u1 u2 t
  walk_at "og"
  exact Ret.via kk F N ⟨_, _, _, rfl, rfl⟩
theorem con_number_of_item {io : Obj} {u0 : Tok} (hw : WorldAt news W D M di lr lt) (hd : DataAt news D items dz dj) (hn : Named news items n0 xi) (hi : ItemAt news xi nm off sz sh val) (hM : (M, baO b) ∈ news) (hk : bI b = ks) (hkz : ks.length ≤ 1000000) (hfit : off + sz ≤ ks.length) (ho : 0 ≤ off) (hT : RefK w T n0 news) (hs : ShapeAt news sh "numeric" sz sz scale sgn)
    (hsp : NoAttr news sh 525 "sign_place") (h0 : 1 ≤ sz) (h1 : sz ≤ 20) (hsc : 0 ≤ scale) (v : Int) (hv : cutAt ks off sz = disp sgn sz.toNat v)
    (hdi : (di, io) ∈ news) (hio : io.IsDictOf (strKind PW w) [("IX", .int 1 u0)]) (lo : di ≠ sysModules) (hx : (valueAt [(("IX" : S), Value.int 1 u0)] n0).isSome = false) :
    Con w (.ref 917) 9 [.ref W, .ref T] news (NewPair news (dec scale.toNat (tld sgn sz.toNat v) scale)) := by
  refine Con.var fun Ψ kk => ?_
  refine enter (binds := [("world", .ref W), ("operand", .ref T)]) (bs := [("operand", .ref T), ("world", .ref W)]) (by k_is) (by k_is) (fun s X => BindsTo.of_eq rfl) rfl rfl rfl rfl rfl (by decide) ?_
  intro A base outer g L σ h t Z F N
  obtain ⟨t1, t2, q1, q2, hT', hq1, hq2⟩ := id hT
  have m1 := hT'.at Z
  walk_at "og"
  refine eqT52 Z F N m1.tl (.inr ⟨_, .head _, rfl, _, rfl⟩) (SeqAt.EqAt.str_str _ _ _ _) (SeqAt.EqAt.str_str _ _ _ _) ?_
  replace N := N.tail
  walk_at "ogs"
  refine Con.au0 (con_is_index w false hw hdi hio lo hx hT) Z (by decide) ?_
  intro t
  walk_at "og"
  refine Con.r3 (con_operand_in_ref w hw hd hn hi hM hk hkz hfit ho (by exact Int.le_of_lt h0) hT hs) Z F N (by decide) ?_
  clear F N; intro T2 c u1 h t hc F N
  refine asT2 (Og.Site.hh Z) F N (.inr ⟨_, .head _, rfl, _, rfl⟩) (by kernel_rfl) ?_
  clear F N; intro h t F N
  replace N := N.tail
  walk_at "ogs"
  refine Con.au0 (con_is_numeric w hs) Z (by decide) ?_
  intro t
  walk_at "ogs"
  refine Con.ae3 (con_number_in w hs hsp rfl h0 h1 hsc v (hc.trans hv)) Z (by decide) ?_
  intro T3 u2 u3 t
  walk_at "og"
  exact Ret.via kk F N ⟨_, _, _, rfl, rfl⟩
end
end Og

-- C20
namespace Og
noncomputable abbrev bm84 : List Value := [.ref 47, .type "Exception", .type "BaseException", .type "object"]
theorem exc84 (w : World) : ∃ nm q Nn bs sn sub ab col dd k0 k1 k2 k3 k5, (hd.heap_1 w.params).lookup 84 = some (excClassObj nm q 84 Nn bs bm84 true sn sub ab col dd k0 k1 k2 k3 k5 "Exception.__new__") :=
  ⟨_, _, _, _, _, _, _, _, _, _, _, _, _, _, by k_is⟩
theorem exK84 (w : World) : ∃ cd, ExcK w 84 cd := by
  obtain ⟨nm, q, Nn, bs, sn, sub, ab, col, dd, k0, k1, k2, k3, k5, hl⟩ := exc84 w
  refine ⟨_, (by unfold clsIn; rw [hl]), rfl, (by show List.contains (.ref 84 :: bm84) _ = true; decide +kernel), rfl, fun self => ?_, by k_is⟩
  show refuseLoop self "__setattr__" (.ref 84 :: .ref 47 :: [.type "Exception", .type "BaseException", .type "object"]) = _
  rw [refuseLoop_ref, refuseLoop_ref]
  exact PySem.F.store_Exception.passes self
section
variable (w : World) {news : List Ob} {x t0 : Addr} {what at_ : Value}
theorem con_LE_init2 : Con w (.ref 37) 1 [.ref x, what, at_] ((x, exO 84 t0 none) :: news) (fun r news' => r = .none ∧ Ex4 fun d t es k => news' = (x, exO 84 t (some d)) :: (t, tup [what]) :: (d, dictOf es k) :: news) := by
  refine Con.var fun Ψ kk => ?_
  refine enter (binds := [("self", .ref x), ("what", what), ("at", at_)]) (bs := [("at", at_), ("what", what), ("self", .ref x)]) (by k_is) (by k_is) (fun s X => binds_K X rfl (by k_is) rfl rfl rfl) rfl rfl rfl rfl rfl (by decide) ?_
  intro A base outer g L σ h t Z F N
  obtain ⟨nm, q, Nn, bs, sn, sub, ab, col, dd, k0, k1, k2, k3, k5, hl⟩ := exc84 w
  obtain ⟨cd, K⟩ := exK84 w
  walk_at "og"
  with_reducible refine method_type (v := .builtin "Exception.__init__") (s := st σ h t) F Z.X ?a1 ?a2 ?a3 ?a4 ?_
  · rfl
  · decide +kernel
  · k_is
  · k_handed
  walk_at "og"
  refine iX (vs := [what]) hl (by decide +kernel) Z F N (by show 1 ≤ 1000; decide) ?_
  clear F N; intro t' h F N
  walk_at "og"
  refine sX0 K (by k_is) Z F N ?_
  clear F N; intro d es h t F N R
  walk_at "og"
  refine sX K (by k_is) Z F N R (by show 1 ≤ 900; decide) ?_
  clear F N; intro es k h t F N R
  walk_at "og"
  exact Ret.via kk F (N.perm (.cons _ (.swap _ _ _))) ⟨rfl, _, _, _, _, rfl⟩
/-- a fault is made -/
noncomputable def NewFault (news : List Ob) (r : Value) (news' : List Ob) : Prop := Ex5 fun x t d vs rest => An3 (r = .ref x) (news' = (x, exO 84 t (some d)) :: (t, tup vs) :: rest) (∀ p ∈ news, p ∈ rest)
theorem con_RunFault2 : Con w (.ref 84) 2 [what, at_] news (NewFault news) := by
  obtain ⟨nm, q, Nn, bs, sn, sub, ab, col, dd, k0, k1, k2, k3, k5, hl⟩ := exc84 w
  refine con_exc hl (by decide +kernel) (by decide +kernel) (by decide +kernel) (fI := 37) (by k_is) (by k_is) (by show 2 ≤ 1000; decide) fun x t => ?_
  intro A base outer env L h₀ h t m σ R Z F N H
  refine con_LE_init2 w A base outer env L h₀ h t m σ R Z F N fun r news' h t hp F N => H r news' h t ?_ F N
  obtain ⟨rfl, d, t, es, k, rfl⟩ := hp
  exact ⟨rfl, x, t, d, _, _, rfl, rfl, fun p hp => .tail _ (.tail _ hp)⟩
theorem con_LE_init1 : Con w (.ref 37) 1 [.ref x, what] ((x, exO 84 t0 none) :: news) (fun r news' => r = .none ∧ Ex4 fun d t es k => news' = (x, exO 84 t (some d)) :: (t, tup [what]) :: (d, dictOf es k) :: news) := by
  refine Con.var fun Ψ kk => ?_
  refine enter (binds := [("self", .ref x), ("what", what), ("at", .ref 29)]) (bs := [("at", .ref 29), ("what", what), ("self", .ref x)]) (by k_is) (by k_is) (fun s X => binds_K X rfl (by k_is) rfl rfl rfl) rfl rfl rfl rfl rfl (by decide) ?_
  intro A base outer g L σ h t Z F N
  obtain ⟨nm, q, Nn, bs, sn, sub, ab, col, dd, k0, k1, k2, k3, k5, hl⟩ := exc84 w
  obtain ⟨cd, K⟩ := exK84 w
  walk_at "og"
  with_reducible refine method_type (v := .builtin "Exception.__init__") (s := st σ h t) F Z.X ?a1 ?a2 ?a3 ?a4 ?_
  · rfl
  · decide +kernel
  · k_is
  · k_handed
  walk_at "og"
  refine iX (vs := [what]) hl (by decide +kernel) Z F N (by show 1 ≤ 1000; decide) ?_
  clear F N; intro t' h F N
  walk_at "og"
  refine sX0 K (by k_is) Z F N ?_
  clear F N; intro d es h t F N R
  walk_at "og"
  refine sX K (by k_is) Z F N R (by show 1 ≤ 900; decide) ?_
  clear F N; intro es k h t F N R
  walk_at "og"
  exact Ret.via kk F (N.perm (.cons _ (.swap _ _ _))) ⟨rfl, _, _, _, _, rfl⟩
theorem con_RunFault1 : Con w (.ref 84) 2 [what] news (NewFault news) := by
  obtain ⟨nm, q, Nn, bs, sn, sub, ab, col, dd, k0, k1, k2, k3, k5, hl⟩ := exc84 w
  refine con_exc hl (by decide +kernel) (by decide +kernel) (by decide +kernel) (fI := 37) (by k_is) (by k_is) (by show 1 ≤ 1000; decide) fun x t => ?_
  intro A base outer env L h₀ h t m σ R Z F N H
  refine con_LE_init1 w A base outer env L h₀ h t m σ R Z F N fun r news' h t hp F N => H r news' h t ?_ F N
  obtain ⟨rfl, d, t, es, k, rfl⟩ := hp
  exact ⟨rfl, x, t, d, _, _, rfl, rfl, fun p hp => .tail _ (.tail _ hp)⟩
end
section
variable {w : World} {n : Nat} {A : Around} {base h₀ h : Heap} {outer : List Env} {L : Addr} {σ : Shared} {t : Nat} {m : S → Option Value} {news news0 : List Ob} {env : Env}
/-- `raise RunFault(..)` within a body that lets it pass -/
theorem raiseRF {e : Expr} {pos : Pos} {Q : Flow → Shared → Prop} (Z : Site w n A base outer env L h₀)
    (H : wpAny (model PW w) A (eval e env) (fun v s₁ => Ex4 fun news' h t m' => An4 (s₁ = st σ h t) (Fr h₀ L h m') (Led h₀ L h news') (NewFault news0 v news')) (Leav w A env (RaiseK base h₀ outer σ news0)) (st σ h t)) :
    wpAny (model PW w) A (exec (.Raise (some e) none pos) env) Q (Leav w A env (RaiseK base h₀ outer σ news0)) (st σ h t) := by
  obtain ⟨nm, q, Nn, bs, sn, sub, ab, col, dd, k0, k1, k2, k3, k5, hl⟩ := exc84 w
  refine Raise_ hl (by decide +kernel) Z.hh (wpAny_mono H (fun v s₁ hp => ?_) fun _ _ z => z)
  obtain ⟨news', h, t, m', rfl, F, N, x, tt, d, vs, rest, rfl, rfl, hs⟩ := hp
  exact ⟨x, tt, some d, rfl, Z.X.keeps F.keep, N.get (.head _), leave_fresh (oe := exO 84 tt (some d)) (ot := tup vs) (vs := vs) Z F N rfl (ws := #[.ref tt, .none, .none, .none, .bool false, .none]) rfl rfl rfl rfl rfl fun h' R U => ⟨x, tt, vs, h', t, rfl, rfl, RaisedS.sub R hs, U⟩⟩
end
end Og

-- C21
namespace Og
section
variable (w : World) {news : List Ob} {xi sh D W M di lr lt T P : Addr} {nm n0 cat : S} {off sz dz d scale u s : Int} {sgn : Bool} {val : Value} {items : List Addr} {b c : Array UInt8} {ks cs : List Int} {t1 t2 t3 tb : Tok}
noncomputable def isFig (c : Int) : Bool := decide (48 ≤ c) && decide (c ≤ 57)
theorem con_whole_figures (hk : bI b = ks) (hf : ∀ c ∈ ks, isFig c = true) : Con w (.ref 707) 1 [.bytes b tb] news (fun r news' => (∃ t, r = .int (jn (ks.map (· - 48))) t) ∧ news' = news) := by
  refine Con.var fun Ψ kk => ?_
  refine enter (binds := [("octets", .bytes b tb)]) (bs := [("octets", .bytes b tb)]) (by k_is) (by k_is) (fun s X => BindsTo.of_eq rfl) rfl rfl rfl rfl rfl (by decide) ?_
  intro A base outer g L σ h t Z F N
  walk_at "og"
  refine wpAny_For ?_ (by intro _; rfl)
  walk_at "og"
  refine enB F N ?_
  clear F N; intro e it io h F N hio
  refine itE N ?_
  refine for_goEB (b := b) Z.hh (fun i xs nw => ∃ tr, gv xs "number" = some (.int (jn ((ks.take i).map (· - 48))) tr) ∧ nw = news) F N hio ⟨_, rfl, rfl⟩ ?_ ?_ PassesOwn.never
  · clear F N hio; rintro i v T ti eo io xs nw h t hi ⟨c, u, hV, rfl⟩ ⟨tr, l1, rfl⟩ F N
    have hfi := KBw.ints_get hV
    rw [show KBw.bInts b = _ from hk] at hfi
    have hb := hf _ (List.mem_of_getElem? hfi)
    obtain ⟨h1, h2⟩ := Bool.and_eq_true_iff.mp hb
    have m1 : tAt g T (List.toArray [.int (i : Int) ti, .int (c.toNat : Int) u]) ((T, tup [.int (i : Int) ti, .int (c.toNat : Int) u]) :: (e, eo) :: (it, io) :: nw) := .inr ⟨_, .head _, rfl, _, rfl⟩
    walk_at "ogs"
    refine brP h1 ?_
    walk_at "og"
    rw [show decide ((c.toNat : Int) ≤ 48 + 9) = true from h2]
    walk_at "og"
    exact ⟨_, _, _, _, rfl, F, N, _, rfl, _, by rw [List.take_add_one, hfi, Option.toList_some, List.map_append, List.map_cons, List.map_nil, jn_snoc, Int.add_sub_assoc]; rfl, rfl⟩
  · clear F N hio; rintro xs nw h t ⟨tr, l1, rfl⟩ F N
    walk_at "og"
    exact Ret.via kk F N ⟨⟨_, by rw [List.take_of_length_le (by rw [← hk, show (bI b).length = b.size from KBw.ints_length b]; exact Nat.le_refl _)]; rfl⟩, rfl⟩
theorem con_whole_figures_no (hk : bI b = ks) (hf : ∃ c ∈ ks, isFig c = false) : ConE w (.ref 707) 3 [.bytes b tb] news := by
  skip
  refine enterE (binds := [("octets", .bytes b tb)]) (bs := [("octets", .bytes b tb)]) (by k_is) (by k_is) (fun s X => BindsTo.of_eq rfl) rfl rfl rfl rfl rfl (by decide) ?_
  intro A base outer g L σ h t Z F N
  walk_at "og"
  refine wpAny_For ?_ (by intro _; rfl)
  walk_at "og"
  refine enB F N ?_
  clear F N; intro e it io h F N hio
  refine itE N ?_
  refine for_goEB (b := b) Z.hh (fun i xs nw => (Ex2 fun v tr => gv xs "number" = some (.int v tr)) ∧ nw = news ∧ ∀ c ∈ ks.take i, isFig c = true) F N hio ⟨⟨_, _, rfl⟩, rfl, by simp⟩ ?_ ?_ PassesOwn.leaving
  · clear F N hio; rintro i v T ti eo io xs nw h t hi ⟨c, u, hV, rfl⟩ ⟨⟨_, tr, l1⟩, rfl, hall⟩ F N
    have hfi := KBw.ints_get hV
    rw [show KBw.bInts b = _ from hk] at hfi
    have m1 : tAt g T (List.toArray [.int (i : Int) ti, .int (c.toNat : Int) u]) ((T, tup [.int (i : Int) ti, .int (c.toNat : Int) u]) :: (e, eo) :: (it, io) :: nw) := .inr ⟨_, .head _, rfl, _, rfl⟩
    have up : ∀ p ∈ nw, p ∈ (T, tup [.int (i : Int) ti, .int (c.toNat : Int) u]) :: (e, eo) :: (it, io) :: nw := fun p hp => .tail _ (.tail _ (.tail _ hp))
    walk_at "ogs"
    refine asplit (fun h1 => ?_) (fun h1 => ?_)
    · walk_at "og"
      by_cases h2 : (c.toNat : Int) ≤ 57
      · rw [show decide ((c.toNat : Int) ≤ 48 + 9) = true from decide_eq_true h2]
        walk_at "og"
        refine ⟨_, _, _, _, rfl, F, N, _, rfl, ⟨_, _, rfl⟩, rfl, ?_⟩
        intro c' hc'
        rw [List.take_add_one, hfi, Option.toList_some] at hc'
        rcases List.mem_append.mp hc' with hc' | hc'
        · exact hall c' hc'
        · rw [List.mem_singleton.mp hc']
          exact Bool.and_eq_true_iff.mpr ⟨h1, decide_eq_true h2⟩
      · rw [show decide ((c.toNat : Int) ≤ 48 + 9) = false from decide_eq_false h2]
        walk_at "og"
        refine raiseRF Z ?_
        walk_at "og"
        refine Con.use (con_RunFault2 w) Z F N (by decide) ?_
        clear F N; rintro r news' h t hr F N
        obtain ⟨x, tt, d, vs, rest, e1, e2, hs⟩ := hr
        exact ⟨_, _, _, _, rfl, F, N, x, tt, d, vs, rest, e1, e2, fun p hp => hs p (.tail _ (up p hp))⟩
    · walk_at "og"
      refine raiseRF Z ?_
      walk_at "og"
      refine Con.use (con_RunFault2 w) Z F N (by decide) ?_
      clear F N; rintro r news' h t hr F N
      obtain ⟨x, tt, d, vs, rest, e1, e2, hs⟩ := hr
      exact ⟨_, _, _, _, rfl, F, N, x, tt, d, vs, rest, e1, e2, fun p hp => hs p (.tail _ (up p hp))⟩
  · rintro xs nw h t ⟨_, rfl, hall⟩
    obtain ⟨c, hc, hcf⟩ := hf
    rw [List.take_of_length_le (by rw [← hk, show (bI b).length = b.size from KBw.ints_length b]; exact Nat.le_refl _)] at hall
    rw [hall c hc] at hcf; cases hcf
end
end Og

-- C22
namespace Og
section
variable {w : World} {n : Nat} {A : Around} {base h₀ h : Heap} {outer : List Env} {L : Addr} {σ : Shared} {t : Nat} {m : S → Option Value} {news news0 news1 : List Ob} {env : Env}
theorem NewFault.sub {r : Value} {news' : List Ob} (x : NewFault news r news') (q : ∀ p ∈ news0, p ∈ news) : NewFault news0 r news' := by
  obtain ⟨x, tt, d, vs, rest, e1, e2, hs⟩ := x
  exact ⟨x, tt, d, vs, rest, e1, e2, fun p hp => hs p (q p hp)⟩
end
section
variable {w : World} {n : Nat} {A : Around} {base h₀ h : Heap} {outer : List Env} {L l : Addr} {σ : Shared} {t : Nat} {m : S → Option Value} {news : List Ob} {E : Value → Shared → Prop} {env : Env} {Q : Value → Shared → Prop}
/-- among two texts -/
theorem inT2 {a b x : S} {ta tb tx : Tok} (F : Fr h₀ L h m) (N : Led h₀ L h news) (hl : tAt h₀ l (List.toArray [.str a ta, .str b tb]) news) (H : Q (.bool (a == x || b == x)) (st σ h t)) : wpAny (model PW w) A (compareOp .In (.str x tx) (.ref l)) Q E (st σ h t) := by
  refine SeqAt.in_tupleAt (s := st σ h t) (fun y => match y with | .str z _ => z == x | _ => false) (hl.tup F N.n) (fun y hy => ?_) ?_
  · simp only [List.mem_toArray, List.mem_cons, List.not_mem_nil, or_false] at hy
    rcases hy with rfl | rfl
    · exact SeqAt.EqAt.str_str _ _ _ _
    · exact SeqAt.EqAt.str_str _ _ _ _
  · have e : (List.toArray [Value.str a ta, .str b tb]).any (fun y => match y with | .str z _ => z == x | _ => false) = (a == x || b == x) := by simp
    rw [e]; exact H
end
section
variable (w : World) {news : List Ob} {xi sh D W M di lr lt T P : Addr} {nm n0 cat : S} {off sz dz scale u s : Int} {d : Nat} {sgn : Bool} {val : Value} {items : List Addr} {b c : Array UInt8} {ks cs : List Int} {t1 t2 t3 tb : Tok}
theorem con_filled_number_zero (hT : (T, tup [.str "figure" t1, .str "ZERO" t2]) ∈ news) (hs : ShapeAt news sh "numeric" sz d scale sgn) (h0 : 1 ≤ d) (h1 : d ≤ 20) (k1 : 0 ≤ scale) (k2 : scale ≤ 16) :
    Con w (.ref 756) 7 [.ref T, .ref sh] news (fun r news' => (∃ t, r = .bytes (byteArr (disp sgn d (keptU sgn d 0))) t) ∧ news' = news) := by
  refine Con.var fun Ψ kk => ?_
  refine enter (binds := [("operand", .ref T), ("shape", .ref sh)]) (bs := [("shape", .ref sh), ("operand", .ref T)]) (by k_is) (by k_is) (fun s X => BindsTo.of_eq rfl) rfl rfl rfl rfl rfl (by decide) ?_
  intro A base outer g L σ h t Z F N
  have m1 : tAt g T (List.toArray [.str "figure" t1, .str "ZERO" t2]) news := .inr ⟨_, hT, rfl, _, rfl⟩
  walk_at "og"
  refine eqT2 Z F N m1.tl (.inr ⟨_, .head _, rfl, _, rfl⟩) (SeqAt.EqAt.str_str _ _ _ _) (SeqAt.EqAt.str_str _ _ _ _) ?_
  replace N := N.tail
  walk_at "ogs"
  refine Con.ae3 (con_decimal0 w _ _) Z (by decide) ?_
  intro T2 u1 u2 t
  walk_at "ogs"
  refine Con.au1 (con_number_for w (hs.mono fun p hp => .tail _ hp) (by exact Int.ofNat_le.mpr h0) (by exact Int.ofNat_le.mpr h1) (.head _) (Int.le_refl _) k1 k2) Z (by decide) ?_
  intro _ t
  rw [Int.zero_mul]
  walk_at "og"
  exact Ret.via kk F N.tail ⟨⟨_, rfl⟩, rfl⟩
theorem con_filled_number_all (hT : (T, tup [.str "all" t1, .bytes b t2]) ∈ news) (hk : bI b = ks) (hk0 : ks ≠ []) (hkz : ks.length ≤ 16) (hf : ∀ c ∈ cyc ks d, isFig c = true) (hs : ShapeAt news sh "numeric" sz d scale sgn) (h0 : 1 ≤ d) (h1 : d ≤ 20) (k1 : 0 ≤ scale) (k2 : scale ≤ 16) :
    Con w (.ref 756) 7 [.ref T, .ref sh] news (fun r news' => (∃ t, r = .bytes (byteArr (disp sgn d (keptU sgn d (jn ((cyc ks d).map (· - 48)) * 10 ^ scale.toNat)))) t) ∧ news' = news) := by
  refine Con.var fun Ψ kk => ?_
  refine enter (binds := [("operand", .ref T), ("shape", .ref sh)]) (bs := [("shape", .ref sh), ("operand", .ref T)]) (by k_is) (by k_is) (fun s X => BindsTo.of_eq rfl) rfl rfl rfl rfl rfl (by decide) ?_
  intro A base outer g L σ h t Z F N
  have m1 : tAt g T (List.toArray [.str "all" t1, .bytes b t2]) news := .inr ⟨_, hT, rfl, _, rfl⟩
  obtain ⟨sx, ses, sk, p1, p2, _, s1, _, s2, _, s3, _, s4, s5, s6, _, s7, _, s8, s9⟩ := id hs
  walk_at "og"
  refine eqT2 Z F N m1.tl (.inr ⟨_, .head _, rfl, _, rfl⟩) (SeqAt.EqAt.str_str _ _ _ _) (eqAt_bytes_str _ _ _ _) ?_
  replace N := N.tail
  walk_at "ogs"
  refine Con.aq2 (con_repeated w hk hk0 hkz d (by exact Nat.le_trans h1 (Nat.le_add_left 20 980)) _) Z (by decide) ?_
  intro c tc t hc
  walk_at "ogs"
  refine Con.au1 (con_whole_figures w hc hf) Z (by decide) ?_
  intro _ t
  walk_at "ogs"
  refine Con.ae3 (con_decimal0 w _ _) Z (by decide) ?_
  intro T2 u1 u2 t
  walk_at "ogs"
  refine Con.au1 (con_number_for w (hs.mono fun p hp => .tail _ hp) (by exact Int.ofNat_le.mpr h0) (by exact Int.ofNat_le.mpr h1) (.head _) (Int.le_refl _) k1 k2) Z (by decide) ?_
  intro _ t
  rw [Int.sub_zero]
  walk_at "og"
  exact Ret.via kk F N.tail ⟨⟨_, rfl⟩, rfl⟩
theorem con_filled_number_fig {x : S} (hx : (x == "ZERO") = false) (hxl : x.length ≤ 100) (hT : (T, tup [.str "figure" t1, .str x t2]) ∈ news) : ConE w (.ref 756) 4 [.ref T, .ref sh] news := by
  skip
  refine enterE (binds := [("operand", .ref T), ("shape", .ref sh)]) (bs := [("shape", .ref sh), ("operand", .ref T)]) (by k_is) (by k_is) (fun s X => BindsTo.of_eq rfl) rfl rfl rfl rfl rfl (by decide) ?_
  intro A base outer g L σ h t Z F N
  have m1 : tAt g T (List.toArray [.str "figure" t1, .str x t2]) news := .inr ⟨_, hT, rfl, _, rfl⟩
  walk_at "og"
  refine eqT2 Z F N m1.tl (.inr ⟨_, .head _, rfl, _, rfl⟩) (SeqAt.EqAt.str_str _ _ _ _) (SeqAt.EqAt.str_str _ _ _ _) ?_
  replace N := N.tail
  rw [hx]
  walk_at "og"
  refine raiseRF Z ?_
  walk_at "og"
  refine PyProof.Rows.add_str (s := st σ h t) (fun u t => ?_) (by rw [sizeLine_eq]; have : ("no number: " : S).length = 11 := rfl; omega)
  walk_at "og"
  refine Con.use (con_RunFault1 w) Z F N (by decide) ?_
  clear F N; rintro r news' h t hr F N
  exact ⟨_, _, _, _, rfl, F, N, hr⟩
theorem con_filled_number_no (hT : (T, tup [.str "all" t1, .bytes b t2]) ∈ news) (hk : bI b = ks) (hk0 : ks ≠ []) (hkz : ks.length ≤ 16) (hf : ∃ c ∈ cyc ks d, isFig c = false) (hs : ShapeAt news sh cat sz d scale sgn) (h1 : d ≤ 20) :
    ConE w (.ref 756) 7 [.ref T, .ref sh] news := by
  skip
  refine enterE (binds := [("operand", .ref T), ("shape", .ref sh)]) (bs := [("shape", .ref sh), ("operand", .ref T)]) (by k_is) (by k_is) (fun s X => BindsTo.of_eq rfl) rfl rfl rfl rfl rfl (by decide) ?_
  intro A base outer g L σ h t Z F N
  have m1 : tAt g T (List.toArray [.str "all" t1, .bytes b t2]) news := .inr ⟨_, hT, rfl, _, rfl⟩
  obtain ⟨sx, ses, sk, p1, p2, _, s1, _, s2, _, s3, _, s4, s5, s6, _, s7, _, s8, s9⟩ := id hs
  walk_at "og"
  refine eqT2 Z F N m1.tl (.inr ⟨_, .head _, rfl, _, rfl⟩) (SeqAt.EqAt.str_str _ _ _ _) (eqAt_bytes_str _ _ _ _) ?_
  replace N := N.tail
  walk_at "ogs"
  refine Con.aq2 (con_repeated w hk hk0 hkz d (by exact Nat.le_trans h1 (Nat.le_add_left 20 980)) _) Z (by decide) ?_
  intro c tc t hc
  walk_at "og"
  exact ConE.use (con_whole_figures_no w hc hf) Z F N (by decide) fun p hp => hp
theorem tupK671 : TupK w 671 [.str "numeric" 1149, .str "edited" 1150] news := .inl ⟨_, by k_is⟩
theorem con_filled_zero (hT : (T, tup [.str "figure" t1, .str "ZERO" t2]) ∈ news) (hs : ShapeAt news sh "numeric" sz d scale sgn) (h0 : 1 ≤ d) (h1 : d ≤ 20) (k1 : 0 ≤ scale) (k2 : scale ≤ 16) :
    Con w (.ref 763) 8 [.ref T, .ref sh] news (fun r news' => (∃ t, r = .bytes (byteArr (disp sgn d (keptU sgn d 0))) t) ∧ news' = news) := by
  refine Con.var fun Ψ kk => ?_
  refine enter (binds := [("operand", .ref T), ("shape", .ref sh)]) (bs := [("shape", .ref sh), ("operand", .ref T)]) (by k_is) (by k_is) (fun s X => BindsTo.of_eq rfl) rfl rfl rfl rfl rfl (by decide) ?_
  intro A base outer g L σ h t Z F N
  obtain ⟨sx, ses, sk, p1, p2, _, s1, _, s2, _, s3, _, s4, s5, s6, _, s7, _, s8, s9⟩ := id hs
  walk_at "og"
  refine inT2 F N ((tupK671 w).at Z) ?_
  walk_at "ogs"
  refine Con.au1 (con_filled_number_zero w hT hs h0 h1 k1 k2) Z (by decide) ?_
  intro _ t
  walk_at "og"
  exact Ret.via kk F N ⟨⟨_, rfl⟩, rfl⟩
theorem con_filled_all (hT : (T, tup [.str "all" t1, .bytes b t2]) ∈ news) (hk : bI b = ks) (hk0 : ks ≠ []) (hkz : ks.length ≤ 16) (hf : ∀ c ∈ cyc ks d, isFig c = true) (hs : ShapeAt news sh "numeric" sz d scale sgn) (h0 : 1 ≤ d) (h1 : d ≤ 20) (k1 : 0 ≤ scale) (k2 : scale ≤ 16) :
    Con w (.ref 763) 8 [.ref T, .ref sh] news (fun r news' => (∃ t, r = .bytes (byteArr (disp sgn d (keptU sgn d (jn ((cyc ks d).map (· - 48)) * 10 ^ scale.toNat)))) t) ∧ news' = news) := by
  refine Con.var fun Ψ kk => ?_
  refine enter (binds := [("operand", .ref T), ("shape", .ref sh)]) (bs := [("shape", .ref sh), ("operand", .ref T)]) (by k_is) (by k_is) (fun s X => BindsTo.of_eq rfl) rfl rfl rfl rfl rfl (by decide) ?_
  intro A base outer g L σ h t Z F N
  obtain ⟨sx, ses, sk, p1, p2, _, s1, _, s2, _, s3, _, s4, s5, s6, _, s7, _, s8, s9⟩ := id hs
  walk_at "og"
  refine inT2 F N ((tupK671 w).at Z) ?_
  walk_at "ogs"
  refine Con.au1 (con_filled_number_all w hT hk hk0 hkz hf hs h0 h1 k1 k2) Z (by decide) ?_
  intro _ t
  walk_at "og"
  exact Ret.via kk F N ⟨⟨_, rfl⟩, rfl⟩
theorem con_filled_fig_no {x : S} (hx : (x == "ZERO") = false) (hxl : x.length ≤ 100) (hT : (T, tup [.str "figure" t1, .str x t2]) ∈ news) (hs : ShapeAt news sh "numeric" sz d scale sgn) : ConE w (.ref 763) 5 [.ref T, .ref sh] news := by
  skip
  refine enterE (binds := [("operand", .ref T), ("shape", .ref sh)]) (bs := [("shape", .ref sh), ("operand", .ref T)]) (by k_is) (by k_is) (fun s X => BindsTo.of_eq rfl) rfl rfl rfl rfl rfl (by decide) ?_
  intro A base outer g L σ h t Z F N
  obtain ⟨sx, ses, sk, p1, p2, _, s1, _, s2, _, s3, _, s4, s5, s6, _, s7, _, s8, s9⟩ := id hs
  walk_at "og"
  refine inT2 F N ((tupK671 w).at Z) ?_
  walk_at "og"
  exact ConE.use (con_filled_number_fig w hx hxl hT) Z F N (by decide) fun p hp => hp
theorem con_filled_all_no (hT : (T, tup [.str "all" t1, .bytes b t2]) ∈ news) (hk : bI b = ks) (hk0 : ks ≠ []) (hkz : ks.length ≤ 16) (hf : ∃ c ∈ cyc ks d, isFig c = false) (hs : ShapeAt news sh "numeric" sz d scale sgn) (h1 : d ≤ 20) :
    ConE w (.ref 763) 8 [.ref T, .ref sh] news := by
  skip
  refine enterE (binds := [("operand", .ref T), ("shape", .ref sh)]) (bs := [("shape", .ref sh), ("operand", .ref T)]) (by k_is) (by k_is) (fun s X => BindsTo.of_eq rfl) rfl rfl rfl rfl rfl (by decide) ?_
  intro A base outer g L σ h t Z F N
  obtain ⟨sx, ses, sk, p1, p2, _, s1, _, s2, _, s3, _, s4, s5, s6, _, s7, _, s8, s9⟩ := id hs
  walk_at "og"
  refine inT2 F N ((tupK671 w).at Z) ?_
  walk_at "og"
  exact ConE.use (con_filled_number_no w hT hk hk0 hkz hf hs h1) Z F N (by decide) fun p hp => hp
theorem con_filled_text {sc : Int} {n : Nat} (hs : ShapeAt news sh "alphanumeric" n dz sc sgn) (hn : n ≤ 1000) (hks : ks ≠ []) (hkz : ks.length ≤ 16)
    (hp : Con w (.ref 749) 1 [.ref T] news (fun r news' => (Ex2 fun b t => r = .bytes b t ∧ bI b = ks) ∧ news' = news)) :
    Con w (.ref 763) 3 [.ref T, .ref sh] news (fun r news' => (Ex2 fun c t => r = .bytes c t ∧ bI c = cyc ks n) ∧ news' = news) := by
  refine Con.var fun Ψ kk => ?_
  refine enter (binds := [("operand", .ref T), ("shape", .ref sh)]) (bs := [("shape", .ref sh), ("operand", .ref T)]) (by k_is) (by k_is) (fun s X => BindsTo.of_eq rfl) rfl rfl rfl rfl rfl (by decide) ?_
  intro A base outer g L σ h t Z F N
  obtain ⟨sx, ses, sk, p1, p2, _, s1, _, s2, _, s3, _, s4, s5, s6, _, s7, _, s8, s9⟩ := id hs
  walk_at "og"
  refine inT2 F N ((tupK671 w).at Z) ?_
  walk_at "og"
  refine Con.use hp Z F N (by decide) ?_
  clear F N; rintro r news' h t ⟨⟨b, tb, rfl, hb⟩, rfl⟩ F N
  walk_at "ogs"
  refine Con.aq2 (con_repeated w hb hks hkz n hn _) Z (by decide) ?_
  intro c tc t hc
  walk_at "og"
  exact Ret.via kk F N ⟨⟨_, _, rfl, hc⟩, rfl⟩
end
end Og

-- C23
namespace Og
section
variable (w : World) {news : List Ob} {xi sh D W M di dj lr lt T P : Addr} {nm n0 cat kd : S} {off sz dz d scale u s : Int} {sgn : Bool} {val b' : Value} {items : List Addr} {b c : Array UInt8} {ks cs : List Int} {t1 t2 t3 tb : Tok}
theorem con_operand_in_no (h1 : (kd.cps.toList == ("ref" : S).cps.toList) = false) (h2 : (kd.cps.toList == ("number" : S).cps.toList) = false) (h3 : (kd.cps.toList == ("text" : S).cps.toList) = false) (hT : (T, tup [.str kd t1, b']) ∈ news) : ConE w (.ref 910) 4 [.ref W, .ref T] news := by
  skip
  refine enterE (binds := [("world", .ref W), ("operand", .ref T)]) (bs := [("operand", .ref T), ("world", .ref W)]) (by k_is) (by k_is) (fun s X => BindsTo.of_eq rfl) rfl rfl rfl rfl rfl (by decide) ?_
  intro A base outer g L σ h t Z F N
  have m1 : tAt g T (List.toArray [.str kd t1, b']) news := .inr ⟨_, hT, rfl, _, rfl⟩
  walk_at "og"
  rw [h1]
  walk_at "og"
  rw [h2]
  walk_at "og"
  rw [h3]
  walk_at "og"
  refine raiseRF Z ?_
  walk_at "og"
  refine Con.use (con_RunFault1 w) Z F N (by decide) ?_
  clear F N; rintro r news' h t hr F N
  exact ⟨_, _, _, _, rfl, F, N, hr⟩
theorem con_number_of_text {u0 : Tok} {io : Obj} (hw : WorldAt news W D M di lr lt) (hd : DataAt news D items dz dj) (hn : Named news items n0 xi) (hi : ItemAt news xi nm off sz sh val) (hM : (M, baO b) ∈ news) (hk : bI b = ks) (hkz : ks.length ≤ 1000000) (hfit : off + sz ≤ ks.length) (ho : 0 ≤ off) (hs0 : 0 ≤ sz) (hT : RefK w T n0 news) (hs : ShapeAt news sh "alphanumeric" sz d scale sgn)
    (hdi : (di, io) ∈ news) (hio : io.IsDictOf (strKind PW w) [("IX", .int 1 u0)]) (lo : di ≠ sysModules) (hx : (valueAt [(("IX" : S), Value.int 1 u0)] n0).isSome = false) : ConE w (.ref 917) 9 [.ref W, .ref T] news := by
  skip
  refine enterE (binds := [("world", .ref W), ("operand", .ref T)]) (bs := [("operand", .ref T), ("world", .ref W)]) (by k_is) (by k_is) (fun s X => BindsTo.of_eq rfl) rfl rfl rfl rfl rfl (by decide) ?_
  intro A base outer g L σ h t Z F N
  obtain ⟨t1, t2, q1, q2, hT', hq1, hq2⟩ := id hT
  have m1 := hT'.at Z
  walk_at "og"
  refine eqT52 Z F N m1.tl (.inr ⟨_, .head _, rfl, _, rfl⟩) (SeqAt.EqAt.str_str _ _ _ _) (SeqAt.EqAt.str_str _ _ _ _) ?_
  replace N := N.tail
  walk_at "ogs"
  refine Con.au0 (con_is_index w false hw hdi hio lo hx hT) Z (by decide) ?_
  intro t
  walk_at "og"
  refine Con.r3 (con_operand_in_ref w hw hd hn hi hM hk hkz hfit ho hs0 hT hs) Z F N (by decide) ?_
  clear F N; intro T2 c u1 h t hc F N
  refine asT2 (Og.Site.hh Z) F N (.inr ⟨_, .head _, rfl, _, rfl⟩) (by kernel_rfl) ?_
  clear F N; intro h t F N
  replace N := N.tail
  walk_at "ogs"
  refine Con.au0 (con_is_numeric w hs) Z (by decide) ?_
  intro t
  walk_at "og"
  refine raiseRF Z ?_
  walk_at "og"
  refine Con.use (con_RunFault1 w) Z F N (by decide) ?_
  clear F N; rintro r news' h t hr F N
  exact ⟨_, _, _, _, rfl, F, N, hr⟩
theorem con_number_of_lit (hT : (T, tup [.str "text" t1, .bytes c t2]) ∈ news) (hc : bI c = cs) (hz : cs.length ≤ 1000) : ConE w (.ref 917) 6 [.ref W, .ref T] news := by
  skip
  refine enterE (binds := [("world", .ref W), ("operand", .ref T)]) (bs := [("operand", .ref T), ("world", .ref W)]) (by k_is) (by k_is) (fun s X => BindsTo.of_eq rfl) rfl rfl rfl rfl rfl (by decide) ?_
  intro A base outer g L σ h t Z F N
  have m1 : tAt g T (List.toArray [.str "text" t1, .bytes c t2]) news := .inr ⟨_, hT, rfl, _, rfl⟩
  walk_at "og"
  refine eqT2 Z F N m1.tl (.inr ⟨_, .head _, rfl, _, rfl⟩) (SeqAt.EqAt.str_str _ _ _ _) (eqAt_bytes_str _ _ _ _) ?_
  replace N := N.tail
  walk_at "og"
  refine Con.use (con_is_index_no w (by decide) hT) Z F N (by decide) ?_
  clear F N; rintro r nw h t ⟨rfl, rfl⟩ F N
  walk_at "og"
  refine Con.use (con_operand_in_text w hT hc hz) Z F N (by decide) ?_
  clear F N; rintro r news' h t ⟨T2, x, dx, es, u1, rfl, rfl, he⟩ F N
  refine asT2 (Og.Site.hh Z) F N (.inr ⟨_, .head _, rfl, _, rfl⟩) (by kernel_rfl) ?_
  clear F N; intro h t F N
  replace N := N.tail
  have hsh := he.at (.head _ : (x, instObj 525 dx) ∈ (x, instObj 525 dx) :: (dx, es) :: nw) (.tail _ (.head _))
  walk_at "ogs"
  refine Con.au0 (con_is_numeric w hsh) Z (by decide) ?_
  intro t
  walk_at "og"
  refine raiseRF Z ?_
  walk_at "og"
  refine Con.use (con_RunFault1 w) Z F N (by decide) ?_
  clear F N; rintro r news' h t hr F N
  exact ⟨_, _, _, _, rfl, F, N, hr.sub fun p hp => .tail _ (.tail _ hp)⟩
theorem con_number_of_fig {x : S} (hx : (x == "ZERO") = false) (hT : (T, tup [.str "figure" t1, .str x t2]) ∈ news) : ConE w (.ref 917) 5 [.ref W, .ref T] news := by
  skip
  refine enterE (binds := [("world", .ref W), ("operand", .ref T)]) (bs := [("operand", .ref T), ("world", .ref W)]) (by k_is) (by k_is) (fun s X => BindsTo.of_eq rfl) rfl rfl rfl rfl rfl (by decide) ?_
  intro A base outer g L σ h t Z F N
  have m1 : tAt g T (List.toArray [.str "figure" t1, .str x t2]) news := .inr ⟨_, hT, rfl, _, rfl⟩
  walk_at "og"
  refine eqT2 Z F N m1.tl (.inr ⟨_, .head _, rfl, _, rfl⟩) (SeqAt.EqAt.str_str _ _ _ _) (SeqAt.EqAt.str_str _ _ _ _) ?_
  replace N := N.tail
  rw [hx]
  walk_at "ogs"
  refine Con.au0 (con_is_index_no w (by decide) hT) Z (by decide) ?_
  intro t
  walk_at "og"
  exact ConE.use (con_operand_in_no w (by decide) (by decide) (by decide) hT) Z F N (by decide) fun p hp => hp
theorem con_number_of_all (hT : (T, tup [.str "all" t1, .bytes c t2]) ∈ news) : ConE w (.ref 917) 5 [.ref W, .ref T] news := by
  skip
  refine enterE (binds := [("world", .ref W), ("operand", .ref T)]) (bs := [("operand", .ref T), ("world", .ref W)]) (by k_is) (by k_is) (fun s X => BindsTo.of_eq rfl) rfl rfl rfl rfl rfl (by decide) ?_
  intro A base outer g L σ h t Z F N
  have m1 : tAt g T (List.toArray [.str "all" t1, .bytes c t2]) news := .inr ⟨_, hT, rfl, _, rfl⟩
  walk_at "og"
  refine eqT2 Z F N m1.tl (.inr ⟨_, .head _, rfl, _, rfl⟩) (SeqAt.EqAt.str_str _ _ _ _) (eqAt_bytes_str _ _ _ _) ?_
  replace N := N.tail
  walk_at "ogs"
  refine Con.au0 (con_is_index_no w (by decide) hT) Z (by decide) ?_
  intro t
  walk_at "og"
  exact ConE.use (con_operand_in_no w (by decide) (by decide) (by decide) hT) Z F N (by decide) fun p hp => hp
end
end Og

-- C24
namespace Og
section
variable (w : World) {news : List Ob} {f : Addr} {k : Nat} {P : Value → List Ob → Prop} {oc : Value} {od : Option Addr} {fd : FuncData} {sl : Array (Option Value)}
theorem con_told (hf : (f, (⟨oc, od, .func fd, sl⟩ : Obj)) ∈ news) (C : Con w (.ref f) k [] news P) : Con w (.ref 1015) (k + 1) [.ref f] news P := by
  refine Con.var fun Ψ kk => ?_
  refine enter (binds := [("call", .ref f)]) (bs := [("call", .ref f)]) (by k_is) (by k_is) (fun s X => BindsTo.of_eq rfl) rfl rfl rfl rfl rfl (by decide) ?_
  intro A base outer g L σ h t Z F N
  walk_at "og"
  refine wpAny_Try_except ?_
  walk_at "og"
  refine callWith_F0 (s := st σ h t) (FnAt.of N.n hf) ?_
  refine Con.use C Z F N (Nat.le_refl _) ?_
  clear F N; rintro r news' h t hp F N
  exact Ret.via kk F N hp
theorem con_told_no (hf : (f, (⟨oc, od, .func fd, sl⟩ : Obj)) ∈ news) (C : ConE w (.ref f) k [] news) : ConS w (.ref 1015) (k + 1) [.ref f] news (fun r news' => r = .none ∧ news' = news) := by
  refine ConS.var fun Ψ kk => ?_
  refine enterS (binds := [("call", .ref f)]) (bs := [("call", .ref f)]) (by k_is) (by k_is) (fun s X => BindsTo.of_eq rfl) rfl rfl rfl rfl rfl (by decide) ?_
  intro A base outer g L σ h t Z hA F N
  obtain ⟨A₀, rfl, hfr⟩ := hA
  obtain ⟨A₁, B₁⟩ := Z.B
  have B : Below A₀ base outer g := ⟨hfr, B₁.stays, B₁.frames⟩
  obtain ⟨p, loose, mean, mg, mb, TT, TB⟩ := Z.T
  obtain ⟨nm, q, Nn, bs, sn, sub, ab, col, dd, k0, k1, k2, k3, k5, hl⟩ := exc84 w
  walk_at "og"
  refine wpAny_Try_except ?_
  walk_at "og"
  refine callWith_F0 (s := st σ h t) (FnAt.of N.n hf) ?_
  refine wpAny_call (C _ _ _ _ _ _ _ _ _ _ _ Z F N fun g₂ m₂ e s' F' ⟨ea, tt, vs', h', t', he, hs', R, U⟩ => ?_)
  subst he hs'
  refine caught_SO0 (s' := st σ h' t') R F' B U Z.XB TB Z.D KtsTurn.refl (x := "RunFault") (by k_is) (by unfold ktsIn; rw [hl]; show (84 == 84 && !false && bm84.contains (Value.type "BaseException") && bm84.contains (Value.type "BaseException")) = true; decide +kernel) fun h₂ g₃ news₂ T₂ F₂ _ _ N₂ _ _ _ _ => ?_
  refine wpAny_execs_cons (wpAny_Return_some (Constant_none ?_))
  refine RetS.via kk T₂ F₂ ⟨N₂, N.d⟩ ?_
  exact ⟨rfl, rfl⟩
end
end Og

-- C25
namespace Og
theorem sub_lam {α : Type} {ext rest : List α} {q p : α} : (p :: rest).Sublist (ext ++ q :: p :: rest) := (List.Sublist.cons _ (List.Sublist.refl _)).trans (List.sublist_append_right _ _)
section
variable (w : World) {news rest : List Ob} {W T : Addr} {cat : S} {size d scale : Int} {sgn : Bool} {ks : List Int} {k : Nat} {ps : Array Value}
noncomputable def Found (w : World) (cat : S) (size d scale : Int) (sgn : Bool) (ks : List Int) (news1 : List Ob) (r : Value) (news' : List Ob) : Prop :=
  Ex5 fun T' x c u ext => An4 (r = .ref T') (news' = (T', tup [.ref x, .bytes c u]) :: (ext ++ news1)) (ShapeAt (ext ++ news1) x cat size d scale sgn) (bI c = ks)
theorem codeHd1017 {g : Heap} (X : (hd.heap_1 w.params).In g) : CodeHd g 1021 1017 := ⟨_, _, _, _, _, _, _, _, _, X 1021 _ (by k_is), rfl, rfl, rfl, rfl, rfl, rfl, rfl, rfl, by decide⟩
noncomputable abbrev p1017 : Pos := ⟨802, 22, 802, 56⟩
noncomputable abbrev q1017 : S := "_law_laid.<locals>.<lambda>"
theorem con_law_laid (C : ∀ news1, (∀ p ∈ rest, p ∈ news1) → Con w (.ref 910) k [.ref W, .ref T] news1 (Found w cat size d scale sgn ks news1)) (hl : LamT p1017 q1017 ps rest) :
    Con w (.ref 1022) (k + 4) [.ref W, .ref T] ((1017, tabObj ps) :: rest) (fun r news' => Ex4 fun T' c u t1 => Ex4 fun t2 t3 ps' rest' => An5 (r = .ref T') (news' = (T', tup [.str cat t1, .int size t2, .int scale t3, .bool sgn, .bytes c u]) :: (1017, tabObj ps') :: rest') (bI c = ks) (LamT p1017 q1017 ps' rest') (∀ p ∈ rest, p ∈ rest')) := by
  refine Con.var fun Ψ kk => ?_
  refine enterC (binds := [("world", .ref W), ("operand", .ref T)]) (bs := []) (by k_is) (by k_is) (fun s X => BindsTo.of_eq rfl) (by intro n x hx; simp only [List.mem_cons, List.not_mem_nil, or_false] at hx; rcases hx with rfl | rfl <;> first | exact .inl rfl | exact .inr ⟨rfl, rfl⟩) (by decide +kernel) (cellsL2 (by intro L; rfl)) (by intro L; rfl) rfl rfl rfl ?_
  intro A base outer g L σ h t cells Z F hC N
  obtain ⟨o2, o1, rfl, k2, k1⟩ := CellsAre.two hC
  dsimp only [List.cons_append, List.nil_append] at N
  walk_at "og"
  replace N := (N.perm (Led.front3 _ _ _ _)).perm (Led.front3 _ _ _ _)
  refine lamE Z F N (codeHd1017 w Z.X) (hl.mono fun p hp => .tail _ (.tail _ hp)) rfl (by rfl) ?_
  clear F N; rintro f nw h t ⟨pm, c', ctv, oc, vs, tt, ps', rest', hnw, mf, mc, hdt, hv, hl', hs, hs2⟩ F N
  walk_at "og"
  have up : ∀ p ∈ rest, p ∈ nw := fun p hp => hs2 p (.tail _ (.tail _ hp))
  have c1 : ((L + 1 + 1, o2) : Ob) ∈ nw := hs2 _ (.head _)
  have c2 : ((L + 1, o1) : Ob) ∈ nw := hs2 _ (.tail _ (.head _))
  refine Con.use (con_told w mf (k := k + 1) (P := Found w cat size d scale sgn ks nw) (enterL mf mc hdt hv rfl rfl rfl rfl (by decide) ?_)) Z F N (by exact Nat.le_succ (k + 1 + 1)) ?_
  · clear Z F N
    intro A base outer g L' σ h t Z F N
    walk_at "og"
    refine Con.use (C nw up) Z F N (Nat.le_refl _) ?_
    clear F N; rintro r news' h t hp F N
    exact Ret.intro (F) N hp
  clear F N; rintro r news' h t ⟨T', x, c, u, ext, rfl, rfl, hsh, hb⟩ F N
  obtain ⟨sx, ses, sk, p1, p2, _, s1, _, s2, _, s3, _, s4, s5, s6, _, s7, _, s8, s9⟩ := id hsh
  have m1 : tAt g T' (List.toArray [.ref x, .bytes c u]) ((T', tup [.ref x, .bytes c u]) :: (ext ++ nw)) := .inr ⟨_, .head _, rfl, _, rfl⟩
  walk_at "og"
  subst hnw
  exact Ret.via kk F (N.sub (.cons_cons _ (.cons _ sub_lam))) ⟨_, _, _, _, _, _, _, _, rfl, rfl, hb, hl', fun p hp => hs p (.tail _ (.tail _ hp))⟩
theorem con_law_laid_no (C : ∀ news1, (∀ p ∈ rest, p ∈ news1) → ConE w (.ref 910) k [.ref W, .ref T] news1) (hl : LamT p1017 q1017 ps rest) :
    ConS w (.ref 1022) (k + 4) [.ref W, .ref T] ((1017, tabObj ps) :: rest) (fun r news' => Ex2 fun ps' rest' => An4 (r = .none) (news' = (1017, tabObj ps') :: rest') (LamT p1017 q1017 ps' rest') (∀ p ∈ rest, p ∈ rest')) := by
  refine ConS.var fun Ψ kk => ?_
  refine enterCS (binds := [("world", .ref W), ("operand", .ref T)]) (bs := []) (by k_is) (by k_is) (fun s X => BindsTo.of_eq rfl) (by intro n x hx; simp only [List.mem_cons, List.not_mem_nil, or_false] at hx; rcases hx with rfl | rfl <;> first | exact .inl rfl | exact .inr ⟨rfl, rfl⟩) (by decide +kernel) (cellsL2 (by intro L; rfl)) (by intro L; rfl) rfl rfl rfl ?_
  intro A base outer g L σ h t cells Z F hC N
  obtain ⟨o2, o1, rfl, k2, k1⟩ := CellsAre.two hC
  dsimp only [List.cons_append, List.nil_append] at N
  walk_at "og"
  replace N := (N.perm (Led.front3 _ _ _ _)).perm (Led.front3 _ _ _ _)
  refine lamE Z F N (codeHd1017 w Z.X) (hl.mono fun p hp => .tail _ (.tail _ hp)) rfl (by rfl) ?_
  clear F N; rintro f nw h t ⟨pm, c', ctv, oc, vs, tt, ps', rest', hnw, mf, mc, hdt, hv, hl', hs, hs2⟩ F N
  walk_at "og"
  have up : ∀ p ∈ rest, p ∈ nw := fun p hp => hs2 p (.tail _ (.tail _ hp))
  have c1 : ((L + 1 + 1, o2) : Ob) ∈ nw := hs2 _ (.head _)
  have c2 : ((L + 1, o1) : Ob) ∈ nw := hs2 _ (.tail _ (.head _))
  refine ConS.use (con_told_no w mf (k := k + 1) (enterLE mf mc hdt hv rfl rfl rfl rfl (by decide) ?_)) Z F N (by exact Nat.le_succ (k + 1 + 1)) ?_
  · clear Z F N
    intro A base outer g L' σ h t Z F N
    walk_at "og"
    exact ConE.use (C nw up) Z F N (Nat.le_refl _) fun p hp => hp
  clear F N; rintro r news' g h t TT Z ⟨rfl, rfl⟩ F N
  walk_at "og"
  subst hnw
  exact RetS.via kk TT F (N.sub (.cons _ (List.Sublist.refl _))) ⟨_, _, rfl, rfl, hl', fun p hp => hs p (.tail _ (.tail _ hp))⟩
end
end Og

-- C26
namespace Og
theorem byteArr_ints {ns : List Int} (h : In ns) : bI (byteArr ns) = ns := by
  show List.map _ (List.toArray _).toList = _
  rw [List.toList_toArray, List.map_map]
  conv => rhs; rw [← List.map_id ns]
  apply List.map_congr_left
  intro n hn
  obtain ⟨h0, h1⟩ := h n hn
  show ((n.toNat.toUInt8).toNat : Int) = n
  rw [Nat.toUInt8, UInt8.toNat_ofNat']
  omega
theorem disp_in (sgn : Bool) (d : Nat) (v : Int) : In (disp sgn d v) := by
  intro n hn
  unfold disp at hn
  split at hn
  · rcases List.mem_or_eq_of_mem_set hn with hn | rfl
    · exact codes_in _ _ n hn
    · rw [List.getD_eq_getElem?_getD]
      cases hg : (if v < 0 then minusR else plusR)[((codes (iabs v) d).getD (d - 1) 0 - 48).toNat]? with
      | none => exact ⟨by decide, by decide⟩
      | some c =>
        have hc := List.mem_of_getElem? hg
        split at hc
        · exact minus_in c hc
        · exact plus_in c hc
  · exact codes_in _ _ n hn
section
variable (w : World) {news : List Ob} {x xi sh D W M di lr lt T P : Addr} {nm n0 cat : S} {off sz dz d scale u s : Int} {sgn : Bool} {val : Value} {items : List Addr} {b c : Array UInt8} {ks cs : List Int} {t1 t2 t3 tb : Tok}
noncomputable def Oct (ks : List Int) (news : List Ob) (r : Value) (news' : List Ob) : Prop := (Ex2 fun c t => r = .bytes c t ∧ bI c = ks) ∧ news' = news
theorem con_is_group (hi : ItemAt news x nm off sz sh val) : Con w (.ref 321) 1 [.ref x] news (fun r news' => r = .bool false ∧ news' = news) := by
  refine Con.var fun Ψ kk => ?_
  refine enter (binds := [("item", .ref x)]) (bs := [("item", .ref x)]) (by k_is) (by k_is) (fun s X => BindsTo.of_eq rfl) rfl rfl rfl rfl rfl (by decide) ?_
  intro A base outer g L σ h t Z F N
  obtain ⟨dx, es, k, kl, m1, m2, m3, _, g1, g2, g3, g4, _, g5, _, g6, _, g7, _, g8, g9, g10⟩ := id hi
  walk_at "og"
  refine itL F N (.inr ⟨_, m3, rfl, _, rfl⟩) ?_
  clear F N; intro I o h F N hI hne
  refine comp_go (turns_list Z.hh kl I #[] hne) (fun i ys nw => ys = [] ∧ nw = news) (by decide) (by rfl) (by rfl) (Nat.zero_le _) F N hI ⟨rfl, rfl⟩ ?_ ?_ ?_
  · rintro i ys nw ⟨rfl, rfl⟩
    exact ⟨.inr ⟨_, m3, rfl, _, rfl⟩, Nat.zero_le _⟩
  · intro i v ys o nw h t C oC D m₂ E hi
    exact absurd hi (Nat.not_lt_zero _)
  · clear F N; rintro D2 ys nw h t F N ⟨rfl, rfl⟩
    walk_at "og"
    refine ne0L Z F N (.inr ⟨_, .tail _ (.head _), rfl, _, rfl⟩) (.inr ⟨_, .head _, rfl, _, rfl⟩) ?_
    walk_at "og"
    exact Ret.via kk F N.tail.tail ⟨rfl, rfl⟩
theorem con_valued_number (hi : ItemAt news x nm off sz sh (.ref T)) (hT : (T, tup [.str "number" t1, .ref P]) ∈ news) (hP : (P, tup [.int u t2, .int s t3]) ∈ news) (hs : ShapeAt news sh "numeric" sz d scale sgn) (h0 : 1 ≤ d) (h1 : d ≤ 20) (k0 : 0 ≤ s) (k1 : s ≤ scale) (k2 : scale ≤ 16) :
    Con w (.ref 777) 5 [.ref x] news (Oct (disp sgn d.toNat (keptU sgn d (u * 10 ^ (scale - s).toNat))) news) := by
  refine Con.var fun Ψ kk => ?_
  refine enter (binds := [("item", .ref x)]) (bs := [("item", .ref x)]) (by k_is) (by k_is) (fun s X => BindsTo.of_eq rfl) rfl rfl rfl rfl rfl (by decide) ?_
  intro A base outer g L σ h t Z F N
  obtain ⟨dx, es, k, kl, q1, q2, q3, _, g1, g2, g3, g4, _, g5, _, g6, _, g7, _, g8, g9, g10⟩ := id hi
  have m1 : tAt g T (List.toArray [.str "number" t1, .ref P]) news := .inr ⟨_, hT, rfl, _, rfl⟩
  obtain ⟨sx, ses, sk, p1, p2, _, s1, _, s2, _, s3, _, s4, s5, s6, _, s7, _, s8, s9⟩ := id hs
  walk_at "ogs"
  refine Con.au0 (con_is_numeric w hs) Z (by decide) ?_
  intro t
  walk_at "ogs"
  refine Con.au1 (con_units_at w hP false k0 k1 k2) Z (by decide) ?_
  intro _ t
  walk_at "ogs"
  refine Con.au1 (con_octets_for w hs h0 h1 _ _) Z (by decide) ?_
  intro _ t
  walk_at "og"
  refine Ret.via kk F N ⟨⟨_, _, rfl, ?_⟩, rfl⟩
  exact byteArr_ints (disp_in _ _ _)
theorem con_valued_text (hi : ItemAt news x nm off sz sh (.ref T)) (hT : (T, tup [.str "text" t1, .bytes b t2]) ∈ news) (hk : bI b = ks) (hz : ks.length ≤ 1000) (hsz : sz = ks.length) (hs : ShapeAt news sh "alphanumeric" dz d scale sgn) :
    Con w (.ref 777) 5 [.ref x] news (Oct ks news) := by
  subst hsz
  refine Con.var fun Ψ kk => ?_
  refine enter (binds := [("item", .ref x)]) (bs := [("item", .ref x)]) (by k_is) (by k_is) (fun s X => BindsTo.of_eq rfl) rfl rfl rfl rfl rfl (by decide) ?_
  intro A base outer g L σ h t Z F N
  obtain ⟨dx, es, k, kl, q1, q2, q3, _, g1, g2, g3, g4, _, g5, _, g6, _, g7, _, g8, g9, g10⟩ := id hi
  have m1 : tAt g T (List.toArray [.str "text" t1, .bytes b t2]) news := .inr ⟨_, hT, rfl, _, rfl⟩
  walk_at "ogs"
  refine Con.au0 (con_is_numeric w hs) Z (by decide) ?_
  intro t
  walk_at "ogs"
  refine Con.aq2 (con_aligned w hk hz _) Z (by decide) ?_
  intro c tc t hc
  walk_at "og"
  exact Ret.via kk F N ⟨⟨_, _, rfl, hc⟩, rfl⟩
theorem con_unvalued (hi : ItemAt news x nm off sz sh val) (hs : ShapeAt news sh "alphanumeric" dz d scale sgn) (hz : 0 ≤ sz) (hz2 : sz ≤ 1000) :
    Con w (.ref 784) 3 [.ref x] news (Oct (List.replicate sz.toNat 32) news) := by
  refine Con.var fun Ψ kk => ?_
  refine enter (binds := [("item", .ref x)]) (bs := [("item", .ref x)]) (by k_is) (by k_is) (fun s X => BindsTo.of_eq rfl) rfl rfl rfl rfl rfl (by decide) ?_
  intro A base outer g L σ h t Z F N
  obtain ⟨dx, es, k, kl, q1, q2, q3, _, g1, g2, g3, g4, _, g5, _, g6, _, g7, _, g8, g9, g10⟩ := id hi
  obtain ⟨sx, ses, sk, p1, p2, _, s1, _, s2, _, s3, _, s4, s5, s6, _, s7, _, s8, s9⟩ := id hs
  walk_at "ogs"
  refine Con.au0 (con_is_numeric w hs) Z (by decide) ?_
  intro t
  walk_at "og"
  refine mulB (ks := [32]) rfl (by decide) (by decide) (by omega) (by exact Int.le_trans hz2 (Int.ofNat_le.mpr (Nat.le_add_left 1000 1047576))) ?_
  intro c u t hc
  walk_at "og"
  refine Ret.via kk F N ⟨⟨_, _, rfl, ?_⟩, rfl⟩
  rw [hc]
  simp
/-- first octets of an item without kids -/
theorem con_first_val (hi : ItemAt news x nm off sz sh (.ref T)) {k : Nat} (hk : k ≤ 5) (C : Con w (.ref 777) k [.ref x] news (Oct ks news)) : Con w (.ref 789) 6 [.ref x] news (Oct ks news) := by
  refine Con.var fun Ψ kk => ?_
  refine enter (binds := [("item", .ref x)]) (bs := [("item", .ref x)]) (by k_is) (by k_is) (fun s X => BindsTo.of_eq rfl) rfl rfl rfl rfl rfl (by decide) ?_
  intro A base outer g L σ h t Z F N
  obtain ⟨dx, es, k, kl, q1, q2, q3, _, g1, g2, g3, g4, _, g5, _, g6, _, g7, _, g8, g9, g10⟩ := id hi
  walk_at "og"
  refine Con.use C Z F N hk ?_
  clear F N; rintro r news' h t ⟨⟨c, tc, rfl, hc⟩, rfl⟩ F N
  walk_at "og"
  exact Ret.via kk F N ⟨⟨_, _, rfl, hc⟩, rfl⟩
theorem con_first_none (hi : ItemAt news x nm off sz sh .none) (hs : ShapeAt news sh "alphanumeric" dz d scale sgn) (hz : 0 ≤ sz) (hz2 : sz ≤ 1000) : Con w (.ref 789) 6 [.ref x] news (Oct (List.replicate sz.toNat 32) news) := by
  refine Con.var fun Ψ kk => ?_
  refine enter (binds := [("item", .ref x)]) (bs := [("item", .ref x)]) (by k_is) (by k_is) (fun s X => BindsTo.of_eq rfl) rfl rfl rfl rfl rfl (by decide) ?_
  intro A base outer g L σ h t Z F N
  obtain ⟨dx, es, k, kl, q1, q2, q3, _, g1, g2, g3, g4, _, g5, _, g6, _, g7, _, g8, g9, g10⟩ := id hi
  walk_at "ogs"
  refine Con.au0 (con_is_group w hi) Z (by decide) ?_
  intro t
  walk_at "ogs"
  refine Con.aq2 (con_unvalued w hi hs hz hz2) Z (by decide) ?_
  intro c tc t hc
  walk_at "og"
  exact Ret.via kk F N ⟨⟨_, _, rfl, hc⟩, rfl⟩
end
end Og

-- C27
namespace Og
noncomputable def lay (ks : List Int) (p : Int × List Int) : List Int := ks.take p.1.toNat ++ p.2 ++ ks.drop (p.1 + p.2.length).toNat
theorem lay_length {ks : List Int} {p : Int × List Int} (h0 : 0 ≤ p.1) (h1 : p.1 + p.2.length ≤ ks.length) : (lay ks p).length = ks.length := by
  unfold lay
  obtain ⟨i, v⟩ := p
  obtain ⟨a, rfl⟩ := Int.eq_ofNat_of_zero_le h0
  have h2 : a + v.length ≤ ks.length := Int.ofNat_le.mp h1
  show (ks.take (a : Int).toNat ++ v ++ ks.drop (((a + v.length : Nat) : Int)).toNat).length = _
  rw [Int.toNat_natCast, Int.toNat_natCast, List.length_append, List.length_append, List.length_take_of_le (Nat.le_trans (Nat.le_add_right _ _) h2), List.length_drop, Nat.add_sub_cancel' h2]
section
variable (w : World) {news : List Ob} {x xi sh D W M di lr lt T P : Addr} {nm n0 cat : S} {off sz dz d scale u s : Int} {sgn : Bool} {val : Value} {items : List Addr} {b c : Array UInt8} {ks cs : List Int} {t1 t2 t3 tb : Tok}
theorem con_initial_memory (hd : DataAt news D items dz di) (hz : items.length ≤ 100) (h0 : 0 ≤ dz) (h1 : dz ≤ 10000) (parts : List (Int × List Int)) (hp : parts.length = items.length)
    (hi : ∀ (i : Nat) x p, items[i]? = some x → parts[i]? = some p → 0 ≤ p.1 ∧ p.1 + p.2.length ≤ dz ∧ (Ex3 fun nm sh val => ItemAt news x nm p.1 p.2.length sh val) ∧ ∀ news1, (∀ q ∈ news, q ∈ news1) → Con w (.ref 789) 6 [.ref x] news1 (Oct p.2 news1)) :
    ConG w (.ref 796) 7 [.ref D] news (Oct (parts.foldl lay (List.replicate dz.toNat 32)) news) := by
  refine ConG.var fun Ψ kk => ?_
  refine enterG (binds := [("data", .ref D)]) (bs := [("data", .ref D)]) (by k_is) (by k_is) (fun s X => BindsTo.of_eq rfl) rfl rfl rfl rfl rfl (by decide) ?_
  intro A base outer g L σ h t Z F N
  obtain ⟨dx, es, k, df, lw, kw, ll, m1, m2, m3, m4, m5, m6, g1, g2, g3, _, g4, g5⟩ := id hd
  with_reducible refine gw_cons (gw_Assign_Name (gw_Call ?_ (by with_unfolding_all rfl)) (by with_unfolding_all rfl))
  walk_at "og"
  refine gw_cwT rfl rfl ?_
  with_reducible refine gw_any ?_
  walk_at "og"
  refine mulB (ks := [32]) rfl (by decide) (by decide) (by omega) (by exact Int.le_trans h1 (Int.ofNat_le.mpr (Nat.le_add_left 10000 1038576))) ?_
  intro c u t hc
  walk_at "og"
  have hc0 : bI c = List.replicate dz.toNat 32 := by rw [hc]; simp
  have hcz : c.size ≤ sizeLine := by rw [show c.size = (bI c).length from (KBw.ints_length c).symm, hc0, List.length_replicate, sizeLine_eq]; omega
  refine baG F N hcz ?_
  clear F N; intro M h F N
  walk_at "og"
  with_reducible refine gw_consK fun K hU hR => ?_
  refine wpAny_For ?_ (by intro _; rfl)
  walk_at "og"
  refine itD F N (.tail _ m3) empty_isDict m4 ?_
  clear F N; intro I io ep h F N hI hK
  refine for_go (turns_dict Z.hh df I [] ep (by rintro rfl; exact N.off _ (.tail _ m3) rfl)) (fun i xs nw => xs = _ ∧ nw = (M, baO c) :: news) F N hI ⟨rfl, rfl⟩ (fun i xs nw q => ⟨_, q.2 ▸ .tail _ m3, hK⟩) (fun i v o xs nw h t hi => absurd hi (Nat.not_lt_zero _)) ?_ PassesOwn.never (fun _ => rfl)
  clear F N; rintro xs nw h t ⟨rfl, rfl⟩ F N
  refine hU _ ?_
  refine gw_cons ?_
  refine gw_For ?_ (by intro _; rfl)
  walk_at "og"
  refine itL F N (.inr ⟨_, .tail _ m5, rfl, _, rfl⟩) ?_
  clear F N; intro I o h F N hI hne
  have hlen : ∀ i, ((parts.take i).foldl lay (List.replicate dz.toNat 32)).length = dz.toNat := by
    intro i
    induction i with
    | zero => simp
    | succ i ih =>
      rw [List.take_add_one]
      cases hpi : parts[i]? with
      | none => rw [Option.toList_none, List.append_nil]; exact ih
      | some p =>
        obtain ⟨x, hx⟩ : ∃ x, items[i]? = some x := ⟨items[i]'(by have := (List.getElem?_eq_some_iff.mp hpi).1; exact Nat.lt_of_lt_of_eq this hp), by simp⟩
        obtain ⟨p0, p1, _⟩ := hi i x p hx hpi
        rw [Option.toList_some, List.foldl_append]
        show (lay _ p).length = _
        rw [lay_length p0 (by rw [ih]; (clear hz hp hi kk m4 hcz hU hR hne ih p0; omega)), ih]
  refine for_goG (turns_list Z.hh lw I (items.map Value.ref).toArray hne) (fun i xs nw => gv xs "found" = some (.ref M) ∧ gv xs "data" = some (.ref D) ∧ ∃ c, bI c = (parts.take i).foldl lay (List.replicate dz.toNat 32) ∧ nw = (M, baO c) :: news) F N hI ⟨rfl, rfl, c, hc0, rfl⟩ ?_ ?_ ?_ (by intro _; rfl)
  · rintro i xs nw ⟨_, _, c, _, rfl⟩
    exact .inr ⟨_, .tail _ m5, rfl, _, rfl⟩
  · clear F N hc hc0 hcz c; rintro i v o xs nw h t hlt hv _ ⟨l1, l2, c, hc, rfl⟩ F N
    simp only [List.size_toArray, List.length_map] at hlt
    obtain ⟨x, hx⟩ : ∃ x, items[i]? = some x := ⟨items[i], by simp [hlt]⟩
    obtain ⟨p, hpi⟩ : ∃ p, parts[i]? = some p := ⟨parts[i]'(by exact Nat.lt_of_lt_of_le hlt (Nat.le_of_eq (Eq.symm hp))), by simp [hp, hlt]⟩
    obtain rfl : v = .ref x := by simpa [hx] using hv.symm
    obtain ⟨hp0, hp1, ⟨nm, sh, val, hit⟩, hC⟩ := hi i x p hx hpi
    obtain ⟨ix, ies, ik, kl, q1, q2, q3, _, i1, i2, i3, i4, _, i5, _, i6, _, i7, _, i8, i9, i10⟩ := id hit
    walk_at "og"
    with_reducible refine gw_cons (gw_If (gw_any ?_))
    walk_at "og"
    refine gw_cons (gw_Assign_Sub ?_ rfl)
    walk_at "ogs"
    refine Con.aq2 (hC _ fun q hq => .tail _ (.tail _ hq)) Z (by decide) ?_
    intro vb vt t hvb
    walk_at "og"
    have hl := hlen i
    refine storeG F (N.perm (List.Perm.swap _ _ _)) hc hvb (by rw [hl]; (clear hz hp hi kk m4 hU hR hne hlen hlt hp0 hp1 hC hl; omega)) hp0 (by exact Int.natCast_nonneg p.snd.length) (by rw [hl]; (clear hz hp hi kk m4 hU hR hne hlen hlt hp0 hC hl; omega)) rfl ?_
    clear F N; intro c' h hc' F N
    replace N := N.perm (List.Perm.swap _ _ _)
    refine gw_any (wpAny_execs_nil ?_)
    refine gw_any (wpAny_execs_nil ?_)
    exact ⟨_, _, _, _, rfl, F, N, _, rfl, lk_tl (by decide) l1, lk_tl (by decide) l2, c', by rw [List.take_add_one, hpi, Option.toList_some, List.foldl_append]; exact hc', rfl⟩
  · clear F N; rintro xs nw h t ⟨l1, l2, c, hc, rfl⟩ F N
    rw [List.size_toArray, List.length_map, List.take_of_length_le (by exact Nat.le_of_eq hp)] at hc
    with_reducible refine gw_cons (gw_any ?_)
    walk_at "ogs"
    refine abytesA (.head _) (by rw [hc]; have := hlen parts.length; rw [List.take_length] at this; (clear hz hp hi kk m4 hcz hU hR hne hlen; omega)) ?_
    intro u t
    walk_at "og"
    exact RetS.via kk KtsTurn.refl F N.tail ⟨⟨_, _, rfl, hc⟩, rfl⟩
end
end Og

-- C28
namespace Og
section
variable (w : World) {news : List Ob} {D M di PG px lr : Addr} {dz : Int} {items : List Addr} {parts : List (Int × List Int)} {its : Array Value} {pes : List DictEntry} {pk kr : Nat} {ido : Obj} {v : Value}
/-- a new world -/
noncomputable def NewWorld (w : World) (D PG px : Addr) (pes : List DictEntry) (pk : Nat) (ks : List Int) (its : Array Value) (news : List Ob) (r : Value) (news' : List Ob) : Prop :=
  Ex5 fun W M c di io => Ex5 fun lr lt kr u ext => An5 (r = .ref W) (news' = (M, baO c) :: (ext ++ news)) (∀ E, (PG, instObj 962 px) ∈ E → (px, dictOf pes pk) ∈ E → WorldAt (ext ++ E) W D M di lr lt) (bI c = ks) (An5 ((di, io) ∈ ext) (io.IsDictOf (strKind PW w) [("IX", .int 1 u)]) (di ≠ sysModules) ((lr, listOf its kr) ∈ ext) ((lt, listOf #[] 0) ∈ ext))
theorem con_World (hd : DataAt news D items dz di) (hz : items.length ≤ 100) (h0 : 0 ≤ dz) (h1 : dz ≤ 10000) (hp : parts.length = items.length)
    (hi : ∀ (i : Nat) x p, items[i]? = some x → parts[i]? = some p → 0 ≤ p.1 ∧ p.1 + p.2.length ≤ dz ∧ (Ex3 fun nm sh val => ItemAt news x nm p.1 p.2.length sh val) ∧ ∀ news1, (∀ q ∈ news, q ∈ news1) → Con w (.ref 789) 6 [.ref x] news1 (Oct p.2 news1))
    (hpg : (PG, instObj 962 px) ∈ news) (hpx : (px, dictOf pes pk) ∈ news) (hpd : getL "data" pes = some (some (.ref D))) (hr : (lr, listOf its kr) ∈ news) (hrz : its.size ≤ 1000) (hdi : (di, ido) ∈ news) (hido : ido.IsDictOf (strKind PW w) [("IX", v)]) (lo : di ≠ sysModules) :
    ConG w (.ref 866) 9 [.ref PG, .none, .ref lr] news (NewWorld w D PG px pes pk (parts.foldl lay (List.replicate dz.toNat 32)) its news) := by
  refine conG_make (by k_is) (by k_is) (by k_is) fun x dx => ?_
  refine ConG.var fun Ψ kk => ?_
  refine enterG (binds := [("self", .ref x), ("program", .ref PG), ("shelf", .none), ("rows", .ref lr)]) (bs := [("rows", .ref lr), ("shelf", .none), ("program", .ref PG), ("self", .ref x)]) (by k_is) (by k_is) (fun s X => BindsTo.of_eq rfl) rfl rfl rfl rfl rfl (by decide) ?_
  intro A base outer g L σ h t Z F N
  have R := Rec.nil
  have up : ∀ p ∈ news, p ∈ (x, instObj 866 dx) :: (dx, emptyDict) :: news := fun p hp => .tail _ (.tail _ hp)
  with_reducible refine gw_consK fun K hY hV => ?_
  walk_at "og"
  with_reducible refine hY _ (gw_consK fun K hY hV => ?_)
  walk_at "og"
  with_reducible refine hY _ (gw_consK fun K hY hV => ?_)
  walk_at "og"
  refine copyL F N (.inr ⟨_, .tail _ (.tail _ hr), rfl, _, rfl⟩) hrz ?_
  clear F N; intro lr' kr' h F N
  replace N := N.perm (Led.front3 _ _ _ _)
  walk_at "og"
  with_reducible refine hY _ (gw_consK fun K hY hV => ?_)
  walk_at "og"
  replace N := N.perm (Led.front3 _ _ _ _)
  walk_at "og"
  with_reducible refine hY _ (gw_consKG fun K hY hV => gw_Assign_Attr (gw_Call ?_ (by with_unfolding_all rfl)) (by with_unfolding_all rfl))
  walk_at "og"
  refine gw_cwT rfl rfl (gw_spl (gw_Call ?_ rfl) rfl)
  walk_at "og"
  with_reducible refine gw_cwK (by with_unfolding_all k_is) (by with_unfolding_all rfl) (by with_unfolding_all rfl) ?_
  with_reducible refine gw_any ?_
  walk_at "og"
  have up4 : ∀ p ∈ news, p ∈ (x, instObj 866 dx) :: (dx, dictOf es k) :: (l, listOf #[] 0) :: (lr', listOf its kr') :: news := fun p hp => .tail _ (.tail _ (.tail _ (.tail _ hp)))
  refine ConG.use (con_initial_memory w (hd.mono up4) hz h0 h1 parts hp fun i x p a b => ?_) Z F N (by decide) ?_
  · obtain ⟨q0, q1, ⟨nm, sh, val, hit⟩, hC⟩ := hi i x p a b
    exact ⟨q0, q1, ⟨nm, sh, val, hit.mono up4⟩, fun news1 hq => hC news1 fun q hq' => hq q (up4 q hq')⟩
  clear F N; rintro r news' g h t TT Z ⟨⟨c, tc, rfl, hc⟩, rfl⟩ F N
  walk_at "og"
  have hcl : (bI c).length ≤ 10000 := by
    rw [hc]
    have : ∀ (l : List (Int × List Int)) (ks : List Int), (∀ p ∈ l, 0 ≤ p.1 ∧ p.1 + p.2.length ≤ dz) → ks.length = dz.toNat → (l.foldl lay ks).length = dz.toNat := by
      intro l
      induction l with
      | nil => intro ks _ e; exact e
      | cons p l ih =>
        intro ks hl e
        obtain ⟨p0, p1⟩ := hl p (.head _)
        exact ih _ (fun q hq => hl q (.tail _ hq)) (by rw [lay_length p0 (by rw [e]; (clear hz hp hi hrz lo kk up up4 ih hl e p0; omega)), e])
    rw [this parts _ (fun p hpm => ?_) (by simp)]
    · exact Int.toNat_le.mpr h1
    · obtain ⟨i, hi'⟩ := List.getElem?_of_mem hpm
      obtain ⟨x', hx'⟩ : ∃ x, items[i]? = some x := ⟨items[i]'(by have := (List.getElem?_eq_some_iff.mp hi').1; exact Nat.lt_of_lt_of_eq this hp), by simp⟩
      obtain ⟨q0, q1, _⟩ := hi i x' p hx' hi'
      exact ⟨q0, q1⟩
  refine baG F N (by rw [show c.size = (bI c).length from (KBw.ints_length c).symm, sizeLine_eq]; exact Nat.le_trans hcl (Nat.le_add_left 10000 16767216)) ?_
  clear F N; intro M h F N
  replace N := N.perm (Led.front3 _ _ _ _)
  walk_at "og"
  with_reducible refine hY _ (gw_consK fun K hY hV => ?_)
  walk_at "og"
  replace N := N.perm (Led.front3 _ _ _ _)
  walk_at "og"
  with_reducible refine hY _ (gw_consK fun K hY hV => ?_)
  refine wpAny_For ?_ (by intro _; rfl)
  obtain ⟨ddx, des, dk, df, lw, kw, ll, d1, d2, d3, d4, d5, d6, e1, e2, e3, _, e4, e5⟩ := id hd
  walk_at "og"
  refine sorted1 Z F N (.tail _ (.tail _ (.tail _ (.tail _ (.tail _ (.tail _ hdi)))))) hido lo ?_
  clear F N; intro ls kls u h t F N
  refine itL F N (.inr ⟨_, .head _, rfl, _, rfl⟩) ?_
  clear F N; intro I o h F N hI hne
  have gi : getL "indexes" es = some (some (.ref d)) := R.at rfl
  have nzI := nz
  refine for_go (turns_list Z.hh ls I (List.toArray [.str "IX" u]) hne) (fun i xs nw => gv xs "self" = some (.ref x) ∧ ∃ io, nw = (ls, listOf (List.toArray [.str "IX" u]) kls) :: (x, instObj 866 dx) :: (dx, dictOf es k) :: (d, io) :: (M, baO c) :: (l, listOf #[] 0) :: (lr', listOf its kr') :: news ∧ ((i = 0 ∧ io = dictOf [] 0) ∨ (i = 1 ∧ ∃ u', io.IsDictOf (strKind PW w) [("IX", .int 1 u')]))) F N hI ⟨rfl, _, rfl, .inl ⟨rfl, rfl⟩⟩ ?_ ?_ ?_ PassesOwn.never (fun _ => rfl)
  · rintro i xs nw ⟨_, io, rfl, _⟩
    exact .inr ⟨_, .head _, rfl, _, rfl⟩
  · clear F N; rintro i v o xs nw h t hlt hv _ ⟨l1, io, rfl, hio⟩ F N
    obtain rfl : i = 0 := by have : i < 1 := hlt; exact Nat.eq_zero_of_le_zero (Nat.le_of_lt_succ hlt)
    obtain rfl : v = .str "IX" u := by simpa using hv.symm
    obtain ⟨_, rfl⟩ : (0 : Nat) = 0 ∧ io = dictOf [] 0 := by rcases hio with h | ⟨h, _⟩; exact h; cases h
    walk_at "og"
    refine setD F (N.perm (List.perm_middle (l₁ := [_, _, _, _]))) empty_isDict (by show 0 ≤ 1000; decide) ?_
    clear F N; intro h t io' F N hio'
    replace N := N.perm (List.perm_middle (l₁ := [_, _, _, _])).symm
    refine wpAny_execs_nil ?_
    exact ⟨_, _, _, _, rfl, F, N, _, rfl, lk_tl (by decide) l1, io', rfl, .inr ⟨rfl, _, hio'⟩⟩
  clear F N; rintro xs nw h t ⟨l1, io, rfl, hio⟩ F N
  obtain ⟨_, u', hio⟩ : (1 : Nat) = 1 ∧ ∃ u', io.IsDictOf (strKind PW w) [("IX", .int 1 u')] := by rcases hio with ⟨h, _⟩ | h; cases h; exact h
  replace N := N.tail
  with_reducible refine hY _ (gw_consK fun K hY hV => ?_)
  walk_at "og"
  replace N := N.perm (Led.front3 _ _ _ _)
  walk_at "og"
  with_reducible refine hY _ (gw_consK fun K hY hV => ?_)
  walk_at "og"
  replace N := N.perm (Led.front3 _ _ _ _)
  walk_at "og"
  with_reducible refine hY _ (gw_consK fun K hY hV => ?_)
  walk_at "og"
  with_reducible refine hY _ (gw_consK fun K hY hV => ?_)
  walk_at "og"
  replace N := N.perm (Led.front3 _ _ _ _)
  walk_at "og"
  refine hY _ (gw_any (wpAny_execs_nil ?_))
  refine RetS.via kk TT F (N.perm (List.perm_middle (l₁ := [_, _, _, _, _, _]))) ⟨rfl, x, M, c, _, io, lr', l, kr', u', [_, _, _, _, _, _, _, _], rfl, rfl, fun E e1 e2 => .mk dx es k PG px pes pk (.head _) (.tail _ (.head _)) (List.mem_append_right _ e1) (List.mem_append_right _ e2) hpd (R.at rfl) (R.at rfl) (R.at rfl) (R.at rfl) (R.at rfl) _ (R.at rfl), hc, ?_, hio, nzI, List.mem_append_right [_, _, _, _, _, _] (.tail _ (.head _)), List.mem_append_right [_, _, _, _, _, _] (.head _)⟩
  exact .tail _ (.tail _ (.tail _ (.tail _ (.tail _ (.head _)))))
end
end Og

-- C29
namespace Og
section
variable (w : World) {news rest : List Ob} {xi sh D W M di dj lr lt T TR : Addr} {nm n0 cat kd : S} {off sz dz d scale : Int} {sgn : Bool} {val b' : Value} {items : List Addr} {b : Array UInt8} {ks vs : List Int} {t1 : Tok}
theorem con_move_to (hw : WorldAt rest W D M di lr lt) (hd : DataAt rest D items dz dj) (hn : Named rest items n0 xi) (hi : ItemAt rest xi nm off sz sh val) (hk : bI b = ks) (hkz : ks.length ≤ 1000000) (ho : 0 ≤ off) (hs0 : 0 ≤ sz) (hfit : off + sz ≤ ks.length) (hR : RefK w TR n0 rest) (hs : ShapeAt rest sh cat sz d scale sgn)
    (hT : (T, tup [.str kd t1, b']) ∈ rest) (hkd : ((Str.ofString "figure") == kd || (Str.ofString "all") == kd) = true) (hv : (vs.length : Int) = sz) (C : ∀ news1, (∀ p ∈ rest, p ∈ news1) → Con w (.ref 763) 8 [.ref T, .ref sh] news1 (Oct vs news1)) :
    ConG w (.ref 938) 9 [.ref W, .ref T, .ref TR] ((M, baO b) :: rest) (fun r news' => ∃ b', An3 (r = .none) (bI b' = lay ks (off, vs)) (news' = (M, baO b') :: rest)) := by
  have up : ∀ p ∈ rest, p ∈ (M, baO b) :: rest := fun p hp => .tail _ hp
  refine ConG.var fun Ψ kk => ?_
  refine enterG (binds := [("world", .ref W), ("operand", .ref T), ("ref", .ref TR)]) (bs := [("ref", .ref TR), ("operand", .ref T), ("world", .ref W)]) (by k_is) (by k_is) (fun s X => BindsTo.of_eq rfl) rfl rfl rfl rfl rfl (by decide) ?_
  intro A base outer g L σ h t Z F N
  obtain ⟨sx, ses, sk, p1, p2, _, s1, _, s2, _, s3, _, s4, s5, s6, _, s7, _, s8, s9⟩ := id hs
  have m1 : tAt g T (List.toArray [.str kd t1, b']) rest := .inr ⟨_, hT, rfl, _, rfl⟩
  with_reducible refine gw_cons (gw_any ?_)
  walk_at "ogs"
  refine Con.ae2 (con_spot_in w (hw.mono up) (hd.mono up) (hn.mono up) (hi.mono up) (.head _) hk hkz hfit (hR.mono up)) Z (by decide) ?_
  intro T2 u1 t
  walk_at "og"
  refine asT3 (Og.Site.hh Z) F N (.inr ⟨_, .head _, rfl, _, rfl⟩) (by kernel_rfl) ?_
  clear F N; intro h t F N
  replace N := N.tail
  walk_at "og"
  with_reducible refine gw_cons (gw_any ?_)
  walk_at "og"
  refine inT2 F N (.inr ⟨_, .head _, rfl, _, rfl⟩) ?_
  rw [hkd]
  replace N := N.tail
  walk_at "ogs"
  refine Con.aq2 (C _ up) Z (by decide) ?_
  intro c tc t hc
  walk_at "og"
  refine gw_cons (gw_Assign_Sub ?_ rfl)
  walk_at "og"
  refine storeG F N hk hc (by exact hkz) ho hs0 hfit hv ?_
  clear F N; intro c' h hc' F N
  refine gw_any (wpAny_execs_nil ?_)
  exact RetS.via kk KtsTurn.refl F N ⟨_, rfl, by rw [hc', lay, hv], rfl⟩
theorem con_move_to_no (hw : WorldAt news W D M di lr lt) (hd : DataAt news D items dz dj) (hn : Named news items n0 xi) (hi : ItemAt news xi nm off sz sh val) (hM : (M, baO b) ∈ news) (hk : bI b = ks) (hkz : ks.length ≤ 1000000) (hfit : off + sz ≤ ks.length) (hR : RefK w TR n0 news)
    (hT : (T, tup [.str kd t1, b']) ∈ news) (hkd : ((Str.ofString "figure") == kd || (Str.ofString "all") == kd) = true) (C : ConE w (.ref 763) 8 [.ref T, .ref sh] news) :
    ConE w (.ref 938) 9 [.ref W, .ref T, .ref TR] news := by
  skip
  refine enterE (binds := [("world", .ref W), ("operand", .ref T), ("ref", .ref TR)]) (bs := [("ref", .ref TR), ("operand", .ref T), ("world", .ref W)]) (by k_is) (by k_is) (fun s X => BindsTo.of_eq rfl) rfl rfl rfl rfl rfl (by decide) ?_
  intro A base outer g L σ h t Z F N
  have m1 : tAt g T (List.toArray [.str kd t1, b']) news := .inr ⟨_, hT, rfl, _, rfl⟩
  walk_at "ogs"
  refine Con.ae2 (con_spot_in w hw hd hn hi hM hk hkz hfit hR) Z (by decide) ?_
  intro T2 u1 t
  walk_at "og"
  refine asT3 (Og.Site.hh Z) F N (.inr ⟨_, .head _, rfl, _, rfl⟩) (by kernel_rfl) ?_
  clear F N; intro h t F N
  replace N := N.tail
  walk_at "og"
  refine inT2 F N (.inr ⟨_, .head _, rfl, _, rfl⟩) ?_
  rw [hkd]
  replace N := N.tail
  walk_at "og"
  exact ConE.use C Z F N (by decide) fun p hp => hp
end
end Og

-- C30
namespace Og
-- figures by powers
theorem rst_eq {v : Int} (h : 0 ≤ v) : ∀ i, rst v i = v / 10 ^ i
  | 0 => by rw [Int.pow_zero, Int.ediv_one]; rfl
  | i + 1 => by
    show (rst v i).fdiv 10 = _
    rw [Int.fdiv_eq_ediv_of_nonneg _ (by decide), rst_eq h i, Int.pow_succ, Int.ediv_ediv_of_nonneg (Int.le_of_lt (Int.pow_pos (by decide)))]
theorem low_get (v : Int) : ∀ (d i : Nat), i < d → (low v d)[i]? = some ((rst v i).fmod 10)
  | 0, i, h => absurd h (Nat.not_lt_zero _)
  | d + 1, i, h => by
    show (low v d ++ _)[i]? = _
    by_cases q : i < d
    · rw [List.getElem?_append_left (by rw [low_length]; exact q)]; exact low_get v d i q
    · obtain rfl : i = d := by exact Nat.eq_of_lt_succ_of_not_lt h q
      rw [List.getElem?_append_right (by rw [low_length]; exact Nat.le_refl _), low_length, Nat.sub_self]; rfl
theorem codes_get {v : Int} (h : 0 ≤ v) {d i : Nat} (hi : i < d) : (codes v d)[i]? = some (48 + (v.fdiv (10 ^ (d - 1 - i))).fmod 10) := by
  rw [codes, List.getElem?_map, figs, List.getElem?_reverse (by rw [low_length]; exact hi), low_length, low_get v d _ (by exact Nat.sub_one_sub_lt_of_lt hi), rst_eq h, Int.fdiv_eq_ediv_of_nonneg _ (Int.le_of_lt (Int.pow_pos (by decide)))]
  rfl
theorem ki_set_some (v : Value) : ∀ (l : List Value) (j : Nat), j < l.length → ki_setL l j v = some (l.set j v)
  | [], j, h => absurd h (Nat.not_lt_zero _)
  | _ :: r, 0, _ => rfl
  | x :: r, j + 1, h => by
    unfold ki_setL
    rw [ki_set_some v r j (Nat.lt_of_succ_lt_succ h)]; rfl
section
variable {w : World} {A : Around} {h₀ h : Heap} {L l : Addr} {σ : Shared} {t k : Nat} {m : S → Option Value} {news : List Ob} {E : Value → Shared → Prop} {value slice : Expr} {vs : List Value} {ns : List Int} {u ux : Tok} {x : Int}
/-- the last of a list of ints -/
theorem lgN {Q : Value → Shared → Prop} (N : Led h₀ L h news) (hm : (l, listOf vs.toArray k) ∈ news) (hi : IntsAre vs ns) (h0 : 1 ≤ ns.length) (H : ∀ u, Q (.int (ns.getD (ns.length - 1) 0) u) (st σ h t))
    (hs : subscripted slice false (.ref l) (.int (-1) u) = operate [.ref l, .int (-1) u] (getItem (.ref l) (.int (-1) u))) : wpAny (model PW w) A (subscriptTail value slice (.ref l) (.int (-1) u)) Q E (st σ h t) := by
  have hl : h.IsList l vs.toArray := PySem.IsL.isList (n := k) (N.n _ hm).1
  have hz : vs.toArray.size = ns.length := by rw [List.size_toArray, hi.length]
  obtain ⟨v, hv⟩ : ∃ v, vs[ns.length - 1]? = some v := ⟨_, List.getElem?_eq_getElem (by rw [hi.length]; exact Nat.sub_one_lt_of_lt h0)⟩
  obtain ⟨c, tc, rfl, hc⟩ := Og.IntsAre.at hi hv
  have := H tc
  rw [List.getD_eq_getElem?_getD, hc, Option.getD_some] at this
  exact tail_any (s := st σ h t) hl.typeIs slot_list_getitem.lookup (PySem.wpAny_getItem_list_neg (s := st σ h t) hl (by decide) (by rw [hz]; omega) (by decide) (x := .int c tc) (by rw [hz, show (-1 + (ns.length : Int)).toNat = ns.length - 1 by (clear H; omega)]; simpa using hv) this) hs
theorem lsN {Q : Unit → Shared → Prop} (F : Fr h₀ L h m) (N : Led h₀ L h ((l, listOf vs.toArray k) :: news)) (hi : IntsAre vs ns) (h0 : 1 ≤ ns.length)
    (H : ∀ ws h, IntsAre ws (ns.set (ns.length - 1) x) → Fr h₀ L h m → Led h₀ L h ((l, listOf ws.toArray k) :: news) → Q () (st σ h t)) : wpAny (model PW w) A (setItem (.ref l) (.int (-1) u) (.int x ux)) Q E (st σ h t) := by
  have hz : vs.length = ns.length := hi.length
  refine ki_setNeg (s := st σ h t) (j := ns.length - 1) F N.n (by decide) (by decide) ?_ (ki_set_some _ _ _ (by rw [hz]; exact Nat.sub_one_lt_of_lt h0)) (.head N.off) fun h' F' N' => H _ h' (ints_set hi _) F' ⟨N', N.d⟩
  rw [List.size_toArray, hz, PySem.seqIndex_neg (by decide) (by omega)]
  congr 1; (clear H; omega)
end
theorem txI {w : World} {A : Around} {h : Heap} {σ : Shared} {t : Nat} {E Q : Value → Shared → Prop} {value slice : Expr} {x : S} {i : Int} {tx u : Tok} (hx : x.length = 10) (h0 : 0 ≤ i) (h1 : i < 10) (H : ∀ u t, Q (.str (PySem.Txt.item x i) u) (st σ h t))
    (hs : subscripted slice false (.str x tx) (.int i u) = operate [.str x tx, .int i u] (getItem (.str x tx) (.int i u))) (ht : ∀ r, letTemporaryGo value (.str x tx) r = pure ()) : wpAny (model PW w) A (subscriptTail value slice (.str x tx) (.int i u)) Q E (st σ h t) :=
  PyProof.Rows.item_str (s := st σ h t) (fitsSsize_of (N := 100) (by omega) (by exact Int.lt_of_lt_of_le h1 (Int.ofNat_le.mpr (Nat.le_add_left 10 90))) (by decide)) (by rw [hx]; omega) (by rw [hx]; exact Int.lt_of_add_one_le h1) (fun _ => H _ _) hs ht
theorem minus_txt : ∀ j : Nat, j < 10 → (((PySem.Txt.item ("}JKLMNOPQR" : S) (j : Int)).cps.getD 0 0 : Nat) : Int) = minusR.getD j 0 ∧ (PySem.Txt.item ("}JKLMNOPQR" : S) (j : Int)).length = 1 := by decide +kernel
theorem plus_txt : ∀ j : Nat, j < 10 → (((PySem.Txt.item ("{ABCDEFGHI" : S) (j : Int)).cps.getD 0 0 : Nat) : Int) = plusR.getD j 0 ∧ (PySem.Txt.item ("{ABCDEFGHI" : S) (j : Int)).length = 1 := by decide +kernel
theorem con_law_signed (w : World) {news : List Ob} (v : Int) (tv : Tok) (d : Nat) (td : Tok) (s : Bool) (h0 : 1 ≤ d) (h1 : d ≤ 9) :
    Con w (.ref 994) 1 [.int v tv, .int d td, .bool s] news (fun r news' => (∃ t, r = .bytes (byteArr (disp s d v)) t) ∧ news' = news) := by
  refine Con.var fun Ψ kk => ?_
  refine enterC (binds := [("units", .int v tv), ("digits", .int d td), ("is_signed", .bool s)]) (bs := [("is_signed", .bool s)]) (by k_is) (by k_is) (fun s X => BindsTo.of_eq rfl) (by intro n x hx; simp only [List.mem_cons, List.not_mem_nil, or_false] at hx; rcases hx with rfl | rfl | rfl <;> first | exact .inl rfl | exact .inr ⟨rfl, rfl⟩) (by decide +kernel) (cellsL2 (by intro L; rfl)) (by intro L; rfl) rfl rfl rfl ?_
  intro A base outer g L σ h t cells Z F hC N
  obtain ⟨o2, o1, rfl, k2, k1⟩ := CellsAre.two hC
  dsimp only [List.cons_append, List.nil_append] at N
  walk_at "og"
  refine itRg F N (by decide) (by decide) (by exact Int.neg_ofNat_le_natCast 100000000 d) (by exact Int.ofNat_le.mpr (Nat.le_trans h1 (Nat.le_add_left 9 99999991))) ?_
  clear F N; intro I o h F N hIt
  refine comp_goA (turns_range Z.hh I 0 _) (fun i ys nw => IntsAre ys ((codes (iabs v) d).take i) ∧ nw = (L + 1 + 1, o2) :: (L + 1, o1) :: news) (by decide) (by rfl) (by rfl) (by rw [sizeLine_eq]; omega) (by rfl) (by rfl) F N hIt ⟨.nil, rfl⟩ ?_ ?_ ?_
  · rintro i ys nw ⟨a, rfl⟩
    exact ⟨trivial, by rw [a.length]; exact List.length_take_le _ _⟩
  · clear F N hIt; rintro i v' ys o nw h t C oC D m₂ E hi ⟨ti, rfl⟩ hIt ⟨hys, rfl⟩ F N cO cV
    have hi' : i < d := by exact Nat.lt_of_succ_le hi
    walk_at "ogs"
    refine apowI (by omega) ?_ ?_
    · have e : (Builtin.Int.intBits 10 : Int) = 4 := by decide +kernel
      rw [e]; omega
    intro u t
    have ep : (d - 1 - (0 + (i : Int))).toNat = d - 1 - i := by (clear h0 h1 kk hi; omega)
    rw [ep]
    have hp : ((10 : Int) ^ (d - 1 - i)).natAbs < 1073741824 := by
      rw [Int.natAbs_pow]
      exact Nat.lt_of_le_of_lt (Nat.pow_le_pow_right (by decide) (show d - 1 - i ≤ 8 by omega)) (by decide)
    refine adivI (Int.ne_of_gt (Int.pow_pos (by decide))) (PyProof.noPylong_small hp) ?_
    intro u t
    walk_at "og"
    exact CStep.intro F N ⟨_, rfl, by rw [List.take_add_one, codes_get (iabs_nonneg v) hi']; exact Og.IntsAre.snoc hys, rfl⟩
  · clear F N hIt; rintro D ys nw h t F N ⟨hys, rfl⟩
    have hlen := codes_length (iabs v) d
    rw [List.take_of_length_le (by exact Nat.le_of_eq hlen)] at hys
    cases s
    · walk_at "ogs"
      refine amkB Z.hh (.inr ⟨_, .head _, rfl, _, rfl⟩) hys (codes_in _ _) (by rw [hlen]; exact Nat.le_trans h1 (Nat.le_add_left 9 16777207)) ?_
      intro u t
      walk_at "og"
      exact Ret.via kk F N.tail.tail.tail ⟨⟨_, rfl⟩, rfl⟩
    · walk_at "ogs"
      have hpl : ((codes (iabs v) d).getD (d - 1) 0) ∈ codes (iabs v) d := by
        rw [List.getD_eq_getElem?_getD, List.getElem?_eq_getElem (by rw [hlen]; exact Nat.sub_one_lt_of_lt h0), Option.getD_some]
        exact List.getElem_mem _
      have hcm := codes_mem hpl
      have hl : ((codes (iabs v) d).getD ((codes (iabs v) d).length - 1) 0) = (codes (iabs v) d).getD (d - 1) 0 := by rw [hlen]
      refine asplit (fun hb => ?_) (fun hb => ?_)
      · walk_at "og"
        refine lgN N (.head _) hys (by exact Nat.le_trans h0 (Nat.le_of_eq (Eq.symm hlen))) ?_ (by with_unfolding_all rfl)
        intro u
        rw [hl]
        walk_at "og"
        refine txI (by decide) (by omega) (by omega) ?_ (by with_unfolding_all rfl) (fun _ => by with_unfolding_all rfl)
        intro u t
        walk_at "og"
        refine PySem.W.KTb.ord_sign (s := st σ h t) (n := 10) (zs := minusR) (by omega) (by omega) minus_txt fun u t => ?_
        walk_at "og"
        refine lsN F N hys (by exact Nat.le_trans h0 (Nat.le_of_eq (Eq.symm hlen))) ?_
        clear F N hys; intro ws h hys F N
        rw [hlen] at hys
        walk_at "ogs"
        refine amkB Z.hh (.inr ⟨_, .head _, rfl, _, rfl⟩) hys (in_set (codes_in _ _) (row_in (by decide) _)) (by rw [List.length_set, hlen]; exact Nat.le_trans h1 (Nat.le_add_left 9 16777207)) ?_
        intro u t
        walk_at "og"
        exact Ret.via kk F N.tail.tail.tail ⟨⟨_, by unfold disp; rw [if_pos rfl, if_pos (of_decide_eq_true hb)]; rfl⟩, rfl⟩
      · walk_at "og"
        refine lgN N (.head _) hys (by exact Nat.le_trans h0 (Nat.le_of_eq (Eq.symm hlen))) ?_ (by with_unfolding_all rfl)
        intro u
        rw [hl]
        walk_at "og"
        refine txI (by decide) (by omega) (by omega) ?_ (by with_unfolding_all rfl) (fun _ => by with_unfolding_all rfl)
        intro u t
        walk_at "og"
        refine PySem.W.KTb.ord_sign (s := st σ h t) (n := 10) (zs := plusR) (by omega) (by omega) plus_txt fun u t => ?_
        walk_at "og"
        refine lsN F N hys (by exact Nat.le_trans h0 (Nat.le_of_eq (Eq.symm hlen))) ?_
        clear F N hys; intro ws h hys F N
        rw [hlen] at hys
        walk_at "ogs"
        refine amkB Z.hh (.inr ⟨_, .head _, rfl, _, rfl⟩) hys (in_set (codes_in _ _) (row_in (by decide) _)) (by rw [List.length_set, hlen]; exact Nat.le_trans h1 (Nat.le_add_left 9 16777207)) ?_
        intro u t
        walk_at "og"
        exact Ret.via kk F N.tail.tail.tail ⟨⟨_, by unfold disp; rw [if_pos rfl, if_neg (of_decide_eq_false hb)]; rfl⟩, rfl⟩
end Og

-- C31
namespace Og
-- how many figures a number is written with
theorem core_len : ∀ (fuel n k f : Nat) (v : Int) (ds : List Char), ds.length = k → n / 10 ≤ fuel → n / 10 ≤ f → (((Nat.toDigitsCore 10 (fuel + 1) n ds).length : Nat) : Int) = nfig v f ((k + 1 : Nat) : Int) ((n / 10 : Nat) : Int)
  | fuel, n, k, f, v, ds, hk, h1, h2 => by
    unfold Nat.toDigitsCore
    simp only
    by_cases q : n / 10 = 0
    · rw [if_pos q, q, List.length_cons, hk]
      cases f <;> simp [nfig]
    · rw [if_neg q]
      obtain ⟨fuel', rfl⟩ : ∃ k, fuel = k + 1 := ⟨fuel - 1, by (clear hk h2; omega)⟩
      obtain ⟨f', rfl⟩ : ∃ k, f = k + 1 := ⟨f - 1, by (clear hk h1; omega)⟩
      rw [core_len fuel' (n / 10) (k + 1) f' v _ (by rw [List.length_cons, hk]) (by omega) (by (clear hk q h1; omega))]
      conv => rhs; unfold nfig
      rw [if_pos (by exact Int.ofNat_lt.mpr (Nat.pos_of_ne_zero q)), Int.fdiv_eq_ediv_of_nonneg _ (by decide)]
      congr 1
theorem text_len {a : Int} (h : 0 ≤ a) : ((Str.ofString (toString a)).length : Int) = nfig a a.toNat 1 (a.fdiv 10) := by
  obtain ⟨n, rfl⟩ := Int.eq_ofNat_of_zero_le h
  rw [PyProof.Rows.ofString_len]
  show (((Nat.repr n).length : Nat) : Int) = _
  have := core_len n n 0 n (n : Int) [] rfl (Nat.div_le_self _ _) (Nat.div_le_self _ _)
  rw [Int.fdiv_eq_ediv_of_nonneg _ (by decide), Int.toNat_natCast]
  rw [show Nat.repr n = String.ofList (Nat.toDigits 10 n) from rfl, String.length_ofList]
  exact this
/-- the table of the figures -/
noncomputable def FigD (w : World) (o : Obj) : Prop := Ex5 fun (u1 u2 u3 u4 u5 : Tok) => Ex5 fun (t1 t2 t3 t4 t5 : Tok) => o.IsDictOf (PySem.strKind PW w) (strPairs [(.str "ZERO" u1, .bytes (List.toArray [48]) t1), (.str "SPACE" u2, .bytes (List.toArray [32]) t2), (.str "HIGH" u3, .bytes (List.toArray [255]) t3), (.str "LOW" u4, .bytes (List.toArray [0]) t4), (.str "QUOTE" u5, .bytes (List.toArray [34]) t5)])
theorem con_law_FIGURES (w : World) {news : List Ob} : Con w (.ref 982) 1 [] news (fun r news' => Ex2 fun d o => An3 (r = .ref d) (news' = (d, o) :: news) (FigD w o)) := by
  refine Con.var fun Ψ kk => ?_
  refine enter (binds := []) (bs := []) (by k_is) (by k_is) (fun s X => BindsTo.of_eq rfl) rfl rfl rfl rfl rfl (by decide) ?_
  intro A base outer g L σ h t Z F N
  walk_at "og"
  exact Ret.via kk F N ⟨_, _, rfl, rfl, _, _, _, _, _, _, _, _, _, _, hdict⟩
noncomputable def fld (ks : List Int) (n : Nat) : List Int := ((List.replicate n ks).flatten).take n
theorem flat_take (ks : List Int) {a c n : Nat} (h : n ≤ a * ks.length) : ((List.replicate (a + c) ks).flatten).take n = ((List.replicate a ks).flatten).take n := by
  rw [← List.replicate_append_replicate, List.flatten_append, List.take_append_of_le_length (by rw [List.length_flatten, List.map_replicate, List.sum_replicate_nat]; exact h)]
theorem fld_cyc {ks : List Int} (h : ks ≠ []) (n : Nat) : fld ks n = cyc ks n := by
  have hl : 0 < ks.length := List.length_pos_iff.mpr h
  have h1 : n ≤ n * ks.length := Nat.le_mul_of_pos_right _ hl
  have h2 : n ≤ (n / ks.length + 1) * ks.length := by
    have := Nat.div_add_mod n ks.length
    have := Nat.mod_lt n hl
    rw [Nat.add_mul, Nat.one_mul, Nat.mul_comm]; omega
  unfold fld cyc
  rw [← flat_take (c := n / ks.length + 1) ks h1, ← flat_take (c := n) ks h2, Nat.add_comm]
section
variable (w : World) {news : List Ob} {T : Addr} {b : Array UInt8} {ks : List Int} {t1 t2 ts tu : Tok} {x : S} {c uu s : Int}
theorem con_law_filled_all (hT : (T, tup [.str "all" t1, .bytes b t2]) ∈ news) (hk : bI b = ks) (h0 : ks ≠ []) (hz : ks.length ≤ 16) (n : Nat) (hn : n ≤ 1000) : Con w (.ref 1036) 2 [.ref T, .int (n : Int) ts] news (fun r news' => (Ex2 fun c t => r = .bytes c t ∧ bI c = cyc ks n) ∧ news' = news) := by
  refine Con.var fun Ψ kk => ?_
  refine enter (binds := [("operand", .ref T), ("size", .int (n : Int) ts)]) (bs := [("size", .int (n : Int) ts), ("operand", .ref T)]) (by k_is) (by k_is) (fun s X => BindsTo.of_eq rfl) rfl rfl rfl rfl rfl (by decide) ?_
  intro A base outer g L σ h t Z F N
  have m1 : tAt g T (List.toArray [.str "all" t1, .bytes b t2]) news := .inr ⟨_, hT, rfl, _, rfl⟩
  walk_at "og"
  refine mulB hk h0 hz (by exact Int.neg_ofNat_le_natCast 1048576 n) (by exact Int.ofNat_le.mpr (Nat.le_trans hn (Nat.le_add_left 1000 1047576))) ?_
  intro c u t hc
  rw [Int.toNat_natCast] at hc
  walk_at "ogs"
  refine aslB hc .none (.int _ _) ?_ ?_ (fun _ => by with_unfolding_all rfl) (fun _ => by with_unfolding_all rfl)
  · rw [List.length_flatten, List.map_replicate, List.sum_replicate_nat]
    have : n * ks.length ≤ 1000 * 16 := Nat.mul_le_mul hn hz
    exact Nat.le_trans this (Nat.le_add_left (1000 * 16) 16761216)
  intro c u t hc
  walk_at "og"
  refine Ret.via kk F N ⟨⟨_, _, rfl, ?_⟩, rfl⟩
  rw [hc, ← fld_cyc h0]
  show (List.drop 0 _).take (clipAt _ (n : Int) - 0) = _
  rw [List.drop_zero, Nat.sub_zero, clipAt_nat]
  unfold fld
  rw [← List.take_take, List.take_length]
theorem con_law_filled_fig (hT : (T, tup [.str "figure" t1, .str x t2]) ∈ news) (hx : (x, c) ∈ figT) (n : Nat) (hn : n ≤ 1000) : Con w (.ref 1036) 2 [.ref T, .int (n : Int) ts] news (fun r news' => (Ex2 fun b t => r = .bytes b t ∧ bI b = cyc [c] n) ∧ news' = news) := by
  refine Con.var fun Ψ kk => ?_
  refine enter (binds := [("operand", .ref T), ("size", .int (n : Int) ts)]) (bs := [("size", .int (n : Int) ts), ("operand", .ref T)]) (by k_is) (by k_is) (fun s X => BindsTo.of_eq rfl) rfl rfl rfl rfl rfl (by decide) ?_
  intro A base outer g L σ h t Z F N
  have m1 : tAt g T (List.toArray [.str "figure" t1, .str x t2]) news := .inr ⟨_, hT, rfl, _, rfl⟩
  walk_at "og"
  refine Con.use (con_law_FIGURES w) Z F N (by decide) ?_
  clear F N; rintro r news' h t ⟨d, o, rfl, rfl, u1, u2, u3, u4, u5, v1, v2, v3, v4, v5, hdict⟩ F N
  walk_at "og"
  refine tS (dgFig N hdict hx ?_ (by with_unfolding_all rfl))
  intro b tb t hb
  walk_at "og"
  refine mulB hb (by simp) (by simp) (by exact Int.neg_ofNat_le_natCast 1048576 n) (by exact Int.ofNat_le.mpr (Nat.le_trans hn (Nat.le_add_left 1000 1047576))) ?_
  intro c' u t hc
  rw [Int.toNat_natCast] at hc
  walk_at "ogs"
  refine aslB hc .none (.int _ _) ?_ ?_ (fun _ => by with_unfolding_all rfl) (fun _ => by with_unfolding_all rfl)
  · rw [List.length_flatten, List.map_replicate, List.sum_replicate_nat]
    simp; exact Nat.le_trans hn (Nat.le_add_left 1000 16776216)
  intro c' u t hc
  walk_at "og"
  refine Ret.via kk F N.tail ⟨⟨_, _, rfl, ?_⟩, rfl⟩
  rw [hc, ← fld_cyc (by simp)]
  show (List.drop 0 _).take (clipAt _ (n : Int) - 0) = _
  rw [List.drop_zero, Nat.sub_zero, clipAt_nat]
  unfold fld
  rw [← List.take_take, List.take_length]
theorem con_law_number_due (hT : (T, tup [.int uu tu, .int s ts]) ∈ news) (hu : iabs uu < 10 ^ 9) (h1 : (ndig uu s) ≤ 9) (h0 : 1 ≤ ndig uu s) :
    Con w (.ref 1029) 2 [.ref T] news (fun r news' => Ex5 fun T' t1 t2 t3 t4 => r = .ref T' ∧ news' = (T', tup [.str "numeric" t1, .int (ndig uu s) t2, .int s t3, .bool (decide (uu < 0)), .bytes (byteArr (disp (decide (uu < 0)) (ndig uu s).toNat uu)) t4]) :: news) := by
  refine Con.var fun Ψ kk => ?_
  refine enter (binds := [("worth", .ref T)]) (bs := [("worth", .ref T)]) (by k_is) (by k_is) (fun s X => BindsTo.of_eq rfl) rfl rfl rfl rfl rfl (by decide) ?_
  intro A base outer g L σ h t Z F N
  have m1 : tAt g T (List.toArray [.int uu tu, .int s ts]) news := .inr ⟨_, hT, rfl, _, rfl⟩
  have hi := iabs_nonneg uu
  walk_at "og"
  refine P.str_of_int (s := st σ h t) ?_ ?_
  · have : (iabs uu).natAbs < 2 ^ 30 := by omega
    by_cases q : (iabs uu).natAbs = 0
    · rw [q]; decide
    · exact Nat.lt_trans ((Nat.log2_lt q).mpr this) (by decide)
  walk_at "og"
  refine P.len_str (s := st σ h _) ?_ ?_
  · rw [text_len hi]
    have : (nfig (iabs uu) (iabs uu).toNat 1 ((iabs uu).fdiv 10)) ≤ ndig uu s := by unfold ndig; exact Int.le_max_left (nfig (iabs uu) (iabs uu).toNat 1 ((iabs uu).fdiv 10)) s
    omega
  rw [text_len hi]
  walk_at "og"
  have hd : max (nfig (iabs uu) (iabs uu).toNat 1 ((iabs uu).fdiv 10)) s = (((ndig uu s).toNat : Nat) : Int) := by show ndig uu s = _; omega
  rw [hd]
  walk_at "ogs"
  refine Con.au1 (con_law_signed w _ _ _ _ _ (by omega) (by exact Int.toNat_le.mpr h1)) Z (by decide) ?_
  intro _ t
  walk_at "og"
  rw [show (((ndig uu s).toNat : Nat) : Int) = ndig uu s by omega] at N
  exact Ret.via kk F N ⟨_, _, _, _, _, rfl, rfl⟩
end
end Og

-- C32
namespace Og
theorem upd_at {d : Addr} {o o' : Obj} : ∀ {pre post : List Ob}, (∀ p ∈ pre, p.1 ≠ d) → (∀ p ∈ post, p.1 ≠ d) → Upd d o o' (pre ++ (d, o) :: post) (pre ++ (d, o') :: post)
  | [], _, _, h => .head h
  | _ :: _, _, h, h' => .tail (h _ (.head _)) (upd_at (fun q hq => h q (.tail _ hq)) h')
section
variable {w : World} {n k : Nat} {A : Around} {base h₀ h : Heap} {outer : List Env} {L x dx C : Addr} {σ : Shared} {t : Nat} {m : S → Option Value} {E : Value → Shared → Prop} {env : Env} {es : List DictEntry} {fs : List (S × Value)} {name : S} {v : Value}
/-- an attribute is set, the object's dict anywhere in the ledger -/
theorem sRp {Q : Unit → Shared → Prop} (pre : List Ob) {post : List Ob} (ok : StOk w C name) (Z : Site w n A base outer env L h₀) (F : Fr h₀ L h m) (N : Led h₀ L h (pre ++ (dx, dictOf es k) :: post)) (hi : (x, instObj C dx) ∈ pre ++ (dx, dictOf es k) :: post) (R : Rec es fs) (hz : fs.length ≤ 999)
    (H : ∀ h t es k, Rec es ((name, v) :: fs) → Fr h₀ L h m → Led h₀ L h (pre ++ (dx, dictOf es k) :: post) → Q () (st σ h t)) : wpAny (model PW w) A (setAttr (.ref x) name v) Q E (st σ h t) := by
  have M := Led.ne N
  exact set_dict (s := st σ h t) (es' := putL name (PyData.keyHash w.params name) (.str name (t + 1)) v es) (n' := putN name es k) F Z.X N.n (InstAt.of_news N.n hi (List.mem_append_right _ (.head _))) rfl ok.s ok.p ok.t ok.d (R.known name) rfl (upd_at M.1 M.2) (Nat.le_trans (putL_len es) (by have := R.len; exact Nat.succ_le_succ (Nat.le_trans this hz))) fun h' F' N' => H h' _ _ _ (R.put ..) F' (Led.set N N')
end
theorem dec_ok : ∀ (n : Nat) (u s : Int), 0 ≤ s → s.toNat = n → (dec n u s).1 * 10 ^ (s - (dec n u s).2).toNat = u ∧ 0 ≤ (dec n u s).2 ∧ (dec n u s).2 ≤ s
  | 0, u, s, h0, hn => by
    show u * 10 ^ (s - s).toNat = u ∧ 0 ≤ s ∧ s ≤ s
    rw [Int.sub_self, show (0 : Int).toNat = 0 from rfl, Int.pow_zero, Int.mul_one]; omega
  | n + 1, u, s, h0, hn => by
    unfold dec
    by_cases q : s > 0 ∧ u.fmod 10 = 0
    · rw [if_pos q]
      obtain ⟨a, b, c⟩ := dec_ok n (u.fdiv 10) (s - 1) (by omega) (by (clear h0; omega))
      refine ⟨?_, b, by (clear h0 hn q a b; omega)⟩
      have e : (s - (dec n (u.fdiv 10) (s - 1)).2).toNat = (s - 1 - (dec n (u.fdiv 10) (s - 1)).2).toNat + 1 := by (clear h0 hn q a b; omega)
      rw [e, Int.pow_succ, ← Int.mul_assoc, a]
      have := q.2
      rw [Int.fmod_eq_emod_of_nonneg _ (by decide)] at this
      rw [Int.fdiv_eq_ediv_of_nonneg _ (by decide)]
      exact Int.ediv_mul_cancel_of_emod_eq_zero this
    · rw [if_neg q]
      show u * 10 ^ (s - s).toNat = u ∧ 0 ≤ s ∧ s ≤ s
      rw [Int.sub_self, show (0 : Int).toNat = 0 from rfl, Int.pow_zero, Int.mul_one]; omega
/-- what the law's world tells -/
inductive LawW (w : World) (rest : List Ob) (W M : Addr) (ln d : Nat) (sc : Int) (sg : Bool) (its : Array Value) : Prop where
  | mk (D di lr lt xw xn xm sw sn sm dj : Addr) (io : Obj) (u : Tok) (kr : Nat) (vw vn vm : Value) (hw : WorldAt rest W D M di lr lt) (hd : DataAt rest D [xw, xn, xm] (ln + d + 1) dj)
    (iw : ItemAt rest xw "WORDS" 0 ln sw vw) (iN : ItemAt rest xn "NUM" ln d sn vn) (im : ItemAt rest xm "MARKED" (ln + d) 1 sm vm) (n1 : xw ≠ xn) (n2 : xw ≠ xm) (n3 : xn ≠ xm)
    (hsw : ShapeAt rest sw "alphanumeric" ln 0 0 false) (hsn : ShapeAt rest sn "numeric" d d sc sg) (nsp : NoAttr rest sn 525 "sign_place") (hdi : (di, io) ∈ rest) (hio : io.IsDictOf (PySem.strKind PW w) [("IX", .int 1 u)]) (lo : di ≠ sysModules)
    (hlr : (lr, listOf its kr) ∈ rest) (hlt : (lt, listOf #[] 0) ∈ rest)
theorem Led.name {h₀ h : Heap} {L : Addr} (B : List Ob) {C : List Ob} (N : Led h₀ L h (B ++ C)) : ∃ nw, (∀ p ∈ B, p ∈ nw) ∧ Led h₀ L h (nw ++ C) := ⟨B, fun _ h => h, N⟩
theorem Led.split5 {h₀ h : Heap} {L : Addr} {a b c d e : Ob} (B : List Ob) {C : List Ob} (N : Led h₀ L h (a :: b :: c :: d :: e :: (B ++ C))) : ∃ nw, (∀ p ∈ B, p ∈ nw) ∧ Led h₀ L h (a :: b :: c :: d :: e :: (nw ++ C)) := ⟨B, fun _ h => h, N⟩
theorem Led.push {h₀ h : Heap} {L : Addr} (A D : List Ob) {R C : List Ob} (N : Led h₀ L h (A ++ (D ++ (R ++ C)))) : ∃ R', An3 (∀ p ∈ A, p ∈ R') (∀ p ∈ R, p ∈ R') (Led h₀ L h (D ++ (R' ++ C))):=
  ⟨A ++ R, fun p hp => List.mem_append_left _ hp, fun p hp => List.mem_append_right _ hp, by rw [List.append_assoc]; exact N.perm (List.perm_append_comm_assoc _ _ _)⟩
theorem lay_app {x y z r : List Int} {i : Int} (hi : i = x.length) (h : y.length = z.length) : lay (x ++ (y ++ r)) (i, z) = x ++ z ++ r := by
  subst hi
  unfold lay
  have e : ((x.length : Int) + (z.length : Int)).toNat = (x ++ y).length := by rw [List.length_append, h]; exact Eq.symm (Nat.add_zero (x.length.add z.length))
  show List.take (x.length : Int).toNat _ ++ z ++ List.drop ((x.length : Int) + (z.length : Int)).toNat _ = _
  rw [e, Int.toNat_natCast, List.take_left, ← List.append_assoc, List.drop_left]
theorem law_mem {a b : List Int} {n m : Nat} (h : n = a.length + b.length + 1) (hm : m = b.length) : ([((0 : Int), a), ((a.length : Int), b), ((a.length : Int) + (m : Int), [32])]).foldl lay (List.replicate n 32) = a ++ b ++ [32] := by
  subst h hm
  have e : List.replicate (a.length + b.length + 1) (32 : Int) = [] ++ (List.replicate a.length 32 ++ (List.replicate b.length 32 ++ [32])) := by
    rw [Nat.add_assoc, ← List.replicate_append_replicate, ← List.replicate_append_replicate]; rfl
  rw [e, List.foldl_cons, lay_app (x := []) (i := 0) (y := List.replicate a.length 32) (z := a) rfl (by simp), List.nil_append, List.foldl_cons, lay_app (x := a) (i := (a.length : Int)) (y := List.replicate b.length 32) (z := b) rfl (by simp), List.foldl_cons, List.foldl_nil]
  have := lay_app (x := a ++ b) (y := [32]) (z := [32]) (r := []) (i := (a.length : Int) + (b.length : Int)) (by simp) rfl
  rw [List.append_nil, List.append_nil] at this
  exact this
set_option maxHeartbeats 8000000 in
theorem con_law_world (w : World) {news : List Ob} {tx : List Int} {b : Array UInt8} {tb td ts tu : Tok} {dg : Nat} {sc uu : Int} {sg : Bool} {lr : Addr} {its : Array Value} {kr : Nat} (hb : bI b = tx) (hz : tx.length ≤ 100) (h0 : 1 ≤ dg) (h1 : dg ≤ 9) (k0 : 0 ≤ sc) (k1 : sc ≤ 9) (hr : (lr, listOf its kr) ∈ news) (hrz : its.size ≤ 1000) :
    ConG w (.ref 1001) 11 [.bytes b tb, .int dg td, .int sc ts, .bool sg, .int uu tu, .ref lr] news (fun r news' => Ex4 fun W M c ext => An4 (r = .ref W) (news' = (M, baO c) :: (ext ++ news)) (bI c = tx ++ disp sg dg (keptU sg dg uu) ++ [32]) (LawW w ext W M tx.length dg sc sg its)) := by
  refine ConG.var fun Ψ kk => ?_
  refine enterG (binds := [("text", .bytes b tb), ("digits", .int dg td), ("scale", .int sc ts), ("is_signed", .bool sg), ("units", .int uu tu), ("rows", .ref lr)]) (bs := [("rows", .ref lr), ("units", .int uu tu), ("is_signed", .bool sg), ("scale", .int sc ts), ("digits", .int dg td), ("text", .bytes b tb)]) (by k_is) (by k_is) (fun s X => BindsTo.of_eq rfl) rfl rfl rfl rfl rfl (by decide) ?_
  intro A base outer g L σ h t Z F N
  obtain ⟨XS, l1, l2, l3, l4, l5, l6, F⟩ : ∃ XS, An4 (gv XS "text" = some (.bytes b tb)) (gv XS "digits" = some (.int (dg : Int) td)) (gv XS "scale" = some (.int sc ts)) (An4 (gv XS "is_signed" = some (.bool sg)) (gv XS "units" = some (.int uu tu)) (gv XS "rows" = some (.ref lr)) (Fr g L h (lk XS))):= ⟨_, rfl, rfl, rfl, rfl, rfl, rfl, F⟩
  with_reducible refine gw_consK fun K hK hR => ?_
  walk_at "og"
  refine Con.use (con_Data w) Z F N (by decide) ?_
  clear F N; rintro r news' h t ⟨D, dD, lw, ll, df, ls, di, eD, kD, fD, rfl, rfl, RD, ⟨_, rfl⟩, ep1, ep2⟩ F N
  walk_at "og"
  obtain ⟨XS, l7, l1, l2, l3, l4, l5, l6, F⟩ : ∃ XS, An5 (gv XS "data" = some (.ref D)) (gv XS "text" = some (.bytes b tb)) (gv XS "digits" = some (.int (dg : Int) td)) (gv XS "scale" = some (.int sc ts)) (An4 (gv XS "is_signed" = some (.bool sg)) (gv XS "units" = some (.int uu tu)) (gv XS "rows" = some (.ref lr)) (Fr g L h (lk XS))):= ⟨_, rfl, lk_tl (by decide) l1, lk_tl (by decide) l2, lk_tl (by decide) l3, lk_tl (by decide) l4, lk_tl (by decide) l5, lk_tl (by decide) l6, F⟩
  with_reducible refine hK _ (gw_consK fun K hK hR => ?_)
  walk_at "og"
  refine Con.use (con_Item w) Z F N (by decide) ?_
  clear F N; rintro r news' h t ⟨xw, dw, lcw, lkw, ew, qw, fw, rfl, rfl, Rw, ⟨_, _, _, _, _, _, _, _, rfl⟩⟩ F N
  walk_at "og"
  refine Con.use (con_Item w) Z F N (by decide) ?_
  clear F N; rintro r news' h t ⟨xn, dn, lcn, lkn, en, qn, fn, rfl, rfl, Rn, ⟨_, _, _, _, _, _, _, _, rfl⟩⟩ F N
  have n1 : xw ≠ xn := N.off (xw, instObj 241 dw) (by walk_at "ogm")
  walk_at "og"
  refine Con.use (con_Item w) Z F N (by decide) ?_
  clear F N; rintro r news' h t ⟨xm, dm, lcm, lkm, em, qm, fm, rfl, rfl, Rm, ⟨_, _, _, _, _, _, _, _, rfl⟩⟩ F N
  have n2 : xw ≠ xm := N.off (xw, instObj 241 dw) (by walk_at "ogm")
  have n3 : xn ≠ xm := N.off (xn, instObj 241 dn) (by walk_at "ogm")
  walk_at "og"
  obtain ⟨XS, l8, l9, l0, l1, l2, l3, l4, l5, l6, l7, F⟩ : ∃ XS, An6 (gv XS "words" = some (.ref xw)) (gv XS "number" = some (.ref xn)) (gv XS "mark" = some (.ref xm)) (gv XS "text" = some (.bytes b tb)) (gv XS "digits" = some (.int (dg : Int) td)) (An6 (gv XS "scale" = some (.int sc ts)) (gv XS "is_signed" = some (.bool sg)) (gv XS "units" = some (.int uu tu)) (gv XS "rows" = some (.ref lr)) (gv XS "data" = some (.ref D)) (Fr g L h (lk XS))):= ⟨_, rfl, rfl, rfl, lk_tl (by decide) (lk_tl (by decide) (lk_tl (by decide) l1)), lk_tl (by decide) (lk_tl (by decide) (lk_tl (by decide) l2)), lk_tl (by decide) (lk_tl (by decide) (lk_tl (by decide) l3)), lk_tl (by decide) (lk_tl (by decide) (lk_tl (by decide) l4)), lk_tl (by decide) (lk_tl (by decide) (lk_tl (by decide) l5)), lk_tl (by decide) (lk_tl (by decide) (lk_tl (by decide) l6)), lk_tl (by decide) (lk_tl (by decide) (lk_tl (by decide) l7)), F⟩
  replace N := Led.front (pre := [_]) N
  dsimp only [List.cons_append, List.nil_append] at N
  replace N := Led.front (pre := [_, _, _, _, _]) N
  dsimp only [List.cons_append, List.nil_append] at N
  replace N := Led.front (pre := [_, _, _, _, _, _, _, _, _]) N
  dsimp only [List.cons_append, List.nil_append] at N
  replace N := Led.front (pre := [_, _, _, _, _, _, _, _, _, _, _, _, _]) N
  dsimp only [List.cons_append, List.nil_append] at N
  replace N := Led.front (pre := [_, _, _, _, _, _, _, _, _, _, _, _, _, _, _, _, _, _]) N
  dsimp only [List.cons_append, List.nil_append] at N
  obtain ⟨R0, all0, N⟩ := Led.split5 [_, _, _, _, _, _, _, _, _, _, _, _, _, _] N
  have gxw : ((xw, instObj 241 dw) : Ob) ∈ R0 := all0 _ (by walk_at "ogm")
  have gxn : ((xn, instObj 241 dn) : Ob) ∈ R0 := all0 _ (by walk_at "ogm")
  have gxm : ((xm, instObj 241 dm) : Ob) ∈ R0 := all0 _ (by walk_at "ogm")
  have gxD : ((D, instObj 267 dD) : Ob) ∈ R0 := all0 _ (by walk_at "ogm")
  have glw : ((lkw, listOf #[] 0) : Ob) ∈ R0 := all0 _ (by walk_at "ogm")
  have gln : ((lkn, listOf #[] 0) : Ob) ∈ R0 := all0 _ (by walk_at "ogm")
  have glm : ((lkm, listOf #[] 0) : Ob) ∈ R0 := all0 _ (by walk_at "ogm")
  have gdf : ((df, dictOf [] 0) : Ob) ∈ R0 := all0 _ (by walk_at "ogm")
  have gll : ((ll, listOf #[] 0) : Ob) ∈ R0 := all0 _ (by walk_at "ogm")
  clear all0
  have qq : ∀ p ∈ R0, p ∈ R0 := fun _ h => h
  with_reducible refine hK _ (gw_consK fun K hK hR => ?_)
  walk_at "ogs"
  refine Con.aq3 (con_text_shape w hb (by exact Nat.le_trans hz (Nat.le_add_left 100 900))) Z (by decide) ?_
  intro sw dsw esw t hesw
  walk_at "ogs"
  refine alenB hb (by exact Nat.le_trans hz (Nat.le_add_left 100 1099511627676)) ?_
  intro u t
  walk_at "og"
  refine asT2 (Og.Site.hh Z) F N (.inr ⟨_, .head _, rfl, _, rfl⟩) (by kernel_rfl) ?_
  clear F N; intro h t F N
  replace N := N.tail
  obtain ⟨RX, pn1, qo1, N⟩ := Led.push [_, _] [_, _, _, _, _] N
  dsimp only [List.cons_append, List.nil_append] at N
  replace qq := fun p hp => qo1 p (qq p hp)
  walk_at "og"
  refine sRp (C := 241) [_, _] ⟨by k_is, by k_is, by k_is, by k_is⟩ Z F N (by repeat (first | exact List.mem_append_left _ (qq _ gxw) | refine List.Mem.tail _ ?_)) Rw (of_decide_eq_true (by kernel_rfl)) ?_
  clear F N Rw; intro h t ew qw Rw F N
  dsimp only [List.cons_append, List.nil_append] at N
  walk_at "og"
  refine sRp (C := 241) [_, _] ⟨by k_is, by k_is, by k_is, by k_is⟩ Z F N (by repeat (first | exact List.mem_append_left _ (qq _ gxw) | refine List.Mem.tail _ ?_)) Rw (of_decide_eq_true (by kernel_rfl)) ?_
  clear F N Rw; intro h t ew qw Rw F N
  dsimp only [List.cons_append, List.nil_append] at N
  with_reducible refine hK _ (gw_consK fun K hK hR => ?_)
  walk_at "og"
  obtain ⟨vw, rfl⟩ : ∃ v, v = l := ⟨_, rfl⟩
  obtain ⟨RX, pn2, qo2, N⟩ := Led.push [_] [_, _, _, _, _] N
  dsimp only [List.cons_append, List.nil_append] at N
  replace qq := fun p hp => qo2 p (qq p hp)
  refine sRp (C := 241) [_, _] ⟨by k_is, by k_is, by k_is, by k_is⟩ Z F N (by repeat (first | exact List.mem_append_left _ (qq _ gxw) | refine List.Mem.tail _ ?_)) Rw (of_decide_eq_true (by kernel_rfl)) ?_
  clear F N Rw; intro h t ew qw Rw F N
  dsimp only [List.cons_append, List.nil_append] at N
  with_reducible refine hK _ (gw_consK fun K hK hR => ?_)
  walk_at "ogs"
  refine Con.aq3 (con_numbered_shape w) Z (by decide) ?_
  intro sn dsn esn t hesn
  walk_at "ogs"
  refine alenB hb (by exact Nat.le_trans hz (Nat.le_add_left 100 1099511627676)) ?_
  intro u t
  walk_at "og"
  refine asT3 (Og.Site.hh Z) F N (.inr ⟨_, .head _, rfl, _, rfl⟩) (by kernel_rfl) ?_
  clear F N; intro h t F N
  replace N := N.tail
  obtain ⟨RX, pn3, qo3, N⟩ := Led.push [_, _] [_, _, _, _, _] N
  dsimp only [List.cons_append, List.nil_append] at N
  replace qq := fun p hp => qo3 p (qq p hp)
  walk_at "og"
  refine sRp (C := 241) [_, _, _] ⟨by k_is, by k_is, by k_is, by k_is⟩ Z F N (by repeat (first | exact List.mem_append_left _ (qq _ gxn) | refine List.Mem.tail _ ?_)) Rn (of_decide_eq_true (by kernel_rfl)) ?_
  clear F N Rn; intro h t en qn Rn F N
  dsimp only [List.cons_append, List.nil_append] at N
  walk_at "og"
  refine sRp (C := 241) [_, _, _] ⟨by k_is, by k_is, by k_is, by k_is⟩ Z F N (by repeat (first | exact List.mem_append_left _ (qq _ gxn) | refine List.Mem.tail _ ?_)) Rn (of_decide_eq_true (by kernel_rfl)) ?_
  clear F N Rn; intro h t en qn Rn F N
  dsimp only [List.cons_append, List.nil_append] at N
  walk_at "og"
  refine sRp (C := 241) [_, _, _] ⟨by k_is, by k_is, by k_is, by k_is⟩ Z F N (by repeat (first | exact List.mem_append_left _ (qq _ gxn) | refine List.Mem.tail _ ?_)) Rn (of_decide_eq_true (by kernel_rfl)) ?_
  clear F N Rn; intro h t en qn Rn F N
  dsimp only [List.cons_append, List.nil_append] at N
  with_reducible refine hK _ (gw_consK fun K hK hR => ?_)
  walk_at "ogs"
  refine Con.ae3 (con_law_decimal w _ _ _ _ k0) Z (by decide) ?_
  intro P tp1 tp2 t
  walk_at "og"
  obtain ⟨vn, rfl⟩ : ∃ v, v = l := ⟨_, rfl⟩
  obtain ⟨RX, pn4, qo4, N⟩ := Led.push [_, _] [_, _, _, _, _] N
  dsimp only [List.cons_append, List.nil_append] at N
  replace qq := fun p hp => qo4 p (qq p hp)
  refine sRp (C := 241) [_, _, _] ⟨by k_is, by k_is, by k_is, by k_is⟩ Z F N (by repeat (first | exact List.mem_append_left _ (qq _ gxn) | refine List.Mem.tail _ ?_)) Rn (of_decide_eq_true (by kernel_rfl)) ?_
  clear F N Rn; intro h t en qn Rn F N
  dsimp only [List.cons_append, List.nil_append] at N
  with_reducible refine hK _ (gw_consK fun K hK hR => ?_)
  walk_at "ogs"
  refine Con.aq3 (con_text_shape w (ks := [63]) (by rfl) (by decide)) Z (by decide) ?_
  intro sm dsm esm t hesm
  walk_at "ogs"
  refine alenB hb (by exact Nat.le_trans hz (Nat.le_add_left 100 1099511627676)) ?_
  intro u t
  walk_at "og"
  refine asT3 (Og.Site.hh Z) F N (.inr ⟨_, .head _, rfl, _, rfl⟩) (by kernel_rfl) ?_
  clear F N; intro h t F N
  replace N := N.tail
  obtain ⟨RX, pn5, qo5, N⟩ := Led.push [_, _] [_, _, _, _, _] N
  dsimp only [List.cons_append, List.nil_append] at N
  replace qq := fun p hp => qo5 p (qq p hp)
  walk_at "og"
  refine sRp (C := 241) [_, _, _, _] ⟨by k_is, by k_is, by k_is, by k_is⟩ Z F N (by repeat (first | exact List.mem_append_left _ (qq _ gxm) | refine List.Mem.tail _ ?_)) Rm (of_decide_eq_true (by kernel_rfl)) ?_
  clear F N Rm; intro h t em qm Rm F N
  dsimp only [List.cons_append, List.nil_append] at N
  walk_at "og"
  refine sRp (C := 241) [_, _, _, _] ⟨by k_is, by k_is, by k_is, by k_is⟩ Z F N (by repeat (first | exact List.mem_append_left _ (qq _ gxm) | refine List.Mem.tail _ ?_)) Rm (of_decide_eq_true (by kernel_rfl)) ?_
  clear F N Rm; intro h t em qm Rm F N
  dsimp only [List.cons_append, List.nil_append] at N
  walk_at "og"
  refine sRp (C := 241) [_, _, _, _] ⟨by k_is, by k_is, by k_is, by k_is⟩ Z F N (by repeat (first | exact List.mem_append_left _ (qq _ gxm) | refine List.Mem.tail _ ?_)) Rm (of_decide_eq_true (by kernel_rfl)) ?_
  clear F N Rm; intro h t em qm Rm F N
  dsimp only [List.cons_append, List.nil_append] at N
  have gD := RD.at (x := "working") (by rfl)
  have hxD := List.mem_append_left news (qq _ gxD)
  with_reducible refine hK _ (gw_consK fun K hK hR => ?_)
  walk_at "og"
  refine exLp (ys := []) (zs := [.ref xw, .ref xn, .ref xm]) [_] F N (.head _) (by simp) ?_
  clear F N gD hxD; intro h kw' F N
  dsimp only [List.cons_append, List.nil_append] at N
  replace N := N.tail
  walk_at "og"
  with_reducible refine hK _ (gw_consK fun K hK hR => ?_)
  walk_at "ogs"
  refine alenB hb (by exact Nat.le_trans hz (Nat.le_add_left 100 1099511627676)) ?_
  intro u t
  walk_at "og"
  refine sRp (C := 267) [_] ⟨by k_is, by k_is, by k_is, by k_is⟩ Z F N (by repeat (first | exact List.mem_append_left _ (qq _ gxD) | refine List.Mem.tail _ ?_)) RD (of_decide_eq_true (by kernel_rfl)) ?_
  clear F N RD; intro h t eD kD RD F N
  dsimp only [List.cons_append, List.nil_append] at N
  with_reducible refine hK _ (gw_consK fun K hK hR => ?_)
  walk_at "og"
  obtain ⟨ix, rfl⟩ : ∃ v, v = d := ⟨_, rfl⟩
  have nzx := nz
  obtain ⟨RX, pn6, qo6, N⟩ := Led.push [_] [_, _, _, _, _] N
  dsimp only [List.cons_append, List.nil_append] at N
  replace qq := fun p hp => qo6 p (qq p hp)
  refine sRp (C := 267) [_] ⟨by k_is, by k_is, by k_is, by k_is⟩ Z F N (by repeat (first | exact List.mem_append_left _ (qq _ gxD) | refine List.Mem.tail _ ?_)) RD (of_decide_eq_true (by kernel_rfl)) ?_
  clear F N RD; intro h t eD kD RD F N
  dsimp only [List.cons_append, List.nil_append] at N
  with_reducible refine hK _ (gw_cons (gw_Return (gw_Call ?_ (by with_unfolding_all rfl))))
  walk_at "og"
  with_reducible refine gw_cwK (by with_unfolding_all k_is) (by with_unfolding_all rfl) (by with_unfolding_all rfl) ?_
  with_reducible refine gw_any ?_
  walk_at "og"
  refine Con.use (con_Program w) Z F N (by decide) ?_
  clear F N; rintro r news' h t ⟨PG, dPG, eP, kP, fP, rfl, rfl, RP, rfl⟩ F N
  walk_at "og"
  obtain ⟨nw, all, N⟩ := Led.name (_ :: _ :: _ :: _ :: _ :: _ :: _ :: _ :: RX) N
  have inR : ∀ p ∈ RX, p ∈ nw := fun p hp => all p (by repeat (first | exact hp | refine List.Mem.tail _ ?_))
  replace qq := fun p hp => inR p (qq p hp)
  have i6 := inR
  have i5 := fun p hp => i6 p (qo6 p hp)
  have i4 := fun p hp => i5 p (qo5 p hp)
  have i3 := fun p hp => i4 p (qo4 p hp)
  have i2 := fun p hp => i3 p (qo3 p hp)
  have i1 := fun p hp => i2 p (qo2 p hp)
  have iw : ItemAt nw xw "WORDS" 0 tx.length sw (.ref vw) := .mk dw ew qw lkw (qq _ gxw) (all _ (by walk_at "ogm")) (qq _ glw) _ (Rw.at rfl) (Rw.at rfl) (Rw.at rfl) (Rw.at rfl) _ (Rw.at rfl) _ (Rw.at rfl) _ (Rw.at rfl) _ (Rw.at rfl) (Rw.at rfl) (Rw.at rfl)
  have iN : ItemAt nw xn "NUM" tx.length dg sn (.ref vn) := .mk dn en qn lkn (qq _ gxn) (all _ (by walk_at "ogm")) (qq _ gln) _ (Rn.at rfl) (Rn.at rfl) (Rn.at rfl) (Rn.at rfl) _ (Rn.at rfl) _ (Rn.at rfl) _ (Rn.at rfl) _ (Rn.at rfl) (Rn.at rfl) (Rn.at rfl)
  have im : ItemAt nw xm "MARKED" (tx.length + dg) 1 sm .none := .mk dm em qm lkm (qq _ gxm) (all _ (by walk_at "ogm")) (qq _ glm) _ (Rm.at rfl) (Rm.at rfl) (Rm.at rfl) (Rm.at rfl) _ (Rm.at rfl) _ (Rm.at rfl) _ (Rm.at rfl) _ (Rm.at rfl) (Rm.at rfl) (Rm.at rfl)
  have hsw := hesw.at (i1 _ (pn1 _ (.head _))) (i1 _ (pn1 _ (.tail _ (.head _))))
  have hsn := hesn.at (i3 _ (pn3 _ (.head _))) (i3 _ (pn3 _ (.tail _ (.head _))))
  have hsm := hesm.at (i5 _ (pn5 _ (.head _))) (i5 _ (pn5 _ (.tail _ (.head _))))
  have nsp := hesn.nsp (i3 _ (pn3 _ (.head _))) (i3 _ (pn3 _ (.tail _ (.head _))))
  have hd : DataAt nw D [xw, xn, xm] (tx.length + dg + 1) ix := .mk dD eD kD df lw kw' ll (qq _ gxD) (all _ (by walk_at "ogm")) (qq _ gdf) ep1 (all _ (by walk_at "ogm")) (qq _ gll) (RD.at rfl) (RD.at rfl) (RD.at rfl) _ (RD.at rfl) (RD.at rfl)
  have mvw := i2 _ (pn2 _ (.head _))
  have mvn := i4 _ (pn4 _ (.head _))
  have mP := i4 _ (pn4 _ (.tail _ (.head _)))
  have mix := i6 _ (pn6 _ (.head _))
  have up : ∀ p ∈ news, p ∈ nw ++ news := fun p hp => List.mem_append_right _ hp
  have lf : ∀ p ∈ nw, p ∈ nw ++ news := fun p hp => List.mem_append_left _ hp
  have mPG : (PG, instObj 962 dPG) ∈ nw := (all _ (by walk_at "ogm"))
  have mdPG : (dPG, dictOf eP kP) ∈ nw := (all _ (by walk_at "ogm"))
  clear all inR qq
  obtain ⟨d1, d2, d3⟩ := dec_ok sc.toNat uu sc k0 rfl
  refine ConG.use (con_World w (D := D) (items := [xw, xn, xm]) (parts := [(0, tx), ((tx.length : Int), disp sg dg (keptU sg dg uu)), ((tx.length : Int) + (dg : Int), [32])]) (hd.mono lf) (by simp) (by exact Int.zero_le_ofNat (tx.length + dg + 1)) (by (clear k0 k1 hrz kk ep1 ep2 n1 n2 n3 hK hR nzx nz up lf d1 d2 d3; omega)) rfl ?_ (lf _ mPG) (lf _ mdPG) (RP.at rfl) (up _ hr) hrz (lf _ mix) hdict nzx) Z F N (by decide) ?_
  · intro i x p hx hp
    rcases i with _ | _ | _ | i
    · obtain rfl : xw = x := by simpa using hx
      obtain rfl : ((0 : Int), tx) = p := by simpa using hp
      exact ⟨Int.le_refl _, by show (0 : Int) + (tx.length : Int) ≤ _; (clear hz k0 k1 hrz kk ep1 ep2 n1 n2 n3 hK hR nzx nz up lf d1 d2 d3; omega), ⟨_, _, _, iw.mono lf⟩, fun n1 q0 => have q := fun p hp => q0 p (lf p hp); con_first_val w (iw.mono q) (Nat.le_refl _) (con_valued_text w (ks := tx) (iw.mono q) (q _ mvw) hb (by exact Nat.le_trans hz (Nat.le_add_left 100 900)) rfl (hsw.mono q))⟩
    · obtain rfl : xn = x := by simpa using hx
      obtain rfl : ((tx.length : Int), disp sg dg (keptU sg dg uu)) = p := by simpa using hp
      have el : (((disp sg dg (keptU sg dg uu)).length : Nat) : Int) = dg := by rw [disp_length]
      refine ⟨by show (0 : Int) ≤ (tx.length : Int); exact Int.natCast_nonneg tx.length, by show (tx.length : Int) + ((disp sg dg (keptU sg dg uu)).length : Int) ≤ _; (clear hz h0 h1 k0 k1 hrz kk ep1 ep2 n1 n2 n3 hK hR nzx nz up lf d1 d2 d3; omega), ⟨"NUM", sn, .ref vn, by show ItemAt (nw ++ news) xn "NUM" (tx.length : Int) ((disp sg dg (keptU sg dg uu)).length : Int) sn (.ref vn); rw [el]; exact iN.mono lf⟩, fun n1 q0 => have q := fun p hp => q0 p (lf p hp); con_first_val w (iN.mono q) (Nat.le_refl _) ?_⟩
      have := con_valued_number w (iN.mono q) (q _ mvn) (q _ mP) (hsn.mono q) (by exact Int.ofNat_le.mpr h0) (by exact Int.ofNat_le.mpr (Nat.le_trans h1 (Nat.le_add_left 9 11))) d2 d3 (by exact Int.le_trans k1 (Int.ofNat_le.mpr (Nat.le_add_left 9 7)))
      rw [d1, Int.toNat_natCast] at this
      exact this
    · obtain rfl : xm = x := by simpa using hx
      obtain rfl : ((tx.length : Int) + (dg : Int), [32]) = p := by simpa using hp
      exact ⟨by show (0 : Int) ≤ (tx.length : Int) + (dg : Int); exact Int.zero_le_ofNat (tx.length + dg), by show (tx.length : Int) + (dg : Int) + 1 ≤ _; exact Int.le_refl (↑tx.length + ↑dg + 1), ⟨_, _, _, im.mono lf⟩, fun n1 q0 => have q := fun p hp => q0 p (lf p hp); con_first_none w (im.mono q) (hsm.mono q) (by decide) (by decide)⟩
    · simp at hx
  clear F N
  rintro r news' g2 h t TT Z ⟨W', M', c, dix, io, lr', lt', kr', u', ext, rfl, rfl, hW, hc, hdi, hio, lo, hlr, hlt⟩ F N
  have r1 : ∀ p ∈ nw, p ∈ ext ++ nw := fun p hp => List.mem_append_right _ hp
  have r2 : ∀ p ∈ ext, p ∈ ext ++ nw := fun p hp => List.mem_append_left _ hp
  rw [← List.append_assoc] at N
  refine RetS.via kk TT F N ⟨W', M', c, ext ++ nw, rfl, rfl, ?_, .mk D dix lr' lt' xw xn xm sw sn sm ix io u' kr' _ _ _ (hW nw mPG mdPG) (hd.mono r1) (iw.mono r1) (iN.mono r1) (im.mono r1) n1 n2 n3 (hsw.mono r1) (hsn.mono r1) (nsp.mono r1) (r2 _ hdi) hio lo (r2 _ hlr) (r2 _ hlt)⟩
  rw [hc]
  exact law_mem (by rw [disp_length]; exact Eq.symm (Nat.add_succ (tx.length + dg) 0)) (disp_length _ _ _).symm
end Og

-- C33
namespace Og
section
variable {w : World} {n : Nat} {f c' : Addr} {args : List Value} {news : List Ob} {P : Value → List Ob → Prop} {name qual : S} {params : Arguments} {body : List Stmt} {scope : PySem.Scope} {clos : List (S × Addr)} {doc pm ctv : Value} {oc : Obj} {vs : Array Value} {t : Tok} {binds bs : List (S × Value)}
/-- a function made by a def within a body is called -/
theorem enterN (hf : (f, fnMade name qual params body scope clos doc pm c' ctv) ∈ news) (hc : (c', oc) ∈ news) (hdt : oc.data = .fields vs) (hv : vs[1]? = some (.str qual t))
    (hbind : ∀ s : Shared, BindsTo s (fnX name qual params body scope clos .none .none doc pm none (.ref c') ctv) ⟨args, []⟩ binds) (hbs : binds.reverse = bs)
    (hloc : (binds.all fun x => decide (scope.names.lookup x.1 = some .local)) = true) (hco : scope.isCoroutine = false) (hgen : scope.isGenerator = false) (hk : scope.kind = .function) (hcell : ∀ x ∈ scope.names, x.2 ≠ .cell)
    (H : ∀ (A : Around) (base : Heap) (outer : List Env) (g : Heap) (L : Addr) (σ : Shared) (h : Heap) (t : Nat), Site w n A base outer (envX qual scope L f (.ref c') clos) L g → Fr g L h (lk bs) → Led g L h news →
      wpAny (model PW w) A (execs body (envX qual scope L f (.ref c') clos)) (Ret g L σ P) NoE (st σ h t)) : Con w (.ref f) (n + 1) args news P := by
  intro A base outer env L h₀ h t m σ R x F N hQ
  obtain ⟨p, loose, mean, mg, mb, T, TB⟩ := x.T
  obtain ⟨A₀, B⟩ := x.B
  refine code_nest (s := st σ h t) (K := hd.heap_1 w.params) B F x.X N.n T x.fr x.lf x.kf hf (codeRec_news N.n hc hdt hv) (by have := x.dp; exact Nat.lt_of_add_right_lt this) (hbind _) (locs hloc) (fun g L' h₁ FG F' N' B' X' T' => ?_) hco hgen hk hcell
  have st' : h₀.StaysIn g := FG.keep
  refine wpAny_mono (H _ _ _ g L' σ h₁ _ (x.push (h := h₁) (h₁ := h₁) B' st' FG hk) (by rw [show (lk bs) = fun y => binds.reverse.lookup y from by rw [hbs]; rfl]; exact F') ⟨N', N.d⟩) (fun fl s' hr => ?_) (fun _ _ z => z.elim)
  obtain ⟨m', news', h', tk', rfl, F2, N2, hp⟩ := hr
  cases fl <;> exact leaveK_ F2 N2.n fun F3 N3 => hQ _ news' h' tk' hp F3 ⟨N3, N2.d⟩
end
section
variable {w : World} {A : Around} {h₀ h : Heap} {L l : Addr} {σ : Shared} {t : Nat} {m : S → Option Value} {news : List Ob} {E : Value → Shared → Prop} {Q : Value → Shared → Prop} {value slice : Expr} {its : Array Value} {vl vu : Value} {lo hi : Option Int}
/-- a slice of a list -/
theorem slL (F : Fr h₀ L h m) (N : Led h₀ L h news) (hl : lAt h₀ l its news) (pl : IsPart vl lo) (pu : IsPart vu hi) (H : ∀ D h, Fr h₀ L h m → Led h₀ L h ((D, listOf (slicePick its lo hi none) 0) :: news) → Q (.ref D) (st σ h t))
    (hs : subscripted slice false (.ref l) (.ref h.objs.size) = operate [.ref h.objs.size, .ref l] (getItem (.ref l) (.ref h.objs.size))) (ht : ∀ r, letTemporaryGo value (.ref l) r = pure ()) (hz : its.size ≤ sizeLine) :
    wpAny (model PW w) A (subscriptTail value slice (.ref l) (.ref h.objs.size)) Q E (st σ (h.push { cls := .type "slice", data := .fields #[vl, vu, .none] }) t) :=
  PyProof.Rows.slice_list (s := st σ h t) F N.n (hl.list F.keep N.n) pl pu (fun h' F' N' => H _ h' F' (Led.cons N' N.d fun p hp => Nat.lt_succ_of_lt (N.lt p hp))) hs ht hz
end
theorem led_nest {g h' : Heap} {L f c' P : Addr} {fo oc po po' : Obj} {rest : List Ob} (N' : News g L h' ((f, fo) :: (c', oc) :: (P, po') :: rest)) (d : (((P, po) :: rest).map (·.1)).Nodup) (l1 : ∀ q ∈ (P, po) :: rest, q.1 < c') (l2 : c' < f) : Led g L h' ((f, fo) :: (c', oc) :: (P, po') :: rest) := by
  have h1 : Led g L h' ((P, po') :: rest) := ⟨fun q hq => N' q (.tail _ (.tail _ hq)), d⟩
  have h2 : Led g L h' ((c', oc) :: (P, po') :: rest) := Led.cons (fun q hq => N' q (.tail _ hq)) h1.d fun q hq => by
    rcases List.mem_cons.mp hq with rfl | hq
    · exact l1 (P, po) (.head _)
    · exact l1 q (.tail _ hq)
  refine Led.cons N' h2.d fun q hq => ?_
  rcases List.mem_cons.mp hq with rfl | hq
  · exact l2
  rcases List.mem_cons.mp hq with rfl | hq
  · exact Nat.lt_trans (l1 (P, po) (.head _)) l2
  · exact Nat.lt_trans (l1 q (.tail _ hq)) l2
theorem codeHd984 (w : World) {g : Heap} (X : (hd.heap_1 w.params).In g) : CodeHd g 988 984 := ⟨_, _, _, _, _, _, _, _, _, X 988 _ (by k_is), rfl, rfl, rfl, rfl, rfl, rfl, rfl, rfl, by decide⟩
theorem intBits7 {k : Nat} (hk : k ≤ 100) : Builtin.Int.intBits (7 * (k : Int) + 3) ≤ 64 := by
  have : ∀ k : Fin 101, Builtin.Int.intBits (7 * (k.val : Int) + 3) ≤ 64 := by decide +kernel
  exact this ⟨k, by exact Nat.lt_succ_of_le hk⟩
theorem pow72 {n : Nat} (h : n ≤ 100) : ((720720 : Int) ^ n).natAbs.log2 < 9000 := by
  rw [Int.natAbs_pow]
  have h1 : (720720 : Nat) ^ n < 2 ^ 2001 := by
    have h2 : (720720 : Nat) ^ n ≤ (2 ^ 20) ^ n := Nat.pow_le_pow_left (by decide) n
    rw [← Nat.pow_mul] at h2
    exact Nat.lt_of_le_of_lt h2 (Nat.pow_lt_pow_right (by decide) (by omega))
  have h0 : (720720 : Nat) ^ n ≠ 0 := Nat.ne_of_gt (Nat.pow_pos (by decide))
  exact Nat.lt_trans ((Nat.log2_lt h0).mpr h1) (by decide)
/-- what the taker does -/
structure TakeC (w : World) (f lp : Addr) (rest : List Ob) : Prop where
  fn : Ex4 fun oc od fd sl => (f, (⟨oc, od, .func fd, sl⟩ : Obj)) ∈ rest
  go : ∀ news1, (∀ p ∈ rest, p ∈ news1) → ∀ (k : Nat) (m : Int) (tm tk : Tok) (n : Nat), 0 < m → k ≤ 100 →
    Con w (.ref f) 2 [.int m tm] ((lp, listOf (List.toArray [.int (k : Int) tk]) n) :: news1) (fun r news' => Ex3 fun v t tk' => An4 (r = .int v t) (news' = (lp, listOf (List.toArray [.int ((k + 1 : Nat) : Int) tk']) n) :: news1) (0 ≤ v) (v < m))
theorem con_law_taker (w : World) {rest : List Ob} {ls : Addr} {vs : List Value} {ns : List Int} (hl : ∃ o, An3 ((ls, o) ∈ rest) (o.cls = .type "list") (∃ n, o.data = .seq vs.toArray n)) (hi : IntsAre vs ns) (hz : vs.length ≤ 1000) :
    Con w (.ref 989) 2 [.ref ls] ((984, tabObj #[]) :: rest) (fun r news' => Ex4 fun f lp tk ext => An4 (r = .ref f) (news' = (lp, listOf (List.toArray [.int ((0 : Nat) : Int) tk]) 0) :: (ext ++ rest)) (∃ ps, (984, tabObj ps) ∈ ext) (TakeC w f lp ext)) := by
  refine Con.var fun Ψ kk => ?_
  refine enterC (binds := [("script", .ref ls)]) (bs := [("script", .ref ls)]) (by k_is) (by k_is) (fun s X => BindsTo.of_eq rfl) (by intro n x hx; obtain rfl := List.mem_singleton.mp hx; first | exact .inl rfl | exact .inr ⟨rfl, rfl⟩) (by decide +kernel) (cellsL2 (by intro L; rfl)) (by intro L; rfl) rfl rfl rfl ?_
  intro A base outer g L σ h t cells Z F hC N
  obtain ⟨o2, o1, rfl, k2, k1⟩ := CellsAre.two hC
  dsimp only [List.cons_append, List.nil_append] at N
  walk_at "og"
  obtain ⟨o, hlo, hlc, hld⟩ := hl
  refine slL F N (.inr ⟨o, .tail _ (.tail _ (.tail _ hlo)), hlc, hld⟩) .none (.int _ _) ?_ (by with_unfolding_all rfl) (fun _ => by with_unfolding_all rfl) (by rw [sizeLine_eq, List.size_toArray]; exact Nat.le_trans hz (Nat.le_add_left 1000 16776216))
  clear F N; intro D h F N
  have hcs := PyProof.Rows.slice_ints_uptoW hi (y := 40) (by decide)
  replace N := Led.front (pre := [_, _]) N
  dsimp only [List.cons_append, List.nil_append] at N
  refine sC Z F N (by with_unfolding_all rfl) k1 (by refine kd ?_; decide +kernel) ?_
  clear F N k1; intro h o1 k1 F N
  refine wpAny_execs_cons (wpAny_mono (Q := fun fl s' => fl = .next ∧ Ex4 fun D vs' ns' o => Ex3 fun h t kk => An4 (s' = st σ h t) (Fr g L h (lk [("script", .ref ls)])) (Led g L h ((L + 1, o) :: (D, listOf (List.toArray vs') kk) :: (L + 1 + 1, o2) :: (984, tabObj #[]) :: rest)) (An4 (o.data = .cell (some (.ref D))) (IntsAre vs' ns') (1 ≤ ns'.length) (ns'.length ≤ 40))) ?_ (fun fl s' hq => ?_) (fun _ _ e => e))
  · walk_at "og"
    refine eq0L Z F N (.inr ⟨_, .tail _ (.tail _ (.head _)), rfl, _, rfl⟩) (.inr ⟨_, .head _, rfl, _, rfl⟩) ?_
    replace N := N.tail
    walk_at "og"
    refine split_bool (fun hb => ?_) (fun hb => ?_)
    · walk_at "og"
      replace N := Led.front (pre := [_]) N
      dsimp only [List.cons_append, List.nil_append] at N
      walk_at "og"
      exact ⟨rfl, _, [_], [1], _, _, _, _, rfl, F, N.sub (.cons_cons _ (.cons_cons _ (.cons _ (List.Sublist.refl _)))), k1, .cons _ _ .nil, by decide, by decide⟩
    · walk_at "og"
      refine ⟨rfl, _, _, _, _, _, _, _, rfl, F, N, k1, hcs, ?_, List.length_take_le _ _⟩
      have : (slicePick vs.toArray none (some 40) none).size ≠ 0 := by simpa using hb
      rw [← hcs.length, Array.length_toList]; exact Nat.succ_le_of_lt (Nat.pos_of_ne_zero this)
  obtain ⟨rfl, D, vs', ns', o1, h, t, kk1, rfl, F, N, k1, hvs, z1, z2⟩ := hq
  dsimp only
  walk_at "og"
  obtain ⟨lp, rfl⟩ : ∃ v, v = l := ⟨_, rfl⟩
  replace N := Led.front (pre := [_, _, _]) N
  dsimp only [List.cons_append, List.nil_append] at N
  refine sC Z F N (by with_unfolding_all rfl) k2 (by refine kd ?_; decide +kernel) ?_
  clear F N k2; intro h o2 k2 F N
  walk_at "og"
  refine nestDef_K rfl rfl rfl ?_
  replace N := Led.front (pre := [_, _, _, _]) N
  dsimp only [List.cons_append, List.nil_append] at N
  obtain ⟨p, loose, mean, mg, mb, T, TB⟩ := Z.T
  refine nest_K (s := st σ h t) (ps := #[]) F N.n T (codeHd984 w Z.X) rfl (.head N.off) (by simp [TriplesOk]) (by simp [codeAmong]) rfl fun f c' oc cvs ct ctv doc h' tk F' N' hd hv e1 e2 => ?_
  replace N := led_nest N' N.d e1 e2
  clear F N'
  have F := F'
  clear F'
  change wpAny _ _ _ _ _ (st σ h' tk)
  walk_at "og"
  replace N := Led.front (pre := [_, _, _, _]) N
  dsimp only [List.cons_append, List.nil_append] at N
  refine Ret.via kk F N ⟨f, lp, _, [_, _, _, _, _, _], rfl, rfl, ⟨_, by walk_at "ogm"⟩, ⟨_, _, _, _, .head _⟩, ?_⟩
  intro news1 q k m tm tk0 n hm hk
  refine enterN (.tail _ (q _ (.head _))) (.tail _ (q _ (.tail _ (.head _)))) hd hv (binds := [("limit", .int m tm)]) (bs := [("limit", .int m tm)]) (fun s => BindsTo.of_eq rfl) rfl rfl rfl rfl rfl (by decide) ?_
  clear Z
  intro A base outer g2 L2 σ h t Z F N
  have c1 : ((L + 1, o1) : Ob) ∈ (lp, listOf (List.toArray [.int (k : Int) tk0]) n) :: news1 := .tail _ (q _ (by repeat (first | exact List.Mem.head _ | refine List.Mem.tail _ ?_)))
  have c2 : ((L + 1 + 1, o2) : Ob) ∈ (lp, listOf (List.toArray [.int (k : Int) tk0]) n) :: news1 := .tail _ (q _ (by repeat (first | exact List.Mem.head _ | refine List.Mem.tail _ ?_)))
  have mD : ((D, listOf (List.toArray vs') kk1) : Ob) ∈ news1 := q _ (by repeat (first | exact List.Mem.head _ | refine List.Mem.tail _ ?_))
  walk_at "og"
  refine lgI N (.head _) (.cons _ _ .nil : IntsAre [.int (k : Int) tk0] [(k : Int)]) (by decide) (by simp) (by decide) ?_ (by with_unfolding_all rfl)
  intro u
  rw [show ([(k : Int)] : List Int).getD (0 : Int).toNat 0 = k from rfl]
  walk_at "og"
  refine lsI F N (.cons _ _ .nil : IntsAre [.int (k : Int) tk0] [(k : Int)]) (by decide) (by simp) (by decide) ?_
  clear F N; intro ws h hws F N
  obtain ⟨tk1, rfl⟩ : ∃ tk1, ws = [.int ((k : Int) + 1) tk1] := by
    cases hws with
    | cons _ t1 h1 => cases h1; exact ⟨t1, rfl⟩
  replace c1 : ((L + 1, o1) : Ob) ∈ (lp, listOf (List.toArray [.int ((k : Int) + 1) tk1]) n) :: news1 := .tail _ (q _ (by repeat (first | exact List.Mem.head _ | refine List.Mem.tail _ ?_)))
  replace c2 : ((L + 1 + 1, o2) : Ob) ∈ (lp, listOf (List.toArray [.int ((k : Int) + 1) tk1]) n) :: news1 := .tail _ (q _ (by repeat (first | exact List.Mem.head _ | refine List.Mem.tail _ ?_)))
  have hn : vs'.length = ns'.length := hvs.length
  walk_at "og"
  refine lenL F N (.inr ⟨_, .tail _ mD, rfl, _, rfl⟩) (by rw [List.size_toArray]; omega) ?_
  intro u t
  rw [List.size_toArray, hn]
  walk_at "og"
  refine divI (by exact Int.natCast_ne_zero_iff_pos.mpr z1) (PyProof.noPylong_small (by (clear hz kk e1 e2 q hm hk; omega))) ?_
  intro u t
  walk_at "og"
  refine lenL F N (.inr ⟨_, .tail _ mD, rfl, _, rfl⟩) (by rw [List.size_toArray]; omega) ?_
  intro u t
  rw [List.size_toArray, hn]
  walk_at "og"
  refine modI (by exact Int.natCast_ne_zero_iff_pos.mpr z1) ?_
  intro u t
  have hr0 : 0 ≤ (k : Int).fmod (ns'.length : Int) := Int.fmod_nonneg_of_pos _ (by exact Int.ofNat_lt.mpr (Nat.lt_of_succ_le z1))
  have hr1 : (k : Int).fmod (ns'.length : Int) < (ns'.length : Int) := Int.fmod_lt_of_pos _ (by exact Int.ofNat_lt.mpr (Nat.lt_of_succ_le z1))
  walk_at "og"
  refine lgI N (.tail _ mD) hvs hr0 hr1 (by (clear hz kk e1 e2 q hm hk hr0; omega)) ?_ (by with_unfolding_all rfl)
  intro u
  have hlv : (k : Int).fdiv (ns'.length : Int) = ((k / ns'.length : Nat) : Int) := by rw [Int.fdiv_eq_ediv_of_nonneg _ (by exact Int.natCast_nonneg ns'.length)]; simp
  have hlk : k / ns'.length ≤ k := Nat.div_le_self _ _
  obtain ⟨lv, hlv2⟩ : ∃ lv, k / ns'.length = lv := ⟨_, rfl⟩
  rw [hlv, hlv2] at F
  rw [hlv2] at hlk
  walk_at "og"
  refine powI (by exact Int.natCast_nonneg lv) ?_ ?_
  · have e : (Builtin.Int.intBits 720720 : Int) = 20 := by decide +kernel
    rw [e]; (clear hz kk z1 z2 e1 e2 q hm hn hr0 hr1 hlv hlv2 e; omega)
  intro u t
  rw [Int.toNat_natCast]
  refine divI (Int.ne_of_gt (Int.pow_pos (by decide))) (PyProof.noPylong_of_log2 (pow72 (by exact Nat.le_trans hlk hk))) ?_
  intro u t
  walk_at "og"
  refine mulI (IntMulOk.of_right (intBits7 hk)) ?_
  intro u t
  walk_at "og"
  refine modI (by exact Ne.symm (Int.ne_of_lt hm)) ?_
  intro u t
  walk_at "og"
  exact Ret.intro (F) N ⟨_, _, _, rfl, rfl, Int.fmod_nonneg_of_pos _ hm, Int.fmod_lt_of_pos _ hm⟩
end Og

-- C34
namespace Og
theorem ref_TEXT (w : World) {news : List Ob} : RefK w 969 "WORDS" news := ⟨1574, 1575, 967, 968, .inl ⟨_, by k_is⟩, .inl ⟨_, by k_is⟩, .inl ⟨_, by k_is⟩⟩
theorem ref_NUM (w : World) {news : List Ob} : RefK w 972 "NUM" news := ⟨1577, 1578, 970, 971, .inl ⟨_, by k_is⟩, .inl ⟨_, by k_is⟩, .inl ⟨_, by k_is⟩⟩
theorem ref_IX (w : World) {news : List Ob} : RefK w 975 "IX" news := ⟨1580, 1581, 973, 974, .inl ⟨_, by k_is⟩, .inl ⟨_, by k_is⟩, .inl ⟨_, by k_is⟩⟩
section
variable {rest : List Ob} {xw xn xm sw sn sm : Addr} {o1 o2 o3 z1 z2 z3 : Int} {v1 v2 v3 : Value}
theorem named3 {n1 n2 n3 : S} {x1 x2 x3 : Addr} (i1 : ItemAt rest x1 n1 o1 z1 sw v1) (i2 : ItemAt rest x2 n2 o2 z2 sn v2) (i3 : ItemAt rest x3 n3 o3 z3 sm v3) (n0 : S) (b1 b2 b3 : Bool) (e1 : (n1.cps.toList == n0.cps.toList) = b1) (e2 : (n2.cps.toList == n0.cps.toList) = b2) (e3 : (n3.cps.toList == n0.cps.toList) = b3)
    {xi : Addr} (f1 : (x1 == xi) = b1) (f2 : (x2 == xi) = b2) (f3 : (x3 == xi) = b3) (hf : [x1, x2, x3].filter (· == xi) = [xi]) : Named rest [x1, x2, x3] n0 xi := by
  refine ⟨by simp, fun x hx => ?_, hf⟩
  simp only [List.mem_cons, List.not_mem_nil, or_false] at hx
  rcases hx with rfl | rfl | rfl
  · exact ⟨_, _, _, _, _, i1, e1.trans f1.symm⟩
  · exact ⟨_, _, _, _, _, i2, e2.trans f2.symm⟩
  · exact ⟨_, _, _, _, _, i3, e3.trans f3.symm⟩
theorem namedW (iw : ItemAt rest xw "WORDS" o1 z1 sw v1) (iN : ItemAt rest xn "NUM" o2 z2 sn v2) (im : ItemAt rest xm "MARKED" o3 z3 sm v3) (n1 : xw ≠ xn) (n2 : xw ≠ xm) : Named rest [xw, xn, xm] "WORDS" xw :=
  named3 iw iN im "WORDS" true false false (by decide +kernel) (by decide +kernel) (by decide +kernel) (by simp) (by simpa using n1.symm) (by simpa using n2.symm) (by simp [List.filter_cons, n1.symm, n2.symm])
theorem namedN (iw : ItemAt rest xw "WORDS" o1 z1 sw v1) (iN : ItemAt rest xn "NUM" o2 z2 sn v2) (im : ItemAt rest xm "MARKED" o3 z3 sm v3) (n1 : xw ≠ xn) (n3 : xn ≠ xm) : Named rest [xw, xn, xm] "NUM" xn :=
  named3 iw iN im "NUM" false true false (by decide +kernel) (by decide +kernel) (by decide +kernel) (by simpa using n1) (by simp) (by simpa using n3.symm) (by simp [List.filter_cons, n1, n3.symm])
end
/-- the operands that fill -/
inductive OpK (rest : List Ob) (T : Addr) (ks : List Int) (dg : Nat) : S → Bool → Prop where
  | zero (t1 t2 : Tok) (h : (T, tup [.str "figure" t1, .str "ZERO" t2]) ∈ rest) (e : ks = [48]) : OpK rest T ks dg "figure" true
  | fig (x : S) (c : Int) (t1 t2 : Tok) (h : (T, tup [.str "figure" t1, .str x t2]) ∈ rest) (hx : (x, c) ∈ figT) (ne : (x == "ZERO") = false) (xl : x.length ≤ 100) (e : ks = [c]) : OpK rest T ks dg "figure" false
  | all (b : Array UInt8) (t1 t2 : Tok) (h : (T, tup [.str "all" t1, .bytes b t2]) ∈ rest) (hb : bI b = ks) (h0 : ks ≠ []) (hz : ks.length ≤ 16) : OpK rest T ks dg "all" ((cyc ks dg).all isFig)
theorem cyc_length {ks : List Int} (h : ks ≠ []) (n : Nat) : (cyc ks n).length = n := by
  have hl : 0 < ks.length := List.length_pos_iff.mpr h
  unfold cyc
  rw [List.length_take, List.length_flatten, List.map_replicate, List.sum_replicate_nat]
  have := Nat.div_add_mod n ks.length
  have := Nat.mod_lt n hl
  rw [Nat.add_mul, Nat.one_mul, Nat.mul_comm]; (clear h hl; omega)
theorem Fr_xs {g h : Heap} {L : Addr} {xs : List (S × Value)} (F : Fr g L h (lk xs)) : ∃ ys, ys = xs ∧ Fr g L h (lk ys) := ⟨xs, rfl, F⟩
theorem jn_zero : ∀ {fs : List Int}, (∀ f ∈ fs, f = 0) → jn fs = 0
  | [], _ => rfl
  | f :: r, h => by
    obtain rfl := h f (.head _)
    exact jn_zero (fs := r) fun f hf => h f (.tail _ hf)
theorem cyc_mem {a c : Int} {n : Nat} (h : c ∈ cyc [a] n) : c = a := by
  obtain ⟨l, hl, hc⟩ := List.mem_flatten.mp (List.mem_of_mem_take h)
  rw [List.eq_of_mem_replicate hl] at hc
  exact List.mem_singleton.mp hc
theorem Con.le {w : World} {f : Value} {n k : Nat} {vs : List Value} {news : List Ob} {P P' : Value → List Ob → Prop} (C : Con w f k vs news P) (h : k ≤ n) (q : ∀ r m, P r m → P' r m) : Con w f n vs news P' :=
  fun A base outer env L h₀ hh t m σ R Z F N H => C A base outer env L h₀ hh t m σ R (Z.le h) F N fun r news' h t p => H r news' h t (q r news' p)
theorem ConE.le {w : World} {f : Value} {n k : Nat} {vs : List Value} {news : List Ob} (C : ConE w f k vs news) (h : k ≤ n) : ConE w f n vs news :=
  fun A base outer env L h₀ hh t m σ R Z F N H => C A base outer env L h₀ hh t m σ R (Z.le h) F N H
section
variable {w : World} {rest news1 : List Ob} {T sh : Addr} {ks : List Int} {dg : Nat} {kd : S} {num : Bool} {sc : Int} {sg : Bool}
theorem OpK.ne (ok : OpK rest T ks dg kd num) : ks ≠ [] ∧ ks.length ≤ 16 := by
  cases ok with
  | zero t1 t2 h e => subst e; simp
  | fig x c t1 t2 h hx ne xl e => subst e; simp
  | all b t1 t2 h hb h0 hz => exact ⟨h0, hz⟩
theorem OpK.mem (ok : OpK rest T ks dg kd num) : Ex2 fun t b' => (T, tup [.str kd t, b']) ∈ rest ∧ ((Str.ofString "figure") == kd || (Str.ofString "all") == kd) = true := by
  cases ok with
  | zero t1 t2 h e => exact ⟨_, _, h, by decide +kernel⟩
  | fig x c t1 t2 h hx ne xl e => exact ⟨_, _, h, by decide +kernel⟩
  | all b t1 t2 h hb h0 hz => exact ⟨_, _, h, by decide +kernel⟩
theorem OpK.filled (ok : OpK rest T ks dg kd num) (q : ∀ p ∈ rest, p ∈ news1) (n : Nat) (hn : n ≤ 1000) (ts : Tok) : Con w (.ref 1036) 2 [.ref T, .int (n : Int) ts] news1 (Oct (cyc ks n) news1) := by
  cases ok with
  | zero t1 t2 h e => subst e; exact con_law_filled_fig w (q _ h) (by simp [figT]) n hn
  | fig x c t1 t2 h hx ne xl e => subst e; exact con_law_filled_fig w (q _ h) hx n hn
  | all b t1 t2 h hb h0 hz => exact con_law_filled_all w (q _ h) hb h0 hz n hn
theorem OpK.text (ok : OpK rest T ks dg kd num) (q : ∀ p ∈ rest, p ∈ news1) {n : Nat} (hs : ShapeAt news1 sh "alphanumeric" n 0 0 false) (hn : n ≤ 1000) : Con w (.ref 763) 8 [.ref T, .ref sh] news1 (Oct (cyc ks n) news1) := by
  refine Con.le (con_filled_text w hs hn ok.ne.1 ok.ne.2 ?_) (by decide) fun r m h => h
  cases ok with
  | zero t1 t2 h e => subst e; exact con_pattern_fig w (q _ h) (by simp [figT])
  | fig x c t1 t2 h hx ne xl e => subst e; exact con_pattern_fig w (q _ h) hx
  | all b t1 t2 h hb h0 hz => exact Con.le (con_pattern_all w (q _ h)) (Nat.le_refl _) fun r m ⟨⟨t, e⟩, e2⟩ => ⟨⟨_, _, e, hb⟩, e2⟩
theorem OpK.yes (ok : OpK rest T ks dg kd true) (q : ∀ p ∈ rest, p ∈ news1) (hs : ShapeAt news1 sh "numeric" dg dg sc sg) (h0 : 1 ≤ dg) (h1 : dg ≤ 20) (k1 : 0 ≤ sc) (k2 : sc ≤ 16) :
    Con w (.ref 763) 8 [.ref T, .ref sh] news1 (Oct (disp sg dg (keptU sg dg (jn ((cyc ks dg).map (· - 48)) * 10 ^ sc.toNat))) news1) := by
  generalize hb : true = b at ok
  cases ok with
  | zero t1 t2 h e =>
    subst e
    refine Con.le (con_filled_zero w (q _ h) hs h0 h1 k1 k2) (Nat.le_refl _) fun r m ⟨⟨t, e⟩, e2⟩ => ⟨⟨_, t, e, ?_⟩, e2⟩
    rw [jn_zero (fun f hf => by obtain ⟨c, hc, rfl⟩ := List.mem_map.mp hf; rw [cyc_mem hc]; rfl), Int.zero_mul]
    exact byteArr_ints (disp_in _ _ _)
  | fig x c t1 t2 h hx ne xl e => cases hb
  | all b t1 t2 h hb' h0' hz =>
    exact Con.le (con_filled_all w (q _ h) hb' h0' hz (List.all_eq_true.mp hb.symm) hs h0 h1 k1 k2) (Nat.le_refl _) fun r m ⟨⟨t, e⟩, e2⟩ => ⟨⟨_, t, e, byteArr_ints (disp_in _ _ _)⟩, e2⟩
theorem jn_nonneg {fs : List Int} (h : ∀ f ∈ fs, 0 ≤ f) : 0 ≤ jn fs := by
  have : ∀ (fs : List Int) (a : Int), 0 ≤ a → (∀ f ∈ fs, 0 ≤ f) → 0 ≤ fs.foldl (fun a f => 10 * a + f) a := by
    intro fs
    induction fs with
    | nil => intro a ha _; exact ha
    | cons f r ih => intro a ha hf; exact ih _ (by have := hf f (.head _); show (0 : Int) ≤ 10 * a + f; omega) fun g hg => hf g (.tail _ hg)
  exact this fs 0 (Int.le_refl _) h
theorem OpK.jn0 (ok : OpK rest T ks dg kd true) : 0 ≤ jn ((cyc ks dg).map (· - 48)) := by
  refine jn_nonneg fun f hf => ?_
  obtain ⟨c, hc, rfl⟩ := List.mem_map.mp hf
  generalize hb : true = b at ok
  cases ok with
  | zero t1 t2 h e => subst e; rw [cyc_mem hc]; decide
  | fig x c t1 t2 h hx ne xl e => cases hb
  | all b t1 t2 h hb' h0' hz =>
    have := List.all_eq_true.mp hb.symm c hc
    unfold isFig at this
    rw [Bool.and_eq_true_iff, decide_eq_true_iff] at this
    show 0 ≤ c - 48
    omega
theorem kept_pos {sg : Bool} {d : Nat} {x : Int} (h : 0 ≤ x) : keptU sg d x = x.fmod (10 ^ d) := by
  unfold keptU
  rw [show decide (x < 0) = false from decide_eq_false (by exact Int.not_lt_of_ge h), Bool.false_and, if_neg Bool.false_ne_true, Int.toNat_natCast, show iabs x = x from if_neg (by exact Int.not_lt_of_ge h)]
theorem OpK.no (ok : OpK rest T ks dg kd false) (q : ∀ p ∈ rest, p ∈ news1) (hs : ShapeAt news1 sh "numeric" dg dg sc sg) (h1 : dg ≤ 20) : ConE w (.ref 763) 8 [.ref T, .ref sh] news1 := by
  generalize hb : false = b at ok
  cases ok with
  | zero t1 t2 h e => cases hb
  | fig x c t1 t2 h hx ne xl e => exact ConE.le (con_filled_fig_no w ne xl (q _ h) hs) (by decide)
  | all b t1 t2 h hb' h0' hz =>
    refine con_filled_all_no w (q _ h) hb' h0' hz ?_ hs h1
    have := List.all_eq_false.mp hb.symm
    obtain ⟨c, hc, hf⟩ := this
    exact ⟨c, hc, by simpa using hf⟩
end
theorem codeHd1038 (w : World) {g : Heap} (X : (hd.heap_1 w.params).In g) : CodeHd g 1040 1038 := ⟨_, _, _, _, _, _, _, _, _, X 1040 _ (by k_is), rfl, rfl, rfl, rfl, rfl, rfl, rfl, rfl, by decide⟩
noncomputable abbrev q1038 : S := "_law_fill_right.<locals>.<lambda>"
theorem lay0 {a b c : List Int} (h : a.length = b.length) : lay (a ++ c) (0, b) = b ++ c := by
  have := lay_app (x := []) (y := a) (z := b) (r := c) (i := 0) rfl h
  simpa using this
end Og

-- C35
namespace Og
-- what the figures tell
theorem jn_from : ∀ (fs : List Int) (a : Int), fs.foldl (fun a f => 10 * a + f) a = a * 10 ^ fs.length + jn fs
  | [], a => by show a = a * 10 ^ 0 + 0; rw [Int.pow_zero]; omega
  | f :: r, a => by
    show r.foldl _ (10 * a + f) = a * 10 ^ (r.length + 1) + r.foldl _ (10 * 0 + f)
    rw [jn_from r (10 * a + f), jn_from r (10 * 0 + f), Int.pow_succ, Int.add_mul, Int.add_mul, Int.mul_zero, Int.zero_mul, Int.zero_add, Int.mul_comm 10 a, Int.mul_assoc, Int.mul_comm 10 (10 ^ r.length), Int.add_assoc]
theorem jn_figs {v : Int} (h : 0 ≤ v) : ∀ d : Nat, jn (figs v d) = v % 10 ^ d
  | 0 => by rw [Int.pow_zero, Int.emod_one]; rfl
  | d + 1 => by
    have e : figs v (d + 1) = (rst v d).fmod 10 :: figs v d := by show (low v d ++ [_]).reverse = _; rw [List.reverse_append]; rfl
    rw [e]
    show (figs v d).foldl _ (10 * 0 + (rst v d).fmod 10) = _
    rw [jn_from, figs_length, jn_figs h d, rst_eq h, Int.fmod_eq_emod_of_nonneg _ (by decide), Int.mul_zero, Int.zero_add, Int.pow_succ]
    obtain ⟨n, rfl⟩ := Int.eq_ofNat_of_zero_le h
    have hn := congrArg (fun x : Nat => (x : Int)) (@Nat.mod_mul (10 ^ d) 10 n)
    simp only [Int.natCast_emod, Int.natCast_mul, Int.natCast_add, Int.natCast_ediv, Int.natCast_pow] at hn
    have e10 : ((10 : Nat) : Int) = 10 := rfl
    rw [e10] at hn
    rw [hn, Int.mul_comm, Int.add_comm]
theorem kept_id {sg : Bool} {d : Nat} {u : Int} (h : iabs u < 10 ^ d) (hs : sg = false → 0 ≤ u) : keptU sg d u = u := by
  have h0 := iabs_nonneg u
  unfold keptU
  rw [Int.toNat_natCast, Int.fmod_eq_emod_of_nonneg _ (Int.le_of_lt (Int.pow_pos (by decide))), Int.emod_eq_of_lt h0 h]
  by_cases q : u < 0
  · cases sg
    · exact absurd (hs rfl) (by exact Int.not_le_of_gt q)
    · rw [decide_eq_true q]; show 0 - iabs u = u; unfold iabs; rw [if_pos q]; omega
  · rw [decide_eq_false q]; show iabs u = u; unfold iabs; rw [if_neg q]
theorem tld_id {sg : Bool} {d : Nat} {u : Int} (h : iabs u < 10 ^ d) (hs : sg = false → 0 ≤ u) : tld sg d u = u := by
  have h0 := iabs_nonneg u
  unfold tld
  rw [jn_figs h0, Int.emod_eq_of_lt h0 h]
  by_cases q : u < 0
  · cases sg
    · exact absurd (hs rfl) (by exact Int.not_le_of_gt q)
    · rw [decide_eq_true q]; show 0 - iabs u = u; unfold iabs; rw [if_pos q]; omega
  · rw [decide_eq_false q, Bool.and_false]; show iabs u = u; unfold iabs; rw [if_neg q]
theorem nfig_gt (v : Int) : ∀ (f : Nat) (c r : Int), 0 ≤ r → r.toNat ≤ f → c ≤ nfig v f c r ∧ r < 10 ^ (nfig v f c r - c).toNat
  | 0, c, r, h0, h1 => by
    show c ≤ c ∧ r < 10 ^ (c - c).toNat
    rw [Int.sub_self]; exact ⟨Int.le_refl _, by show r < 10 ^ 0; rw [Int.pow_zero]; omega⟩
  | f + 1, c, r, h0, h1 => by
    unfold nfig
    by_cases q : r > 0
    · rw [if_pos q]
      have e : r.fdiv 10 = r / 10 := Int.fdiv_eq_ediv_of_nonneg _ (by decide)
      obtain ⟨a, b⟩ := nfig_gt v f (c + 1) (r.fdiv 10) (by rw [e]; omega) (by rw [e]; (clear h0 e; omega))
      refine ⟨Int.le_trans (Int.le_add_of_nonneg_right (by decide)) a, ?_⟩
      obtain ⟨n, hn⟩ := Int.le.dest a
      rw [← hn] at b ⊢
      rw [show c + 1 + (n : Int) - (c + 1) = (n : Int) by rw [Int.add_comm, Int.add_sub_cancel], Int.toNat_natCast, e] at b
      rw [show c + 1 + (n : Int) - c = ((n + 1 : Nat) : Int) by rw [Int.add_assoc, Int.add_comm c, Int.add_sub_cancel, Int.add_comm]; rfl, Int.toNat_natCast, Int.pow_succ]
      exact (Int.ediv_lt_iff_lt_mul (by decide)).mp b
    · rw [if_neg q, Int.sub_self]; exact ⟨Int.le_refl _, by show r < 10 ^ 0; rw [Int.pow_zero]; exact Int.lt_of_not_ge q⟩
theorem pow10_le {a b : Nat} (h : a ≤ b) : (10 : Int) ^ a ≤ 10 ^ b := by
  have h1 : (10 : Nat) ^ a ≤ 10 ^ b := Nat.pow_le_pow_right (by decide) h
  have h2 : (((10 ^ a : Nat)) : Int) ≤ ((10 ^ b : Nat) : Int) := Int.ofNat_le.mpr h1
  simpa using h2
theorem ndig_gt (u s : Int) : iabs u < 10 ^ (ndig u s).toNat := by
  have h0 := iabs_nonneg u
  have e : (iabs u).fdiv 10 = iabs u / 10 := Int.fdiv_eq_ediv_of_nonneg _ (by decide)
  obtain ⟨a, b⟩ := nfig_gt (iabs u) (iabs u).toNat 1 ((iabs u).fdiv 10) (by rw [e]; omega) (by rw [e]; (clear e; omega))
  have h1 : iabs u < 10 ^ ((nfig (iabs u) (iabs u).toNat 1 ((iabs u).fdiv 10) - 1).toNat + 1) := by
    rw [Int.pow_succ]
    rw [e] at b ⊢
    generalize (10 : Int) ^ (nfig (iabs u) (iabs u).toNat 1 (iabs u / 10) - 1).toNat = p at b ⊢
    omega
  refine Int.lt_of_lt_of_le h1 ?_
  have h2 : (nfig (iabs u) (iabs u).toNat 1 ((iabs u).fdiv 10) - 1).toNat + 1 ≤ (ndig u s).toNat := by unfold ndig; (clear h0 e b h1; omega)
  exact pow10_le h2
end Og

-- C36
namespace Og
/-- the octets that are no figures, among the first i -/
structure NoFig (cs : List Int) (i : Nat) (ys : List Value) : Prop where
  le : ys.length ≤ i
  fg : (cs.take i).all isFig = (ys.length == 0)
theorem NoFig.nil {cs : List Int} : NoFig cs 0 [] := ⟨Nat.le_refl _, rfl⟩
theorem NoFig.more {cs : List Int} {i : Nat} {ys : List Value} {c : Int} (j : NoFig cs i ys) (h : cs[i]? = some c) (hc : isFig c = false) (y : Value) : NoFig cs (i + 1) (ys ++ [y]) :=
  ⟨by rw [List.length_append]; exact Nat.succ_le_succ j.le, by rw [List.take_add_one, h, List.all_append, List.length_append]; show (_ && (isFig c && true)) = _; rw [hc, Bool.false_and, Bool.and_false]; rfl⟩
theorem NoFig.fig {cs : List Int} {i : Nat} {ys : List Value} {c : Int} (j : NoFig cs i ys) (h : cs[i]? = some c) (hc : isFig c = true) : NoFig cs (i + 1) ys :=
  ⟨Nat.le_succ_of_le j.le, by rw [List.take_add_one, h, List.all_append, j.fg]; show (_ && (isFig c && true)) = _; rw [hc, Bool.and_self, Bool.and_true]⟩
theorem NoFig.eq {cs : List Int} {n : Nat} {ys : List Value} (j : NoFig cs n ys) (hn : n = cs.length) : ((List.toArray ys).size == 0) = cs.all isFig := by
  have := j.fg
  rw [hn, List.take_length] at this
  rw [this, List.size_toArray]
set_option maxHeartbeats 8000000 in
theorem con_fill_right (w : World) {rest : List Ob} {W M T : Addr} {dg : Nat} {sc : Int} {sg : Bool} {its : Array Value} {c0 b : Array UInt8} {tx v ks : List Int} {ps : Array Value} {tb td ts : Tok} {kd : S} {num : Bool} (LW : LawW w rest W M tx.length dg sc sg its) (hc : bI c0 = tx ++ v ++ [32]) (hv : v.length = dg) (hb : bI b = tx)
    (hz : tx.length ≤ 100) (h0 : 1 ≤ dg) (h1 : dg ≤ 9) (k0 : 0 ≤ sc) (k1 : sc ≤ 9) (ok : OpK rest T ks dg kd num) (lam : LamT ⟨818, 25, 818, 77⟩ q1038 ps rest) :
    ConG w (.ref 1041) 12 [.ref W, .ref T, .bytes b tb, .int dg td, .int sc ts, .bool sg] ((M, baO c0) :: (1038, tabObj ps) :: rest) (fun r news' => r = .bool true ∧ (∀ p ∈ rest, p ∈ news') ∧ ∃ ps', (1038, tabObj ps') ∈ news') := by
  obtain ⟨D, di, lr, lt, xw, xn, xm, sw, sn, sm, dj, io, u0, kr, vw, vn, vm, hw, hd, iw, iN, im, n1, n2, n3, hsw, hsn, nsp, hdi, hio, lo, hlr, hlt⟩ := LW
  obtain ⟨wx, ws, wk, pg, px, pes, pk, p1, p2, p3, p4, q1, q2, q3, q4, q5, q6, _, q7⟩ := id hw
  refine ConG.var fun Ψ kk => ?_
  refine enterCG (binds := [("world", .ref W), ("operand", .ref T), ("text", .bytes b tb), ("digits", .int dg td), ("scale", .int sc ts), ("is_signed", .bool sg)]) (bs := [("is_signed", .bool sg), ("scale", .int sc ts), ("digits", .int dg td), ("text", .bytes b tb)]) (by k_is) (by k_is) (fun s X => BindsTo.of_eq rfl) (by intro n x hx; simp only [List.mem_cons, List.not_mem_nil, or_false] at hx; rcases hx with rfl | rfl | rfl | rfl | rfl | rfl <;> first | exact .inl rfl | exact .inr ⟨rfl, rfl⟩) (by decide +kernel) (cellsL2 (by intro L; rfl)) (by intro L; rfl) rfl rfl rfl ?_
  intro A base outer g L σ h t cells Z F hC N
  obtain ⟨o2, o1, rfl, k2, k1⟩ := CellsAre.two hC
  replace N := Led.front (pre := [_, _]) N
  dsimp only [List.cons_append, List.nil_append] at N
  have up : ∀ p ∈ rest, p ∈ (L + 1 + 1, o2) :: (L + 1, o1) :: (1038, tabObj ps) :: rest := fun p hp => .tail _ (.tail _ (.tail _ hp))
  with_reducible refine gw_consK fun K hY hV => ?_
  walk_at "ogs"
  refine abytesA (.head _) (by rw [hc]; simp; omega) ?_
  intro u t
  walk_at "og"
  with_reducible refine hY _ (gw_consKG fun K hY hV => gw_Expr (gw_Call ?_ (by with_unfolding_all rfl)) (by with_unfolding_all rfl) (by with_unfolding_all rfl))
  walk_at "og"
  with_reducible refine gw_cwK (by with_unfolding_all k_is) (by with_unfolding_all rfl) (by with_unfolding_all rfl) ?_
  with_reducible refine gw_any ?_
  walk_at "og"
  obtain ⟨ot, ob', mT, hkd⟩ := ok.mem
  have hcl := cyc_length ok.ne.1
  refine ConG.use (con_move_to w (TR := 969) (n0 := "WORDS") (xi := xw) (sh := sw) (off := 0) (sz := tx.length) (vs := cyc ks tx.length) (hw.mono up) (hd.mono up) ((namedW iw iN im n1 n2).mono up) (iw.mono up) hc (by simp; omega) (by decide) (by exact Int.natCast_nonneg tx.length) (by simp; exact Int.le.intro (v.length + 1) rfl) (ref_TEXT w) (hsw.mono up) (up _ mT) hkd (by rw [hcl]) fun n1 q => ok.text (fun p hp => q p (up p hp)) (hsw.mono fun p hp => q p (up p hp)) (by exact Nat.le_trans hz (Nat.le_add_left 100 900))) Z F N (by decide) ?_
  clear F N; rintro r news' g h t TT1 Z ⟨b1, rfl, hb1, rfl⟩ F N
  rw [List.append_assoc, lay0 (by rw [hcl])] at hb1
  with_reducible refine hY _ (gw_consKG fun K hY hV => gw_If (gw_any ?_))
  walk_at "ogs"
  refine abytesA (.head _) (by rw [hb1, List.length_append, hcl]; simp; omega) ?_
  intro u t
  walk_at "ogs"
  refine alenB hb (by exact Nat.le_trans hz (Nat.le_add_left 100 1099511627676)) ?_
  intro u t
  walk_at "ogs"
  refine Con.aq2 (ok.filled (fun p hp => .tail _ (up p hp)) tx.length (by exact Nat.le_trans hz (Nat.le_add_left 100 900)) _) Z (by decide) ?_
  intro c tc t hcc
  walk_at "ogs"
  refine alenB hb (by exact Nat.le_trans hz (Nat.le_add_left 100 1099511627676)) ?_
  intro u t
  walk_at "ogs"
  refine aslB hc (.int _ _) .none (by simp; omega) ?_ (fun _ => by with_unfolding_all rfl) (fun _ => by with_unfolding_all rfl)
  intro c2 u t hc2
  have hc3 : bI c2 = v ++ [32] := by
    rw [hc2]
    show (List.drop (clipAt _ (tx.length : Int)) _).take (_ - clipAt _ (tx.length : Int)) = _
    rw [clip_le (by simp), List.append_assoc, List.drop_left, List.take_of_length_le (by simp)]
  walk_at "ogs"
  refine aaddB hcc hc3 (by rw [hcl]; simp; omega) ?_
  intro u t hadd
  walk_at "ogs"
  refine aneBt hb1 hadd ?_
  walk_at "og"
  refine gw_any (wpAny_execs_nil ?_)
  with_reducible refine hY _ (gw_consK fun K hY hV => ?_)
  walk_at "ogs"
  refine Con.aq2 (ok.filled (fun p hp => .tail _ (up p hp)) dg (by exact Nat.le_trans h1 (Nat.le_add_left 9 991)) _) Z (by decide) ?_
  intro due td2 t hdue
  walk_at "og"
  with_reducible refine hY _ (gw_consK fun K hY hV => ?_)
  obtain ⟨XS, eXS, F⟩ := Fr_xs F
  refine wpAny_mono (Q := fun fl s' => fl = .next ∧ Ex2 fun h t => An3 (s' = st σ h t) (Fr g L h (lk (("is_number", .bool num) :: XS))) (Led g L h ((M, baO b1) :: (L + 1 + 1, o2) :: (L + 1, o1) :: (1038, tabObj ps) :: rest))) ?_ (fun fl s' hq => ?_) (fun _ _ e => e)
  · subst eXS
    cases ok with
    | zero t1 t2 h' e =>
      walk_at "og"
      refine eqT2 Z F N (.inr ⟨_, .tail _ (.tail _ (up _ h')), rfl, _, rfl⟩) (.inr ⟨_, .head _, rfl, _, rfl⟩) (SeqAt.EqAt.str_str _ _ _ _) (SeqAt.EqAt.str_str _ _ _ _) ?_
      replace N := N.tail
      rw [show ((Str.ofString "figure" == Str.ofString "figure") && (Str.ofString "ZERO" == Str.ofString "ZERO")) = true from by decide +kernel]
      walk_at "og"
      exact ⟨rfl, _, _, rfl, F, N⟩
    | fig x c t1 t2 h' hx ne xl e =>
      have m1 : tAt g T (List.toArray [.str "figure" t1, .str x t2]) ((M, baO b1) :: (L + 1 + 1, o2) :: (L + 1, o1) :: (1038, tabObj ps) :: rest) := .inr ⟨_, .tail _ (up _ h'), rfl, _, rfl⟩
      walk_at "og"
      refine eqT2 Z F N (.inr ⟨_, .tail _ (.tail _ (up _ h')), rfl, _, rfl⟩) (.inr ⟨_, .head _, rfl, _, rfl⟩) (SeqAt.EqAt.str_str _ _ _ _) (SeqAt.EqAt.str_str _ _ _ _) ?_
      replace N := N.tail
      rw [ne, Bool.and_false]
      walk_at "og"
      exact ⟨rfl, _, _, rfl, F, N⟩
    | all b' t1 t2 h' hb' h0' hz' =>
      have m1 : tAt g T (List.toArray [.str "all" t1, .bytes b' t2]) ((M, baO b1) :: (L + 1 + 1, o2) :: (L + 1, o1) :: (1038, tabObj ps) :: rest) := .inr ⟨_, .tail _ (up _ h'), rfl, _, rfl⟩
      walk_at "og"
      refine eqT2 Z F N (.inr ⟨_, .tail _ (.tail _ (up _ h')), rfl, _, rfl⟩) (.inr ⟨_, .head _, rfl, _, rfl⟩) (SeqAt.EqAt.str_str _ _ _ _) (eqAt_bytes_str _ _ _ _) ?_
      replace N := N.tail
      walk_at "og"
      refine itB F N ?_
      clear F N; intro I o h F N hIt
      refine comp_go (turns_bytes Z.hh I due td2) (fun i ys nw => NoFig (cyc ks dg) i ys ∧ nw = ((M, baO b1) :: (L + 1 + 1, o2) :: (L + 1, o1) :: (1038, tabObj ps) :: rest)) (by decide) (by rfl) (by rfl) (by rw [sizeLine_eq, ← KBw.ints_length due]; show (bI due).length ≤ _; rw [hdue, hcl]; exact Nat.le_trans h1 (Nat.le_add_left 9 16777207)) F N hIt ⟨.nil, rfl⟩ ?_ ?_ ?_
      · rintro i ys nw ⟨j, rfl⟩
        exact ⟨trivial, j.le⟩
      · clear F N hIt; rintro i v' ys o nw h t C oC D' m₂ E hlt ⟨cc, tc', hcc', rfl⟩ hIt ⟨j, rfl⟩ F N cO cV
        have hget : (cyc ks dg)[i]? = some (cc.toNat : Int) := by
          rw [← hdue, bI, KBw.bInts, List.getElem?_map, show due.toList[i]? = some cc by simpa using hcc']; rfl
        have hfg : isFig (cc.toNat : Int) = (decide (48 ≤ (cc.toNat : Int)) && decide ((cc.toNat : Int) ≤ 57)) := rfl
        clear hcc'
        walk_at "ogs"
        refine asplit (fun h1 => ?_) (fun h1 => ?_)
        · rw [h1, Bool.true_and] at hfg
          walk_at "ogs"
          refine asplit (fun h2 => ?_) (fun h2 => ?_)
          · walk_at "og"
            exact CStep.intro F N ⟨_, rfl, j.more hget (hfg.trans (by simpa using h2)) _, rfl⟩
          · walk_at "og"
            exact CStep.intro F N ⟨_, rfl, j.fig hget (hfg.trans (by simpa using h2)), rfl⟩
        · rw [h1, Bool.false_and] at hfg
          walk_at "og"
          exact CStep.intro F N ⟨_, rfl, j.more hget hfg _, rfl⟩
      · clear F N hIt; rintro D' ys nw h t F N ⟨j, rfl⟩
        walk_at "og"
        refine eq0L Z F N (.inr ⟨_, .tail _ (.head _), rfl, _, rfl⟩) (.inr ⟨_, .head _, rfl, _, rfl⟩) ?_
        replace N := N.tail.tail
        rw [j.eq (by rw [← KBw.ints_length due]; show (bI due).length = _; rw [hdue])]
        walk_at "og"
        exact ⟨rfl, _, _, rfl, F, N⟩
  obtain ⟨rfl, h, t, rfl, F, N⟩ := hq
  subst eXS
  try dsimp only
  cases num
  · with_reducible refine hY _ (gw_cons (gw_If (gw_any ?_)))
    walk_at "og"
    with_reducible refine gw_cons (gw_any ?_)
    walk_at "og"
    replace N := Led.front (pre := [_, _, _]) N
    dsimp only [List.cons_append, List.nil_append] at N
    refine lamE Z F N (codeHd1038 w Z.X) (lam.mono fun p hp => .tail _ (.tail _ (.tail _ hp))) rfl (by rfl) ?_
    clear F N; rintro f nw h t ⟨pm, c', ctv, oc, vs, tt, ps', rest', hnw, mf, mc, hdt, hv', hl', hs, hs2⟩ F N
    walk_at "og"
    have upn : ∀ p ∈ rest, p ∈ nw := fun p hp => hs2 p (.tail _ (.tail _ (.tail _ hp)))
    have c1 : ((L + 1 + 1, o2) : Ob) ∈ nw := hs2 _ (.tail _ (.head _))
    have c2 : ((L + 1, o1) : Ob) ∈ nw := hs2 _ (.tail _ (.tail _ (.head _)))
    have mM : ((M, baO b1) : Ob) ∈ nw := hs2 _ (.head _)
    have mt : (1038, tabObj ps') ∈ nw := by rw [hnw]; exact .tail _ (.head _)
    have pw1 := upn _ p1
    have pw2 := upn _ p2
    refine ConS.use (con_told_no w mf (k := 10) (enterLE (n := 9) mf mc hdt hv' rfl rfl rfl rfl (by decide) ?_)) Z F N (by decide) ?_
    · clear Z F N
      intro A base outer g L' σ h t Z F N
      walk_at "og"
      exact ConE.use (con_move_to_no w (TR := 972) (n0 := "NUM") (xi := xn) (sh := sn) (hw.mono upn) (hd.mono upn) ((namedN iw iN im n1 n3).mono upn) (iN.mono upn) mM hb1 (by rw [List.length_append, hcl]; simp; omega) (by rw [List.length_append, hcl]; simp; exact Int.le.intro 1 (congrFun (congrArg HAdd.hAdd (congrArg Nat.cast (id (Eq.symm hv)))) ↑1)) (ref_NUM w) (upn _ mT) hkd (ok.no upn (hsn.mono upn) (by exact Nat.le_trans h1 (Nat.le_add_left 9 11)))) Z F N (Nat.le_refl _) fun p hp => hp
    clear F N; rintro r news' g h t TT2 Z ⟨rfl, rfl⟩ F N
    walk_at "og"
    refine bytesA F N mM (by rw [hb1, List.length_append, hcl]; simp; omega) ?_
    intro u t
    walk_at "og"
    refine lenB hb (by exact Nat.le_trans hz (Nat.le_add_left 100 1099511627676)) ?_
    intro u t
    walk_at "og"
    refine tS (slB F N hb1 (.int _ _) .none (by rw [List.length_append, hcl]; simp; omega) ?_ (by with_unfolding_all rfl) (fun _ => by with_unfolding_all rfl))
    clear F N; intro c3 u h t F N hc5
    have hc6 : bI c3 = v ++ [32] := by
      rw [hc5]
      show (List.drop (clipAt _ (tx.length : Int)) _).take (_ - clipAt _ (tx.length : Int)) = _
      rw [clip_le (by rw [List.length_append, hcl]; simp), List.drop_left' (hcl _), List.take_of_length_le (by simp [hcl])]
    walk_at "og"
    refine lenB hb (by exact Nat.le_trans hz (Nat.le_add_left 100 1099511627676)) ?_
    intro u t
    walk_at "og"
    refine slB F N hc (.int _ _) .none (by simp; omega) ?_ (by with_unfolding_all rfl) (fun _ => by with_unfolding_all rfl)
    clear F N; intro c4 u h t F N hc7
    have hc8 : bI c4 = v ++ [32] := by
      rw [hc7]
      show (List.drop (clipAt _ (tx.length : Int)) _).take (_ - clipAt _ (tx.length : Int)) = _
      rw [clip_le (by simp), List.append_assoc, List.drop_left, List.take_of_length_le (by simp)]
    walk_at "og"
    refine eqB hc6 hc8 ?_
    rw [decide_eq_true rfl]
    walk_at "og"
    exact RetS.via kk (TT1.trans TT2) F N ⟨rfl, fun p hp => have := upn p hp; by walk_at "ogp", _, by walk_at "ogp"⟩
  · with_reducible refine hY _ (gw_consKG fun K hY hV => gw_If (gw_any ?_))
    walk_at "og"
    refine gw_any (wpAny_execs_nil ?_)
    with_reducible refine hY _ (gw_consK fun K hY hV => ?_)
    walk_at "og"
    with_reducible refine hY _ (gw_consK fun K hY hV => wpAny_For ?_ (by intro _; with_unfolding_all rfl))
    walk_at "og"
    refine itB F N ?_
    clear F N; intro I o h F N hIt
    have hsz : due.size = dg := by rw [← KBw.ints_length due]; show (bI due).length = _; rw [hdue, hcl]
    refine for_go (turns_bytes Z.hh I due td2) (fun i xs nw => (∃ tu, gv xs "units" = some (.int (jn (((cyc ks dg).map (· - 48)).take i)) tu)) ∧ gv xs "is_signed" = some (.bool sg) ∧ gv xs "scale" = some (.int sc ts) ∧ gv xs "digits" = some (.int (dg : Int) td) ∧ gv xs "text" = some (.bytes b tb) ∧ nw = ((M, baO b1) :: (L + 1 + 1, o2) :: (L + 1, o1) :: (1038, tabObj ps) :: rest)) F N hIt ⟨⟨_, rfl⟩, rfl, rfl, rfl, rfl, rfl⟩ (fun _ _ _ _ => trivial) ?_ ?_ PassesOwn.never (fun _ => rfl)
    · clear F N hIt; rintro i v' o xs nw h t hi ⟨cc, tc', hcc', rfl⟩ _ ⟨⟨tu, l1⟩, l2, l3, l4, l5, rfl⟩ F N
      have hget : ((cyc ks dg).map (· - 48))[i]? = some ((cc.toNat : Int) - 48) := by
        rw [← hdue, List.getElem?_map, bI, KBw.bInts, List.getElem?_map, show due.toList[i]? = some cc by simpa using hcc']; rfl
      walk_at "og"
      have ej : jn (((cyc ks dg).map (· - 48)).take (i + 1)) = 10 * jn (((cyc ks dg).map (· - 48)).take i) + (cc.toNat : Int) - 48 := by rw [List.take_add_one, hget, Option.toList_some, jn_snoc, ← Int.add_sub_assoc]
      exact ⟨_, _, _, _, rfl, F, N, _, rfl, ⟨_, by rw [ej]; exact lk_hd⟩, lk_tl (by decide) (lk_tl (by decide) l2), lk_tl (by decide) (lk_tl (by decide) l3), lk_tl (by decide) (lk_tl (by decide) l4), lk_tl (by decide) (lk_tl (by decide) l5), rfl⟩
    clear F N hIt; rintro xs nw h t ⟨⟨tu, l1⟩, l2, l3, l4, l5, rfl⟩ F N
    rw [hsz, List.take_of_length_le (by rw [List.length_map, hcl]; exact Nat.le_refl _)] at l1
    with_reducible refine hY _ (gw_consKG fun K hY hV => gw_Expr (gw_Call ?_ (by with_unfolding_all rfl)) (by with_unfolding_all rfl) (by with_unfolding_all rfl))
    walk_at "og"
    with_reducible refine gw_cwK (by with_unfolding_all k_is) (by with_unfolding_all rfl) (by with_unfolding_all rfl) ?_
    with_reducible refine gw_any ?_
    walk_at "og"
    refine ConG.use (con_move_to w (TR := 972) (n0 := "NUM") (xi := xn) (sh := sn) (off := (tx.length : Int)) (sz := (dg : Int)) (vs := disp sg dg (keptU sg dg (jn ((cyc ks dg).map (· - 48)) * 10 ^ sc.toNat))) (hw.mono up) (hd.mono up) ((namedN iw iN im n1 n3).mono up) (iN.mono up) hb1 (by rw [List.length_append, hcl]; simp; omega) (by exact Int.natCast_nonneg tx.length) (by exact Int.natCast_nonneg dg) (by rw [List.length_append, hcl]; simp; exact Int.le.intro 1 (congrFun (congrArg HAdd.hAdd (congrArg Nat.cast (id (Eq.symm hv)))) ↑1)) (ref_NUM w) (hsn.mono up) (up _ mT) hkd (by rw [disp_length]) fun n1 q => ok.yes (fun p hp => q p (up p hp)) (hsn.mono fun p hp => q p (up p hp)) h0 (by exact Nat.le_trans h1 (Nat.le_add_left 9 11)) k0 (by omega)) Z F N (by decide) ?_
    clear F N; rintro r news' g h t TT2 Z ⟨b2, rfl, hb2, rfl⟩ F N
    rw [lay_app (by rw [hcl]) (by rw [disp_length, hv])] at hb2
    with_reducible refine hY _ (gw_cons (gw_any ?_))
    walk_at "ogs"
    refine abytesA (.head _) (by rw [hb2, List.length_append, List.length_append, hcl, disp_length]; simp; exact Nat.le_trans (Nat.add_le_add hz h1) (Nat.le_add_left (100 + 9) 999890)) ?_
    intro u t
    walk_at "ogs"
    refine alenB hb (by exact Nat.le_trans hz (Nat.le_add_left 100 1099511627676)) ?_
    intro u t
    walk_at "og"
    refine tS (slB F N hb2 (.int _ _) (.int _ _) (by rw [List.length_append, List.length_append, hcl, disp_length]; simp; exact Nat.le_trans (Nat.add_le_add hz h1) (Nat.le_add_left (100 + 9) 16777106)) ?_ (by with_unfolding_all rfl) (fun _ => by with_unfolding_all rfl))
    clear F N; intro c3 u h t F N hc3'
    have hc4 : bI c3 = disp sg dg (keptU sg dg (jn ((cyc ks dg).map (· - 48)) * 10 ^ sc.toNat)) := by
      rw [hc3']
      have hlen : (cyc ks tx.length ++ disp sg dg (keptU sg dg (jn ((cyc ks dg).map (· - 48)) * 10 ^ sc.toNat)) ++ [32]).length = tx.length + dg + 1 := by rw [List.length_append, List.length_append, hcl, disp_length]; rfl
      rw [hlen]
      show (List.drop (clipAt _ (tx.length : Int)) _).take (clipAt _ (-1) - clipAt _ (tx.length : Int)) = _
      rw [clip_le (by exact Nat.le_succ_of_le (Nat.le_add_right tx.length dg)), show clipAt (tx.length + dg + 1) (-1) = tx.length + dg by unfold clipAt; (clear hv k0 n1 n2 n3 lo kk up hcl; omega), List.append_assoc, List.drop_left' (by rw [hcl]), show tx.length + dg - tx.length = dg by exact Nat.add_sub_self_left tx.length dg, List.take_left' (by rw [disp_length])]
    walk_at "ogs"
    refine apowI k0 ?_ ?_
    · have e : (Builtin.Int.intBits 10 : Int) = 4 := by decide +kernel
      rw [e]; omega
    intro u t
    refine amulI (mulOk10 (k := sc.toNat) (by omega)) ?_
    intro u t
    walk_at "ogs"
    refine apowI (by exact Int.natCast_nonneg dg) ?_ ?_
    · have e : (Builtin.Int.intBits 10 : Int) = 4 := by decide +kernel
      rw [e]; omega
    intro u t
    rw [Int.toNat_natCast]
    refine amodI (Int.ne_of_gt (Int.pow_pos (by decide))) ?_
    intro u t
    walk_at "ogs"
    refine Con.au1 (con_law_signed w _ _ dg _ _ h0 h1) Z (by decide) ?_
    intro _ t
    walk_at "ogs"
    refine aeqB hc4 (byteArr_ints (disp_in _ _ _)) ?_
    rw [kept_pos (Int.mul_nonneg ok.jn0 (Int.le_of_lt (Int.pow_pos (by decide)))), decide_eq_true rfl]
    walk_at "og"
    exact RetS.via kk (TT1.trans TT2) F N ⟨rfl, fun p hp => by walk_at "ogp", _, by walk_at "ogm"⟩
end Og

-- C37
namespace Og
noncomputable def noCode (o : Obj) : Bool := match o.data with
  | .fields vs => (match (vs[1]? : Option Value) with
    | some (.str _ _) => false
    | _ => true)
  | _ => true
theorem LamT.off {pos : Pos} {q : S} {ps : Array Value} {D R : List Ob} (x : LamT pos q ps (D ++ R)) (hD : (D.all fun p => noCode p.2) = true) : LamT pos q ps R := by
  refine x.imp id fun ⟨c', oc, vs, t, e, m, d, v⟩ => ⟨c', oc, vs, t, e, ?_, d, v⟩
  rcases List.mem_append.mp m with m | m
  · have := List.all_eq_true.mp hD _ m
    unfold noCode at this
    rw [show ((c', oc) : Ob).2.data = _ from d] at this
    dsimp only at this
    rw [v] at this
    cases this
  · exact m
section
variable {w : World} {n k : Nat} {A : Around} {base h₀ h : Heap} {outer : List Env} {L W T P : Addr} {σ : Shared} {t : Nat} {m : S → Option Value} {E : Value → Shared → Prop} {env : Env} {Q : Value → Shared → Prop} {rest : List Ob} {cat : S} {size d scale : Int} {sgn : Bool} {ks : List Int} {ps : Array Value}
/-- what is laid, the changing objects D kept in view -/
theorem laidU (D : List Ob) (hD : (D.all fun p => noCode p.2) = true) (C : ∀ news1, (∀ p ∈ D ++ rest, p ∈ news1) → Con w (.ref 910) k [.ref W, .ref T] news1 (Found w cat size d scale sgn ks news1)) (hl : LamT p1017 q1017 ps rest) (Z : Site w n A base outer env L h₀) (F : Fr h₀ L h m) (N : Led h₀ L h ((1017, tabObj ps) :: (D ++ rest))) (hk : k + 4 ≤ n)
    (H : ∀ T' c u t1 t2 t3 ps' rest' h t, bI c = ks → LamT p1017 q1017 ps' rest' → (∀ p ∈ rest, p ∈ rest') → Fr h₀ L h m → Led h₀ L h ((T', tup [.str cat t1, .int size t2, .int scale t3, .bool sgn, .bytes c u]) :: (1017, tabObj ps') :: (D ++ rest')) → Q (.ref T') (st σ h t)) :
    wpAny (model PW w) A (call (.ref 1022) [.ref W, .ref T]) Q E (st σ h t) := by
  have old := N.tail.d
  refine Con.use (con_law_laid w C (hl.mono fun p hp => List.mem_append_right _ hp)) Z F N hk ?_
  rintro r news' h t ⟨T', c, u, t1, t2, t3, ps', rest', rfl, rfl, hc, hl', q⟩ F N
  obtain ⟨r2, N2, q2, q3⟩ := Led.redo [_, _] D N old q
  exact H _ _ _ _ _ _ _ _ h t hc ((hl'.mono q3).off hD) q2 F N2
theorem found_number {u s : Int} {t1 t2 t3 : Tok} (hT : (T, tup [.str "number" t1, .ref P]) ∈ rest) (hP : (P, tup [.int u t2, .int s t3]) ∈ rest) (hu : iabs u < 10 ^ 12) (hs0 : 0 ≤ s) (hs : s ≤ 12) :
    ∀ news1, (∀ p ∈ rest, p ∈ news1) → Con w (.ref 910) 5 [.ref W, .ref T] news1 (Found w "numeric" (ndig u s) (ndig u s) s (decide (u < 0)) (disp (decide (u < 0)) (ndig u s).toNat u) news1) := fun news1 q => by
  refine Con.le (con_operand_in_number w (q _ hT) (q _ hP) hu hs0 hs) (Nat.le_refl _) ?_
  rintro r m ⟨T', x, dx, es, t, rfl, rfl, he⟩
  refine ⟨T', x, _, t, [_, _], rfl, rfl, he.at (.head _) (.tail _ (.head _)), ?_⟩
  obtain ⟨d0, d1⟩ := ndig_le hu hs
  rw [byteArr_ints (disp_in _ _ _)]
  have e := kept_id (sg := decide (u < 0)) (ndig_gt u s) (fun h => by have := of_decide_eq_false h; exact Int.not_lt.mp this)
  rw [Int.toNat_of_nonneg (by exact Int.le_of_lt d0)] at e
  rw [e]
end
theorem LawW.mono {w : World} {rest rest' : List Ob} {W M : Addr} {ln d : Nat} {sc : Int} {sg : Bool} {its : Array Value} (x : LawW w rest W M ln d sc sg its) (q : ∀ p ∈ rest, p ∈ rest') : LawW w rest' W M ln d sc sg its := by
  obtain ⟨D, di, lr, lt, xw, xn, xm, sw, sn, sm, dj, io, u0, kr, vw, vn, vm, hw, hd, iw, iN, im, n1, n2, n3, hsw, hsn, nsp, hdi, hio, lo, hlr, hlt⟩ := x
  exact ⟨D, di, lr, lt, xw, xn, xm, sw, sn, sm, dj, io, u0, kr, vw, vn, vm, hw.mono q, hd.mono q, iw.mono q, iN.mono q, im.mono q, n1, n2, n3, hsw.mono q, hsn.mono q, nsp.mono q, q _ hdi, hio, lo, q _ hlr, q _ hlt⟩
end Og

-- C38
namespace Og
section
variable {w : World} {A : Around} {E : Value → Shared → Prop} {h₀ h : Heap} {L I : Addr} {σ : Shared} {t n : Nat} {xs : List (S × Value)} {news : List Ob} {env : Env} {o : Obj}
/-- for, with a tuple for its target -/
theorem for_goP {It : Nat → Obj → Prop} {V : Nat → Value → Prop} {need : List Ob → Prop} {target : Expr} {body : List Stmt} {Q : Flow → Shared → Prop} (T : Turns w A h₀ L I n It V need) (J : Nat → List (S × Value) → List Ob → Prop)
    (F : Fr h₀ L h (lk xs)) (N : Led h₀ L h ((I, o) :: news)) (h0 : It 0 o) (j0 : J 0 xs news) (hneed : ∀ i xs news, J i xs news → need news)
    (ht : ∀ i v o (h : Heap) t (Q : Unit → Shared → Prop) (E : Value → Shared → Prop), V i v → It (i + 1) o → h.get? I = some o → Q () (st σ h t) → wpAny (model PW w) A (letOwnedTupleGo target (.ref I) v) Q E (st σ h t))
    (step : ∀ i v o xs news h t, i < n → V i v → It (i + 1) o → J i xs news → Fr h₀ L h (lk xs) → Led h₀ L h ((I, o) :: news) →
      wpAny (model PW w) A (assign target env v) (fun _ s₂ => wpAny (model PW w) A (execs body env) (Step h₀ L σ Q fun xs' news' => ∃ nw, news' = (I, o) :: nw ∧ J (i + 1) xs' nw) E s₂) E (st σ h t))
    (done : ∀ xs news h t, J n xs news → Fr h₀ L h (lk xs) → Led h₀ L h news → Q .next (st σ h t)) (hE : PassesOwn (model PW w) A env E) :
    codeAny (model PW w) A (.forLoop target (.ref I) body [] env) (fun r s' => match r with | .ok f => Q f s' | .error e => cameBackBy (model PW w) A env E e s') (st σ h t) := by
  refine codeAny_forLoop_any (ForI h₀ L σ I n It J) ?_ n ⟨0, o, xs, news, h, t, rfl, Nat.zero_le _, rfl, h0, j0, F, N⟩
  rintro k s' ⟨i, o, xs, news, h, t, rfl, hi, rfl, hit, hj, F, N⟩
  by_cases hlt : i < n
  · refine T.item i o h t _ news σ _ _ hlt hit F N (hneed _ _ _ hj) fun v o' h t hv hit' F N => ?_
    refine ht i v o' h t _ _ hv hit' (N.get (.head _)) ?_
    refine wpAny_mono (wpAny_passesOwn hE (step i v o' xs news h t hlt hv hit' hj F N)) (fun _ s₂ h₂ => wpAny_mono (wpAny_passesOwn hE h₂) (fun fl s₃ h₃ => ?_) fun _ _ e => e) fun _ _ e => e
    cases fl with
    | ret v => exact h₃
    | brk => exact h₃
    | next =>
      obtain ⟨xs', _, h₃, t₃, rfl, F₃, N₃, nw, rfl, hj₃⟩ := h₃
      exact ⟨n - (i + 1), by exact Nat.sub_succ_lt_self n i hlt, i + 1, o', xs', nw, h₃, t₃, rfl, hlt, rfl, hit', hj₃, F₃, N₃⟩
    | cont =>
      obtain ⟨xs', _, h₃, t₃, rfl, F₃, N₃, nw, rfl, hj₃⟩ := h₃
      exact ⟨n - (i + 1), by exact Nat.sub_succ_lt_self n i hlt, i + 1, o', xs', nw, h₃, t₃, rfl, hlt, rfl, hit', hj₃, F₃, N₃⟩
  · obtain rfl : i = n := by exact Nat.le_antisymm hi (Nat.le_of_not_lt hlt)
    exact T.done o h t _ news σ _ _ hit F N (hneed _ _ _ hj) fun h t F N => wpAny_execs_nil (done xs news h t hj F N)
end
section
variable {w : World} {n : Nat} {A : Around} {base h₀ h : Heap} {outer : List Env} {L l b : Addr} {σ : Shared} {t : Nat} {m : S → Option Value} {news : List Ob} {E : Value → Shared → Prop} {env : Env} {Q : Value → Shared → Prop}
theorem eqAtI (a : Int) (t u : Tok) (A : Around) (s : Shared) : SeqAt.EqAt A s (.int a t) (.int a u) true := beq_self_eq_true a ▸ SeqAt.EqAt.int_int a t a u
/-- two tuples with what is laid, alike -/
theorem neL5 {cat : S} {a d : Int} {q : Bool} {x y : Array UInt8} {t1 t2 t3 t4 u1 u2 u3 u4 : Tok} {ks : List Int} (Z : Site w n A base outer env L h₀) (F : Fr h₀ L h m) (N : Led h₀ L h news) (hl : tAt h₀ l (List.toArray [.str cat t1, .int a t2, .int d t3, .bool q, .bytes x t4]) news)
    (hb : tAt h₀ b (List.toArray [.str cat u1, .int a u2, .int d u3, .bool q, .bytes y u4]) news) (hc : (cat == cat) = true) (hx : bI x = ks) (hy : bI y = ks) (H : Q (.bool false) (st σ h t)) : wpAny (model PW w) A (compareOp .NotEq (.ref l) (.ref b)) Q E (st σ h t) := by
  refine neT5 Z F N hl hb (SeqAt.EqAt.str_str _ _ _ _) (eqAtI _ _ _ _ _) (eqAtI _ _ _ _ _) (SeqAt.EqAt.same _) (eqAt_bytes hx hy) ?_
  rw [hc, decide_eq_true rfl]
  exact H
end
/-- a number and what is to be laid for it -/
inductive RowOk (R : List Ob) (v : Value) : Prop where
  | mk (T P : Addr) (u s : Int) (b : Array UInt8) (t1 t2 t3 : Tok) (e : v = .ref T) (m1 : (T, tup [.ref P, .bytes b t1]) ∈ R) (m2 : (P, tup [.int u t2, .int s t3]) ∈ R) (hu : iabs u < 10 ^ 9) (h0 : 0 ≤ s) (h1 : s ≤ 9) (h2 : ndig u s ≤ 9) (hd : disp (decide (u < 0)) (ndig u s).toNat u = bI b)
inductive Rows5 (g : Heap) (L : Addr) (σ : Shared) (xs : List (S × Value)) (tab : Obj) (R0 : List Ob) (v : Value) (s' : Shared) : Prop where
  | mk (l : Addr) (its : Array Value) (R1 : List Ob) (h : Heap) (t : Nat) (e : v = .ref l) (e2 : s' = st σ h t) (F : Fr g L h (lk xs)) (N : Led g L h ((1017, tab) :: R1)) (q : ∀ p ∈ R0, p ∈ R1) (hl : (l, listOf its 0) ∈ R1) (hr : ∀ v ∈ its.toList, RowOk R1 v)
set_option maxHeartbeats 8000000 in
theorem con_law_written_right (w : World) {rest : List Ob} {ps : Array Value} (hl : LamT p1017 q1017 ps rest) :
    ConG w (.ref 1048) 13 [] ((1017, tabObj ps) :: rest) (fun r news' => r = .bool true ∧ Ex2 fun ps' rest' => An3 (news' = (1017, tabObj ps') :: rest') (LamT p1017 q1017 ps' rest') (∀ p ∈ rest, p ∈ rest')) := by
  refine ConG.var fun Ψ kk => ?_
  refine enterG (binds := []) (bs := []) (by k_is) (by k_is) (fun s X => BindsTo.of_eq rfl) rfl rfl rfl rfl rfl (by decide) ?_
  intro A base outer g L σ h t Z F N
  with_reducible refine gw_consKG fun K hY hV => gw_Assign_Name (gw_Call ?_ (by with_unfolding_all rfl)) (by with_unfolding_all rfl)
  walk_at "og"
  with_reducible refine gw_cwK (by with_unfolding_all k_is) (by with_unfolding_all rfl) (by with_unfolding_all rfl) ?_
  with_reducible refine gw_any ?_
  walk_at "og"
  refine ConG.use (con_law_world w (tx := [97, 98]) rfl (by decide) (dg := 3) (by decide) (by decide) (by decide) (by decide) (.head _) (Nat.le_of_ble_eq_true rfl)) Z F N (by decide) ?_
  clear F N; rintro r news' g h t TT Z ⟨W, M, c, ext, rfl, rfl, hc, LW⟩ F N
  have N1 := Led.front (pre := (M, baO c) :: (ext ++ [_])) (p := (1017, tabObj ps)) (post := rest) (by rw [List.cons_append, List.append_assoc]; exact N)
  obtain ⟨R0, sM, sE, sR, N⟩ : ∃ R0, An4 ((M, baO c) ∈ R0) (∀ p ∈ ext, p ∈ R0) (∀ p ∈ rest, p ∈ R0) (Led g L h ((1017, tabObj ps) :: R0)):=
    ⟨_, List.mem_append_left _ List.mem_cons_self, fun p hp => List.mem_append_left _ (List.mem_cons_of_mem _ (List.mem_append_left _ hp)), fun p hp => List.mem_append_right _ hp, N1⟩
  clear N1
  replace LW := LW.mono sE
  walk_at "og"
  with_reducible refine hY _ (gw_consK fun K hY hV => wpAny_For (wpAny_mono (Q := Rows5 g L σ [("world", .ref W)] (tabObj ps) R0) ?_ (fun v s' hq => ?_) fun _ _ e => e) (by intro _; with_unfolding_all rfl))
  · walk_at "og"
    refine .mk l _ _ h t rfl rfl F (Led.front (pre := [_, _, _, _, _, _, _, _, _, _, _]) N) (fun p hp => List.mem_append_right [_, _, _, _, _, _, _, _, _, _, _] hp) (.head _) fun v hv => ?_
    replace hv := List.mem_cons.mp hv
    simp only [List.mem_cons, List.not_mem_nil, or_false] at hv
    rcases hv with rfl | rfl | rfl | rfl | rfl
    all_goals exact .mk _ _ _ _ _ _ _ _ rfl (by walk_at "ogm") (by walk_at "ogm") (by decide) (by decide) (by decide) (by decide +kernel) (by decide +kernel)
  obtain ⟨l, its, R1, h, t, rfl, rfl, F, N, q1, hlR, hr⟩ := hq
  refine itL F N (.inr ⟨_, .tail _ hlR, rfl, _, rfl⟩) ?_
  clear F N; intro I o h F N hI hne
  refine for_goP (turns_list Z.hh l I its hne) (fun i xs nw => gv xs "world" = some (.ref W) ∧ Ex2 fun ps' R2 => An3 (nw = (1017, tabObj ps') :: R2) (LamT p1017 q1017 ps' R2) (∀ p ∈ R1, p ∈ R2)) F N hI ⟨rfl, _, _, rfl, hl.mono fun p hp => q1 p (sR p hp), fun p hp => hp⟩ ?_ ?_ ?_ ?_ PassesOwn.never
  · rintro i xs nw ⟨_, ps', R2, rfl, _, q⟩
    exact .inr ⟨_, .tail _ (q _ hlR), rfl, _, rfl⟩
  · intro i v o h t Q E hv hit e hQ
    obtain ⟨T, _, _, _, _, _, _, _, rfl, _, _, _, _, _, _, _⟩ := hr v (List.mem_of_getElem? (l := its.toList) (by simpa using hv))
    exact wpAny_letOwnedTupleGo_listiter (s := st σ h t) ⟨o, e, hit.1, hit.2⟩ hQ
  · clear F N hI; rintro i v ⟨oc, oD, od, osl⟩ xs nw h t hlt hv ⟨rfl, rfl⟩ ⟨l1, ps', R2, rfl, hl2, q2⟩ F N
    obtain ⟨T, P, u, s, b, t1, t2, t3, rfl, mT, mP, hu, h0, h1, h2, hd⟩ := hr v (List.mem_of_getElem? (l := its.toList) (by simpa using hv))
    replace mT := q2 _ mT
    replace mP := q2 _ mP
    have hi0 := iabs_nonneg u
    have m1 : tAt g T (List.toArray [.ref P, .bytes b t1]) ((I, ⟨.type "list_iterator", oD, .fields #[.ref l, .int ((i + 1 : Nat) : Int) 0], osl⟩) :: (1017, tabObj ps') :: R2) := .inr ⟨_, .tail _ (.tail _ mT), rfl, _, rfl⟩
    walk_at "og"
    refine laidU [_, _] rfl (found_number (u := u) (s := s) (.head _) (.tail _ (.tail _ mP)) (by omega) h0 (by exact Int.le_trans h1 (Int.ofNat_le.mpr (Nat.le_add_left 9 3)))) hl2 Z F (Led.front (pre := [_, _]) N) (by decide) ?_
    clear F N; intro T1 c1 u1 w1 w2 w3 ps2 R3 h t hc1 hl3 q3 F N
    walk_at "og"
    obtain ⟨d0, d1⟩ := ndig_le (u := u) (s := s) (by omega) (by exact Int.le_trans h1 (Int.ofNat_le.mpr (Nat.le_add_left 9 3)))
    refine Con.use (con_law_number_due w (.tail _ (.tail _ (.tail _ (.tail _ (q3 _ mP))))) hu h2 d0) Z F N (by decide) ?_
    clear F N; rintro r news' h t ⟨T2, w4, w5, w6, w7, rfl, rfl⟩ F N
    walk_at "og"
    refine neL5 Z F N (.inr ⟨_, .tail _ (.head _), rfl, _, rfl⟩) (.inr ⟨_, .head _, rfl, _, rfl⟩) (by decide +kernel) hc1 (byteArr_ints (disp_in _ _ _)) ?_
    walk_at "og"
    refine laidU [_, _, _, _, _] rfl (found_number (u := u) (s := s) (.head _) (.tail _ (.tail _ (.tail _ (.tail _ (.tail _ (q3 _ mP)))))) (by omega) h0 (by exact Int.le_trans h1 (Int.ofNat_le.mpr (Nat.le_add_left 9 3)))) hl3 Z F (Led.front (pre := [_, _, _]) N) (by decide) ?_
    clear F N; intro T3 c3 u3 w8 w9 w0 ps3 R4 h t hc3 hl4 q4 F N
    walk_at "og"
    refine tS (gT (j := 4) F N (.inr ⟨_, .head _, rfl, _, rfl⟩) (by decide) (by decide) rfl rfl ?_ (by with_unfolding_all rfl) (fun _ => by with_unfolding_all rfl))
    walk_at "ogs"
    refine aneBt hc3 hd.symm ?_
    walk_at "og"
    exact ⟨_, _, _, _, rfl, F, (N.tail.sub (.cons_cons _ (.cons _ (.cons _ (.cons _ (.cons _ (List.Sublist.refl _))))))).perm (.swap _ _ _), _, rfl, lk_tl (by decide) (lk_tl (by decide) l1), _, _, rfl, hl4, fun p hp => q4 p (q3 p (q2 p hp))⟩
  clear F N hI; rintro xs nw h t ⟨l1, ps', R2, rfl, hl2, q2⟩ F N
  obtain ⟨D, di, lr, lt, xw, xn, xm, sw, sn, sm, dj, io, u0, kr, vw, vn, vm, hw, hd, iw, iN, im, n1, n2, n3, hsw, hsn, nsp, hdi, hio, lo, hlr, hlt⟩ := LW.mono fun p hp => q2 p (q1 p hp)
  have hM := q2 _ (q1 _ sM)
  obtain ⟨wx, ws, wk, pg, px, pes, pk, p1, p2, p3, p4, r1, r2, r3, r4, r5, r6, r7, r8⟩ := id hw
  with_reducible refine hY _ (gw_consK fun K hY hV => ?_)
  walk_at "og"
  refine ne0L Z F N (.inr ⟨_, .tail _ (.tail _ hlt), rfl, _, rfl⟩) (.inr ⟨_, .head _, rfl, _, rfl⟩) ?_
  replace N := N.tail
  rw [show ((#[] : Array Value).size != 0) = false from rfl]
  walk_at "ogs"
  refine aneBt (ks := []) rfl rfl ?_
  walk_at "ogs"
  refine abytesA (.tail _ hM) (by rw [hc]; decide) ?_
  intro u t
  walk_at "ogs"
  replace hc : bI c = [97, 98, 49, 48, 78, 32] := hc.trans (by decide +kernel)
  refine aneBt hc rfl ?_
  walk_at "og"
  with_reducible refine hY _ (gw_cons (gw_any ?_))
  walk_at "og"
  refine Con.use (con_octets_at w (n0 := "NUM") (xi := xn) (sh := sn) (hw.mono fun p hp => .tail _ hp) (hd.mono fun p hp => .tail _ hp) ((namedN iw iN im n1 n3).mono fun p hp => .tail _ hp) (iN.mono fun p hp => .tail _ hp) (.tail _ hM) hc (by decide) (by decide) (by decide) (by decide) (ref_NUM w) (hsn.mono fun p hp => .tail _ hp)) Z F N (by decide) ?_
  clear F N; rintro r news' h t ⟨c2, u, rfl, hc2, rfl⟩ F N
  walk_at "ogs"
  refine aeqB (ls := [49, 48, 78]) hc2 rfl ?_
  rw [show decide (cutAt [97, 98, 49, 48, 78, 32] ((([97, 98] : List Int).length : Nat) : Int) ((3 : Nat) : Int) = [49, 48, 78]) = true from by decide +kernel]
  walk_at "og"
  refine Con.use (con_number_of_zero w (.head _)) Z F N (by decide) ?_
  clear F N; rintro r news' h t ⟨T, u1, u2, rfl, rfl⟩ F N
  walk_at "og"
  refine eqT2 Z F N (.inr ⟨_, .tail _ (.head _), rfl, _, rfl⟩) (.inr ⟨_, .head _, rfl, _, rfl⟩) (eqAtI _ _ _ _ _) (eqAtI _ _ _ _ _) ?_
  rw [Bool.and_self]
  walk_at "og"
  exact RetS.via kk TT F N.tail.tail.tail ⟨rfl, _, _, rfl, hl2, fun p hp => q2 p (q1 p (sR p hp))⟩
end Og

-- C39
namespace Og
theorem all4 {α : Type} {P : α → Prop} {a b c d : α} (h1 : P a) (h2 : P b) (h3 : P c) (h4 : P d) : ∀ p ∈ [a, b, c, d], P p :=
  List.forall_mem_cons.mpr ⟨h1, List.forall_mem_cons.mpr ⟨h2, List.forall_mem_cons.mpr ⟨h3, List.forall_mem_cons.mpr ⟨h4, fun _ h => nomatch h⟩⟩⟩⟩
theorem all5 {α : Type} {P : α → Prop} {a b c d e : α} (h1 : P a) (h2 : P b) (h3 : P c) (h4 : P d) (h5 : P e) : ∀ p ∈ [a, b, c, d, e], P p :=
  List.forall_mem_cons.mpr ⟨h1, all4 h2 h3 h4 h5⟩
section
variable {w : World} {n : Nat} {A : Around} {base h₀ h : Heap} {outer : List Env} {L f lp : Addr} {σ : Shared} {t : Nat} {m : S → Option Value} {news : List Ob} {E : Value → Shared → Prop} {env env' : Env} {Q : Value → Shared → Prop} {S0 : List Ob} {M : Md} {G : Gd} {xs : List (S × Value)}
/-- a draw from the script, its place anywhere in the ledger -/
theorem takeU (pre : List Ob) {post : List Ob} {k nn : Nat} {lim : Int} {tm tk : Tok} (TC : TakeC w f lp S0) (q : ∀ p ∈ S0, p ∈ pre ++ post) (Z : Site w n A base outer env L h₀) (F : Fr h₀ L h m) (N : Led h₀ L h (pre ++ (lp, listOf (List.toArray [.int (k : Int) tk]) nn) :: post)) (hm : 0 < lim) (hk : k ≤ 100) (hn : 2 ≤ n)
    (H : ∀ v u tk' (k' : Nat) h t, k' = k + 1 → 0 ≤ v → v < lim → Fr h₀ L h m → Led h₀ L h (pre ++ (lp, listOf (List.toArray [.int (k' : Int) tk']) nn) :: post) → Q (.int v u) (st σ h t)) : wpAny (model PW w) A (call (.ref f) [.int lim tm]) Q E (st σ h t) := by
  refine Con.use (TC.go _ q k lim tm tk nn hm hk) Z F (Led.front N) hn ?_
  rintro r news' h t ⟨v, u, tk', rfl, rfl, h0, h1⟩ F N
  exact H v u tk' _ h t rfl h0 h1 F (N.perm List.perm_middle.symm)
theorem callF {pos : Pos} {e : Expr} {rest : List Expr} (TC : TakeC w f lp S0) (q : ∀ p ∈ S0, p ∈ news) (N : Led h₀ L h news) (H : wpAny (model PW w) A (spliced (backTo pos (starEach (e :: rest) env'))) (fun vs s₁ => FnAt f s₁.heap ∧ wpAny (model PW w) A (call (.ref f) ([] ++ vs)) Q E s₁) E (st σ h t))
    (he : starEach (e :: rest) env' = (false, eval e env') :: starEach rest env') (hp : (backTo pos (starEach rest env')).any (·.1) = false) : wpAny (model PW w) A (callWith pos (.ref f) [] (backTo pos (starEach (e :: rest) env')) []) Q E (st σ h t) := by
  obtain ⟨_, _, _, _, hf⟩ := TC.fn
  exact callWith_F (s := st σ h t) (FnAt.of N.n (q _ hf)) H he hp
theorem TakeC.at (TC : TakeC w f lp S0) (q : ∀ p ∈ S0, p ∈ news) (N : Led h₀ L h news) : FnAt f (st σ h t).heap := by
  obtain ⟨_, _, _, _, hf⟩ := TC.fn
  exact FnAt.of N.n (q _ hf)
end
/-- numbers drawn within a comprehension -/
inductive DrawJ (p1 : Ob) (lp : Addr) (post : List Ob) (nn k0 : Nat) (lo hi : Int) (i : Nat) (ys : List Value) (nw : List Ob) : Prop where
  | mk (ks : List Int) (tk : Tok) (a : IntsAre ys ks) (b : ∀ c ∈ ks, lo ≤ c ∧ c ≤ hi) (l : ks.length = i) (e : nw = p1 :: (lp, listOf (List.toArray [.int ((k0 + i : Nat) : Int) tk]) nn) :: post) : DrawJ p1 lp post nn k0 lo hi i ys nw
theorem DrawJ.le {p1 : Ob} {lp : Addr} {post : List Ob} {nn k0 : Nat} {lo hi : Int} {i : Nat} {ys : List Value} {nw : List Ob} (j : DrawJ p1 lp post nn k0 lo hi i ys nw) : True ∧ ys.length ≤ i := by
  obtain ⟨ks, tk, a, b, l, e⟩ := j
  exact ⟨trivial, by rw [a.length, l]; exact Nat.le_refl _⟩
theorem all_snoc {ks : List Int} {c lo hi : Int} (h : ∀ x ∈ ks, lo ≤ x ∧ x ≤ hi) (hc : lo ≤ c ∧ c ≤ hi) : ∀ x ∈ ks ++ [c], lo ≤ x ∧ x ≤ hi := fun x hx => by
  rcases List.mem_append.mp hx with hx | hx
  · exact h x hx
  · rw [List.mem_singleton.mp hx]; exact hc
theorem in_of {ks : List Int} {lo hi : Int} (h : ∀ x ∈ ks, lo ≤ x ∧ x ≤ hi) (h0 : 0 ≤ lo) (h1 : hi ≤ 255) : In ks := fun c hc => by
  obtain ⟨a, b⟩ := h c hc
  omega
/-- units, with no sign if there is to be none -/
inductive UnJ (g : Heap) (L : Addr) (σ : Shared) (XS : List (S × Value)) (news : List Ob) (pp : Int) (sg : Bool) (fl : Flow) (s' : Shared) : Prop where
  | mk (uu : Int) (tu : Tok) (h : Heap) (t : Nat) (e : fl = .next) (e2 : s' = st σ h t) (F : Fr g L h (lk (("units", .int uu tu) :: XS))) (N : Led g L h news) (b : iabs uu < pp) (s : sg = false → 0 ≤ uu) : UnJ g L σ XS news pp sg fl s'
/-- a statement that leaves all as it is -/
inductive NxJ (g : Heap) (L : Addr) (σ : Shared) (XS : List (S × Value)) (news : List Ob) (fl : Flow) (s' : Shared) : Prop where
  | mk (h : Heap) (t : Nat) (e : fl = .next) (e2 : s' = st σ h t) (F : Fr g L h (lk XS)) (N : Led g L h news) : NxJ g L σ XS news fl s'
/-- a statement within which something is laid -/
inductive LdJ (g : Heap) (L : Addr) (σ : Shared) (XS : List (S × Value)) (D R : List Ob) (fl : Flow) (s' : Shared) : Prop where
  | mk (h : Heap) (t : Nat) (ps : Array Value) (R' : List Ob) (e : fl = .next) (e2 : s' = st σ h t) (F : Fr g L h (lk XS)) (N : Led g L h ((1017, tabObj ps) :: (D ++ R'))) (hl : LamT p1017 q1017 ps R') (q : ∀ p ∈ R, p ∈ R') : LdJ g L σ XS D R fl s'
theorem Led.eqD {h₀ h : Heap} {L : Addr} {p : Ob} (D : List Ob) {R : List Ob} (N : Led h₀ L h (p :: (D ++ R))) (hD : (D.all fun p => noCode p.2) = true) : ∃ nw, An3 (nw = D) ((nw.all fun p => noCode p.2) = true) (Led h₀ L h (p :: (nw ++ R))):= ⟨D, rfl, hD, N⟩
theorem Led.eqD0 {h₀ h : Heap} {L : Addr} {p : Ob} {l : List Ob} (N : Led h₀ L h (p :: l)) : ∃ nw, nw = l ∧ Led h₀ L h (p :: nw) := ⟨l, rfl, N⟩
theorem Led.eqn {h₀ h : Heap} {L : Addr} {l : List Ob} (N : Led h₀ L h l) : ∃ nw, nw = l ∧ Led h₀ L h nw := ⟨l, rfl, N⟩
/-- rows drawn within a comprehension -/
inductive RowsJ (p1 : Ob) (lp : Addr) (post : List Ob) (nn k0 : Nat) (i : Nat) (ys : List Value) (nw : List Ob) : Prop where
  | mk (tk : Tok) (l : ys.length = i) (e : nw = p1 :: (lp, listOf (List.toArray [.int ((k0 + i : Nat) : Int) tk]) nn) :: post) : RowsJ p1 lp post nn k0 i ys nw
theorem RowsJ.le {p1 : Ob} {lp : Addr} {post : List Ob} {nn k0 : Nat} {i : Nat} {ys : List Value} {nw : List Ob} (j : RowsJ p1 lp post nn k0 i ys nw) : True ∧ ys.length ≤ i := by
  obtain ⟨tk, l, e⟩ := j
  exact ⟨trivial, Nat.le_of_eq l⟩
theorem iabs_iabs (u : Int) : iabs (iabs u) = iabs u := by
  show (if iabs u < 0 then -iabs u else iabs u) = iabs u
  rw [if_neg (by have := iabs_nonneg u; exact Int.not_lt_of_ge this)]
section
variable {w : World} {n : Nat} {A : Around} {base h₀ h : Heap} {outer : List Env} {L l b : Addr} {σ : Shared} {t : Nat} {m : S → Option Value} {news : List Ob} {E : Value → Shared → Prop} {env : Env} {Q : Value → Shared → Prop} {its : Array Value}
theorem neLs (Z : Site w n A base outer env L h₀) (F : Fr h₀ L h m) (N : Led h₀ L h news) (hl : lAt h₀ l its news) (hb : lAt h₀ b its news) (H : Q (.bool false) (st σ h t)) : wpAny (model PW w) A (compareOp .NotEq (.ref l) (.ref b)) Q E (st σ h t) := by
  refine SeqAt.RcNeAt.lists (s := st σ h t) (e := fun _ => true) (hl.list F.keep N.n) (hb.list F.keep N.n) rfl (by have := Z.un; exact Nat.lt_of_add_right_lt this) (fun j h1 h2 => SeqAt.EqAt.same _) PW w E Q ?_
  rw [show (List.range its.size).all (fun _ => true) = true from List.all_eq_true.mpr fun _ _ => rfl]
  exact H
theorem neIX {oa ob : Obj} {u v : Tok} (Z : Site w n A base outer env L h₀) (N : Led h₀ L h news) (pa : (l, oa) ∈ news) (pb : (b, ob) ∈ news) (da : oa.IsDictOf (strKind PW w) [("IX", .int 1 u)]) (db : ob.IsDictOf (strKind PW w) [("IX", .int 1 v)]) (la : l ≠ sysModules) (lb : b ≠ sysModules)
    (H : Q (.bool false) (st σ h t)) : wpAny (model PW w) A (compareOp .NotEq (.ref l) (.ref b)) Q E (st σ h t) :=
  kne_pairs (s := st σ h t) N.n pa pb da db (by simpa using la) (by simpa using lb) rfl (by have := Z.un; exact Nat.lt_of_add_right_lt this) (.hit rfl (eqAtI 1 _ _ _ _) .nil) H
end
section
variable {n k : Nat} {base : Heap} {outer : List Env} {env env' : Env} {f lp l b W' T' : Addr} {t : Nat} {news S0 : List Ob} {Q : Value → Shared → Prop} {M : Md} {G : Gd} {xs : List (S × Value)}
noncomputable def kCF (M : Md) (f : Addr) (Q : Value → Shared → Prop) (vs : List Value) : Shared → Prop := fun s => FnAt f s.heap ∧ W M (call (.ref f) ([] ++ vs)) Q s
theorem aCallF {pos : Pos} {e : Expr} {rest : List Expr} (TC : TakeC M.w f lp S0) (q : ∀ p ∈ S0, p ∈ news) (he : plE e = true) (hp : rest.all plE = true) (H : As G t xs news (W M (spliced (backTo pos (starEach (e :: rest) env'))) (kCF M f Q))) :
    As G t xs news (W M (callWith pos (.ref f) [] (backTo pos (starEach (e :: rest) env')) []) Q) := .mk fun h F N => callF TC q N (H.1 h F N) (star_pl he) (any_pl hp)
theorem mem_mid {pre post : List Ob} {x p : Ob} (h : p ∈ pre ++ post) : p ∈ pre ++ x :: post := (List.mem_append.mp h).elim (List.mem_append_left _) fun h => List.mem_append_right _ (.tail _ h)
theorem aTk (pre : List Ob) {post : List Ob} {kk nn : Nat} {lim : Int} {tm tk : Tok} (TC : TakeC M.w f lp S0) (q : ∀ p ∈ S0, p ∈ pre ++ post) (Z : Site M.w n M.A base outer env G.L G.g) (hm : 0 < lim) (hk : kk ≤ 100) (hn : 2 ≤ n)
    (H : ∀ v u tk' (k' : Nat) t, k' = kk + 1 → 0 ≤ v → v < lim → As G t xs (pre ++ (lp, listOf (List.toArray [.int (k' : Int) tk']) nn) :: post) (Q (.int v u))) : As G t xs (pre ++ (lp, listOf (List.toArray [.int (kk : Int) tk]) nn) :: post) (kCF M f Q [.int lim tm]) :=
  .mk fun h F N => ⟨TC.at (fun p hp => mem_mid (q p hp)) N, takeU pre TC q Z F N hm hk hn fun v u tk' k' h t e a b F N => (H v u tk' k' t e a b).1 h F N⟩
theorem anePair {a c : Int} {t1 t2 u1 u2 : Tok} (Z : Site M.w n M.A base outer env G.L G.g) (hl : tAt G.g l (List.toArray [.int a t1, .int c t2]) news) (hb : tAt G.g b (List.toArray [.int a u1, .int c u2]) news) (H : As G t xs news (Q (.bool false))) :
    As G t xs news (W M (compareOp .NotEq (.ref l) (.ref b)) Q) := .mk fun h F N => neT2 Z F N hl hb (eqAtI _ _ _ _ _) (eqAtI _ _ _ _ _) (H.1 h F N)
theorem aneL5 {cat : S} {a d : Int} {q : Bool} {x y : Array UInt8} {t1 t2 t3 t4 u1 u2 u3 u4 : Tok} {ks : List Int} (Z : Site M.w n M.A base outer env G.L G.g) (hl : tAt G.g l (List.toArray [.str cat t1, .int a t2, .int d t3, .bool q, .bytes x t4]) news)
    (hb : tAt G.g b (List.toArray [.str cat u1, .int a u2, .int d u3, .bool q, .bytes y u4]) news) (hc : (cat == cat) = true) (hx : bI x = ks) (hy : bI y = ks) (H : As G t xs news (Q (.bool false))) : As G t xs news (W M (compareOp .NotEq (.ref l) (.ref b)) Q) :=
  .mk fun h F N => neL5 Z F N hl hb hc hx hy (H.1 h F N)
theorem aneLs {its : Array Value} (Z : Site M.w n M.A base outer env G.L G.g) (hl : lAt G.g l its news) (hb : lAt G.g b its news) (H : As G t xs news (Q (.bool false))) : As G t xs news (W M (compareOp .NotEq (.ref l) (.ref b)) Q) := .mk fun h F N => neLs Z F N hl hb (H.1 h F N)
theorem aneIX {oa ob : Obj} {u v : Tok} (Z : Site M.w n M.A base outer env G.L G.g) (pa : (l, oa) ∈ news) (pb : (b, ob) ∈ news) (da : oa.IsDictOf (strKind PW M.w) [("IX", .int 1 u)]) (db : ob.IsDictOf (strKind PW M.w) [("IX", .int 1 v)]) (la : l ≠ sysModules) (lb : b ≠ sysModules)
    (H : As G t xs news (Q (.bool false))) : As G t xs news (W M (compareOp .NotEq (.ref l) (.ref b)) Q) := .mk fun h F N => neIX Z N pa pb da db la lb (H.1 h F N)
theorem alaid (D : List Ob) {rest : List Ob} {cat : S} {size d scale : Int} {sgn : Bool} {ks : List Int} {ps : Array Value} (hD : (D.all fun p => noCode p.2) = true) (C : ∀ news1, (∀ p ∈ D ++ rest, p ∈ news1) → Con M.w (.ref 910) k [.ref W', .ref T'] news1 (Found M.w cat size d scale sgn ks news1)) (hl : LamT p1017 q1017 ps rest)
    (Z : Site M.w n M.A base outer env G.L G.g) (pm : news.Perm ((1017, tabObj ps) :: (D ++ rest))) (hk : k + 4 ≤ n)
    (H : ∀ T'' c u t1 t2 t3 ps' rest' t, bI c = ks → LamT p1017 q1017 ps' rest' → (∀ p ∈ rest, p ∈ rest') → As G t xs ((T'', tup [.str cat t1, .int size t2, .int scale t3, .bool sgn, .bytes c u]) :: (1017, tabObj ps') :: (D ++ rest')) (Q (.ref T''))) :
    As G t xs news (W M (call (.ref 1022) [.ref W', .ref T']) Q) :=
  .mk fun h F N => laidU D hD C hl Z F (N.perm pm) hk fun a b c d e f g i h t x y z F N => (H a b c d e f g i t x y z).1 h F N
theorem adue {uu s : Int} {tu ts : Tok} (hT : (l, tup [.int uu tu, .int s ts]) ∈ news) (hu : iabs uu < 10 ^ 9) (h1 : (ndig uu s) ≤ 9) (h0 : 1 ≤ ndig uu s) (Z : Site M.w n M.A base outer env G.L G.g) (hk : 2 ≤ n)
    (H : ∀ T'' t1 t2 t3 t4 t, As G t xs ((T'', tup [.str "numeric" t1, .int (ndig uu s) t2, .int s t3, .bool (decide (uu < 0)), .bytes (byteArr (disp (decide (uu < 0)) (ndig uu s).toNat uu)) t4]) :: news) (Q (.ref T''))) : As G t xs news (W M (call (.ref 1029) [.ref l]) Q) :=
  .mk fun h F N => Con.use (con_law_number_due M.w hT hu h1 h0) Z F N hk fun r n h t p F N => by
    obtain ⟨T'', t1, t2, t3, t4, rfl, rfl⟩ := p
    exact (H T'' t1 t2 t3 t4 t).1 h F N
end
theorem ConT.var {w : World} {f : Value} {vs : List Value} {news : List Ob} {P : Value → List Ob → Prop} (H : ∀ Ψ : Value → List Ob → Prop, (∀ r n, P r n → Ψ r n) → ConT w f vs news Ψ) : ConT w f vs news P := H P fun _ _ h => h
theorem noCode_cell {o : Obj} {v : Option Value} (k : o.data = .cell v) : noCode o = true := by unfold noCode; rw [k]
theorem noCode_seq {o : Obj} {v : Array Value} {n : Nat} (k : o.data = .seq v n) : noCode o = true := by unfold noCode; rw [k]
theorem nD {a1 a2 a3 lp ls : Addr} {o1 o2 o3 lo : Obj} {v1 v2 v3 : Option Value} {its vl : Array Value} {n nl : Nat} (k1 : o1.data = .cell v1) (k2 : o2.data = .cell v2) (k3 : o3.data = .cell v3) (hl : lo.data = .seq vl nl) :
    (List.all [((a1, o1) : Ob), (lp, listOf its n), (a3, o3), (a2, o2), (1050, tabObj #[]), (1038, tabObj #[]), (ls, lo)] fun p => noCode p.2) = true := by
  show (noCode o1 && (true && (noCode o3 && (noCode o2 && (true && (true && (noCode lo && true))))))) = true
  rw [noCode_cell k1, noCode_cell k2, noCode_cell k3, noCode_seq hl]; rfl
theorem nD2 {a2 a3 ls M : Addr} {c : Array UInt8} {o2 o3 lo : Obj} {v2 v3 : Option Value} {vl : Array Value} {nl : Nat} (k2 : o2.data = .cell v2) (k3 : o3.data = .cell v3) (hl : lo.data = .seq vl nl) :
    (List.all [((a2, o2) : Ob), (M, baO c), (a3, o3), (1050, tabObj #[]), (1038, tabObj #[]), (ls, lo)] fun p => noCode p.2) = true := by
  show (noCode o2 && (true && (noCode o3 && (true && (true && (noCode lo && true)))))) = true
  rw [noCode_cell k2, noCode_cell k3, noCode_seq hl]; rfl
theorem pick5 {v : Int} (h0 : 0 ≤ v) (h1 : v < 5) (t1 t2 t3 t4 t5 : Tok) : Ex3 fun j c t => An4 (seqIndex? v ([.int 48 t1, .int 57 t2, .int 49 t3, .int 65 t4, .int 32 t5] : List Value).length = some j) (([.int 48 t1, .int 57 t2, .int 49 t3, .int 65 t4, .int 32 t5] : List Value)[j]? = some (.int c t)) (32 ≤ c) (c ≤ 65):= by
  obtain rfl | rfl | rfl | rfl | rfl : v = 0 ∨ v = 1 ∨ v = 2 ∨ v = 3 ∨ v = 4 := by omega
  all_goals exact ⟨_, _, _, rfl, rfl, by decide, by decide⟩
theorem pickF {v : Int} (h0 : 0 ≤ v) (h1 : v < 5) (t1 t2 t3 t4 t5 : Tok) : Ex4 fun (j : Nat) (x : S) (t : Tok) (c : Int) => An3 (seqIndex? v ([.str "ZERO" t1, .str "SPACE" t2, .str "HIGH" t3, .str "LOW" t4, .str "QUOTE" t5] : List Value).length = some j) (([.str "ZERO" t1, .str "SPACE" t2, .str "HIGH" t3, .str "LOW" t4, .str "QUOTE" t5] : List Value)[j]? = some (.str x t)) ((x = "ZERO" ∧ c = 48) ∨ ((x, c) ∈ figT ∧ (x == "ZERO") = false ∧ x.length ≤ 100)):= by
  obtain rfl | rfl | rfl | rfl | rfl : v = 0 ∨ v = 1 ∨ v = 2 ∨ v = 3 ∨ v = 4 := by omega
  · exact ⟨_, _, _, 48, rfl, rfl, .inl ⟨rfl, rfl⟩⟩
  · exact ⟨_, _, _, 32, rfl, rfl, .inr ⟨by simp [figT], by decide +kernel, by decide +kernel⟩⟩
  · exact ⟨_, _, _, 255, rfl, rfl, .inr ⟨by simp [figT], by decide +kernel, by decide +kernel⟩⟩
  · exact ⟨_, _, _, 0, rfl, rfl, .inr ⟨by simp [figT], by decide +kernel, by decide +kernel⟩⟩
  · exact ⟨_, _, _, 34, rfl, rfl, .inr ⟨by simp [figT], by decide +kernel, by decide +kernel⟩⟩
theorem OpK.mono {R R' : List Ob} {T : Addr} {ks : List Int} {dg : Nat} {kd : S} {num : Bool} (x : OpK R T ks dg kd num) (q : ∀ p ∈ R, p ∈ R') : OpK R' T ks dg kd num := by
  cases x with
  | zero t1 t2 h e => exact .zero t1 t2 (q _ h) e
  | fig x c t1 t2 h hx ne xl e => exact .fig x c t1 t2 (q _ h) hx ne xl e
  | all b t1 t2 h hb h0 hz => exact .all b t1 t2 (q _ h) hb h0 hz
theorem OpK.in_no {w : World} {W : Addr} {R R' : List Ob} {T : Addr} {ks : List Int} {dg : Nat} {kd : S} {num : Bool} (x : OpK R T ks dg kd num) (q : ∀ p ∈ R, p ∈ R') : ConE w (.ref 910) 4 [.ref W, .ref T] R' := by
  cases x with
  | zero t1 t2 h e => exact con_operand_in_no w (by decide +kernel) (by decide +kernel) (by decide +kernel) (q _ h)
  | fig x c t1 t2 h hx ne xl e => exact con_operand_in_no w (by decide +kernel) (by decide +kernel) (by decide +kernel) (q _ h)
  | all b t1 t2 h hb h0 hz => exact con_operand_in_no w (by decide +kernel) (by decide +kernel) (by decide +kernel) (q _ h)
/-- the operand is chosen -/
inductive OpJ (g : Heap) (L : Addr) (σ : Shared) (bt : Array UInt8) (dg : Nat) (vc : Int) (sg : Bool) (D R : List Ob) (fl : Flow) (s' : Shared) : Prop where
  | mk (h : Heap) (t : Nat) (XS : List (S × Value)) (R' : List Ob) (T : Addr) (ks : List Int) (kd : S) (num : Bool) (ta tb tc : Tok) (e : fl = .next) (e2 : s' = st σ h t) (l1 : gv XS "text" = some (.bytes bt ta)) (l2 : gv XS "digits" = some (.int (dg : Int) tb)) (l3 : gv XS "scale" = some (.int vc tc)) (l4 : gv XS "is_signed" = some (.bool sg)) (l5 : gv XS "operand" = some (.ref T))
    (F : Fr g L h (lk XS)) (N : Led g L h (D ++ R')) (ok : OpK R' T ks dg kd num) (q : ∀ p ∈ R, p ∈ R') : OpJ g L σ bt dg vc sg D R fl s'
theorem OpK.of_fig {R : List Ob} {T : Addr} {x : S} {c : Int} {dg : Nat} {t1 t2 : Tok} (h : (T, tup [.str "figure" t1, .str x t2]) ∈ R) (hx : (x = "ZERO" ∧ c = 48) ∨ ((x, c) ∈ figT ∧ (x == "ZERO") = false ∧ x.length ≤ 100)) : Ex2 fun ks num => OpK R T ks dg "figure" num := by
  rcases hx with ⟨rfl, rfl⟩ | ⟨a, b, l⟩
  · exact ⟨_, _, .zero _ _ h rfl⟩
  · exact ⟨_, _, .fig _ _ _ _ h a b l rfl⟩
noncomputable abbrev p1050 : Pos := ⟨858, 21, 858, 52⟩
noncomputable abbrev q1050 : S := "law.<locals>.<lambda>"
theorem codeHd1050 (w : World) {g : Heap} (X : (hd.heap_1 w.params).In g) : CodeHd g 1052 1050 := ⟨_, _, _, _, _, _, _, _, _, X 1052 _ (by k_is), rfl, rfl, rfl, rfl, rfl, rfl, rfl, rfl, by decide⟩
/-- ahead of each turn of the loop over the wrong operands -/
inductive WrJ (bt : Array UInt8) (dg : Nat) (vc : Int) (sg : Bool) (T c3 : Addr) (S1 : List Ob) (XS : List (S × Value)) (nw : List Ob) : Prop where
  | mk (ta tb tc : Tok) (o3 : Obj) (vo : Option Value) (psx : Array Value) (R' : List Ob) (l1 : gv XS "text" = some (.bytes bt ta)) (l2 : gv XS "digits" = some (.int (dg : Int) tb)) (l3 : gv XS "scale" = some (.int vc tc)) (l4 : gv XS "is_signed" = some (.bool sg)) (l5 : gv XS "operand" = some (.ref T))
    (e : nw = (1050, tabObj psx) :: (c3, o3) :: R') (k : o3.data = .cell vo) (hl : LamT p1050 q1050 psx R') (q : ∀ p ∈ S1, p ∈ R') : WrJ bt dg vc sg T c3 S1 XS nw
-- what the law's world is asked
section
variable {w : World} {rest news : List Ob} {W M : Addr} {d : Nat} {sc u : Int} {sg : Bool} {its : Array Value} {b : Array UInt8} {tx v : List Int}
theorem cut_left (tx v r : List Int) : cutAt (tx ++ v ++ r) 0 tx.length = tx := by
  unfold cutAt
  rw [show (0 : Int).toNat = 0 from rfl, List.drop_zero, Int.toNat_natCast, List.append_assoc, List.take_left]
theorem cut_mid (tx v r : List Int) (hv : v.length = d) : cutAt (tx ++ v ++ r) tx.length d = v := by
  unfold cutAt
  rw [Int.toNat_natCast, Int.toNat_natCast, List.append_assoc, List.drop_left, List.take_left' hv]
theorem LawW.foundT (LW : LawW w rest W M tx.length d sc sg its) (hM : (M, baO b) ∈ rest) (hk : bI b = tx ++ v ++ [32]) (hz : tx.length ≤ 100) (hv : v.length = d) (hd : d ≤ 9) :
    ∀ news1, (∀ p ∈ rest, p ∈ news1) → Con w (.ref 910) 8 [.ref W, .ref 969] news1 (Found w "alphanumeric" tx.length 0 0 false tx news1) := fun news1 q => by
  obtain ⟨D, di, lr, lt, xw, xn, xm, sw, sn, sm, dj, io, u0, kr, vw, vn, vm, hw, hd', iw, iN, im, n1, n2, n3, hsw, hsn, nsp, hdi, hio, lo, hlr, hlt⟩ := LW
  refine Con.le (con_operand_in_ref w (n0 := "WORDS") (xi := xw) (sh := sw) (hw.mono q) (hd'.mono q) ((namedW iw iN im n1 n2).mono q) (iw.mono q) (q _ hM) hk (by simp; omega) (by simp; exact Int.le.intro (v.length + 1) rfl) (by decide) (by exact Int.natCast_nonneg tx.length) (ref_TEXT w) (hsw.mono q)) (Nat.le_refl _) ?_
  rintro r m ⟨T', c, t, rfl, hc, rfl⟩
  rw [cut_left] at hc
  exact ⟨T', _, c, t, [], rfl, rfl, hsw.mono q, hc⟩
theorem LawW.foundN (LW : LawW w rest W M tx.length d sc sg its) (hM : (M, baO b) ∈ rest) (hk : bI b = tx ++ v ++ [32]) (hz : tx.length ≤ 100) (hv : v.length = d) (hd : d ≤ 9) :
    ∀ news1, (∀ p ∈ rest, p ∈ news1) → Con w (.ref 910) 8 [.ref W, .ref 972] news1 (Found w "numeric" d d sc sg v news1) := fun news1 q => by
  obtain ⟨D, di, lr, lt, xw, xn, xm, sw, sn, sm, dj, io, u0, kr, vw, vn, vm, hw, hd', iw, iN, im, n1, n2, n3, hsw, hsn, nsp, hdi, hio, lo, hlr, hlt⟩ := LW
  refine Con.le (con_operand_in_ref w (n0 := "NUM") (xi := xn) (sh := sn) (hw.mono q) (hd'.mono q) ((namedN iw iN im n1 n3).mono q) (iN.mono q) (q _ hM) hk (by simp; omega) (by simp; exact Int.le.intro 1 (congrFun (congrArg HAdd.hAdd (congrArg Nat.cast (id (Eq.symm hv)))) ↑1)) (by exact Int.natCast_nonneg tx.length) (by exact Int.natCast_nonneg d) (ref_NUM w) (hsn.mono q)) (Nat.le_refl _) ?_
  rintro r m ⟨T', c, t, rfl, hc, rfl⟩
  rw [cut_mid _ _ _ hv] at hc
  exact ⟨T', _, c, t, [], rfl, rfl, hsn.mono q, hc⟩
theorem found_text {T : Addr} {c : Array UInt8} {cs : List Int} {t1 t2 : Tok} (hT : (T, tup [.str "text" t1, .bytes c t2]) ∈ rest) (hc : bI c = cs) (hz : cs.length ≤ 1000) :
    ∀ news1, (∀ p ∈ rest, p ∈ news1) → Con w (.ref 910) 8 [.ref W, .ref T] news1 (Found w "alphanumeric" cs.length 0 0 false cs news1) := fun news1 q => by
  refine Con.le (con_operand_in_text w (q _ hT) hc hz) (by decide) ?_
  rintro r m ⟨T', x, dx, es, t, rfl, rfl, he⟩
  exact ⟨T', x, _, t, [_, _], rfl, rfl, he.at (.head _) (.tail _ (.head _)), hc⟩
theorem LawW.number (LW : LawW w rest W M tx.length d sc sg its) (hM : (M, baO b) ∈ rest) (hk : bI b = tx ++ disp sg d u ++ [32]) (hz : tx.length ≤ 100) (h0 : 1 ≤ d) (hd : d ≤ 9) (k0 : 0 ≤ sc) (hu : iabs u < 10 ^ d) (hs : sg = false → 0 ≤ u) : Con w (.ref 917) 9 [.ref W, .ref 972] rest (NewPair rest (dec sc.toNat u sc)) := by
  obtain ⟨D, di, lr, lt, xw, xn, xm, sw, sn, sm, dj, io, u0, kr, vw, vn, vm, hw, hd', iw, iN, im, n1, n2, n3, hsw, hsn, nsp, hdi, hio, lo, hlr, hlt⟩ := LW
  have e := tld_id (sg := sg) hu hs
  have hl := disp_length sg d u
  have C := con_number_of_item w (n0 := "NUM") (xi := xn) (sh := sn) hw hd' (namedN iw iN im n1 n3) iN hM hk (by simp; (clear k0 hu hs n1 n2 n3 lo e; omega)) (by simp; (clear hz h0 hd k0 hu hs n1 n2 n3 lo e; omega)) (by exact Int.natCast_nonneg tx.length) (ref_NUM w) hsn nsp (by exact Int.ofNat_le.mpr h0) (by exact Int.ofNat_le.mpr (Nat.le_trans hd (Nat.le_add_left 9 11))) k0 u (by rw [Int.toNat_natCast]; exact cut_mid _ _ _ hl) hdi hio lo rfl
  rw [Int.toNat_natCast, e] at C
  exact C
theorem LawW.index (LW : LawW w rest W M tx.length d sc sg its) : Con w (.ref 917) 2 [.ref W, .ref 975] rest (NewPair rest (1, 0)) := by
  obtain ⟨D, di, lr, lt, xw, xn, xm, sw, sn, sm, dj, io, u0, kr, vw, vn, vm, hw, hd', iw, iN, im, n1, n2, n3, hsw, hsn, nsp, hdi, hio, lo, hlr, hlt⟩ := LW
  exact con_number_of_index w hw hdi hio lo (ref_IX w)
theorem LawW.text (LW : LawW w rest W M tx.length d sc sg its) (hM : (M, baO b) ∈ rest) (hk : bI b = tx ++ v ++ [32]) (hz : tx.length ≤ 100) (hv : v.length = d) (hd : d ≤ 9) : ConE w (.ref 917) 9 [.ref W, .ref 969] rest := by
  obtain ⟨D, di, lr, lt, xw, xn, xm, sw, sn, sm, dj, io, u0, kr, vw, vn, vm, hw, hd', iw, iN, im, n1, n2, n3, hsw, hsn, nsp, hdi, hio, lo, hlr, hlt⟩ := LW
  exact con_number_of_text w (n0 := "WORDS") (xi := xw) (sh := sw) hw hd' (namedW iw iN im n1 n2) iw hM hk (by simp; omega) (by simp; exact Int.le.intro (v.length + 1) rfl) (by decide) (by exact Int.natCast_nonneg tx.length) (ref_TEXT w) hsw hdi hio lo rfl
end
theorem ndig_le9 {u s : Int} (hu : iabs u < 10 ^ 9) (hs : s ≤ 9) : 1 ≤ ndig u s ∧ ndig u s ≤ 9 := by
  have h0 := iabs_nonneg u
  have h := nfig_le (iabs u) (iabs u).toNat 1 ((iabs u).fdiv 10) 8 (by rw [Int.fdiv_eq_ediv_of_nonneg _ (by decide)]; omega) (by rw [Int.fdiv_eq_ediv_of_nonneg _ (by decide)]; omega)
  unfold ndig
  (clear hu h0; omega)
theorem dec_small {u s m : Int} (h0 : 0 ≤ s) (hu : -m ≤ u ∧ u ≤ m) : (-m ≤ (dec s.toNat u s).1 ∧ (dec s.toNat u s).1 ≤ m) ∧ 0 ≤ (dec s.toNat u s).2 ∧ (dec s.toNat u s).2 ≤ s := by
  obtain ⟨a, b, c⟩ := dec_ok s.toNat u s h0 rfl
  refine ⟨?_, b, c⟩
  have hp : (0 : Int) < 10 ^ (s - (dec s.toNat u s).2).toNat := Int.pow_pos (by decide)
  generalize (10 : Int) ^ (s - (dec s.toNat u s).2).toNat = p at a hp
  generalize (dec s.toNat u s).1 = x at a
  have h1 : x.natAbs * p.natAbs = u.natAbs := by rw [← Int.natAbs_mul, a]
  have h2 : x.natAbs ≤ x.natAbs * p.natAbs := Nat.le_mul_of_pos_right _ (by (clear h0 hu b c a h1; omega))
  (clear h0 b c hp; omega)
end Og

-- C40
namespace Og
set_option maxHeartbeats 8000000 in
theorem con_law (w : World) {ls : Addr} {lo : Obj} {vs : List Value} {ns : List Int} {nl : Nat} (hlc : lo.cls = .type "list") (hld : lo.data = .seq vs.toArray nl) (hi : IntsAre vs ns) (hz : vs.length ≤ 1000) :
    ConT w (.ref 1053) [.ref ls] [(984, tabObj #[]), (1017, tabObj #[]), (1050, tabObj #[]), (1038, tabObj #[]), (ls, lo)] (fun r news' => r = .bool true ∧ (ls, lo) ∈ news' ∧ ∀ P ∈ [984, 1050, 1017, 1038], ∃ ps, (P, tabObj ps) ∈ news') := by
  refine ConT.var fun Ψ kk => ?_
  refine enterCT (n := 20) (binds := [("script", .ref ls)]) (bs := [("script", .ref ls)]) (by k_is) (by k_is) (fun s X => BindsTo.of_eq rfl) (by intro n x hx; obtain rfl := List.mem_singleton.mp hx; first | exact .inl rfl | exact .inr ⟨rfl, rfl⟩) (by decide +kernel) (cellsL3 (by intro L; rfl)) (by intro L; rfl) rfl rfl rfl (by decide) (by decide) ?_
  intro A base outer g L σ h t cells hA Z F hC N
  obtain ⟨o3, o2, o1, rfl, k3, k2, k1⟩ := CellsAre.three hC
  replace k1 : o1.data = .cell none := k1
  replace k2 : o2.data = .cell none := k2
  replace k3 : o3.data = .cell none := k3
  subst hA
  replace N := Led.front (pre := [_, _, _]) N
  dsimp only [List.cons_append, List.nil_append] at N
  with_reducible refine gw_consK fun K hY hV => ?_
  walk_at "og"
  refine Con.use (con_law_taker w ⟨lo, by walk_at "ogm", hlc, nl, hld⟩ hi hz) Z F N (by decide) ?_
  clear F N hlc hi hz; rintro r news' h t ⟨f, lp, tk, ext, rfl, rfl, ⟨pt, mt⟩, TC⟩ F N
  replace N := N.perm (.cons _ List.perm_append_comm)
  replace N := Led.front (pre := [_, _, _]) N
  dsimp only [List.cons_append, List.nil_append] at N
  refine sC Z F N (by with_unfolding_all rfl) k1 (by refine kd ?_; decide +kernel) ?_
  clear F N k1; intro h o1 k1 F N
  replace N := Led.front (pre := [_, _, _, _]) N
  dsimp only [List.cons_append, List.nil_append] at N
  -- is it written right?
  with_reducible refine hY _ (gw_consKG fun K hY hV => gw_If (gw_not (gw_true (gw_Call ?_ (by with_unfolding_all rfl)) (by with_unfolding_all rfl))))
  walk_at "og"
  refine gw_cwK0 (by k_is) (Z.X.keeps F.keep) ?_
  have old := N.tail.d
  refine ConG.use (con_law_written_right w (.inl rfl)) Z F N (by decide) ?_
  clear F N; rintro r news' g' h t T0 _ ⟨rfl, ps, R, rfl, hl, q⟩ F N
  obtain ⟨F, N⟩ := turn_none T0 F N
  obtain ⟨R, N, q, q3⟩ := Led.redo [_] [_, _, _, _, _, _, _] N old q
  replace hl := (hl.mono q3).off (nD k1 k2 k3 hld)
  clear old q3 T0
  dsimp only [List.cons_append, List.nil_append] at N
  obtain ⟨Q, eQ, c1, qe, k, ek, N⟩ : ∃ Q, An4 (Q = (L + 1, o1) :: (L + 1 + 1 + 1, o3) :: (L + 1 + 1, o2) :: (1050, tabObj #[]) :: (1038, tabObj #[]) :: (ls, lo) :: R) ((L + 1, o1) ∈ Q) (∀ p ∈ ext, p ∈ Q) (∃ k : Nat, k = 0 ∧ Led g L h ((1017, tabObj ps) :: (lp, listOf (List.toArray [.int (k : Int) tk]) 0) :: Q)):=
    ⟨_, rfl, .head _, fun p hp => by have := q p hp; walk_at "ogp", 0, rfl, N.perm (.cons _ (.swap _ _ _))⟩
  walk_at "og"
  with_reducible refine gw_any (wpAny_execs_nil ?_)
  -- the text
  with_reducible refine hY _ (gw_consK fun K hY hV => ?_)
  walk_at "ogs"
  refine aCallF TC (fun p hp => .tail _ (.tail _ (qe p hp))) rfl rfl ?_
  walk_at "ogs"
  refine aTk [_] TC (fun p hp => .tail _ (qe p hp)) Z (by decide) (by exact Nat.le_trans (Nat.le_of_eq ek) (Nat.zero_le 100)) (by decide) ?_
  intro v0 u tk kn0 t ek0 a0 b0
  replace ek0 : kn0 ≤ 1 := by omega
  walk_at "og"
  dsimp only [List.cons_append, List.nil_append] at N
  refine itRg F N (by decide) (by decide) (by omega) (by omega) ?_
  clear F N; intro I o h F N hIt
  generalize hnt : (1 + v0 - 0).toNat = nt at hIt
  replace hnt : 1 ≤ nt ∧ nt ≤ 6 := by omega
  clear a0 b0
  refine comp_go (turns_range Z.hh I 0 nt) (DrawJ _ lp Q 0 kn0 97 122) (by decide) (by rfl) (by rfl) (by rw [sizeLine_eq]; omega) F N hIt ⟨[], _, .nil, fun _ h => (nomatch h), rfl, rfl⟩ (fun _ _ _ j => j.le) ?_ ?_
  · clear F N hIt; rintro i v' ys o nw h t C oC D m₂ E hlt ⟨ti, rfl⟩ hIt ⟨ks, tk, hks, hr, hl', rfl⟩ F N cO cV
    walk_at "ogs"
    refine aCallF TC (fun p hp => .tail _ (.tail _ (.tail _ (.tail _ (.tail _ (qe p hp)))))) rfl rfl ?_
    walk_at "ogs"
    refine aTk [_, _, _, _] TC (fun p hp => .tail _ (.tail _ (.tail _ (.tail _ (qe p hp))))) Z (by decide) (by omega) (by decide) ?_
    intro v1 u tk kn1 t ek1 a1 b1
    walk_at "og"
    subst ek1
    exact CStep.intro F N ⟨_, rfl, ⟨_, _, Og.IntsAre.snoc hks, all_snoc hr ⟨by exact Int.le_add_of_nonneg_right a1, by omega⟩, by rw [List.length_append, hl']; rfl, rfl⟩⟩
  clear F N hIt; rintro D ys nw h t F N ⟨ks, tk, hks, hr, hl', rfl⟩
  generalize ekt : kn0 + nt = kt at N
  replace ekt : kt ≤ 7 := by omega
  walk_at "ogs"
  refine amkB Z.hh (.inr ⟨_, .head _, rfl, _, rfl⟩) hks (in_of hr (by decide) (by decide)) (by omega) ?_
  intro u t
  walk_at "og"
  have hb := byteArr_ints (in_of hr (by decide) (by decide))
  generalize byteArr ks = bt at F hb
  have htx : ks.length ≤ 6 ∧ 1 ≤ ks.length := by omega
  replace N := N.tail
  obtain ⟨XS, ta, l1, F⟩ : Ex2 fun XS ta => gv XS "text" = some (.bytes bt ta) ∧ Fr g L h (lk XS) := ⟨_, _, rfl, F⟩
  clear hks hl' hnt ek0 hr ek
  -- digits
  with_reducible refine hY _ (gw_consK fun K hY hV => ?_)
  walk_at "ogs"
  refine aCallF TC (fun p hp => .tail _ (.tail _ (qe p hp))) rfl rfl ?_
  walk_at "ogs"
  refine aTk [_] TC (fun p hp => .tail _ (qe p hp)) Z (by decide) (by exact Nat.le_trans ekt (Nat.le_add_left 7 93)) (by decide) ?_
  intro vd u tk knd t ekd ad bd
  replace ekd : knd ≤ 8 := by exact Nat.le_trans (Nat.le_of_eq ekd) (Nat.succ_le_succ ekt)
  walk_at "og"
  dsimp only [List.cons_append, List.nil_append] at N
  obtain ⟨dg, hdg⟩ : ∃ dg : Nat, (1 + vd) = (dg : Int) := ⟨(1 + vd).toNat, by omega⟩
  rw [hdg] at F
  replace hdg : 1 ≤ dg ∧ dg ≤ 5 := by omega
  obtain ⟨XS, tb, l2, l1, F⟩ : Ex2 fun XS tb => An3 (gv XS "digits" = some (.int (dg : Int) tb)) (gv XS "text" = some (.bytes bt ta)) (Fr g L h (lk XS)):= ⟨_, _, rfl, lk_tl (by decide) l1, F⟩
  clear ad bd ekt
  -- scale, is_signed
  with_reducible refine hY _ (gw_consK fun K hY hV => ?_)
  walk_at "ogs"
  refine aCallF TC (fun p hp => .tail _ (.tail _ (qe p hp))) rfl rfl ?_
  walk_at "ogs"
  refine aTk [_] TC (fun p hp => .tail _ (qe p hp)) Z (by omega) (by exact Nat.le_trans ekd (Nat.le_add_left 8 92)) (by decide) ?_
  intro vc u tk knc t ekc ac bc
  replace ekc : knc ≤ 9 := by exact Nat.le_trans (Nat.le_of_eq ekc) (Nat.succ_le_succ ekd)
  walk_at "ogs"
  refine aCallF TC (fun p hp => .tail _ (.tail _ (qe p hp))) rfl rfl ?_
  walk_at "ogs"
  refine aTk [_] TC (fun p hp => .tail _ (qe p hp)) Z (by decide) (by exact Nat.le_trans ekc (Nat.le_add_left 9 91)) (by decide) ?_
  intro vg u tk kng t ekg ag bg
  replace ekg : kng ≤ 10 := by exact Nat.le_trans (Nat.le_of_eq ekg) (Nat.succ_le_succ ekc)
  walk_at "og"
  dsimp only [List.cons_append, List.nil_append] at N
  generalize (vg == 1) = sg at F
  replace bc : vc ≤ 3 ∧ vc ≤ dg := by (clear kk q qe htx ekd ac ekc ag bg ekg; omega)
  obtain ⟨XS, tc, l3, l4, l2, l1, F⟩ : Ex2 fun XS tc => An5 (gv XS "scale" = some (.int vc tc)) (gv XS "is_signed" = some (.bool sg)) (gv XS "digits" = some (.int (dg : Int) tb)) (gv XS "text" = some (.bytes bt ta)) (Fr g L h (lk XS)):=
    ⟨_, _, rfl, rfl, lk_tl (by decide) (lk_tl (by decide) l2), lk_tl (by decide) (lk_tl (by decide) l1), F⟩
  clear ag bg ekc ekd
  -- units
  with_reducible refine hY _ (gw_consK fun K hY hV => ?_)
  walk_at "ogs"
  obtain ⟨p10, hp10, hpp⟩ : ∃ p : Int, (10 : Int) ^ (dg : Int).toNat = p ∧ 0 < p := ⟨_, rfl, Int.pow_pos (by decide)⟩
  have hpw : (Builtin.Int.intBits 10 : Int) * (dg : Int) ≤ 2 ^ 27 := by rw [show (Builtin.Int.intBits 10 : Int) = 4 from by decide +kernel]; omega
  refine aCallF TC (fun p hp => .tail _ (.tail _ (qe p hp))) rfl rfl ?_
  walk_at "ogs"
  refine apowI (by exact Int.natCast_nonneg dg) hpw ?_
  intro u t
  rw [hp10]
  walk_at "ogs"
  refine aTk [_] TC (fun p hp => .tail _ (qe p hp)) Z (by (clear kk q qe htx hdg ac ekg bc hp10 hpw; omega)) (by exact Nat.le_trans ekg (Nat.le_add_left 10 90)) (by decide) ?_
  intro vu u tk knu t eku au bu
  replace eku : knu ≤ 11 := by exact Nat.le_trans (Nat.le_of_eq eku) (Nat.succ_le_succ ekg)
  walk_at "ogs"
  refine apowI (by exact Int.natCast_nonneg dg) hpw ?_
  intro u t
  rw [hp10]
  walk_at "og"
  dsimp only [List.cons_append, List.nil_append] at N
  generalize huu : vu - p10 + 1 = uu at F
  replace huu : iabs uu < p10 := by unfold iabs; split <;> omega
  clear au bu ekg hpw hpp
  obtain ⟨XS, td, l5, l4, l3, l2, l1, F⟩ : Ex2 fun XS td => An6 (gv XS "units" = some (.int uu td)) (gv XS "is_signed" = some (.bool sg)) (gv XS "scale" = some (.int vc tc)) (gv XS "digits" = some (.int (dg : Int) tb)) (gv XS "text" = some (.bytes bt ta)) (Fr g L h (lk XS)):=
    ⟨_, _, rfl, lk_tl (by decide) l4, lk_tl (by decide) l3, lk_tl (by decide) l2, lk_tl (by decide) l1, F⟩
  -- units, their sign away
  with_reducible refine hY _ (gw_consK fun K hY hV => wpAny_mono (Q := UnJ g L σ XS ((1017, tabObj ps) :: (lp, listOf (List.toArray [.int (knu : Int) tk]) 0) :: Q) p10 sg) ?_ (fun fl s' hq => ?_) fun _ _ e => e)
  · walk_at "ogs"
    cases sg
    · walk_at "og"
      exact ⟨_, _, _, _, rfl, rfl, F, N, by rw [iabs_iabs]; exact huu, fun _ => iabs_nonneg _⟩
    · walk_at "og"
      exact ⟨_, _, _, _, rfl, rfl, F, N, huu, fun h => nomatch h⟩
  clear F N huu l5
  obtain ⟨uu, tu, h, t, rfl, rfl, F, N, huu, hsg⟩ := hq
  obtain ⟨XS, l5, l4, l3, l2, l1, F⟩ : ∃ XS, An6 (gv XS "units" = some (.int uu tu)) (gv XS "is_signed" = some (.bool sg)) (gv XS "scale" = some (.int vc tc)) (gv XS "digits" = some (.int (dg : Int) tb)) (gv XS "text" = some (.bytes bt ta)) (Fr g L h (lk XS)):=
    ⟨_, rfl, lk_tl (by decide) l4, lk_tl (by decide) l3, lk_tl (by decide) l2, lk_tl (by decide) l1, F⟩
  try dsimp only
  -- rows
  with_reducible refine hY _ (gw_consK fun K hY hV => ?_)
  walk_at "ogs"
  refine aCallF TC (fun p hp => .tail _ (.tail _ (qe p hp))) rfl rfl ?_
  walk_at "ogs"
  refine aTk [_] TC (fun p hp => .tail _ (qe p hp)) Z (by decide) (by exact Nat.le_trans eku (Nat.le_add_left 11 89)) (by decide) ?_
  intro vr u tk knr t ekr ar br
  replace ekr : knr ≤ 12 := by exact Nat.le_trans (Nat.le_of_eq ekr) (Nat.succ_le_succ eku)
  walk_at "og"
  dsimp only [List.cons_append, List.nil_append] at N
  refine itRg F N (by decide) (by decide) (by (clear kk q qe htx hdg ac bc hp10 eku huu hsg ekr; omega)) (by (clear kk q qe htx hdg ac bc hp10 eku huu hsg ekr; omega)) ?_
  clear F N; intro I o h F N hIt
  generalize hnr : (vr - 0).toNat = nr at hIt
  replace hnr : nr ≤ 2 := by (clear kk q qe htx hdg ac bc hp10 eku huu hsg ekr; omega)
  clear ar br
  refine comp_goA (turns_range Z.hh I 0 nr) (RowsJ _ lp Q 0 knr) (by decide) (by rfl) (by rfl) (by rw [sizeLine_eq]; exact Nat.le_trans hnr (Nat.le_add_left 2 16777214)) (by rfl) (by rfl) F N hIt ⟨_, rfl, rfl⟩ (fun _ _ _ j => j.le) ?_ ?_
  · clear F N hIt; rintro i v' ys o nw h t C oC D m₂ E hlt ⟨ti, rfl⟩ hIt ⟨tk, hl', rfl⟩ F N cO cV
    walk_at "ogs"
    refine aCallF TC (fun p hp => .tail _ (.tail _ (.tail _ (.tail _ (.tail _ (qe p hp)))))) rfl rfl ?_
    walk_at "ogs"
    refine aTk [_, _, _, _] TC (fun p hp => .tail _ (.tail _ (.tail _ (.tail _ (qe p hp))))) Z (by decide) (by (clear kk q qe htx hdg ac bc hp10 eku huu hsg; omega)) (by decide) ?_
    intro v2 u tk kn2 t ek2 a2 b2
    walk_at "ogs"
    subst ek2
    refine amkB Z.hh (.inr ⟨_, .head _, rfl, _, rfl⟩) (.cons _ _ .nil) (fun c hc => by rw [List.mem_singleton.mp hc]; exact ⟨a2, b2⟩) (Nat.le_of_ble_eq_true rfl) ?_
    intro u t
    walk_at "og"
    exact CStep.intro F N.tail ⟨_, rfl, ⟨_, by rw [List.length_append, hl']; rfl, rfl⟩⟩
  clear F N hIt; rintro lr ys nw h t F N ⟨tk, hl', rfl⟩
  generalize hk0 : knr + nr = kk0 at N
  replace hk0 : kk0 ≤ 14 := by (clear kk q qe htx hdg ac bc hp10 eku huu hsg; omega)
  have hys : ys.length ≤ 2 := by exact le_of_eq_of_le hl' hnr
  obtain ⟨XS, l6, l5, l4, l3, l2, l1, F⟩ : ∃ XS, An4 (gv XS "rows" = some (.ref lr)) (gv XS "units" = some (.int uu tu)) (gv XS "is_signed" = some (.bool sg)) (An4 (gv XS "scale" = some (.int vc tc)) (gv XS "digits" = some (.int (dg : Int) tb)) (gv XS "text" = some (.bytes bt ta)) (Fr g L h (lk XS))):=
    ⟨_, rfl, lk_tl (by decide) l5, lk_tl (by decide) l4, lk_tl (by decide) l3, lk_tl (by decide) l2, lk_tl (by decide) l1, F⟩
  clear hl' hnr ekr eku
  try dsimp only
  -- the world
  with_reducible refine hY _ (gw_consKG fun K hY hV => gw_Assign_Name (gw_Call ?_ (by with_unfolding_all rfl)) (by with_unfolding_all rfl))
  walk_at "og"
  with_reducible refine gw_cwK (by with_unfolding_all k_is) (by with_unfolding_all rfl) (by with_unfolding_all rfl) ?_
  with_reducible refine gw_any ?_
  walk_at "og"
  refine ConG.use (con_law_world w hb (by omega) (by omega) (by omega) ac (by (clear kk q qe htx hdg hp10 huu hsg hk0 hys; omega)) (.head _) (by rw [List.size_toArray]; exact Nat.le_trans hys (Nat.le_add_left 2 998))) Z F N (by decide) ?_
  clear F N c1 qe; rintro r news' g' h t T0 _ ⟨W, M, c, ex2, rfl, rfl, hc, LW⟩ F N
  obtain ⟨F, N⟩ := turn_none T0 F N
  subst eQ
  replace N := N.perm (.cons _ List.perm_append_comm)
  replace N := Led.front (pre := [_, _, _, _, _, _]) N
  dsimp only [List.cons_append, List.nil_append] at N
  refine sC Z F N (by with_unfolding_all rfl) k2 (by refine kd ?_; decide +kernel) ?_
  clear F N k2 T0; intro h o2 k2 F N
  replace N := Led.front (pre := [_, _, _, _]) N
  dsimp only [List.cons_append, List.nil_append] at N
  replace N := Led.front (pre := [_, _, _, _]) N
  dsimp only [List.cons_append, List.nil_append] at N
  obtain ⟨R2, q2, hl, LW, N⟩ : ∃ R2, An4 (∀ p ∈ ext, p ∈ R2) (LamT p1017 q1017 ps R2) (LawW w R2 W M ks.length dg vc sg ys.toArray) (Led g L h ((1017, tabObj ps) :: (lp, listOf (List.toArray [.int (kk0 : Int) tk]) 0) :: (L + 1 + 1, o2) :: (M, baO c) :: (lr, listOf ys.toArray ys.length) :: (L + 1, o1) :: (L + 1 + 1 + 1, o3) :: (1050, tabObj #[]) :: (1038, tabObj #[]) :: (ls, lo) :: R2)):=
    ⟨_, fun p hp => List.mem_append_left _ (q p hp), hl.mono fun p hp => List.mem_append_left _ hp, LW.mono fun p hp => List.mem_append_right _ hp, N⟩
  clear q
  have old0 := (N.sub (l' := [(L + 1 + 1, o2), (M, baO c), (L + 1 + 1 + 1, o3), (1050, tabObj #[]), (1038, tabObj #[]), (ls, lo)] ++ R2) (.cons _ (.cons _ (.cons_cons _ (.cons_cons _ (.cons _ (.cons _ (.cons_cons _ (.cons_cons _ (.cons_cons _ (.cons_cons _ (List.Sublist.refl _)))))))))))).d
  obtain ⟨S0, s0, s1, s2, sM, sL, N⟩ : ∃ S0, An6 (∀ p ∈ [((L + 1 + 1, o2) : Ob), (M, baO c), (L + 1 + 1 + 1, o3), (1050, tabObj #[]), (1038, tabObj #[]), (ls, lo)] ++ R2, p ∈ S0) ((L + 1, o1) ∈ S0) ((L + 1 + 1, o2) ∈ S0) ((M, baO c) ∈ S0) ((lr, listOf ys.toArray ys.length) ∈ S0) (Led g L h ((1017, tabObj ps) :: (lp, listOf (List.toArray [.int (kk0 : Int) tk]) 0) :: S0)):=
    ⟨_, fun p hp => (List.Sublist.subset (.cons_cons _ (.cons_cons _ (.cons _ (.cons _ (List.Sublist.refl _))))) : _ ⊆ _) hp, by walk_at "ogm", by walk_at "ogm", by walk_at "ogm", by walk_at "ogm", N⟩
  have hU : iabs uu < 10 ^ dg := by rw [Int.toNat_natCast] at hp10; rw [hp10]; exact huu
  rw [kept_id hU hsg] at hc
  have hdl := disp_length sg dg uu
  have LS := LW.mono fun p hp => s0 p (List.mem_append_right _ hp)
  have hS := hl.mono fun p hp => s0 p (List.mem_append_right _ hp)
  have qe := fun p hp => s0 p (List.mem_append_right _ (q2 p hp))
  clear hl hp10 huu
  -- what it holds
  obtain ⟨NW, eN, LN, c2, cM, cL, N⟩ : ∃ NW, An6 (NW = (1017, tabObj ps) :: (lp, listOf (List.toArray [.int (kk0 : Int) tk]) 0) :: S0) (LawW w NW W M ks.length dg vc sg ys.toArray) ((L + 1 + 1, o2) ∈ NW) ((M, baO c) ∈ NW) ((lr, listOf ys.toArray ys.length) ∈ NW) (Led g L h NW):=
    ⟨_, rfl, LS.mono fun p hp => .tail _ (.tail _ hp), .tail _ (.tail _ s2), .tail _ (.tail _ sM), .tail _ (.tail _ sL), N⟩
  with_reducible refine hY _ (gw_consK fun K hY hV => wpAny_mono (Q := NxJ g L σ XS NW) ?_ (fun fl s' hq => ?_) fun _ _ e => e)
  · obtain ⟨D, di, lr', lt, xw, xn, xm, sw, sn, sm, dj, io, u0, kr, vw, vn, vm, hw, hd, iw, iN, im, n1, n2, n3, hsw, hsn, nsp, hdi, hio, lo', hlr, hlt⟩ := LN
    clear hd iw iN im hsw hsn nsp hlt
    obtain ⟨wx, ws, wk, pg, px, pes, pk, p1, p2, p3, p4, r1, r2, r3, r4, r5, r6, r7, r8⟩ := hw
    walk_at "ogs"
    refine aneLs Z (.inr ⟨_, hlr, rfl, _, rfl⟩) (.inr ⟨_, cL, rfl, _, rfl⟩) ?_
    walk_at "ogs"
    refine abytesA cM (by rw [hc]; simp; (clear kk q ac bc hsg hk0 hys q2 s0 hU qe n1 n2 n3 lo'; omega)) ?_
    intro u t
    walk_at "ogs"
    refine Con.au1 (con_law_signed w _ _ dg _ _ hdg.1 (by (clear kk q htx ac bc hsg hk0 hys q2 s0 hU qe n1 n2 n3 lo'; omega))) Z (by decide) ?_
    intro _ t
    walk_at "ogs"
    refine aaddB hb (byteArr_ints (disp_in _ _ _)) (by (clear kk q ac bc hsg hk0 hys q2 s0 hU qe n1 n2 n3 lo'; omega)) ?_
    intro u t hadd
    walk_at "ogs"
    refine aaddB (ls := [32]) hadd rfl (by simp; (clear kk q ac bc hsg hk0 hys q2 s0 hU qe n1 n2 n3 lo'; omega)) ?_
    intro u t hadd
    walk_at "ogs"
    refine aneBt hc hadd ?_
    walk_at "ogs"
    refine aneIX Z (.tail _ hdi) (.head _) hio hdict lo' nz ?_
    walk_at "og"
    exact ⟨_, _, rfl, rfl, F, N.tail⟩
  clear F N
  obtain ⟨h, t, rfl, rfl, F, N⟩ := hq
  try dsimp only
  with_reducible refine hY _ (gw_consK fun K hY hV => wpAny_mono (Q := NxJ g L σ XS NW) ?_ (fun fl s' hq => ?_) fun _ _ e => e)
  · walk_at "ogs"
    refine Con.ae3 (LawW.number LN cM hc (by omega) hdg.1 (by (clear kk q htx ac bc hsg hk0 hys q2 s0 hU qe; omega)) ac hU hsg) Z (by decide) ?_
    intro T1 t1 t2 t
    walk_at "ogs"
    refine Con.ae3 (con_law_decimal w _ _ _ _ ac) Z (by decide) ?_
    intro T2 t3 t4 t
    walk_at "ogs"
    refine anePair Z (.inr ⟨_, .tail _ (.head _), rfl, _, rfl⟩) (.inr ⟨_, .head _, rfl, _, rfl⟩) ?_
    walk_at "ogs"
    refine Con.ae3 (LawW.index (LN.mono fun p hp => .tail _ (.tail _ hp))) Z (by decide) ?_
    intro T3 t5 t6 t
    walk_at "ogs"
    refine anePair Z (.inr ⟨_, .tail _ (.head _), rfl, _, rfl⟩) (.inr ⟨_, .head _, rfl, _, rfl⟩) ?_
    walk_at "og"
    exact ⟨_, _, rfl, rfl, F, N.tail.tail.tail.tail⟩
  clear F N LN c2 cM cL l6 sL
  obtain ⟨h, t, rfl, rfl, F, N⟩ := hq
  subst eN
  try dsimp only
  have c1 := s1
  -- a worth
  with_reducible refine hY _ (gw_consK fun K hY hV => ?_)
  walk_at "ogs"
  refine aCallF TC (fun p hp => .tail _ (.tail _ (qe p hp))) rfl rfl ?_
  walk_at "ogs"
  refine aTk [_] TC (fun p hp => .tail _ (qe p hp)) Z (by decide) (by exact Nat.le_trans hk0 (Nat.le_add_left 14 86)) (by decide) ?_
  intro vw u tk knw t ekw aw bw
  replace ekw : knw ≤ 15 := by exact Nat.le_trans (Nat.le_of_eq ekw) (Nat.succ_le_succ hk0)
  walk_at "ogs"
  refine aCallF TC (fun p hp => .tail _ (.tail _ (qe p hp))) rfl rfl ?_
  walk_at "ogs"
  refine aTk [_] TC (fun p hp => .tail _ (qe p hp)) Z (by decide) (by exact Nat.le_trans ekw (Nat.le_add_left 15 85)) (by decide) ?_
  intro vx u tk knx t ekx ax bx
  replace ekx : knx ≤ 16 := by exact Nat.le_trans (Nat.le_of_eq ekx) (Nat.succ_le_succ ekw)
  walk_at "ogs"
  refine Con.ae3 (con_law_decimal w _ _ _ _ ax) Z (by decide) ?_
  intro T t1 t2 t
  walk_at "og"
  dsimp only [List.cons_append, List.nil_append] at N
  clear c1
  have hsm := dec_small (m := 1000000) ax (u := vw - 1000000) (by (clear kk q htx hdg ac bc hsg hk0 hys q2 s0 hU hdl qe ekw ax bx ekx; omega))
  generalize (dec vx.toNat (vw - 1000000) vx).1 = wu at N hsm
  generalize (dec vx.toNat (vw - 1000000) vx).2 = wv at N hsm
  have hw0 : iabs wu < 10 ^ 9 ∧ 0 ≤ wv ∧ wv ≤ 6 := by unfold iabs; split <;> omega
  clear hsm aw bw ax bx ekw hk0
  replace N := N.perm ((List.Perm.swap _ _ _).trans (.cons _ (.swap _ _ _)))
  obtain ⟨Q, qs, mT, N⟩ : ∃ Q, An3 (∀ p ∈ S0, p ∈ Q) ((T, tup [.int wu t1, .int wv t2]) ∈ Q) (Led g L h ((1017, tabObj ps) :: (lp, listOf (List.toArray [.int (knx : Int) tk]) 0) :: Q)):= ⟨_, fun p hp => List.mem_cons_of_mem _ hp, List.mem_cons_self, N⟩
  obtain ⟨DD, eD, hDD, N⟩ := Led.eqD [_] N rfl
  have hl := hS.mono qs
  clear hS
  with_reducible refine hY _ (gw_consK fun K hY hV => wpAny_mono (Q := LdJ g L σ (("worth", .ref T) :: XS) DD Q) ?_ (fun fl s' hq => ?_) fun _ _ e => e)
  · have c2 := List.mem_append_right DD (qs _ s2)
    walk_at "ogs"
    obtain ⟨d0, d1⟩ := ndig_le9 (s := wv) hw0.1 (by (clear kk q htx hdg ac bc hsg hys q2 s0 hU hdl qe ekx qs; omega))
    refine alaid (_ :: DD) (by exact hDD) (found_number (u := wu) (s := wv) (.head _) (.tail _ (List.mem_append_right _ mT)) (by (clear kk q htx hdg ac bc hsg hys q2 s0 hU hdl qe ekx qs d0 d1; omega)) (by (clear kk q htx hdg ac bc hsg hys q2 s0 hU hdl qe ekx qs d0 d1; omega)) (by (clear kk q htx hdg ac bc hsg hys q2 s0 hU hdl qe ekx qs d0 d1; omega))) hl Z (List.perm_middle (l₁ := [_])) (by decide) ?_
    clear c2; intro T1 e1 u1 w1 w2 w3 ps2 R3 t hc1 hl3 q3
    walk_at "ogs"
    refine adue (.tail _ (.tail _ (List.mem_append_right _ (q3 _ mT)))) hw0.1 d1 d0 Z (by decide) ?_
    intro T2 w4 w5 w6 w7 t
    walk_at "ogs"
    refine aneL5 Z (.inr ⟨_, .tail _ (.head _), rfl, _, rfl⟩) (.inr ⟨_, .head _, rfl, _, rfl⟩) (by decide +kernel) hc1 (byteArr_ints (disp_in _ _ _)) ?_
    have c2 := List.mem_append_right DD (q3 _ (qs _ s2))
    walk_at "ogs"
    refine Con.au0 (con_number_of_number w (.head _)) Z (by decide) ?_
    intro t
    walk_at "ogs"
    refine anePair Z (.inr ⟨_, .tail _ (.tail _ (.tail _ (.tail _ (List.mem_append_right _ (q3 _ mT))))), rfl, _, rfl⟩) (.inr ⟨_, .tail _ (.tail _ (.tail _ (.tail _ (List.mem_append_right _ (q3 _ mT))))), rfl, _, rfl⟩) ?_
    walk_at "og"
    exact ⟨_, _, _, _, rfl, rfl, F, N.tail.tail.tail.sub (.cons_cons _ (.cons _ (List.Sublist.refl _))), hl3, q3⟩
  clear F N hl
  obtain ⟨h, t, ps, Q, rfl, rfl, F, N, hl, q'⟩ := hq
  replace qs := fun p hp => q' p (qs p hp)
  replace mT := q' _ mT
  clear q'
  try dsimp only
  -- the text, and a text
  with_reducible refine hY _ (gw_consK fun K hY hV => wpAny_mono (Q := LdJ g L σ (("worth", .ref T) :: XS) DD Q) ?_ (fun fl s' hq => ?_) fun _ _ e => e)
  · have c2 := List.mem_append_right DD (qs _ s2)
    walk_at "ogs"
    refine alaid DD hDD (LawW.foundT (LS.mono fun p hp => List.mem_append_right _ (qs p hp)) (List.mem_append_right _ (qs _ sM)) hc (by (clear kk q hdg ac bc hsg hys q2 s0 hU hdl qe ekx hw0 qs; omega)) hdl (by (clear kk q htx ac bc hsg hys q2 s0 hU qe ekx hw0 qs; omega))) hl Z (.refl _) (by decide) ?_
    clear c2; intro T1 e1 u1 w1 w2 w3 ps2 R3 t hc1 hl3 q3
    have c2 := List.mem_append_right DD (q3 _ (qs _ s2))
    walk_at "ogs"
    refine aTS (aGT (j := 4) (.inr ⟨_, .head _, rfl, _, rfl⟩) (by decide) (by decide) rfl rfl ?_ (by with_unfolding_all rfl) (fun _ => by with_unfolding_all rfl))
    walk_at "ogs"
    refine aneBt hc1 hb ?_
    walk_at "ogs"
    refine aaddB (ls := [33]) hb rfl (by simp; (clear kk q hdg ac bc hsg hys q2 s0 hU hdl qe ekx hw0 qs q3; omega)) ?_
    intro u t hadd
    walk_at "ogs"
    refine alaid (_ :: _ :: DD) (by exact hDD) (found_text (.head _) hadd (by simp; (clear kk q hdg ac bc hsg hys q2 s0 hU hdl qe ekx hw0 qs q3; omega))) hl3 Z (List.perm_middle (l₁ := [_, _])) (by decide) ?_
    clear c2; intro T2 e2 u2 w4 w5 w6 ps3 R4 t hc2 hl4 q4
    have el : (((ks ++ [33]).length : Nat) : Int) = (ks.length : Int) + 1 := by simp
    rw [el]
    walk_at "ogs"
    refine alenB hb (by (clear kk q hdg ac bc hsg hys q2 s0 hU hdl qe ekx hw0 qs q3 q4; omega)) ?_
    intro u3 t
    walk_at "ogs"
    refine aaddB (ls := [33]) hb rfl (by simp; (clear kk q hdg ac bc hsg hys q2 s0 hU hdl qe ekx hw0 qs q3 q4; omega)) ?_
    intro u4 t hadd2
    walk_at "ogs"
    refine aneL5 Z (.inr ⟨_, .tail _ (.head _), rfl, _, rfl⟩) (.inr ⟨_, .head _, rfl, _, rfl⟩) (by decide +kernel) hc2 hadd2 ?_
    walk_at "og"
    exact ⟨_, _, _, _, rfl, rfl, F, N.tail.tail.sub (.cons_cons _ (.cons _ (.cons _ (List.Sublist.refl _)))), hl4, fun p hp => q4 p (q3 p hp)⟩
  clear F N hl
  obtain ⟨h, t, ps, Q, rfl, rfl, F, N, hl, q'⟩ := hq
  replace qs := fun p hp => q' p (qs p hp)
  replace mT := q' _ mT
  clear q'
  try dsimp only
  -- the number
  with_reducible refine hY _ (gw_consK fun K hY hV => wpAny_mono (Q := LdJ g L σ (("worth", .ref T) :: XS) DD Q) ?_ (fun fl s' hq => ?_) fun _ _ e => e)
  · have c2 := List.mem_append_right DD (qs _ s2)
    walk_at "ogs"
    refine alaid DD hDD (LawW.foundN (LS.mono fun p hp => List.mem_append_right _ (qs p hp)) (List.mem_append_right _ (qs _ sM)) hc (by (clear kk q hdg ac bc hsg hys q2 s0 hU hdl qe ekx hw0 qs; omega)) hdl (by (clear kk q htx ac bc hsg hys q2 s0 hU qe ekx hw0 qs; omega))) hl Z (.refl _) (by decide) ?_
    clear c2; intro T1 e1 u1 w1 w2 w3 ps2 R3 t hc1 hl3 q3
    walk_at "ogs"
    refine Con.au1 (con_law_signed w _ _ dg _ _ hdg.1 (by (clear kk q htx ac bc hsg hys q2 s0 hU qe ekx hw0 qs q3; omega))) Z (by decide) ?_
    intro _ t
    walk_at "ogs"
    refine aneL5 Z (.inr ⟨_, .tail _ (.head _), rfl, _, rfl⟩) (.inr ⟨_, .head _, rfl, _, rfl⟩) (by decide +kernel) hc1 (byteArr_ints (disp_in _ _ _)) ?_
    walk_at "og"
    exact ⟨_, _, _, _, rfl, rfl, F, N.tail.tail, hl3, q3⟩
  clear F N hl
  obtain ⟨h, t, ps, Q, rfl, rfl, F, N, hl, q'⟩ := hq
  replace qs := fun p hp => q' p (qs p hp)
  replace mT := q' _ mT
  clear q'
  try dsimp only
  -- the operand
  subst eD
  dsimp only [List.cons_append, List.nil_append] at N
  clear mT hw0 hDD
  obtain ⟨XS, l4, l3, l2, l1, F⟩ : ∃ XS, An5 (gv XS "is_signed" = some (.bool sg)) (gv XS "scale" = some (.int vc tc)) (gv XS "digits" = some (.int (dg : Int) tb)) (gv XS "text" = some (.bytes bt ta)) (Fr g L h (lk XS)):=
    ⟨_, lk_tl (by decide) l4, lk_tl (by decide) l3, lk_tl (by decide) l2, lk_tl (by decide) l1, F⟩
  clear l5
  have c1 := qs _ s1
  have qs' := fun p hp => qs p (qe p hp)
  -- all of some octets
  with_reducible refine hY _ (gw_consK fun K hY hV => ?_)
  walk_at "ogs"
  refine aCallF TC (fun p hp => .tail _ (.tail _ (qs' p hp))) rfl rfl ?_
  walk_at "ogs"
  refine aTk [_] TC (fun p hp => .tail _ (qs' p hp)) Z (by decide) (by exact Nat.le_trans ekx (Nat.le_add_left 16 84)) (by decide) ?_
  intro vo u tk kno t eko ao bo
  replace eko : kno ≤ 17 := by exact Nat.le_trans (Nat.le_of_eq eko) (Nat.succ_le_succ ekx)
  walk_at "og"
  dsimp only [List.cons_append, List.nil_append] at N
  refine itRg F N (by decide) (by decide) (by (clear kk q htx hdg ac bc hsg hys q2 s0 hU hdl qe ekx qs qs' eko; omega)) (by (clear kk q htx hdg ac bc hsg hys q2 s0 hU hdl qe ekx qs qs' eko; omega)) ?_
  clear F N; intro I o h F N hIt
  generalize hna : (1 + vo - 0).toNat = na at hIt
  replace hna : 1 ≤ na ∧ na ≤ 3 := by (clear kk q htx hdg ac bc hsg hys q2 s0 hU hdl qe ekx qs qs' eko; omega)
  clear ao bo ekx
  refine comp_go (turns_range Z.hh I 0 na) (DrawJ _ lp Q 0 kno 32 65) (by decide) (by rfl) (by rfl) (by rw [sizeLine_eq]; (clear kk q htx hdg ac bc hsg hys q2 s0 hU hdl qe qs qs' eko; omega)) F N hIt ⟨[], _, .nil, fun _ h => (nomatch h), rfl, rfl⟩ (fun _ _ _ j => j.le) ?_ ?_
  · clear F N hIt; rintro i v' ys o nw h t C oC D m₂ E hlt ⟨ti, rfl⟩ hIt ⟨ks', tk, hks, hr', hl', rfl⟩ F N cO cV
    walk_at "ogs"
    refine aCallF TC (fun p hp => .tail _ (.tail _ (.tail _ (.tail _ (.tail _ (.tail _ (qs' p hp))))))) rfl rfl ?_
    walk_at "ogs"
    refine aTk [_, _, _, _, _] TC (fun p hp => .tail _ (.tail _ (.tail _ (.tail _ (.tail _ (qs' p hp)))))) Z (by decide) (by (clear kk q htx hdg ac bc hsg hys q2 s0 hU hdl qe qs qs' hr'; omega)) (by decide) ?_
    intro v3 u tk kn3 t ek3 a3 b3
    walk_at "ogs"
    subst ek3
    obtain ⟨j, cc, tc', hj, hx, c0, c1'⟩ := pick5 a3 b3 _ _ _ _ _
    refine aTS (aGT (.inr ⟨_, .head _, rfl, _, rfl⟩) (by (clear kk q htx hdg ac bc hsg hys q2 s0 hU hdl qe qs qs' eko hna hlt hr' hl' c0 c1'; omega)) (by (clear kk q htx hdg ac bc hsg hys q2 s0 hU hdl qe qs qs' eko hna hlt hr' hl' c0 c1'; omega)) hj hx ?_ (by with_unfolding_all rfl) (fun _ => by with_unfolding_all rfl))
    walk_at "og"
    exact CStep.intro F N.tail ⟨_, rfl, ⟨_, _, Og.IntsAre.snoc hks, all_snoc hr' ⟨c0, c1'⟩, by rw [List.length_append, hl']; rfl, rfl⟩⟩
  clear F N hIt; rintro D ys' nw h t F N ⟨ka, tk, hks, hr', hl', rfl⟩
  generalize hk1 : kno + na = kk1 at N
  replace hk1 : kk1 ≤ 20 := by (clear kk q htx hdg ac bc hsg hys q2 s0 hU hdl qe qs qs' hr'; omega)
  walk_at "ogs"
  refine amkB Z.hh (.inr ⟨_, .head _, rfl, _, rfl⟩) hks (in_of hr' (by decide) (by decide)) (by (clear kk q htx hdg ac bc hsg hys q2 s0 hU hdl qe qs qs' eko hr' hk1; omega)) ?_
  intro u t
  walk_at "og"
  have hb2 := byteArr_ints (in_of hr' (by decide) (by decide))
  generalize byteArr ka = b2 at N hb2
  have hka : ka ≠ [] ∧ ka.length ≤ 16 := ⟨by intro e; subst e; simp at hl'; (clear kk q htx hdg ac bc hsg hys q2 s0 hU hdl qe qs qs' eko hk1 hr'; omega), by (clear kk q htx hdg ac bc hsg hys q2 s0 hU hdl qe qs qs' eko hr' hk1; omega)⟩
  clear hr' hks hl' hna eko
  replace N := N.sub (.cons_cons _ (.cons _ (List.Sublist.refl _)))
  obtain ⟨R4, N, q4, q5⟩ := Led.redo [_, _, _] [_, _, _, _, _, _] N old0 fun p hp => qs p (s0 p hp)
  replace LW := LW.mono q4
  replace q2 := fun p hp => q4 p (q2 p hp)
  replace hl := (hl.mono q5).off (nD2 k2 k3 hld)
  replace c1 := q5 _ c1
  clear q5 qs qs' qe s0 s1 s2 sM old0 LS q4
  rename_i l
  obtain ⟨X, eX, c1, qx, N⟩ : ∃ X, An4 (X = [(L + 1 + 1, o2), (M, baO c), (L + 1 + 1 + 1, o3), (1050, tabObj #[]), (1038, tabObj #[]), (ls, lo)] ++ R4) ((L + 1, o1) ∈ X) (∀ p ∈ ext, p ∈ X) (Led g L h (_ :: (1017, tabObj ps) :: (lp, listOf (List.toArray [.int (kk1 : Int) tk]) 0) :: X)):= ⟨_, rfl, c1, fun p hp => List.mem_append_right _ (q2 p hp), N⟩
  with_reducible refine hY _ (gw_consK fun K hY hV => wpAny_mono (Q := OpJ g L σ bt dg vc sg [(1017, tabObj ps), (L + 1 + 1, o2), (M, baO c), (L + 1 + 1 + 1, o3), (1050, tabObj #[]), (1038, tabObj #[]), (ls, lo)] R4) ?_ (fun fl s' hq => ?_) fun _ _ e => e)
  · walk_at "ogs"
    refine aCallF TC (fun p hp => .tail _ (.tail _ (.tail _ (qx p hp)))) rfl rfl ?_
    walk_at "ogs"
    refine aTk [_, _] TC (fun p hp => .tail _ (.tail _ (qx p hp))) Z (by decide) (by exact Nat.le_trans hk1 (Nat.le_add_left 20 80)) (by decide) ?_
    intro vj u tk knj t ekj aj bj
    walk_at "ogs"
    refine asplit (fun hb => ?_) (fun hb => ?_)
    · walk_at "ogs"
      refine aCallF TC (fun p hp => .tail _ (.tail _ (.tail _ (.tail _ (qx p hp))))) rfl rfl ?_
      walk_at "ogs"
      refine aTk [_, _, _] TC (fun p hp => .tail _ (.tail _ (.tail _ (qx p hp)))) Z (by decide) (by (clear kk q htx hdg ac bc hsg hys hU hdl hka q2 qx aj bj; omega)) (by decide) ?_
      intro vz u tk knz t ekz az bz
      walk_at "ogs"
      obtain ⟨j, x, tx', cc, hj, hx, hxx⟩ := pickF az bz _ _ _ _ _
      refine aTS (aGT (.inr ⟨_, .head _, rfl, _, rfl⟩) (by (clear kk q htx hdg ac bc hsg hys hU hdl hk1 hka q2 qx ekj aj bj ekz hxx; omega)) (by (clear kk q htx hdg ac bc hsg hys hU hdl hk1 hka q2 qx ekj aj bj ekz hxx; omega)) hj hx ?_ (by with_unfolding_all rfl) (fun _ => by with_unfolding_all rfl))
      walk_at "og"
      subst eX
      obtain ⟨kf, num, ok⟩ := OpK.of_fig (R := _ :: R4) (dg := dg) (.head _) hxx
      exact .mk _ _ _ _ _ _ _ _ _ _ _ rfl rfl (lk_tl (by decide) (lk_tl (by decide) l1)) (lk_tl (by decide) (lk_tl (by decide) l2)) (lk_tl (by decide) (lk_tl (by decide) l3)) (lk_tl (by decide) (lk_tl (by decide) l4)) rfl F
        ((N.sub (.cons_cons _ (.cons _ (.cons _ (.cons_cons _ (.cons _ (List.Sublist.refl _))))))).perm (List.perm_middle (l₁ := [_, _, _, _, _, _, _])).symm) ok fun p hp => .tail _ hp
    · walk_at "og"
      subst eX
      exact .mk _ _ _ _ _ _ _ _ _ _ _ rfl rfl (lk_tl (by decide) l1) (lk_tl (by decide) l2) (lk_tl (by decide) l3) (lk_tl (by decide) l4) rfl F
        ((N.sub (.cons_cons _ (.cons_cons _ (.cons _ (List.Sublist.refl _))))).perm (List.perm_middle (l₁ := [_, _, _, _, _, _, _])).symm) (.all _ _ _ (.head _) hb2 hka.1 hka.2) fun p hp => .tail _ hp
  clear F N l1 l2 l3 l4 c1 qx eX hka hb2
  obtain ⟨h, t, XS, R3, T, ka, kop, num, ta, tb, tc, rfl, rfl, l1, l2, l3, l4, l5, F, N, ok, q'⟩ := hq
  replace LW := LW.mono q'
  replace hl := hl.mono q'
  have q := fun p hp => q' p (q2 p hp)
  clear q' q2
  dsimp only [List.cons_append, List.nil_append] at N ⊢
  -- what is no number
  with_reducible refine hY _ (gw_consK fun K hY hV => wpAny_For ?_ (by intro _; with_unfolding_all rfl))
  obtain ⟨NW, eN, N⟩ := Led.eqn N
  walk_at "og"
  subst eN
  have old2 := (N.sub (l' := [(1017, tabObj ps), (L + 1 + 1, o2), (M, baO c), (1038, tabObj #[]), (ls, lo)] ++ R3) (.cons _ (.cons _ (.cons _ (.cons _ (.cons_cons _ (.cons_cons _ (.cons_cons _ (.cons _ (.cons _ (List.Sublist.refl _))))))))))).d
  replace N := Led.front (pre := [_, _, _, _, _, _, _]) N
  dsimp only [List.cons_append, List.nil_append] at N
  replace N := Led.front (pre := [_, _, _, _, _, _, _, _]) N
  dsimp only [List.cons_append, List.nil_append] at N
  obtain ⟨S1, sD, sR, sM, ⟨its, sl, bad⟩, N⟩ : ∃ S1 : List Ob, An5 (∀ p ∈ [((1017, tabObj ps) : Ob), (L + 1 + 1, o2), (M, baO c), (1038, tabObj #[]), (ls, lo)], p ∈ S1) (∀ p ∈ R3, p ∈ S1) ((M, baO c) ∈ S1) (∃ its : List Value, (l, tup its) ∈ S1 ∧ ∀ v ∈ its, ∃ Tv, v = .ref Tv ∧ ∀ news1, (∀ p ∈ S1, p ∈ news1) → ConE w (.ref 917) 9 [.ref W, .ref Tv] news1) (Led g L h ((1050, tabObj #[]) :: (L + 1 + 1 + 1, o3) :: S1)):= by
    refine ⟨_, all5 (by walk_at "ogm") (by walk_at "ogm") (by walk_at "ogm") (by walk_at "ogm") (by walk_at "ogm"), fun p hp => by walk_at "ogp", by walk_at "ogm", ⟨_, .head _, all4 ?_ ?_ ?_ ?_⟩, N⟩
    · exact ⟨_, rfl, fun n1 q1 => LawW.text (LW.mono fun p hp => q1 p (by walk_at "ogp")) (q1 _ (by walk_at "ogm")) hc (by omega) hdl (by (clear kk htx ac bc hsg hys hU hk1 q q1; omega))⟩
    · exact ⟨_, rfl, fun n1 q1 => ConE.le (con_number_of_lit w (q1 _ (by walk_at "ogm")) hb (by omega)) (by decide)⟩
    · exact ⟨_, rfl, fun n1 q1 => ConE.le (con_number_of_fig w (x := "SPACE") (by decide +kernel) (q1 _ (by walk_at "ogm"))) (by decide)⟩
    · exact ⟨_, rfl, fun n1 q1 => ConE.le (con_number_of_all w (q1 _ (by walk_at "ogm"))) (by decide)⟩
  refine itT F N (.inr ⟨_, .tail _ (.tail _ sl), rfl, _, rfl⟩) ?_
  clear F N; intro I o h F N hI hne
  refine for_go (turns_tuple Z.hh l I its.toArray hne) (fun i xs nw => WrJ bt dg vc sg T (L + 1 + 1 + 1) S1 xs nw) F N hI ⟨_, _, _, _, _, _, _, l1, l2, l3, l4, l5, rfl, k3, .inl rfl, fun p hp => hp⟩ ?_ ?_ ?_ PassesOwn.never (fun _ => rfl)
  · rintro i xs nw ⟨ta, tb, tc, o3, vo, psx, R', l1, l2, l3, l4, l5, rfl, k3, hx, q1⟩
    exact .inr ⟨_, .tail _ (.tail _ (q1 _ sl)), rfl, _, rfl⟩
  · clear F N hI l1 l2 l3 l4 l5 k3; rintro i v ⟨oc, oD, od, osl⟩ xs nw h t hlt hv ⟨rfl, rfl⟩ ⟨ta, tb, tc, o3, vo, psx, R', l1, l2, l3, l4, l5, rfl, k3, hx, q1⟩ F N
    obtain ⟨Tv, rfl, hbad⟩ := bad v (List.mem_of_getElem? (by simpa using hv))
    walk_at "og"
    replace N := Led.front (pre := [_, _]) N
    dsimp only [List.cons_append, List.nil_append] at N
    refine sC Z F N (by with_unfolding_all rfl) k3 (by refine kd ?_; decide +kernel) ?_
    clear F N k3; intro h o3 k3 F N
    have old := ((N.sub (.cons_cons _ (.cons_cons _ (.cons _ (List.Sublist.refl _))))).perm (List.Perm.swap _ _ _)).d
    walk_at "og"
    replace N := Led.front (pre := [_, _]) N
    dsimp only [List.cons_append, List.nil_append] at N
    refine lamE Z F N (codeHd1050 w Z.X) (hx.mono fun p hp => .tail _ (.tail _ hp)) rfl (by rfl) ?_
    clear F N; rintro f' nw h t ⟨pm, c', ctv, oc', vs', tt, ps', rest', hnw, mf, mc, hdt, hv', hl', hs, hs2⟩ F N
    walk_at "og"
    have c1 : ((L + 1 + 1, o2) : Ob) ∈ nw := hs2 _ (.tail _ (.tail _ (q1 _ (sD _ (by walk_at "ogm")))))
    have c2 : ((L + 1 + 1 + 1, o3) : Ob) ∈ nw := hs2 _ (.head _)
    refine ConS.use (con_told_no w mf (k := 10) (enterLE (n := 9) mf mc hdt hv' rfl rfl rfl rfl (by decide) ?_)) Z F N (by decide) ?_
    · clear Z F N
      intro A base outer g L' σ h t Z F N
      walk_at "og"
      exact ConE.use (hbad nw fun p hp => hs2 p (.tail _ (.tail _ (q1 p hp)))) Z F N (Nat.le_refl _) fun p hp => hp
    clear F N; rintro r news' g' h t T0 _ ⟨rfl, hn⟩ F N
    obtain ⟨F, N⟩ := turn_none T0 F N
    rw [hn, hnw] at N
    walk_at "og"
    obtain ⟨R4, N, q4, q5⟩ := Led.redo [_] [_, _] N.tail old fun p hp => hs p (by
      rcases hp with _ | ⟨_, hp⟩
      · exact .tail _ (.head _)
      · rcases hp with _ | ⟨_, hp⟩
        · exact .head _
        · exact .tail _ (.tail _ hp))
    exact ⟨_, _, _, _, rfl, F, Led.front (pre := [_]) N, _, rfl, ⟨_, _, _, _, _, _, _, l1, l2, l3, l4, l5, rfl, k3, (hl'.mono q5).off (by show (true && (noCode o3 && true)) = true; rw [noCode_cell k3]; rfl), fun p hp => q4 p (q1 p hp)⟩⟩
  clear F N hI l1 l2 l3 l4 l5 k3; rintro xs nw h t ⟨ta, tb, tc, o3, vo, psx, R', l1, l2, l3, l4, l5, rfl, k3, hx, q1⟩ F N
  try dsimp only
  obtain ⟨R5, N, q5, _⟩ := Led.redo [_, _] [_, _, _, _, _] N old2 fun p hp => q1 p ((List.mem_append.mp hp).elim (sD p) (sR p))
  replace LW := LW.mono q5
  replace hl := hl.mono q5
  replace ok := ok.mono q5
  replace q := fun p hp => q5 p (q p hp)
  clear old2 q1 sR sD sM sl bad q5 hx k3
  replace N := Led.front (pre := [_, _]) N
  dsimp only [List.cons_append, List.nil_append] at N
  -- nothing is laid for it
  obtain ⟨NW, eN, N⟩ := Led.eqD0 N
  have old := N.tail.d
  have c2 : ((L + 1 + 1, o2) : Ob) ∈ NW := by rw [eN]; walk_at "ogm"
  with_reducible refine hY _ (gw_consK fun K hY hV => ?_)
  walk_at "og"
  refine ConS.use (con_law_laid_no w (fun n1 q1 => ok.in_no fun p hp => q1 p (by rw [eN]; walk_at "ogp")) (hl.mono fun p hp => by rw [eN]; walk_at "ogp")) Z F N (by decide) ?_
  clear F N; rintro r news' g' h t T0 _ ⟨ps2, R6, rfl, rfl, _, q6⟩ F N
  obtain ⟨F, N⟩ := turn_none T0 F N
  rw [eN] at old
  obtain ⟨R7, N, q7, _⟩ := Led.redo [_] [_, _, _, _, _, _] N old fun p hp => q6 p (eN ▸ hp)
  replace LW := LW.mono q7
  replace ok := ok.mono q7
  replace q := fun p hp => q7 p (q p hp)
  clear q6 q7 old T0 hl c2 eN
  dsimp only [List.cons_append, List.nil_append] at N
  walk_at "og"
  replace N := Led.front (pre := [_, _, _, _, _]) N
  dsimp only [List.cons_append, List.nil_append] at N
  replace N := Led.front (pre := [_, _, _, _, _]) N
  dsimp only [List.cons_append, List.nil_append] at N
  obtain ⟨rest, c2, hr1, hr2, hr3, q8, N⟩ : ∃ rest : List Ob, An6 ((L + 1 + 1, o2) ∈ rest) ((ls, lo) ∈ rest) ((1017, tabObj ps2) ∈ rest) ((1050, tabObj psx) ∈ rest) (∀ p ∈ R7, p ∈ rest) (Led g L h ((M, baO c) :: (1038, tabObj #[]) :: rest)):=
    ⟨_, by walk_at "ogm", by walk_at "ogm", by walk_at "ogm", by walk_at "ogm", fun p hp => by walk_at "ogp", N⟩
  -- it fills
  with_reducible refine hY _ (gw_cons (gw_Return (gw_Call ?_ (by with_unfolding_all rfl))))
  walk_at "og"
  with_reducible refine gw_cwK (by with_unfolding_all k_is) (by with_unfolding_all rfl) (by with_unfolding_all rfl) ?_
  with_reducible refine gw_any ?_
  walk_at "og"
  have C : ConG w (.ref 1041) 12 [.ref W, .ref T, .bytes bt ta, .int (dg : Int) tb, .int vc tc, .bool sg] ((M, baO c) :: (1038, tabObj #[]) :: rest) (fun r news' => r = .bool true ∧ (∀ p ∈ rest, p ∈ news') ∧ ∃ ps', (1038, tabObj ps') ∈ news') := by
    exact con_fill_right w (LW.mono q8) hc hdl hb (by omega) (by (clear kk htx ac bc hsg hys hU hk1 hne q q8; omega)) (by (clear kk htx ac bc hsg hys hU hk1 hne q q8; omega)) ac (by (clear kk htx hdg hsg hys hU hdl hk1 hne q q8; omega)) (ok.mono q8) (.inl rfl)
  refine ConG.use C Z F N (by decide) ?_
  clear F N; rintro r news' g' h t T0 _ ⟨rfl, q9, pf, mf⟩ F N
  walk_at "og"
  exact RetS.intro T0 F N (kk _ _ ⟨rfl, q9 _ hr1, all4 ⟨_, q9 _ (q8 _ (q _ mt))⟩ ⟨_, q9 _ hr3⟩ ⟨_, q9 _ hr2⟩ ⟨_, mf⟩⟩)
end Og

end

section
open PySem PySem.W PyProof.Rows PySem.Calls
set_option Elab.async false
set_option maxRecDepth 100000
set_option maxHeartbeats 8000000
namespace Og
theorem nd5 {ls : Addr} (a1 : 984 ≠ ls) (a2 : 1017 ≠ ls) (a3 : 1050 ≠ ls) (a4 : 1038 ≠ ls) : [984, 1017, 1050, 1038, ls].Nodup := by
  simp only [List.nodup_cons, List.mem_cons, List.not_mem_nil, or_false, not_or, List.nodup_nil, and_true, not_false_eq_true]
  exact ⟨⟨by decide, by decide, by decide, a1⟩, ⟨by decide, by decide, a2⟩, ⟨by decide, a3⟩, a4⟩
theorem mem5 {b ls : Addr} (hb : b ∈ [984, 1017, 1050, 1038, ls]) : b = ls ∨ b ∈ [984, 1050, 1017, 1038] ∧ b ∈ [1038, 1017, 984, 919, 1050] := by
  simp only [List.mem_cons, List.not_mem_nil, or_false] at hb ⊢
  rcases hb with rfl | rfl | rfl | rfl | rfl <;> simp
theorem gone_ls {lo : Obj} {v : Array Value} {n : Nat} (hc : lo.cls = .type "list") (hd : lo.data = .seq v n) : goneO lo = true := by
  unfold goneO
  rw [hc, hd]; rfl
theorem ne_ls {h : Heap} {ls : Addr} {lo : Obj} (hlo : h.get? ls = some lo) (hlc : lo.cls = .type "list") : ∀ P, h.get? P = some (tabObj #[]) → P ≠ ls := fun P e q => by
  rw [q, hlo] at e
  rw [Option.some.inj e] at hlc
  cases hlc
theorem law_walk : ∀ (q : Program) (loose : List Str) (XP : (Str → Option Value) → Heap → Prop) (d : DefRec), d.name = Str.ofString "law" → WalkG q loose XP Laid0 PySem.Challenge.rw_og0110_01.row.toRowW d [] (fun f vs => PySem.call f vs) := by
  intro q loose XP d hd' w s₀ s₁ mg mb G Y a o pm cd doc dV kV ho hdata hcd hD hmg hgens args vals as hpre hlay hrd hwell hsys
  have T := G.T
  obtain ⟨X, HT⟩ := Y
  have e := mg_of (n := Str.ofString "law") (v := .ref 1053) X T.g (by k_is)
  rw [hd', e] at hmg
  replace hmg := Value.ref.inj (Option.some.inj hmg)
  subst hmg
  clear ho hdata hcd hD e hd'
  wrow_args hpre hlay hrd hwell hsys
  rename_i ns _ _ _ _ _ _ _ ls vs _ hL _ _ _ hI _ hc _
  obtain ⟨lo, hlo, hlc, nl, hld⟩ := hL
  have hz : vs.length ≤ 1000 := by rw [hI.length]; omega
  have t1 := HT 984 (by decide)
  have t2 := HT 1017 (by decide)
  have t3 := HT 1050 (by decide)
  have t4 := HT 1038 (by decide)
  have hne := ne_ls hlo hlc
  have hn : ∀ p ∈ [((984, tabObj #[]) : Ob), (1017, tabObj #[]), (1050, tabObj #[]), (1038, tabObj #[]), (ls, lo)], s₁.heap.get? p.1 = some p.2 := all5 t1 t2 t3 t4 hlo
  have hg : Gone s₁.heap ([((984, tabObj #[]) : Ob), (1017, tabObj #[]), (1050, tabObj #[]), (1038, tabObj #[]), (ls, lo)].map (·.1)) := all5 ⟨_, t1, rfl⟩ ⟨_, t2, rfl⟩ ⟨_, t3, rfl⟩ ⟨_, t4, rfl⟩ ⟨_, hlo, gone_ls hlc hld⟩
  show wpG (model PW w) callerA (PySem.call (.ref 1053) [.ref ls] []) _ _ (st s₁ s₁.heap s₁.toks)
  refine gw_up (gw_call (con_law w hlc hld hI hz s₁.heap s₁.toks s₁ _ _ _ _ _ _ (gone_K hg X (by kernel_rfl)) (gone_top hg T) hn (nd5 (hne _ t1) (hne _ t2) (hne _ t3) (hne _ t4)) fun r news' L h' t m hp F N => ?_))
  obtain ⟨rfl, ml, mt⟩ := hp
  have kp : ∀ b o, b ∉ [((984, tabObj #[]) : Ob), (1017, tabObj #[]), (1050, tabObj #[]), (1038, tabObj #[]), (ls, lo)].map (·.1) → s₁.heap.get? b = some o → h'.get? b = some o := fun b o nb e => F.keep _ _ (hideAll_get _ e nb)
  have code : ∀ P ∈ [984, 1050, 1017, 1038], isCodeTable s₁.heap P := all4 ((codeHd984 w X).tab t1).isCodeTable ((codeHd1050 w X).tab t3).isCodeTable ((codeHd1017 w X).tab t2).isCodeTable ((codeHd1038 w X).tab t4).isCodeTable
  have old : ∀ b o, s₁.heap.get? b = some o → h'.get? b = some o ∨ (b ∈ [984, 1050, 1017, 1038] ∧ o = tabObj #[] ∧ ∃ ps, h'.get? b = some (tabObj ps)) := fun b o e => by
    by_cases hb : b ∈ [((984, tabObj #[]) : Ob), (1017, tabObj #[]), (1050, tabObj #[]), (1038, tabObj #[]), (ls, lo)].map (·.1)
    · rcases mem5 hb with rfl | ⟨hb', hb2⟩
      · exact .inl (Option.some.inj (hlo.symm.trans e) ▸ N.get ml)
      · obtain ⟨ps, mp⟩ := mt b hb'
        exact .inr ⟨hb', Option.some.inj (e.symm.trans (HT b hb2)), ps, N.get mp⟩
    · exact .inl (kp b o hb e)
  refine ⟨⟨.inl ⟨_, .bool true, [], rfl, fun _ => rfl, .bool _, by wrow_post, fun _ => ⟨List.nodup_nil, fun _ h => nomatch h⟩⟩, ⟨fun b o e => ?_, fun b o e => ?_⟩, rfl, .of_eq hgens⟩, hgens⟩
  · rcases old b o e with h | ⟨hb, rfl, ps, h⟩
    · exact .inl h
    · exact .inr (.inl ⟨code b hb, rfl, #[], ps, rfl, by rw [Array.empty_append]; exact h⟩)
  · rcases old b o e with h | ⟨hb, rfl, ps, h⟩
    · exact ⟨_, h⟩
    · exact ⟨_, h⟩
end Og

end

theorem PySem.Challenge.cw_og0110_01_holds : PySem.Challenge.rw_og0110_01.Holds :=
  Og.top Og.law_walk
