import PyProof.Rows.All
import KE.GoesComp2
import HandS.More
import HandS.Iter
import HandS.Comp
import HandS.ListItems
import HandS.DictTup
import HandS.SortOrd
import HandS.SortInts
import KE.KItemsList
import PyProof.Rows.SortKeyStr
import HandS.SortRule
import Wide.All
import OpenK.AllK
import Wide.FinOn
import HandS.ForMost
import HandS.Wide
import HandS.WideBits
import PyProof.Rows.ListStrD
import HandS.Set
import HandS.SetFor
import HandS.OwnEq
import PyProof.TupleKey
import PyProof.DictMoreH
import HandS.TupLen
import HandS.SetKeys
import PySem.Challenge.RW_sealedslots_k42_templates_refused
import HandS.Walk
import KE.GoesEnum
import KE.KDictWalk
import HandS.IsInst
import KE.KDictCopyH
import HandS.Finally
import PyProof.ReprRoads
import HandS.Ends
import HandS.Defaults
import HandS.GenList
import HandS.TryOnly
import HandS.ClsMeth
import PyProof.TupleOfSeq
import HandS.MakeKw
import HandS.Property
import HandS.FStr
import HandS.DeepEq
import HandS.MakeKwOnly
import OpenK.KOps
import PyProof.ReprBulk
import KE.KEqNest
import HandS.DictSub
import PyProof.EqKinds
import KE.KIndexOf
import HandS.Star
import HandS.DictComp
import HandS.GenYield
import HandS.Deep
import HandS.Style
import HandS.TupAny
import HandS.Rev
import HandS.Steps
import HandS.WordsDict
import PyProof.StrOps2
import PyProof.NeKinds
import HandS.Codes
import HandS.ExcCtx
import HandS.ExcField
import HandS.ExcInit
import HandS.ExcIs
import HandS.ForExc
import HandS.HotCalls
import HandS.SortKw
import HandS.TupLe
import KE.KDictDisplayH
import KE.KExcInit
import KE.KTryMore
import KE.SortKeyHeap
import PyProof.ReprLen
import PyProof.StrOps
import HandS.TupMul
import KE.DataFind
import PyProof.FactsAll.list
import HandS.Head0
import HandS.Head1
import HandS.Head2
import HandS.HeadHook1
import HandS.HeadHook2
import HandS.HeadNt
set_option Elab.async false
set_option linter.all false
set_option maxRecDepth 100000
set_option maxHeartbeats 4000000
namespace GQ
end GQ
namespace GenX
end GenX
namespace L2
end L2
namespace SG
end SG
namespace SR
end SR
namespace SS
end SS
namespace SY
end SY
namespace SrtK
end SrtK
namespace VSI
end VSI
namespace ZA
end ZA
namespace Hz
end Hz
namespace SS
open PySem L2
def top (i : Nat) : Stmt := PySem.Challenge.pw_sealedslots_k42_templates_refused.main.body.getD i (.Pass ⟨0, 0, 0, 0⟩)
end SS
namespace SS
open PySem L2 SS
abbrev sDraw : Stmt := top 68
abbrev sRng : Stmt := top 67
abbrev sChoice : Stmt := top 69
abbrev sWord : Stmt := top 18
abbrev sSign : Stmt := top 19
abbrev sMark : Stmt := top 20
abbrev sName : Stmt := top 21
abbrev sNum : Stmt := top 22
abbrev sSta : Stmt := top 23
abbrev sMove : Stmt := top 24
abbrev sSdi : Stmt := top 25
abbrev sTol : Stmt := top 26
abbrev sSgi : Stmt := top 27
abbrev sPrb : Stmt := top 28
abbrev sIni : Stmt := inClass (top 29) 1
end SS
namespace SG
open PySem L2 SS
abbrev sSigns : Stmt := top 35
abbrev sNum : Stmt := top 36
abbrev sSrow : Stmt := top 37
abbrev sSta : Stmt := top 38
abbrev sChk : Stmt := top 39
abbrev sRch : Stmt := top 40
abbrev sRef : Stmt := top 41
abbrev sLek : Stmt := top 42
abbrev sLst : Stmt := top 44
abbrev sLma : Stmt := top 43
abbrev sInit : Stmt := inClass (top 46) 1
abbrev sEql : Stmt := inClass (top 46) 12
end SG
namespace SS
open PySem L2 SS
abbrev sIsl : Stmt := top 57
abbrev sEmp : Stmt := inClass (top 46) 5
abbrev sPmv : Stmt := top 53
abbrev sAmv : Stmt := top 54
abbrev sAmk : Stmt := top 55
abbrev sPrt : Stmt := top 56
abbrev sMof : Stmt := top 58
abbrev sFnp : Stmt := top 59
abbrev sFum : Stmt := top 60
abbrev sSpr : Stmt := top 61
abbrev sRqp : Stmt := top 62
abbrev sTin : Stmt := inClass (top 65) 0
abbrev sTpa : Stmt := inClass (top 65) 2
abbrev sTlo : Stmt := inClass (top 65) 4
end SS
namespace SR
open PySem L2 SS
abbrev tlV : List Value := [.type "ValueError", .type "Exception", .type "BaseException", .type "object"]
end SR
namespace SS
open PySem L2 SS
abbrev sIpp : Stmt := inClass (top 5) 0
abbrev sLlg : Stmt := top 70
abbrev sLod : Stmt := top 71
abbrev sLel : Stmt := top 72
abbrev sLdu : Stmt := top 73
abbrev sLtd : Stmt := top 74
end SS
namespace SR
open PySem L2 SS
abbrev tlL : List Value := [.type "LookupError", .type "Exception", .type "BaseException", .type "object"]
end SR
namespace SS
open PySem L2 SS
abbrev sUnk : Stmt := inClass (top 9) 0
abbrev sUlu : Stmt := top 75
abbrev sRg2 : Stmt := top 76
abbrev sLaw : Stmt := top 77
def odT : List String := ["NoneType", "int", "str", "list", "tuple", "dict"]
def bOD (x : Str) (K : PySem.W.Frag) : Bool := (odT.all fun T => decide (PySem.W.subIn K (.type T) (.ref (He.ga K x)) = some false)) && odT.all fun T => decide (PySem.W.subIn K (.ref (He.ga K x)) (.type T) = some false)
def bMI (x m : Str) (K : PySem.W.Frag) : Bool := He.eqO (PySem.W.findIn K (.ref (He.ga K x)) m) (some (some (.ref (He.ma K (He.ga K x) m)))) && decide (PySem.W.typeIn K (.ref (He.ma K (He.ga K x) m)) = some (.type "function"))
def abvB (T : List Value) : List Value → Bool
  | [] => decide (([] : List Value) = T)
  | v :: r => decide (v :: r = T) || (match v with
    | .ref _ => abvB T r
    | _ => false)
def exB (K : PySem.W.Frag) (D : Addr) (T : List Value) (nw : String) : Bool := match K.lookup D with
  | some ⟨.type c, _, .cls cd, sl⟩ => (match cd.mro, sl.toList with
    | .ref C' :: bm, [_, _, _, _, some (.builtin n), _] => decide (c = "type") && (decide (C' = D) && (decide (n = nw) && (!cd.hasDel && (cd.hasDict && abvB T bm))))
    | _, _ => false)
  | _ => false
def bEX (x : Str) (T : List Value) (nw : String) (K : PySem.W.Frag) : Bool :=
  exB K (He.ga K x) T nw && (
  He.eqO (PySem.W.findIn K (.ref (He.ga K x)) "__setattr__") (some (some (.builtin "object.__setattr__"))) && (
  He.eqO (PySem.W.findIn K (.ref (He.ga K x)) "__getattribute__") (some (some (.builtin "BaseException.__getattribute__"))) && (
  He.eqO (PySem.W.findIn K (.ref (He.ga K x)) "__getattr__") (some none) && (
  decide (PySem.W.subIn K (.ref (He.ga K x)) (.type "BaseException") = some true) && (
  decide (PySem.W.typeIn K (.ref (He.ga K x)) = some (.type "type")) && (
  PySem.W.keepIn K (.ref (He.ga K x)) && (
  PySem.W.hasDictIn K (He.ga K x) && (
  He.eqO (PySem.W.findIn K (.ref (He.ga K x)) "__class__") (some (some (.builtin "object.__class__"))) && (
  He.eqO (PySem.W.specialIn K (.builtin "object.__class__") "__get__") (some (some (.builtin "getset_descriptor.__get__"))) && (
  decide (PySem.W.takesIn K (.builtin "object.__class__") = some true) && (
  decide (PySem.W.mroIn K (He.ga K x) (.type "object") = some true) &&
  decide (PySem.W.subIn K (.ref (He.ga K x)) (.ref (He.ga K x)) = some true))))))))))))
def bFC (x m : Str) (v : Value) (K : PySem.W.Frag) : Bool := match PySem.W.findCls K (.ref (He.ga K x)) (.type "type") m with
  | some (.val u) => decide (u = v)
  | _ => false
def bFT (t : String) (m : Str) (v : Value) (K : PySem.W.Frag) : Bool := match PySem.W.findCls K (.type t) (.type "type") m with
  | some (.val u) => decide (u = v)
  | _ => false
def bX42 (K : PySem.W.Frag) : Bool :=
  decide (PySem.W.kitOne K (.ref (He.ga K "InvalidTemplate")) (.ref (He.ga K "SlotsError")) = some true) && (
  decide (PySem.W.kitOne K (.ref (He.ga K "InvalidTemplate")) (.type "ValueError") = some true) && (
  decide (PySem.W.kitAny K (.ref (He.ga K "InvalidTemplate")) [.ref (He.ga K "InvalidTexts"), .ref (He.ga K "InvalidReader"), .ref (He.ga K "InvalidWord"), .type "LookupError", .type "RuntimeError"] = some false) && (
  decide (PySem.W.kitOne K (.ref (He.ga K "UnknownSlot")) (.type "LookupError") = some true) &&
  decide (PySem.W.kitAny K (.ref (He.ga K "UnknownSlot")) [.ref (He.ga K "SlotsError"), .ref (He.ga K "UnknownName"), .type "ValueError"] = some false))))
end SS
namespace Hz
open PySem PySem.W PySem.Calls PyProof.Rows He5
def refsZ (o : Obj) : List Addr := match o.data with
  | .dict es _ => es.toList.flatMap fun e => He.refV e.val
  | .func fd => He.refV fd.code ++ (He.refV fd.defaults ++ He.refV fd.kwdefaults)
  | .cls cd => [cd.ns]
  | .seq its _ => its.toList.flatMap He.refV
  | .fields vs => (match o.cls with
    | .type n => if n == "code" then [] else vs.toList.flatMap He.refV
    | _ => [])
  | _ => []
def nx (g : Addr → Option Obj) (as : List Addr) : List Addr := as.flatMap fun a => match g a with
  | some o => refsZ o
  | none => []
def asZ (g : Addr → Option Obj) : List Addr :=
  mainGlobals :: cStatics :: (nx g [mainGlobals] ++ (nx g (nx g [mainGlobals]) ++ (nx g (nx g (nx g [mainGlobals])) ++ (nx g (nx g (nx g (nx g [mainGlobals]))) ++ nx g (nx g (nx g (nx g (nx g [mainGlobals]))))))))
def obsZ (fs : List (Frag → Bool)) (fn : List DefA) (K : Frag) : He.AlD := ((fs.all fun f => f K) && fn.all fun d => d.ok K, fn.map fun d => fnA K (d.at_ K))
def valZ (fn : List DefA) : He.AlD := (true, fn.map DefA.val)
def SaysZ (fs : List (Frag → Bool)) (fn : List DefA) (K : Frag) : Prop := obsZ fs fn K = valZ fn
def hookZ (fs : List (Frag → Bool)) (fn : List DefA) : PySem.W.Hook where
  α := He.AlD
  obs := fun s => obsZ fs fn (He.frG s.heap.get? (asZ s.heap.get?))
  val := fun _ => valZ fn
  says := fun _ h => ∃ K : Frag, K.In h ∧ SaysZ fs fn K
  of := fun _ _ e => ⟨_, He.frG_in, e⟩
  keeps := fun _ _ _ ⟨K, hK, c⟩ k => ⟨K, Frag.In.keeps hK k, c⟩
def obZ (fs : List (Frag → Bool)) (fn : List DefA) (s : SharedT) : He.AlD := obsZ fs fn (He.frG (HandSHeadRun.getT s) (asZ (HandSHeadRun.getT s)))
end Hz
namespace SS
open PySem L2 SR He5
abbrev ga := He.ga
abbrev ma := He.ma
def pf (K : PySem.W.Frag) (C : Addr) (m : Str) : Addr := match PySem.W.recIn K (He.ma K C m) "property" with
  | some (.ref f :: _) => f
  | _ => 0
def dG (x : Str) (st : Stmt) : DefA := ⟨fun K => He.ga K x, x, x, defArgs st, defBody st, defScope st, [], []⟩
def dM (C x qual : Str) (st : Stmt) : DefA := ⟨fun K => He.ma K (He.ga K C) x, x, qual, defArgs st, defBody st, defScope st, [], []⟩
def dP (C x qual : Str) (st : Stmt) : DefA := ⟨fun K => pf K (He.ga K C) x, x, qual, defArgs st, defBody st, defScope st, [], []⟩
/-- the first default of the def at f -/
def dfl0 (f : PySem.W.Frag → Addr) (K : PySem.W.Frag) : Addr := match K.lookup (f K) with
  | some ⟨_, _, .func fd, _⟩ => (match fd.defaults with
    | .ref T => (match K.lookup T with
      | some ⟨_, _, .seq its _, _⟩ => (match its.toList with
        | .ref a :: _ => a
        | _ => 0)
      | _ => 0)
    | _ => 0)
  | _ => 0
/-- a method with one default, an object; and with keywords -/
def dD (C x qual : Str) (st : Stmt) (kw : List (Str × He.Dv) := []) : DefA := ⟨fun K => He.ma K (He.ga K C) x, x, qual, defArgs st, defBody st, defScope st, [.adr (dfl0 fun K => He.ma K (He.ga K C) x)], kw⟩
def bFree (x : Str) (K : PySem.W.Frag) : Bool := He.eqO (PySem.W.nsIn K mainGlobals x) (some none)
def bGlo (x : Str) (K : PySem.W.Frag) : Bool := He.eqO (PySem.W.nsIn K mainGlobals x) (some (some (.ref (He.ga K x))))
def bCL (x : Str) (K : PySem.W.Frag) : Bool := (He.Fa.cls x).ok K && (PySem.W.makesIn K (He.ga K x) && PySem.W.keepIn K (.ref (He.ga K x)))
def bNo (x f : Str) (K : PySem.W.Frag) : Bool := He.eqO (PySem.W.findIn K (.ref (He.ga K x)) f) (some none)
def bRd (x : Str) (K : PySem.W.Frag) : Bool := PySem.W.readsIn K (He.ga K x) (.type "type")
def bGa (x : Str) (K : PySem.W.Frag) : Bool := He.eqO (PySem.W.specialIn K (.ref (He.ga K x)) "__getattribute__") (some (some (.builtin "type.__getattribute__")))
def bTY (x : Str) (K : PySem.W.Frag) : Bool :=
  He.eqO (PySem.W.findIn K (.ref (He.ga K x)) "__class__") (some (some (.builtin "object.__class__"))) && (
  He.eqO (PySem.W.specialIn K (.builtin "object.__class__") "__get__") (some (some (.builtin "getset_descriptor.__get__"))) && (
  decide (PySem.W.takesIn K (.builtin "object.__class__") = some true) && (
  decide (PySem.W.mroIn K (He.ga K x) (.type "object") = some true) && (
  He.eqO (PySem.W.findIn K (.ref (He.ga K x)) "__ne__") (some (some (.builtin "object.__ne__"))) && (
  decide (PySem.W.subIn K (.ref (He.ga K x)) (.type "object") = some true) && (
  PySem.W.isClsIn K (He.ga K x) && (
  decide (PySem.W.typeIn K (.ref (He.ga K x)) = some (.type "type")) && (
  bRd x K && bGa x K))))))))
def bMe (x m : Str) (K : PySem.W.Frag) : Bool := He.eqO (PySem.W.findIn K (.ref (He.ga K x)) m) (some (some (.ref (He.ma K (He.ga K x) m)))) && PySem.W.isFn K (.ref (He.ma K (He.ga K x) m))
def bPr (x m : Str) (K : PySem.W.Frag) : Bool := He.eqO (PySem.W.findIn K (.ref (He.ga K x)) m) (some (some (.ref (He.ma K (He.ga K x) m)))) && (
  He.eqO (PySem.W.specialIn K (.ref (He.ma K (He.ga K x) m)) "__get__") (some (some (.builtin "property.__get__"))) && (
  decide (PySem.W.takesIn K (.ref (He.ma K (He.ga K x) m)) = some true) && (match PySem.W.recIn K (He.ma K (He.ga K x) m) "property" with
    | some (.ref _ :: _) => true
    | _ => false)))
def bCV (x m : Str) (z : V) (K : PySem.W.Frag) : Bool := match PySem.W.findCls K (.ref (He.ga K x)) (.type "type") m with
  | some (.val u) => He.relB z u
  | _ => false
def bCS (x : Str) (z : V) (K : PySem.W.Frag) : Bool := match PySem.W.nsIn K mainGlobals x with
  | some (some u) => He.relB z u
  | _ => false
/-- an empty tuple -/
def bTup (p : PySem.W.Frag → Addr) (K : PySem.W.Frag) : Bool := match K.lookup (p K) with
  | some ⟨.type c, _, .seq its _, _⟩ => decide (c = "tuple") && its.isEmpty
  | _ => false
def freeN : List Str := ["len","range","int","list","dict","tuple","set","sorted","all","any","max","min","abs","divmod","repr","isinstance","enumerate","str","bool"]
def bFR (K : PySem.W.Frag) : Bool := freeN.all fun x => bFree x K
end SS
set_option maxHeartbeats 0
namespace SS
open PySem L2 SR TL
def zFs0 : List (PySem.W.Frag → Bool) := [bGlo "Reader", bGlo "Language", bGlo "Template", bGlo "InvalidTemplate", bGlo "SlotsError", bGlo "InvalidTexts", bGlo "InvalidReader", bGlo "InvalidWord", bGlo "UnknownSlot", bGlo "UnknownName", bCL "Reader", bNo "Reader" "rows", bNo "Reader" "end_list", bNo "Reader" "own_start", bRd "Reader", bGa "Reader", bCV "Reader" "MAX_STATES" (.int 12), bCL "Language", bNo "Language" "own_signs", bNo "Language" "goals", bNo "Language" "member_list", bNo "Language" "live_list", bTY "Language", bMe "Language" "__init__", bMe "Language" "__eq__"]
def zFs1 : List (PySem.W.Frag → Bool) := [bPr "Language" "is_empty", bCL "Template", bNo "Template" "own_reader", bNo "Template" "part_list", bMe "Template" "__init__", bMe "Template" "parts", bMe "Template" "language_of", bNo "InvalidTemplate" "problem", bNo "InvalidTemplate" "place", bRd "SlotsError", bGa "SlotsError", bNo "UnknownSlot" "name", bMe "Reader" "__init__", bTup (dfl0 fun K => He.ma K (He.ga K "Reader") "__init__"), bOD "Language", bFree "ValueError", bFree "LookupError", bFree "RuntimeError", bFC "SlotsError" "__init__" (.builtin "ValueError.__init__"), bFT "LookupError" "__init__" (.builtin "LookupError.__init__"), bEX "InvalidTemplate" tlV "ValueError.__new__", bMI "InvalidTemplate" "__init__", bEX "UnknownSlot" tlL "LookupError.__new__", bMI "UnknownSlot" "__init__", bX42]
def zFs2 : List (PySem.W.Frag → Bool) := [bFR, bGlo "is_word", bGlo "is_sign", bGlo "is_mark", bGlo "is_name", bGlo "is_below", bGlo "are_different", bGlo "is_move", bGlo "is_state_dict", bGlo "told_in", bGlo "signs_in", bGlo "reader_problem", bGlo "is_piece_move", bGlo "are_moves", bGlo "are_marks", bGlo "is_part", bGlo "is_slot", bGlo "marks_of", bGlo "first_not_part", bGlo "first_unmarked", bGlo "slot_problem", bGlo "require_parts", bGlo "are_signs", bGlo "is_number_below", bGlo "is_state_row"]
def zFs3 : List (PySem.W.Frag → Bool) := [bGlo "are_states", bGlo "check_machine", bGlo "reached", bGlo "refined", bGlo "least_kinds", bGlo "least_machine", bGlo "live_states", bGlo "_law_rng", bGlo "_law_draw", bGlo "_law_choice", bGlo "_law_language", bGlo "_law_odd", bGlo "_law_element", bGlo "_law_due", bGlo "_law_told", bGlo "_law_unknown", bGlo "_law_right", bGlo "law", bCS "LETTERS" (.str (Str.ofString "abcdefghijklmnopqrstuvwxyz")), bCS "LONGEST_NAME" (.int 8), bCS "MOST_PAGE_SIGNS" (.int 6), bCS "MOST_TEXT_SIGNS" (.int 4), bCS "MOST_MARKS_readers" (.int 6), bCS "MOST_SIGNS" (.int 4), bCS "MOST_GIVEN_STATES" (.int 40)]
def zFs4 : List (PySem.W.Frag → Bool) := [bCS "MOST_STATES" (.int 6), bCS "MOST_PARTS" (.int 12), bCS "MOST_SLOTS" (.int 4), bCS "MOST_MOVES" (.int 12), bCS "MOST_MARKS_templates" (.int 6)]
def zFs : List (PySem.W.Frag → Bool) := zFs0 ++ zFs1 ++ zFs2 ++ zFs3 ++ zFs4
def zFn0 : List (He5.DefA) := [dM "Language" "__init__" "Language.__init__" SG.sInit, dM "Language" "__eq__" "Language.__eq__" SG.sEql, dP "Language" "is_empty" "Language.is_empty" sEmp, dM "Template" "__init__" "Template.__init__" sTin, dM "Template" "parts" "Template.parts" sTpa, dM "Template" "language_of" "Template.language_of" sTlo, dD "Reader" "__init__" "Reader.__init__" sIni [("start", .int 0)], dM "InvalidTemplate" "__init__" "InvalidTemplate.__init__" sIpp, dM "UnknownSlot" "__init__" "UnknownSlot.__init__" sUnk, dG "is_word" sWord, dG "is_sign" sSign, dG "is_mark" sMark, dG "is_name" sName, dG "is_below" sNum, dG "are_different" sSta, dG "is_move" sMove, dG "is_state_dict" sSdi, dG "told_in" sTol, dG "signs_in" sSgi, dG "reader_problem" sPrb, dG "is_piece_move" sPmv, dG "are_moves" sAmv, dG "are_marks" sAmk, dG "is_part" sPrt, dG "is_slot" sIsl]
def zFn1 : List (He5.DefA) := [dG "marks_of" sMof, dG "first_not_part" sFnp, dG "first_unmarked" sFum, dG "slot_problem" sSpr, dG "require_parts" sRqp, dG "are_signs" SG.sSigns, dG "is_number_below" SG.sNum, dG "is_state_row" SG.sSrow, dG "are_states" SG.sSta, dG "check_machine" SG.sChk, dG "reached" SG.sRch, dG "refined" SG.sRef, dG "least_kinds" SG.sLek, dG "least_machine" SG.sLma, dG "live_states" SG.sLst, dG "_law_rng" sRng, dG "_law_draw" sDraw, dG "_law_choice" sChoice, dG "_law_language" sLlg, dG "_law_odd" sLod, dG "_law_element" sLel, dG "_law_due" sLdu, dG "_law_told" sLtd, dG "_law_unknown" sUlu, dG "_law_right" sRg2]
def zFn2 : List (He5.DefA) := [dG "law" sLaw]
def zFn : List (He5.DefA) := zFn0 ++ zFn1 ++ zFn2
def zNames0 : List (PySem.Str) := ["_wall", "SlotsError", "InvalidReader", "InvalidLanguage", "InvalidTemplate", "InvalidTexts", "InvalidState", "InvalidWord", "UnknownSlot", "UnknownName", "TooLarge", "LETTERS", "LONGEST_NAME", "MOST_PAGE_SIGNS", "MOST_TEXT_SIGNS", "MOST_MARKS_readers", "is_word", "is_sign", "is_mark", "is_name", "is_below", "are_different", "is_move", "is_state_dict", "told_in"]
def zNames1 : List (PySem.Str) := ["signs_in", "reader_problem", "Reader", "require_state", "MOST_SIGNS", "MOST_GIVEN_STATES", "MOST_STATES", "are_signs", "is_number_below", "is_state_row", "are_states", "check_machine", "reached", "refined", "least_kinds", "least_machine", "live_states", "tree_of", "Language", "from_machine", "MOST_PARTS", "MOST_SLOTS", "MOST_MOVES", "MOST_MARKS_templates", "is_piece_move"]
def zNames2 : List (PySem.Str) := ["are_moves", "are_marks", "is_part", "is_slot", "marks_of", "first_not_part", "first_unmarked", "slot_problem", "require_parts", "row_of", "require_texts", "Template", "_law_rng", "_law_draw", "_law_choice", "_law_language", "_law_odd", "_law_element", "_law_due", "_law_told", "_law_unknown", "_law_right"]
def zNames : List (PySem.Str) := zNames0 ++ zNames1 ++ zNames2
theorem zRun (w : World) : HandSHeadRun.RunEq (PySem.W.OpenLaw.row PySem.Challenge.rw_sealedslots_k42_templates_refused) (PySem.W.view (PySem.W.OpenLaw.row PySem.Challenge.rw_sealedslots_k42_templates_refused).prog [77]) (Hz.hookZ zFs zFn) (Hz.obZ zFs zFn) 20000 zNames w := by
  intro os
  kernel_rfl
end SS
set_option maxHeartbeats 4000000
set_option maxRecDepth 100000
set_option maxHeartbeats 4000000
namespace GQ
end GQ
namespace GenX
end GenX
namespace L2
end L2
namespace SG
end SG
namespace SR
end SR
namespace SS
end SS
namespace SY
end SY
namespace SrtK
end SrtK
namespace VSI
end VSI
namespace ZA
end ZA
set_option maxRecDepth 100000
set_option maxHeartbeats 4000000
namespace L2
open PySem PySem.Spec PyProof.Rows
section
variable {X : Cx}
/-- [elt for t1 in it1 if .. for t2 in it2 if ..], the inner one over a dict (locked in its turn) -/
def tLc2L (wi : TI) (g : TG) (tt : TT) (wi2 : TI) (g2 : TG) (tt2 : TT) (te : TE) (vs vs2 : List Nat) : TE := fun σ H Q => wi σ H fun J H1 => ∀ D, H1 D = none → ∃ W : Nat → Nat → Hp → Prop, (∃ m, W 0 m (upd H1 D (.lst []))) ∧ ∀ i m H, W i m H →
  (J.stop i H ∧ Q (.ref D) H) ∨ (J.go i H ∧ ∃ Nx : Hp → Prop, (∀ H', Nx H' → ∃ m', m' < m ∧ W (i + 1) m' H') ∧ ∀ x H', J.yld i H x H' → g x (wipe σ vs) H' fun σ2 H2 => wipe σ2 vs = wipe σ vs ∧ tt σ2 H2 fun b H3 =>
    if b = true then (∃ d u, H3 d = some u ∧ Mut (some u) ∧ ∀ od, wi2 σ2 (upd H3 d (.frz od u)) fun J2 H4 => ∃ W2 : Nat → Nat → Hp → Prop, (∃ m, W2 0 m H4) ∧ ∀ j m H5, W2 j m H5 →
      (J2.stop j H5 ∧ H5 d = some (.frz od u) ∧ Nx (upd H5 d u)) ∨ (J2.go j H5 ∧ ∃ N2 : Hp → Prop, (∀ H', N2 H' → ∃ m', m' < m ∧ W2 (j + 1) m' H') ∧ ∀ y H6, J2.yld j H5 y H6 → g2 y (wipe σ2 vs2) H6 fun σ3 H7 => wipe σ3 vs2 = wipe σ2 vs2 ∧ tt2 σ3 H7 fun b H8 =>
        if b = true then te σ3 H8 fun z H9 => ∃ acc, H9 D = some (.lst acc) ∧ acc.length < sizeLine ∧ N2 (upd H9 D (.lst (acc ++ [z]))) else N2 H8)) else Nx H3)
theorem lc2_coreL {pins : List (Addr × Obj)} {s : Shared} {σ : St} {H : Hp} {Q : VK} {elt tg iter tg2 iter2 : Expr} {ifs ifs2 : List Expr} {scope : Scope} {own : List (Str × Nat)} {vs2 : List Nat} {pos pos' : Pos} {wi wi2 : TI} {g g2 : TG} {tt tt2 : TT} {te : TE} {use : Option (Value → Sem Unit)} {Qf : Value → Shared → Prop}
    (hc : X.calm = true) (hN : X.N.Nodup) (I : Inv X pins σ H s) (hi : PI X tg iter wi) (ok : BlkOk X.N X.env.scope scope own) (hv : ∀ i ∈ vs2, i ∈ own.map (·.2))
    (hg : ∀ (s : Shared) (H : Hp) (C : Addr) (cl : List (Str × Addr)) (fp : List Addr), PG (X.blk s H scope (compEnvC scope cl C X.env) fp) tg g) (ht : ∀ (s : Shared) (H : Hp) (C : Addr) (cl : List (Str × Addr)) (fp : List Addr), PTs (X.blk s H scope (compEnvC scope cl C X.env) fp) ifs tt)
    (hi2 : ∀ (s : Shared) (H : Hp) (C : Addr) (cl : List (Str × Addr)) (fp : List Addr), PI (X.blk s H scope (compEnvC scope cl C X.env) fp) tg2 iter2 wi2)
    (hg2 : ∀ (s : Shared) (H : Hp) (C : Addr) (cl : List (Str × Addr)) (fp : List Addr), PG (X.blk s H scope (compEnvC scope cl C X.env) fp) tg2 g2) (ht2 : ∀ (s : Shared) (H : Hp) (C : Addr) (cl : List (Str × Addr)) (fp : List Addr), PTs (X.blk s H scope (compEnvC scope cl C X.env) fp) ifs2 tt2)
    (he : ∀ (s : Shared) (H : Hp) (C : Addr) (cl : List (Str × Addr)) (fp : List Addr), PE (X.blk s H scope (compEnvC scope cl C X.env) fp) elt te) (hs : ∀ x, foldedSetIterable iter X.env x = pure x) (hs2 : ∀ env x, foldedSetIterable iter2 env x = pure x)
    (h : tLc2L wi g tt wi2 g2 tt2 te (own.map (·.2)) vs2 σ H Q)
    (hRR : ∀ D C s' m H', Inv X pins σ H' s' → Q (.ref D) H' → s'.heap.Ns C m → FpOk X pins H' C → compPost (model X.prog X.w) X.A X.xe use Qf (.ref D) C (.ok .next) s') :
    wpAny (model X.prog X.w) X.A (comprehension (.ListComp elt [⟨tg, iter, ifs, 0⟩, ⟨tg2, iter2, ifs2, 0⟩] scope pos) scope X.env pos' (newList []) false (eval iter X.env) use) Qf X.xe s := by
  have hfree : ∀ y ∈ scope.names, y.2 = .free → ∃ c, X.env.cells.lookup y.1 = some c := fun y hy e => by
    rcases ok.free y hy e with k | k
    · exact I.ok.has _ (.inl k)
    · exact I.ok.has _ (.inr k)
  refine wpAny_comprehension_free (use := use) rfl hs (closure_ok hfree) ok.kind (fun y hy e => by rw [ok.uniq y hy, e])
    (thn (hi.run pins s σ H _ I h) fun xv s1 hx => thn hx fun itv s2 h2 => ?_)
  obtain ⟨it, fp, tn, J, H2, e, I2, T, st2, f2, q⟩ := h2
  subst e
  refine wpAny_newObj_type (newEnv_comp ?_) (by show 0 ≤ sizeLine; decide)
  generalize hD : s2.heap.objs.size = D
  have hDn : H2 D = none := I2.hok.fresh (Nat.le_of_eq hD)
  obtain ⟨W, ⟨m0, w0⟩, turn⟩ := q D hDn
  -- the new list
  generalize hs3 : ({ s2 with heap := s2.heap.push { cls := .type "list", data := .seq ([] : List Value).toArray } } : Shared) = s3
  have I3 : Inv X pins σ (upd H2 D (.lst [])) s3 := by
    rw [← hs3]
    refine I2.laid (t' := s2.toks) (fun b o e => Heap.get?_push_of_some _ e) (Nat.le_of_eq hD) ⟨Nat.zero_le _, [], 0, .nil, ?_⟩
    rw [← hD]
    exact Heap.get?_push_size _ rfl
  have h3 : s3.heap = s2.heap.push { cls := .type "list", data := .seq ([] : List Value).toArray } := by rw [← hs3]
  have sz : ∀ b ∈ fp, b < s2.heap.objs.size := fun b hb => by
    obtain ⟨o, e, _⟩ := T.obj _ _ st2 b hb
    exact Heap.lt_size e
  have f3 : ∀ b ∈ fp, FpOk X pins (upd H2 D (.lst [])) b ∧ b < s3.heap.objs.size := fun b hb => by
    have hlt := sz b hb
    refine ⟨⟨?_, (f2 b hb).2⟩, by rw [h3, Heap.size_push]; exact Nat.lt_succ_of_lt hlt⟩
    rw [upd_ne (by rw [← hD]; exact Nat.ne_of_lt hlt)]
    exact (f2 b hb).1
  have st3 : tn 0 s3.heap := T.keep _ _ _ st2 fun b _ o e => by rw [h3]; exact Heap.get?_push_of_some _ e
  have I4 := block_start I3 ok hN f3
  have pg := hg s3 (upd H2 D (.lst [])) s3.heap.objs.size (cellsFrom (s3.heap.objs.size + 1) scope.names (cloFrom X.env.cells scope.names [])) fp
  have pt := ht s3 (upd H2 D (.lst [])) s3.heap.objs.size (cellsFrom (s3.heap.objs.size + 1) scope.names (cloFrom X.env.cells scope.names [])) fp
  have pi2 := hi2 s3 (upd H2 D (.lst [])) s3.heap.objs.size (cellsFrom (s3.heap.objs.size + 1) scope.names (cloFrom X.env.cells scope.names [])) fp
  have pg2 := hg2 s3 (upd H2 D (.lst [])) s3.heap.objs.size (cellsFrom (s3.heap.objs.size + 1) scope.names (cloFrom X.env.cells scope.names [])) fp
  have pt2 := ht2 s3 (upd H2 D (.lst [])) s3.heap.objs.size (cellsFrom (s3.heap.objs.size + 1) scope.names (cloFrom X.env.cells scope.names [])) fp
  have pe := he s3 (upd H2 D (.lst [])) s3.heap.objs.size (cellsFrom (s3.heap.objs.size + 1) scope.names (cloFrom X.env.cells scope.names [])) fp
  show codeAny _ _ (.compStart (.ListComp elt [⟨tg, iter, ifs, 0⟩, ⟨tg2, iter2, ifs2, 0⟩] scope pos) 0 (.ref it) (.ref D) (compEnvC scope (cellsFrom (s3.heap.objs.size + 1) scope.names (cloFrom X.env.cells scope.names [])) s3.heap.objs.size X.env)) (compPost (model X.prog X.w) X.A X.xe use Qf (.ref D) s3.heap.objs.size) { s3 with heap := pushCells (s3.heap.push { cls := .type "dict", data := .dict #[] }) scope.names }
  have nfp : ∀ b ∈ fp, (upd H2 D (.lst [])) b = none := fun b hb => (f3 b hb).1.1
  generalize hce : compEnvC scope (cellsFrom (s3.heap.objs.size + 1) scope.names (cloFrom X.env.cells scope.names [])) s3.heap.objs.size X.env = ce at I4 pg pt pi2 pg2 pt2 pe ⊢
  have cL : ce.locals = s3.heap.objs.size := by subst hce; rfl
  generalize hH3 : upd H2 D (.lst []) = H3 at I3 I4 pg pt pi2 pg2 pt2 pe w0 nfp f3
  generalize hs4 : ({ s3 with heap := pushCells (s3.heap.push { cls := .type "dict", data := .dict #[] }) scope.names } : Shared) = s4 at I4 ⊢
  have st4 : tn 0 s4.heap := T.keep _ _ _ st3 fun b _ o e => by rw [← hs4]; exact pushCells_keeps _ _ _ _ (Heap.get?_push_of_some _ e)
  have stat : ∀ {σ' : St} {H' : Hp} {s' : Shared}, Inv (X.blk s3 H3 scope ce fp) [] σ' H' s' → (∀ b ∈ fp, H' b = none) → ∀ b ∈ fp, FpOk (X.blk s3 H3 scope ce fp) [] H' b := fun {σ' H' s'} I' hn b hb =>
    ⟨hn b hb, (I'.ok.exf b hb).1, I'.ok.exfs b hb, .inl hb, fun x c e => (I'.ok.exf b hb).2 x c e, fun p hp => absurd (show p ∈ ([] : List (Addr × Obj)) ++ [] from hp) (by simp)⟩
  have loop : codeAny (model X.prog X.w) X.A (.compLoop (.ListComp elt [⟨tg, iter, ifs, 0⟩, ⟨tg2, iter2, ifs2, 0⟩] scope pos) 0 (.ref it) (.ref D) ce) (compPost (model X.prog X.w) X.A X.xe use Qf (.ref D) s3.heap.objs.size) s4 := by
    refine compLoop2_out (hs2 ce) (fun n s' => ∃ i H', Inv (X.blk s3 H3 scope ce fp) [] (wipe σ (own.map (·.2))) H' s' ∧ tn i s'.heap ∧ (∀ b ∈ fp, H' b = none) ∧ W i n H') ?_ m0 ⟨0, H3, I4, st4, nfp, w0⟩
    rintro n s5 ⟨i, H5, I5, st5, n5, w5⟩
    rcases turn i n H5 w5 with ⟨stop, qq⟩ | ⟨go, Nx, hNx, step⟩
    · have td := T.done (X.blk s3 H3 scope ce fp) rfl rfl rfl hc i [] s5 _ H5 (fun _ _ => False) I5 (stat I5 n5) st5 stop
      refine thnF td fun r s6 ⟨hr, I6⟩ => ?_
      subst hr
      -- back in the def's context
      have I7 : Inv X pins σ H5 s6 := I3.call' (ch := fp) I6.os I6.base I6.hok I6.bare fun b hb => ⟨(f3 b hb).1.2.2.2.1, (f3 b hb).1.2.1, (f3 b hb).1.2.2.2.2.1, (f3 b hb).1.2.2.2.2.2⟩
      have nC : H5 s3.heap.objs.size = none := by
        have z : H5 ce.locals = none := I6.free
        rw [cL] at z
        exact z
      obtain ⟨m, hn, _⟩ := I6.loc
      have hn : s6.heap.Ns ce.locals m := hn
      rw [cL] at hn
      exact hRR D s3.heap.objs.size s6 m H5 I7 qq hn (I3.fpOk (Nat.le_refl _) nC)
    · have ti := T.item (X.blk s3 H3 scope ce fp) rfl rfl rfl hc i [] s5 _ H5 (fun _ _ => False) I5 (stat I5 n5) st5 go
      refine thnF ti fun r s6 ⟨u, hr, h6⟩ => ?_
      subst hr
      refine thnF h6 fun _ s7 ⟨x, H7, I7, r7, y7, st7, n7⟩ => ?_
      have I7' := I7.pinned (stat I7 n7) (T.obj _ _ st7)
      refine thnF (pg.run _ s7 _ H7 x u _ I7' r7 (step x H7 y7)) fun _ s8 ⟨σ8, H8, I8, hw8, q8⟩ => ?_
      refine thnF (pt.run _ s8 σ8 H8 _ I8 q8) fun b s9 ⟨H9, I9, q9⟩ => ?_
      -- the turn's end
      have fin : ∀ {s' : Shared} {H' : Hp} {σ' : St}, σ'.length = σ8.length → (∀ (j : Nat) v, (wipe σ8 (own.map (·.2)))[j]? = some (some v) → σ'[j]? = some (some v)) → Inv (X.blk s3 H3 scope ce fp) ([] ++ pinsAt fp s7.heap) σ' H' s' → Nx H' → ∃ m, m < n ∧ ∃ i H', Inv (X.blk s3 H3 scope ce fp) [] (wipe σ (own.map (·.2))) H' s' ∧ tn i s'.heap ∧ (∀ b ∈ fp, H' b = none) ∧ W i m H' := fun {s' H' σ'} hl' hσ' I' nx => by
        obtain ⟨m', hm, w'⟩ := hNx H' nx
        have pin' : ∀ b ∈ fp, ∀ o, s7.heap.get? b = some o → s'.heap.get? b = some o ∧ H' b = none := fun b hb o e =>
          let z := I'.pin (b, o) (List.mem_append_right _ (List.mem_append_right _ (mem_pinsAt hb e)))
          ⟨z.1, z.2.1⟩
        have hl : (wipe σ (own.map (·.2))).length = σ'.length := by rw [← hw8, wipe_length, hl']
        refine ⟨m', hm, i + 1, H', (I'.unpinned (pins := [])).weak hl (fun j v e => ?_), T.keep _ _ _ st7 fun b hb o e => (pin' b hb o e).1, fun b hb => ?_, w'⟩
        · rw [← hw8] at e
          exact hσ' j v e
        · obtain ⟨o, e, _⟩ := T.obj _ _ st7 b hb
          exact (pin' b hb o e).2
      cases b with
      | false =>
        simp only [Bool.false_eq_true, if_false] at q9 ⊢
        exact fin rfl (fun j v e => (wipe_some e).1) I9 q9
      | true =>
        simp only [if_true] at q9 ⊢
        obtain ⟨d, u', hd, mu, q9⟩ := q9
        obtain ⟨od, I9l⟩ := I9.lock hd mu
        refine thnF (pi2.run _ s9 σ8 _ _ I9l (q9 od)) fun xv2 s10 hx2 => thnF hx2 fun itv2 s11 h11 => ?_
        obtain ⟨it2, fp2, tn2, J2, H10, e10, I10, T2, st10, f10, W2, ⟨k0, v0⟩, turn2⟩ := h11
        subst e10
        have stat2 : ∀ {H' : Hp}, (∀ b ∈ fp2, H' b = none) → ∀ b ∈ fp2, FpOk (X.blk s3 H3 scope ce fp) ([] ++ pinsAt fp s7.heap) H' b := fun hn b hb => ⟨hn b hb, (f10 b hb).2⟩
        have loop2 : codeAny (model X.prog X.w) X.A (.compLoop (.ListComp elt [⟨tg, iter, ifs, 0⟩, ⟨tg2, iter2, ifs2, 0⟩] scope pos) 1 (.ref it2) (.ref D) ce) (fun r s₆ => match r with | .ok _ => ∃ m, m < n ∧ ∃ i H', Inv (X.blk s3 H3 scope ce fp) [] (wipe σ (own.map (·.2))) H' s₆ ∧ tn i s₆.heap ∧ (∀ b ∈ fp, H' b = none) ∧ W i m H' | .error _ => False) s11 := by
          refine compLoop2_in (fun n s' => ∃ j H', Inv (X.blk s3 H3 scope ce fp) ([] ++ pinsAt fp s7.heap) (wipe σ8 vs2) H' s' ∧ tn2 j s'.heap ∧ (∀ b ∈ fp2, H' b = none) ∧ W2 j n H') ?_ k0 ⟨0, H10, I10.weak (wipe_length _ _) (fun j v e => (wipe_some e).1), st10, fun b hb => (f10 b hb).1, v0⟩
          rintro k s12 ⟨j, H12, I12, st12, n12, w12⟩
          rcases turn2 j k H12 w12 with ⟨stop, hfz, qq⟩ | ⟨go, N2, hN2, step2⟩
          · refine thnF (T2.done (X.blk s3 H3 scope ce fp) rfl rfl rfl hc j _ s12 _ H12 (fun _ _ => False) I12 (stat2 n12) st12 stop) fun r s13 ⟨hr, I13⟩ => ?_
            subst hr
            refine fin (wipe_length _ _) (fun j v e => ?_) (I13.unlock hfz (I9.nofrz hd mu)) qq
            obtain ⟨e1, e2⟩ := wipe_some e
            rw [wipe_out fun hm => e2 (hv _ hm)]
            exact e1
          · refine thnF (T2.item (X.blk s3 H3 scope ce fp) rfl rfl rfl hc j _ s12 _ H12 (fun _ _ => False) I12 (stat2 n12) st12 go) fun r s13 ⟨u2, hr, h13⟩ => ?_
            subst hr
            refine thnF h13 fun _ s14 ⟨y, H14, I14, r14, y14, st14, n14⟩ => ?_
            have I14' := I14.pinned (stat2 n14) (T2.obj _ _ st14)
            refine thnF (pg2.run _ s14 _ H14 y u2 _ I14' r14 (step2 y H14 y14)) fun _ s15 ⟨σ15, H15, I15, hw15, q15⟩ => ?_
            refine thnF (pt2.run _ s15 σ15 H15 _ I15 q15) fun b s16 ⟨H16, I16, q16⟩ => ?_
            have fin2 : ∀ {s' : Shared} {H' : Hp}, Inv (X.blk s3 H3 scope ce fp) (([] ++ pinsAt fp s7.heap) ++ pinsAt fp2 s14.heap) σ15 H' s' → N2 H' → ∃ m, m < k ∧ ∃ j H', Inv (X.blk s3 H3 scope ce fp) ([] ++ pinsAt fp s7.heap) (wipe σ8 vs2) H' s' ∧ tn2 j s'.heap ∧ (∀ b ∈ fp2, H' b = none) ∧ W2 j m H' := fun {s' H'} I' nx => by
              obtain ⟨m', hm, w'⟩ := hN2 H' nx
              have pin' : ∀ b ∈ fp2, ∀ o, s14.heap.get? b = some o → s'.heap.get? b = some o ∧ H' b = none := fun b hb o e =>
                let z := I'.pin (b, o) (List.mem_append_right _ (List.mem_append_right _ (mem_pinsAt hb e)))
                ⟨z.1, z.2.1⟩
              have hl : (wipe σ8 vs2).length = σ15.length := by rw [← hw15, wipe_length]
              refine ⟨m', hm, j + 1, H', (I'.unpinned).weak hl (fun j v e => ?_), T2.keep _ _ _ st14 fun b hb o e => (pin' b hb o e).1, fun b hb => ?_, w'⟩
              · rw [← hw15] at e
                exact (wipe_some e).1
              · obtain ⟨o, e, _⟩ := T2.obj _ _ st14 b hb
                exact (pin' b hb o e).2
            cases b with
            | false =>
              simp only [Bool.false_eq_true, if_false] at q16 ⊢
              exact fin2 I16 q16
            | true =>
              simp only [if_true] at q16 ⊢
              refine thnF (pe.run _ s16 σ15 H16 _ I16 q16) fun z s17 ⟨yv, H17, I17, r17, acc, hD17, hz17, nx⟩ => ?_
              exact app_ok (X := X.blk s3 H3 scope ce fp) I17 hD17 hz17 r17 fun s18 I18 => fin2 I18 nx
        exact compStart1_ok loop2 (T2.self X.A 0 _ _ _ st10 loop2)
  exact codeAny_compStart_list loop (T.self X.A 0 _ _ _ st4 loop)
/-- as a value -/
theorem pe_lc2L {elt tg iter tg2 iter2 : Expr} {ifs ifs2 : List Expr} {scope : Scope} {own : List (Str × Nat)} {vs2 : List Nat} {pos : Pos} {wi wi2 : TI} {g g2 : TG} {tt tt2 : TT} {te : TE} (hc : X.calm = true) (hN : X.N.Nodup) (hi : PI X tg iter wi) (ok : BlkOk X.N X.env.scope scope own) (hv : ∀ i ∈ vs2, i ∈ own.map (·.2))
    (hg : ∀ (s : Shared) (H : Hp) (C : Addr) (cl : List (Str × Addr)) (fp : List Addr), PG (X.blk s H scope (compEnvC scope cl C X.env) fp) tg g) (ht : ∀ (s : Shared) (H : Hp) (C : Addr) (cl : List (Str × Addr)) (fp : List Addr), PTs (X.blk s H scope (compEnvC scope cl C X.env) fp) ifs tt)
    (hi2 : ∀ (s : Shared) (H : Hp) (C : Addr) (cl : List (Str × Addr)) (fp : List Addr), PI (X.blk s H scope (compEnvC scope cl C X.env) fp) tg2 iter2 wi2)
    (hg2 : ∀ (s : Shared) (H : Hp) (C : Addr) (cl : List (Str × Addr)) (fp : List Addr), PG (X.blk s H scope (compEnvC scope cl C X.env) fp) tg2 g2) (ht2 : ∀ (s : Shared) (H : Hp) (C : Addr) (cl : List (Str × Addr)) (fp : List Addr), PTs (X.blk s H scope (compEnvC scope cl C X.env) fp) ifs2 tt2)
    (he : ∀ (s : Shared) (H : Hp) (C : Addr) (cl : List (Str × Addr)) (fp : List Addr), PE (X.blk s H scope (compEnvC scope cl C X.env) fp) elt te) (hs : ∀ x, foldedSetIterable iter X.env x = pure x := by intro _; rfl) (hs2 : ∀ env x, foldedSetIterable iter2 env x = pure x := by intro _ _; rfl) :
    PE X (.ListComp elt [⟨tg, iter, ifs, 0⟩, ⟨tg2, iter2, ifs2, 0⟩] scope pos) (tLc2L wi g tt wi2 g2 tt2 te (own.map (·.2)) vs2) := by
  refine ⟨fun pins s σ H Q I h => ?_⟩
  rw [eval_ListComp]
  show wpAny _ X.A (comprehension (.ListComp elt [⟨tg, iter, ifs, 0⟩, ⟨tg2, iter2, ifs2, 0⟩] scope pos) scope X.env (firstIterPos [⟨tg, iter, ifs, 0⟩, ⟨tg2, iter2, ifs2, 0⟩] pos) (newList []) false (eval iter X.env) none) _ _ s
  refine lc2_coreL hc hN I hi ok hv hg ht hi2 hg2 ht2 he hs hs2 h fun D C s' m H' I' q hn f => ⟨m, hn, fun h'' sb => ?_⟩
  obtain ⟨f0, f1, f2, f3, f4, f5⟩ := f
  exact ⟨.ref D, H', I'.turned (t' := s'.toks) (fun b o hb e => (sb.2 b hb).trans e) f0 f1 f3 f4 f5, rfl, q⟩
end
end L2
set_option maxRecDepth 100000
set_option maxHeartbeats 4000000
namespace VSI
open PySem PySem.Spec PyProof.Rows L2 SrtO
/-- the text ahead in the tuple that v is -/
def kTx (h : Heap) (v : Value) : Str := DT.txOf (DT.seqAt0 h (DT.refOf (some v)))
theorem kTx_of {h : Heap} {a : Addr} {o : Obj} {y : Str} {t : Tok} {u : Value} {n : Nat} (e : h.get? a = some o) (d : o.data = .seq #[.str y t, u] n) : kTx h (.ref a) = y := by
  show DT.txOf (DT.seqAt0 h a) = y
  have : DT.seqAt0 h a = some (.str y t) := by
    simp only [DT.seqAt0, e, d]
    rfl
  rw [this]
  rfl
def tLt (a b : Str) : Bool := decide (a.cps.toList < b.cps.toList)
theorem swo_tx (k : Value → Str) : Swo fun v u => tLt (k v) (k u) := by
  refine ⟨fun x y h => ?_, fun x y z h1 h2 => ?_⟩
  · unfold tLt at *
    exact decide_eq_false (fun z => List.lt_irrefl _ (List.lt_trans (of_decide_eq_true h) z))
  · unfold tLt at *
    have a := List.not_lt.mp (of_decide_eq_false h1)
    have b := List.not_lt.mp (of_decide_eq_false h2)
    exact decide_eq_false (List.not_lt.mpr (List.le_trans a b))
section
variable {prog : Program} {w : World} {A : Around} {s : Shared}
/-- v is a pair with a text ahead; one text, one pair -/
structure PairK (h : Heap) (vs : List Value) : Prop where
  is : ∀ v ∈ vs, ∃ (a : Addr) (o : Obj) (y : Str) (t : Tok) (u : Value) (n : Nat), v = .ref a ∧ h.get? a = some o ∧ o.cls = .type "tuple" ∧ o.data = .seq #[.str y t, u] n
  one : ∀ v ∈ vs, ∀ u ∈ vs, kTx h v = kTx h u → v = u
theorem firsts_ofK {h : Heap} : ∀ vs : List Value, (∀ v ∈ vs, ∃ (a : Addr) (o : Obj) (y : Str) (t : Tok) (u : Value) (n : Nat), v = .ref a ∧ h.get? a = some o ∧ o.cls = .type "tuple" ∧ o.data = .seq #[.str y t, u] n) → ∃ fs : List Value, PySem.W.KatTups h vs fs ∧ fs.length = vs.length ∧ ∀ f ∈ fs, ∃ (y : Str) (t : Tok), f = Value.str y t
  | [], _ => ⟨[], PySem.W.KatTups.nil, rfl, fun f hf => by simp at hf⟩
  | v :: vs, x => by
    obtain ⟨fs, k, hl, hi⟩ := firsts_ofK vs fun u hu => x u (List.mem_cons_of_mem _ hu)
    obtain ⟨a, o, y, t, u, n, rfl, ho, hc, hd⟩ := x v (List.mem_cons_self ..)
    refine ⟨.str y t :: fs, PySem.W.KatTups.cons ho hc hd rfl k, by rw [List.length_cons, List.length_cons, hl], fun f hf => ?_⟩
    rcases List.mem_cons.mp hf with rfl | hf
    · exact ⟨y, t, rfl⟩
    · exact hi f hf
theorem PairK.cmp {h : Heap} {vs : List Value} (p : PairK h vs) (hk : ∀ v ∈ vs, kTx s.heap v = kTx h v) (q : ∀ v ∈ vs, ∀ a o, v = .ref a → h.get? a = some o → s.heap.get? a = some o) : Cmp prog w A s (tuples' true) (fun p => p.1 ∈ vs) (lt2 fun v u => tLt (kTx h v) (kTx h u)) := by
  intro x y hx hy
  show wpAny (model prog w) A (keyLt' (tuples' true) x.1 y.1) (fun r s' => s' = s ∧ r = tLt (kTx h x.1) (kTx h y.1)) (fun _ _ => False) s
  have one := p.one _ hx _ hy
  obtain ⟨a, o, y1, t, u, n, e, ho, hc, hd⟩ := p.is _ hx
  obtain ⟨a', o', y2, t', u', n', e', ho', hc', hd'⟩ := p.is _ hy
  have ho2 := q _ hx _ _ e ho
  have ho2' := q _ hy _ _ e' ho'
  rw [e, e'] at one ⊢
  rw [kTx_of ho hd, kTx_of ho' hd'] at one ⊢
  refine PySem.W.kat_lt ho2 hd ho2' hd' ?_
  show PySem.W.KatLex prog w A true (decide (2 < 2)) _ [(.str y1 t, .str y2 t'), (u, u')] 0 s
  refine PySem.W.kat_cons (SeqAt.EqAt.str_str y1 t y2 t' prog w _ _ ?_)
  refine PySem.W.kat_go (fun e1 => ?_) (fun e1 => ?_)
  · have ex : y1 = y2 := by simpa using e1
    have ev := one ex
    cases ev
    rw [ho] at ho'
    cases ho'
    rw [hd] at hd'
    cases hd'
    refine PySem.W.kat_yes (PySem.W.kat_cons (SeqAt.EqAt.same u prog w _ _ ?_))
    refine PySem.W.kat_yes (PySem.W.kat_nil ⟨rfl, ?_⟩)
    unfold tLt
    exact (decide_eq_false (List.lt_irrefl _)).symm
  · exact PySem.W.kat_no (oneLt_str ⟨rfl, rfl⟩)
theorem PairK.sortable {a : Addr} {vs : List Value} (h0 : 0 < vs.length) (p : PairK s.heap vs) (ha : ∀ o, s.heap.get? a = some o → o.cls ≠ .type "tuple") : SortableO prog w A s a vs fun v u => tLt (kTx s.heap v) (kTx s.heap u) := by
  intro h' keep
  have kk : ∀ v ∈ vs, ∀ b o, v = .ref b → s.heap.get? b = some o → h'.get? b = some o := fun v hv b o e eo => by
    obtain ⟨b', o', _, _, _, _, e', ho', hc', _⟩ := p.is v hv
    rw [e] at e'
    cases e'
    rw [eo] at ho'
    cases ho'
    exact keep b o (fun z => ha o (z ▸ eo) hc') eo
  have is' : ∀ v ∈ vs, ∃ (a : Addr) (o : Obj) (y : Str) (t : Tok) (u : Value) (n : Nat), v = .ref a ∧ h'.get? a = some o ∧ o.cls = .type "tuple" ∧ o.data = .seq #[.str y t, u] n := fun v hv => by
    obtain ⟨b, o, y, t, u, n, e, ho, r⟩ := p.is v hv
    exact ⟨b, o, y, t, u, n, e, kk v hv b o e ho, r⟩
  have hk : ∀ v ∈ vs, kTx h' v = kTx s.heap v := fun v hv => by
    obtain ⟨b, o, y, t, u, n, e, ho, hc, hd⟩ := p.is v hv
    rw [e, kTx_of ho hd, kTx_of (kk v hv b o e ho) hd]
  obtain ⟨fs, h1, h2, h3⟩ := firsts_ofK vs is'
  refine ⟨tuples' true, fun Q E hq => ?_, p.cmp (s := { s with heap := h' }) hk kk⟩
  refine PySem.W.kat_kind (T := .type "str") h1 (by omega) (fun f hm => ?_) (by rfl) ?_
  · obtain ⟨x, t, rfl⟩ := h3 f hm
    exact PySem.W.Looks.now
  · have e : (Value.type "str" != Value.type "tuple") = true := by first | decide +kernel | rfl | decide
    rw [e]
    exact hq
end
section
variable {X : Cx}
def rItemsK : V → List V → Hp → VK → Prop := fun x xs H Q => ∃ (a : Addr) (kvs : List (Key × V)), x = .ref a ∧ xs = [] ∧ H a = some (.dK kvs) ∧ ∀ p, H p = none → Q (.ref p) (upd H p (L2.DX.itemsO p a))
theorem mt_itemsK : MtR X "dict.items" rItemsK := by
  intro pins s σ H x xs v us Q I rx rxs h
  obtain ⟨a, kvs, rfl, rfl, ha, q⟩ := h
  cases rx
  cases rxs
  obtain ⟨hz, hs0, vs, kv, hdo⟩ := I.hok a _ ha
  obtain ⟨o, es, ep, ho, hx, hdat, _⟩ := hdo
  refine DT.callItems (es := es) (ep := ep) hs0 ⟨o, ho, hx, hdat⟩ ?_
  have hf : H s.heap.objs.size = none := I.hok.fresh (Nat.le_refl _)
  exact ⟨.ref s.heap.objs.size, upd H s.heap.objs.size (L2.DX.itemsO s.heap.objs.size a), I.laid (t' := s.toks) (fun b u e => Heap.get?_push_of_some _ e) (Nat.le_refl _) (L2.DX.itemsO_ok (Heap.get?_push_size _ rfl)), rfl, q _ hf⟩
/-- sorted(d.items()), the keys texts -/
def rSortItK : List V → Hp → VK → Prop := fun us H Q => ∃ (p a : Addr) (kvs : List (Key × V)), us = [.ref p] ∧ H p = some (L2.DX.itemsO p a) ∧ H a = some (.dK kvs) ∧ (∀ q ∈ kvs, ∃ z : Str, q.1 = .inr z) ∧ (kvs.map (·.1)).Nodup ∧
  ∀ (H' : Hp) (l : Addr) (ts : List Addr) (out : List (Key × V)), (∀ b o, H b = some o → H' b = some o) → H l = none → (∀ t ∈ ts, H t = none) → l ∉ ts → H' l = some (.lst (ts.map V.ref)) → Paired (fun (t : Addr) (q : Key × V) => H' t = some (.tup [kV q.1, q.2])) ts out → out.Perm kvs →
    out.Pairwise (fun e f => ∀ y z : Str, e.1 = .inr y → f.1 = .inr z → ¬ z.cps.toList < y.cps.toList) → Q (.ref l) H'
theorem cr_sortedItK (hc : X.calm = true) : CallR X (.builtin "sorted") rSortItK := by
  intro pins s σ H xs us Q I r h
  obtain ⟨p, a, kvs, rfl, hp, ha, htx, hnd, q⟩ := h
  obtain rfl := Vals.ref1 r
  have view : s.heap.IsItemsView p a := (show ObjOk X.prog X.w H s.heap p (L2.DX.itemsO p a) from I.hok p _ hp).1
  obtain ⟨hz, hs0, vs, kv, hdo⟩ := I.hok a _ ha
  obtain ⟨o0, es, ep, ho0, hx0, hdat0, _, hpr0, _⟩ := hdo
  have lk : kvs.length = vs.length := Paired.length kv
  have lk2 : es.size = vs.length := by
    have := hpr0.length
    rw [Array.length_toList] at this
    exact this
  have hh : X.A.handled = none := I.ok.hd hc
  refine DT.sortedI (es := es) (ep := ep) hh view ⟨o0, ho0, hx0, hdat0⟩ (by omega) fun h' tk as hk hlt0 hl hG => ?_
  have lak : as.length = kvs.length := by omega
  have nd : as.Nodup := List.Pairwise.imp (fun {a b} (h : a < b) => Nat.ne_of_lt h) hG.rise
  -- the pairs that were made
  have pr : ∀ (j : Nat) (b : Addr), as[j]? = some b → ∃ (e : Key × V) (y : Str) (t : Tok) (x : Value), kvs[j]? = some e ∧ e.1 = .inr y ∧ RelV e.2 x ∧ h'.get? b = some { cls := .type "tuple", data := .seq #[Value.str y t, x] } := by
    intro j b hj
    obtain ⟨en, f1, f3⟩ := hG.pairs j b hj
    have hjl : j < kvs.length := by
      have := (List.getElem?_eq_some_iff.mp hj).1
      omega
    obtain ⟨qv, g1, g2, g3⟩ := LiI.paired_get kv (List.getElem?_eq_getElem hjl)
    obtain ⟨k, x⟩ := qv
    obtain ⟨f2, f4⟩ := hpr0.get? (by rw [Array.getElem?_toList]; exact f1) g1
    rw [f4] at f3
    obtain ⟨y, hy⟩ := htx _ (List.getElem_mem hjl)
    have hky : k = .inr y := g2.symm.trans hy
    rw [hky] at f2
    rcases keyIs_shape (show keyIs (Sum.inr y) en.key = true from f2) with ⟨_, _, e, _⟩ | ⟨y', t, e, ev⟩
    · cases e
    · cases e
      rw [ev] at f3
      exact ⟨_, y, t, x, List.getElem?_eq_getElem hjl, hy, g3, f3⟩
  have hzl : (as.map Value.ref).length ≤ sizeLine := by rw [List.length_map, lak]; exact hz
  have hob : (h'.push (seqObj "list" (as.map Value.ref).toArray 0)).get? h'.objs.size = some (seqObj "list" (as.map Value.ref).toArray 0) := Heap.get?_push_size _ rfl
  have ne0 : ∀ b o, h'.get? b = some o → b ≠ h'.objs.size := fun b o e => Nat.ne_of_lt (Heap.lt_size e)
  show wpAny _ _ _ _ _ { s with heap := h'.push (seqObj "list" (as.map Value.ref).toArray 0), toks := tk }
  have ka : ∀ b o, h'.get? b = some o → (h'.push (seqObj "list" (as.map Value.ref).toArray 0)).get? b = some o := fun b o e => Heap.get?_push_of_some _ e
  have hsz : (h'.push (seqObj "list" (as.map Value.ref).toArray 0)).objs.size = h'.objs.size + 1 := Heap.size_push ..
  generalize hh2 : h'.push (seqObj "list" (as.map Value.ref).toArray 0) = h2 at hob ka hsz ⊢
  have tx : ∀ (j : Nat) (b : Addr) (e : Key × V) (y : Str), as[j]? = some b → kvs[j]? = some e → e.1 = .inr y → kTx h2 (.ref b) = y := by
    intro j b e y hj he hy
    obtain ⟨e', y', t, x, he', hy', _, hg⟩ := pr j b hj
    rw [he] at he'
    cases he'
    rw [hy] at hy'
    cases hy'
    exact kTx_of (ka _ _ hg) rfl
  have PK : PairK h2 (as.map Value.ref) := by
    refine ⟨fun v hv => ?_, fun v hv u hu e => ?_⟩
    · obtain ⟨b, hb, rfl⟩ := List.mem_map.mp hv
      obtain ⟨j, hj⟩ := List.mem_iff_getElem?.mp hb
      obtain ⟨e, y, t, x, he, hy, _, hg⟩ := pr j b hj
      exact ⟨b, _, y, t, x, 0, rfl, ka _ _ hg, rfl, rfl⟩
    · obtain ⟨b, hb, rfl⟩ := List.mem_map.mp hv
      obtain ⟨c, hc', rfl⟩ := List.mem_map.mp hu
      obtain ⟨j, hj⟩ := List.mem_iff_getElem?.mp hb
      obtain ⟨i, hi⟩ := List.mem_iff_getElem?.mp hc'
      obtain ⟨e1, y1, t1, x1, he1, hy1, _, _⟩ := pr j b hj
      obtain ⟨e2, y2, t2, x2, he2, hy2, _, _⟩ := pr i c hi
      rw [tx j b e1 y1 hj he1 hy1, tx i c e2 y2 hi he2 hy2] at e
      have hlt : j < (kvs.map (·.1)).length := by rw [List.length_map]; exact (List.getElem?_eq_some_iff.mp he1).1
      have eji : j = i := (List.getElem?_inj hlt hnd).mp (by rw [List.getElem?_map, List.getElem?_map, he1, he2]; show some e1.1 = some e2.1; rw [hy1, hy2, e])
      rw [eji, hi] at hj
      cases hj
      rfl
  refine (wpAny_call_entry PyProof.Rows.slot_list_sort ⟨_, hob, rfl⟩ PyProof.Rows.entry_list_sort (list_sort_ord (s := { s with heap := h2, toks := tk }) (ltv := fun v u => tLt (kTx h2 v) (kTx h2 u)) (swo_tx _) hob hzl (fun h2' => PairK.sortable (s := { s with heap := h2, toks := tk }) (by omega) PK fun o e c => ?_) fun out hs hb => ⟨_, rfl, ?_⟩) (PyProof.Rows.args_list_sort _))
  · rw [show o = seqObj "list" (as.map Value.ref).toArray 0 from Option.some.inj (e.symm.trans hob)] at c
    exact absurd (Value.type.inj c) (by decide)
  show EP X pins σ Q (.ref h'.objs.size) { s with heap := sortedHeap h2 h'.objs.size (as.map Value.ref) out.toArray, toks := tk }
  obtain ⟨zs, pz, ez⟩ : ∃ zs : List (Addr × (Key × V)), zs.Perm (as.zip kvs) ∧ out = zs.map fun z => Value.ref z.1 := by
    have m0 : (as.zip kvs).map (·.1) = as := List.map_fst_zip (by rw [lak]; exact Nat.le_refl _)
    have m1 : (as.zip kvs).map (fun z => Value.ref z.1) = as.map Value.ref := by
      have e := congrArg (List.map Value.ref) m0
      rw [List.map_map] at e
      exact e
    obtain ⟨zs, h1, h2'⟩ := perm_lift (fun z : Addr × (Key × V) => Value.ref z.1) hb.perm (as.zip kvs) m1
    exact ⟨zs, h1, h2'.symm⟩
  have idx : ∀ z ∈ zs, ∃ j : Nat, as[j]? = some z.1 ∧ kvs[j]? = some z.2 := by
    intro z' hz'
    obtain ⟨j, hj⟩ := List.mem_iff_getElem?.mp (pz.mem_iff.mp hz')
    exact ⟨j, List.getElem?_zip_eq_some.mp hj⟩
  have hperm : (zs.map (·.2)).Perm kvs := by
    have e := pz.map (·.2)
    rw [show (as.zip kvs).map (·.2) = kvs from List.map_snd_zip (by rw [lak]; exact Nat.le_refl _)] at e
    exact e
  have hsort : (zs.map (·.2)).Pairwise (fun e f => ∀ y z : Str, e.1 = .inr y → f.1 = .inr z → ¬ z.cps.toList < y.cps.toList) := by
    have hs' : (zs.map fun z => Value.ref z.1).Pairwise (fun v u => tLt (kTx h2 u) (kTx h2 v) = false) := by
      rw [← ez]
      exact hs
    rw [List.pairwise_map] at hs' ⊢
    refine List.Pairwise.imp_of_mem (fun {x y} hx hy h y1 y2 e1 e2 => ?_) hs'
    obtain ⟨j, j1, j2⟩ := idx x hx
    obtain ⟨i, i1, i2⟩ := idx y hy
    have h' : tLt (kTx h2 (.ref y.1)) (kTx h2 (.ref x.1)) = false := h
    rw [tx j _ _ _ j1 j2 e1, tx i _ _ _ i1 i2 e2] at h'
    exact of_decide_eq_false h'
  -- behind the sort
  have hlt : s.heap.objs.size ≤ h'.objs.size := Nat.le_of_lt hlt0
  have kF : ∀ b o, b ≠ h'.objs.size → h2.get? b = some o → (sortedHeap h2 h'.objs.size (as.map Value.ref) out.toArray).get? b = some o := fun b o hb e => (PyProof.Rows.sortedHeap_old hb (Heap.lt_size e)).trans e
  have kS : ∀ b o, s.heap.get? b = some o → (sortedHeap h2 h'.objs.size (as.map Value.ref) out.toArray).get? b = some o := fun b o e => kF b o (ne0 _ _ (hk b o e)) (ka _ _ (hk b o e))
  obtain ⟨eF, heF⟩ := PyProof.Rows.sortedHeap_at (vs := as.map Value.ref) (out := out.toArray) hob
  have I1 : Inv X pins σ H { s with heap := sortedHeap h2 h'.objs.size (as.map Value.ref) out.toArray, toks := tk } := I.kept (t' := tk) kS
  have hn0 : H h'.objs.size = none := I.hok.fresh hlt
  have hlen : (zs.map fun z => V.ref z.1).length ≤ sizeLine := by
    have e := hperm.length_eq
    rw [List.length_map] at e
    rw [List.length_map]
    omega
  have rv : Vals (zs.map fun z => V.ref z.1) out := by
    rw [ez]
    exact vals_maps (fun z : Addr × (Key × V) => V.ref z.1) (fun z => Value.ref z.1) zs fun _ _ => rfl
  have I2 : Inv X pins σ (upd H h'.objs.size (.lst (zs.map fun z => V.ref z.1))) { s with heap := sortedHeap h2 h'.objs.size (as.map Value.ref) out.toArray, toks := tk } :=
    I1.take (h' := sortedHeap h2 h'.objs.size (as.map Value.ref) out.toArray) (t' := tk) (fun b ob _ e => e) (I.fpOk hlt hn0) ⟨hlen, out, eF, rv, heF⟩
  obtain ⟨H2, I3, g, qt⟩ := L2.DX.takeT (P := fun b vs => ∃ (j : Nat) (e : Key × V), as[j]? = some b ∧ kvs[j]? = some e ∧ vs = [kV e.1, e.2]) I as _ I2 nd fun b hb => by
    obtain ⟨j, hj⟩ := List.mem_iff_getElem?.mp hb
    obtain ⟨e, y, t, x, he, hy, rx, hg⟩ := pr j b hj
    have hbl : s.heap.objs.size ≤ b := Nat.le_of_lt (hG.above b hb)
    refine ⟨hbl, ?_, [kV e.1, e.2], ⟨j, e, hj, he, rfl⟩, fun H3 => ⟨(by rw [sizeLine_eq]; show 2 ≤ 16777216; omega), [Value.str y t, x], .cons (by rw [hy]; exact ⟨t, rfl⟩) (.cons rx .nil), ⟨_, kF _ _ (ne0 _ _ hg) (ka _ _ hg), rfl, 0, rfl⟩⟩⟩
    rw [upd_ne (ne0 _ _ hg)]
    exact I.hok.fresh hbl
  have gr : ∀ b o, H b = some o → H2 b = some o := fun b o e => g b o (by rw [upd_ne (ne_of_none e hn0)]; exact e)
  have asn : ∀ b ∈ as, H b = none ∧ b ≠ h'.objs.size := fun b hb => by
    obtain ⟨j, hj⟩ := List.mem_iff_getElem?.mp hb
    obtain ⟨e, y, t, x, he, hy, rx, hg⟩ := pr j b hj
    exact ⟨I.hok.fresh (Nat.le_of_lt (hG.above b hb)), ne0 _ _ hg⟩
  refine ⟨.ref h'.objs.size, H2, I3, rfl, q H2 h'.objs.size (zs.map (·.1)) (zs.map (·.2)) gr hn0 (fun b hb => ?_) (fun hb => ?_) (by rw [List.map_map]; exact g _ _ upd_same) ?_ hperm hsort⟩
  · obtain ⟨z', hz', rfl⟩ := List.mem_map.mp hb
    obtain ⟨j, j1, _⟩ := idx z' hz'
    exact (asn _ (List.mem_of_getElem? j1)).1
  · obtain ⟨z', hz', e⟩ := List.mem_map.mp hb
    obtain ⟨j, j1, _⟩ := idx z' hz'
    exact (asn _ (List.mem_of_getElem? j1)).2 e
  · have key : ∀ zs' : List (Addr × (Key × V)), (∀ z ∈ zs', z ∈ zs) → Paired (fun (t : Addr) (q : Key × V) => H2 t = some (.tup [kV q.1, q.2])) (zs'.map (·.1)) (zs'.map (·.2)) := by
      intro zs'
      induction zs' with
      | nil => intro _; exact .nil
      | cons z zs' ih =>
        intro hm
        refine .cons ?_ (ih fun z' hz' => hm z' (List.mem_cons_of_mem _ hz'))
        obtain ⟨i, i1, i2⟩ := idx z (hm z List.mem_cons_self)
        obtain ⟨vs, ⟨j, e, j1, j2, ev⟩, hH⟩ := qt z.1 (List.mem_of_getElem? i1)
        have eij : i = j := (List.getElem?_inj (List.getElem?_eq_some_iff.mp i1).1 nd).mp (i1.trans j1.symm)
        subst eij
        have ee : e = z.2 := Option.some.inj (j2.symm.trans i2)
        rw [ev, ee] at hH
        exact hH
    exact key zs fun _ h => h
end
end VSI
set_option maxRecDepth 100000
set_option maxHeartbeats 4000000
namespace SrtK
open PySem PySem.Spec PyProof.Rows L2 SrtO
end SrtK
namespace L2
open PySem PySem.Spec PyProof.Rows
end L2
set_option maxRecDepth 100000
set_option maxHeartbeats 4000000
namespace SR
open PySem PySem.Spec PyProof.Rows L2
def lt (c : Nat) : Str := ⟨#[c]⟩
def ltV (c : Nat) : V := .str (lt c)
section
variable {X : Cx}
/-- list(text) -/
theorem call_list_txt (hc : X.calm = true) : CallR X (.type "list") (fun xs H Q => ∃ z : Str, xs = [.str z] ∧ z.length ≤ sizeLine ∧ ∀ l, H l = none → Q (.ref l) (upd H l (.lst (z.cps.toList.map ltV)))) := by
  intro pins s σ H xs us Q I r h
  obtain ⟨z, rfl, hz, q⟩ := h
  obtain ⟨u, rfl, rx⟩ := vals1 r
  obtain ⟨t, rfl⟩ := rx
  refine call_list_str (I.ok.hd hc) z t (hn := hz) fun h' tk acc' c' hk hS' hacc => ?_
  have hv : Vals (z.cps.toList.map ltV) acc'.toList := by
    have h1 : acc'.size = z.cps.size := by simpa using hacc.1
    have key : ∀ (l : List Nat) (ys : List Value), ys.length = l.length → (∀ (j : Nat) v, ys[j]? = some v → ∃ c, l[j]? = some c ∧ ∃ u, v = Value.str (lt c) u) → Vals (l.map ltV) ys := by
      intro l
      induction l with
      | nil =>
        intro ys hl _
        have : ys = [] := List.length_eq_zero_iff.mp hl
        subst this
        exact .nil
      | cons c l ih =>
        intro ys hl hy
        cases ys with
        | nil => simp at hl
        | cons y ys =>
          obtain ⟨c', e, u, hu⟩ := hy 0 y rfl
          have e' : c = c' := by simpa using e
          subst e'
          refine .cons ⟨u, hu⟩ (ih ys (by simpa using hl) fun j v hv => hy (j + 1) v (by simpa using hv))
    refine key _ _ (by simp [h1]) fun j v hv => ?_
    obtain ⟨c, u, hc', e⟩ := hacc.2 j v (by simpa using hv)
    exact ⟨c, by simpa using hc', u, e⟩
  refine ⟨.ref s.heap.objs.size, _, I.laid (t' := tk) hk (Nat.le_refl _) (show ObjOk X.prog X.w _ h' _ (.lst (z.cps.toList.map ltV)) from ⟨by simpa [Str.length] using hz, acc'.toList, c', hv, by simpa using hS'⟩), rfl, q _ (I.hok.fresh (Nat.le_refl _))⟩
end
end SR
set_option maxRecDepth 100000
set_option maxHeartbeats 4000000
namespace SR
open PySem PySem.Spec PyProof.Rows L2
def kOf (v : Value) : Key := match v with
  | .int i _ => .inl i
  | .str x _ => .inr x
  | _ => .inl 0
theorem kOf_of {k : Key} {v : Value} (h : keyIs k v = true) : kOf v = k := by
  rcases keyIs_shape h with ⟨i, t, rfl, rfl⟩ | ⟨x, t, rfl, rfl⟩ <;> rfl
def GoodM (w : World) (e : Int × Value) : Prop := keyIs (kOf e.2) e.2 = true ∧ e.1 = keyH w (kOf e.2)
structure MData (w : World) (es : Array (Int × Value)) (t : SetTable) (l : List Key) : Prop where
  good : ∀ e ∈ es.toList, GoodM w e
  keys : es.toList.map (fun e => kOf e.2) = l
  nd : l.Nodup
  few : es.size < scanBound
  fit : t.fits es.size = true
  ris : Ris t.place.toList
  led : w.params.followText "set-order" = true ∨ t.led = true
def SetM (w : World) (h : Heap) (a : Addr) (l : List Key) : Prop := ∃ o es ep t, h.get? a = some o ∧ o.ExactSet ∧ o.data = .set es ep t ∧ MData w es t l
theorem SetM.at {w : World} {h h' : Heap} {a : Addr} {l : List Key} (R : SetM w h a l) (k : ∀ o, h.get? a = some o → h'.get? a = some o) : SetM w h' a l := by
  obtain ⟨o, es, ep, t, e, r⟩ := R
  exact ⟨o, es, ep, t, k o e, r⟩
section
variable {P : Program} {w : World} {A : Around} {E : Value → Shared → Prop} {s : Shared}
theorem MData.elems {es : Array (Int × Value)} {t : SetTable} {l : List Key} (M : MData w es t l) : ElemsOf (mixKind P w) es.toList := fun e he => by
  obtain ⟨g1, g2⟩ := M.good e he
  refine ⟨⟨kOf e.2, g1, g2⟩, ?_⟩
  rcases keyIs_shape g1 with ⟨i, tk, _, q⟩ | ⟨x, tk, _, q⟩ <;> rw [q] <;> rfl
theorem MData.size {es : Array (Int × Value)} {t : SetTable} {l : List Key} (M : MData w es t l) : es.size = l.length := by
  rw [← M.keys, List.length_map, Array.length_toList]
/-- the tail of an add: the table stored, and laid anew where it is too full -/
theorem addTail {a : Addr} {l : List Key} {o : Obj} {es : Array (Int × Value)} {ep : Nat} {t : SetTable} (ho : s.heap.get? a = some o) (hex : o.ExactSet) (hd : o.data = .set es ep t)
    {es1 : Array (Int × Value)} {t2 : SetTable} (M : MData w es1 t2 l) {wasDummy : Bool} {g : Bool → Sem Unit} (hg : ∀ (b : Bool) (s₁ : Shared) (Q' : Unit → Shared → Prop), Q' () s₁ → wpAny (model P w) A (g b) Q' E s₁) {R : Option Bool → Shared → Prop}
    (hR : ∀ h' l', Heap.SameBut a s.heap h' → SetM w h' a l' → l'.Perm l → R (some true) { s with heap := h' }) :
    wpAny (model P w) A (do
        storeSet a es1 t2
        if (!wasDummy && t2.tooFull) = true then do
            g (relayAll t2 es1 (SetTable.grown es1.size)).2.2
            storeSet a (relayAll t2 es1 (SetTable.grown es1.size)).1 (relayAll t2 es1 (SetTable.grown es1.size)).2.1
            pure (some true)
          else pure (some true)) R E s := by
  have ho1 := store_at (es' := es1) (t' := t2) ho hd
  have sb1 := Heap.SameBut.update s.heap a (Obj.putSet es1 t2)
  refine wpAny_bind (wpAny_storeSet_of ho hd ?_ (fits_of_scanBound M.few))
  by_cases c : (!wasDummy && t2.tooFull) = true
  · rw [if_pos c]
    obtain ⟨es2, t3, gave, hZ⟩ : ∃ es2 t3 gave, relayAll t2 es1 (SetTable.grown es1.size) = (es2, t3, gave) := ⟨_, _, _, rfl⟩
    have pm := relayAll_perm t2 es1 (SetTable.grown es1.size)
    have f3 := relayAll_fits t2 es1 (SetTable.grown es1.size)
    have r3 := relayAll_ris t2 es1 (SetTable.grown es1.size)
    have l3 := relayAll_led t2 es1 (SetTable.grown es1.size)
    rw [hZ] at pm f3 r3 l3 ⊢
    have pm' : es2.toList.Perm es1.toList := pm
    have hsz : es2.size = es1.size := by simpa using pm'.length_eq
    have few2 : es2.size < scanBound := hsz ▸ M.few
    refine wpAny_bind (hg gave _ _ ?_)
    refine wpAny_bind (wpAny_storeSet_of ho1 rfl ?_ (fits_of_scanBound few2))
    have pk : (es2.toList.map (fun e => kOf e.2)).Perm l := (pm'.map _).trans (List.Perm.of_eq M.keys)
    refine wpAny_pure (hR _ _ (sb1.trans (Heap.SameBut.update _ a _)) ⟨_, es2, _, t3, store_at (es' := es2) (t' := t3) ho1 rfl, hex, rfl, ⟨fun e he => M.good e (pm'.mem_iff.mp he), rfl, pk.nodup_iff.mpr M.nd, few2, f3, r3, M.led.imp id fun z => l3.trans z⟩⟩ pk)
  · rw [if_neg c]
    exact wpAny_pure (hR _ l sb1 ⟨_, es1, _, t2, ho1, hex, rfl, M⟩ (List.Perm.refl _))
theorem add_key {a : Addr} {l : List Key} {k : Key} {v : Value} {Q : Bool → Shared → Prop} (R : SetM w s.heap a l) (room : l.length + 1 < scanBound) (hk : keyIs k v = true)
    (hQ : ∀ b h' l', Heap.SameBut a s.heap h' → SetM w h' a l' → (k ∈ l → l' = l) → (k ∉ l → l'.Perm (k :: l)) → Q b { s with heap := h' }) :
    wpAny (model P w) A (setAddHashed a v (keyH w k)) Q E s := by
  obtain ⟨o, es, ep, t, ho, hex, hd, M⟩ := R
  have hkey : (mixKind P w).is k v = true := hk
  have hsc : v.scannable = true := by rcases keyIs_shape hk with ⟨i, tk, _, q⟩ | ⟨x, tk, _, q⟩ <;> rw [q] <;> rfl
  have hel : ElemsOf (mixKind P w) es.toList := M.elems
  have hmem : k ∈ l ↔ ∃ e ∈ es.toList, (mixKind P w).is k e.2 = true := by
    rw [← M.keys, List.mem_map]
    constructor
    · rintro ⟨e, he, q⟩
      exact ⟨e, he, by rw [← q]; exact (M.good e he).1⟩
    · rintro ⟨e, he, q⟩
      exact ⟨e, he, kOf_of q⟩
  unfold setAddHashed setAddHashedIn
  refine wpAny_holding (wpAny_bind (wpAny_setState_of ho hd M.fit ?_))
  dsimp only
  rw [byScan_of hsc M.few hel, if_pos rfl]
  unfold setAddByScan
  refine wpAny_bind (wpAny_bind (wpAny_rule (wpAny_bind (wpAny_setScan_of hkey ho hd M.fit hel ?_))))
  cases hfi : List.findIdx? (fun e => (mixKind P w).is k e.2) es.toList with
  | some j =>
    obtain ⟨hj, pj, _⟩ := List.findIdx?_eq_some_iff_getElem.mp hfi
    have hin : k ∈ l := hmem.mpr ⟨_, List.getElem_mem hj, pj⟩
    exact wpAny_pure (wpAny_pure (hQ false s.heap l (Heap.SameBut.refl a s.heap) ⟨o, es, ep, t, ho, hex, hd, M⟩ (fun _ => rfl) fun z => absurd hin z))
  | none =>
    have hout : k ∉ l := fun z => by
      obtain ⟨e, he, q⟩ := hmem.mp z
      exact Bool.noConfusion ((List.findIdx?_eq_none_iff.mp hfi e he).symm.trans q)
    obtain ⟨es1, t1, wasDummy, gave, hZ⟩ : ∃ es1 t1 wd gv, layNew t es (keyH w k) v = (es1, t1, wd, gv) := ⟨_, _, _, _, rfl⟩
    have pm := layNew_perm t es (keyH w k) v
    have f1 := layNew_fits t es (keyH w k) v
    have r1 := layNew_ris t es (keyH w k) v M.ris
    have l1 := layNew_led t es (keyH w k) v
    dsimp only
    rw [hZ] at pm f1 r1 l1 ⊢
    have pm' : es1.toList.Perm (es.push (keyH w k, v)).toList := pm
    rw [Array.toList_push] at pm'
    have pc : es1.toList.Perm ((keyH w k, v) :: es.toList) := pm'.trans (List.perm_append_singleton _ _)
    have pk : (es1.toList.map (fun e => kOf e.2)).Perm (k :: l) := by
      refine (pc.map (fun e => kOf e.2)).trans (List.Perm.of_eq ?_)
      rw [List.map_cons, M.keys, kOf_of hk]
    have hsz : es1.size = l.length + 1 := by
      have q := pk.length_eq
      rwa [List.length_map, Array.length_toList, List.length_cons] at q
    have mk : ∀ t2 : SetTable, t2.fits es1.size = true → t2.place = t1.place → t2.led = t1.led → MData w es1 t2 (es1.toList.map (fun e => kOf e.2)) := fun t2 hf hp hl =>
      ⟨fun e he => by
        rcases List.mem_cons.mp (pc.mem_iff.mp he) with z | z
        · rw [z]; exact ⟨by show keyIs (kOf v) v = true; rw [kOf_of hk]; exact hk, by show keyH w k = keyH w (kOf v); rw [kOf_of hk]⟩
        · exact M.good e z, rfl, pk.nodup_iff.mpr (List.nodup_cons.mpr ⟨hout, M.nd⟩), hsz ▸ room, hf, by rw [hp]; exact r1, by rw [hl]; exact M.led.imp id fun z => l1.trans z⟩
    have hg : ∀ (b : Bool) (s₁ : Shared) (Q' : Unit → Shared → Prop), Q' () s₁ → wpAny (model P w) A (match b with | true => rule "set.scan.the-table-gave-way" | false => pure ()) Q' E s₁ := fun b s₁ Q' q => by
      cases b
      · exact wpAny_pure q
      · exact wpAny_rule q
    have fin : ∀ h' l', Heap.SameBut a s.heap h' → SetM w h' a l' → l'.Perm (es1.toList.map (fun e => kOf e.2)) → Q true { s with heap := h' } := fun h' l' sb r p =>
      hQ true h' l' sb r (fun z => absurd z hout) fun _ => p.trans pk
    refine wpAny_bind (hg gave _ _ ?_)
    by_cases pl : t1.plain = true
    · simp only [pl, if_true]
      refine wpAny_bind ?_
      rw [hashByValue_scannable 8 hsc]
      refine wpAny_pure ?_
      refine addTail ho hex hd (mk _ ?_ ?_ ?_) ?_ fun h' l' sb r p => wpAny_pure (fin h' l' sb r p)
      · first | (split <;> first | exact f1 | exact SetTable.fits_plain_off f1) | exact f1 | exact SetTable.fits_plain_off f1
      · first | rfl | (split <;> rfl)
      · first | rfl | (split <;> rfl)
      · intro b s₁ Q' q
        cases b
        · exact wpAny_pure q
        · exact wpAny_rule q
    · simp only [pl, if_false]
      refine wpAny_bind (wpAny_pure ?_)
      refine addTail ho hex hd (mk _ ?_ ?_ ?_) ?_ fun h' l' sb r p => wpAny_pure (fin h' l' sb r p)
      · first | (split <;> first | exact f1 | exact SetTable.fits_plain_off f1) | exact f1 | exact SetTable.fits_plain_off f1
      · first | rfl | (split <;> rfl)
      · first | rfl | (split <;> rfl)
      · intro b s₁ Q' q
        cases b
        · exact wpAny_pure q
        · exact wpAny_rule q
structure GotM (ks : List Key) (i : Nat) (l : List Key) : Prop where
  mem : ∀ k, k ∈ l ↔ k ∈ ks.take i
  len : l.length ≤ i
theorem GotM.next {ks l l' : List Key} {i : Nat} {k : Key} (g : GotM ks i l) (hk : ks[i]? = some k) (h1 : k ∈ l → l' = l) (h2 : k ∉ l → l'.Perm (k :: l)) : GotM ks (i + 1) l' := by
  have e : ks.take (i + 1) = ks.take i ++ [k] := by rw [List.take_add_one, hk]; rfl
  by_cases c : k ∈ l
  · rw [h1 c]
    refine ⟨fun x => ?_, Nat.le_succ_of_le g.len⟩
    rw [e, List.mem_append, List.mem_singleton, ← g.mem x]
    exact ⟨.inl, fun z => z.elim id fun z => z ▸ c⟩
  · have p := h2 c
    refine ⟨fun x => ?_, ?_⟩
    · rw [p.mem_iff, List.mem_cons, e, List.mem_append, List.mem_singleton, g.mem x]
      exact Or.comm
    · rw [p.length_eq]
      exact Nat.succ_le_succ g.len
theorem upd_loop {I : Addr} {fp wr : List Addr} {G : Array GenState → Array GenState → Prop} {n : Nat} {Pv : Nat → Value → Prop} {St : Nat → Shared → Prop} {R : Result → Shared → Prop}
    (W : WalksS P w A.in1 I fp wr G n Pv St) (S : Addr) (hSf : S ∉ fp) (ks : List Key) (hn : n = ks.length) (hb : ks.length + 1 < scanBound) (hval : ∀ i v, Pv i v → ∃ k, ks[i]? = some k ∧ keyIs k v = true) :
    ∀ (d i : Nat) (s : Shared), n - i = d → i ≤ n → St i s → (∃ l, SetM w s.heap S l ∧ GotM ks i l) →
      (∀ s' l, Moved (S :: wr) G s s' → SetM w s'.heap S l → GotM ks n l → R (.ok (.ret .none)) s') → codeAny (model P w) A (.builtin "set.update.loop" ⟨[.ref S, .ref I], []⟩) R s := by
  have nw : S ∉ wr := fun h => hSf (W.sub _ h)
  have sub : ∀ b ∈ wr, b ∈ S :: wr := fun b hb => List.mem_cons_of_mem _ hb
  have start : ∀ (s : Shared), wpAny (model P w) A.in1 (do
      let some v ← pyNext (.ref I) | ret .none
      let _ ← holding [v] (setAdd S v)
      again (.builtin "set.update.loop" ⟨[.ref S, .ref I], []⟩)) (fun fin s' => match fin with | .done f => R (.ok f) s' | .again c' => c'.quiet = true ∧ codeAny (model P w) A c' R s') (fun e s' => R (.error e) s') s → codeAny (model P w) A (.builtin "set.update.loop" ⟨[.ref S, .ref I], []⟩) R s := fun s h => by
    refine codeAny_builtin F.entry_set_update_loop ?_
    rw [Around.under_plainId F.plain_set_update_loop _]
    exact h
  intro d
  induction d with
  | zero =>
    intro i s hd hi hst ⟨l, hS, g⟩ hR
    obtain rfl : i = n := by omega
    refine start s (wpAny_bind (W.done s _ _ hst fun s' hm => ?_))
    exact wpAny_pure (hR s' l (hm.mono sub) (hS.at fun o e => hm.heap S o nw e) g)
  | succ d ih =>
    intro i s hd hi hst ⟨l, hS, g⟩ hR
    have hlt : i < n := by omega
    refine start s (wpAny_bind (W.item i s _ _ hlt hst fun v s' hP hst' hm => ?_))
    obtain ⟨k, hk, hkv⟩ := hval i v hP
    have hS' : SetM w s'.heap S l := hS.at fun o e => hm.heap S o nw e
    refine wpAny_bind (wpAny_holding ?_)
    unfold setAdd
    refine wpAny_holding (wpAny_bind ((mixKind P w).pyHash (k := k) hkv ?_))
    refine add_key (s := { s' with toks := s'.toks + 1 }) hS' (by have := g.len; omega) hkv fun b h' l' sb hS2 c1 c2 => ?_
    refine wpAny_pure ⟨plainId_quiet F.plain_set_update_loop _, ih (i + 1) _ (by omega) hlt (W.frame _ s' _ _ hst' (Nat.le_succ _) fun b hb o e => ?_) ⟨l', hS2, g.next hk c1 c2⟩ fun s'' l2 hm'' hS'' g'' => ?_⟩
    · exact (sb.2 b fun h => hSf (h ▸ hb)).trans e
    · refine hR s'' l2 (Moved.trans W.gtrans ((hm.mono sub).then_heap (Nat.le_succ _) fun b o hb e => ?_) hm'') hS'' g''
      exact (sb.2 b fun h => hb (h ▸ List.mem_cons_self)).trans e
end
end SR
set_option maxRecDepth 100000
set_option maxHeartbeats 4000000
namespace SR
open PySem PySem.Spec PyProof.Rows L2
abbrev newSet (w : World) : Obj := { cls := .type "set", dict := none, data := .set #[] 0 (.fresh 0 0 (!w.params.followText "set-order")) }
section
variable {P : Program} {w : World} {A : Around} {E : Value → Shared → Prop} {s : Shared}
/-- what is wanted behind set.__init__ -/
abbrev InitEnd (P : Program) (w : World) (A : Around) (E : Value → Shared → Prop) (q : Shared → Prop) (fin : Fin) (s' : Shared) : Prop := match fin with
  | .done f => wants (fun r s₂ => r = Value.none ∧ q s₂) E (.ok f) s'
  | .again c' => c'.quiet = true ∧ codeAny (model P w) A c' (wants (fun r s₂ => r = Value.none ∧ q s₂) E) s'
theorem set_shell (a : Value) {Q : Value → Shared → Prop}
    (h : wpAny (model P w) A.in1.in1 (Builtin.«set.__init__» ⟨[.ref s.heap.objs.size, a], []⟩) (InitEnd P w A.in1 E (Q (.ref s.heap.objs.size))) (fun e s' => wants (fun r s₂ => r = Value.none ∧ Q (.ref s.heap.objs.size) s₂) E (.error e) s') { s with heap := s.heap.push (newSet w) }) :
    wpAny (model P w) A (call (.type "set") [a]) Q E s := by
  obtain ⟨c, tl, hmro⟩ := F.called_set.mro
  have hmade := F.called_set.made
  have hsub := F.called_set.sub
  refine wpAny_call (codeAny_of_tree ?_)
  show wpAny _ _ (callAny (.type "set") _) _ _ _
  refine wpAny_pure ⟨Code.quiet_builtin _ (by decide +kernel), codeAny_builtin F.entry_type_call ?_⟩
  rw [Around.under_plain (weight_type_call_type "set" [a] []) rfl]
  have h1 := F.called_set.notType
  have h2 := F.called_set.canCreate
  have hct := F.typeCall_set_1 a
  repeat (any_goals (first | assumption | wp_step))
  refine codeAny_mono (code_set_led1 a (E := E) (Q₁ := fun obj s₁ => obj = .ref s.heap.objs.size ∧ s₁ = { s with heap := s.heap.push (newSet w) }) ⟨rfl, rfl⟩) fun r s₁ hr => ?_
  cases r with
  | error e => exact hr
  | ok fl =>
    cases fl with
    | ret obj =>
      obtain ⟨rfl, rfl⟩ := hr
      have hS : (s.heap.push (newSet w)).get? s.heap.objs.size = some (newSet w) := Heap.get?_push_size _ rfl
      have hT : Shared.TypeIs { s with heap := s.heap.push (newSet w) } (.ref s.heap.objs.size) "set" := ⟨_, hS, rfl⟩
      have hli := F.called_set.init.lookup
      have hbi := F.called_set.init.bind (.ref s.heap.objs.size)
      repeat (any_goals (first | assumption | wp_step))
      refine codeAny_mono (codeAny_call_builtin (R := wants (fun r s₂ => r = .none ∧ Q (.ref s.heap.objs.size) s₂) E) F.called_set.init.plain F.entry_set_init (check_set_init_1 hT h)) fun r₂ s₂ hr₂ => ?_
      cases r₂ with
      | error e => exact hr₂
      | ok f2 =>
        cases f2 with
        | ret r =>
          obtain ⟨rfl, hq⟩ := hr₂
          repeat (any_goals (first | assumption | wp_step))
        | _ => exact hr₂.elim
    | _ => exact hr.elim
theorem newSetM {h : Heap} {a : Addr} (ho : h.get? a = some (newSet w)) : SetM w h a [] :=
  ⟨_, _, _, _, ho, ⟨rfl, rfl, rfl⟩, rfl, ⟨fun e he => (by cases he), rfl, List.nodup_nil, (by unfold scanBound; decide), rfl, List.Pairwise.nil, by
    cases w.params.followText "set-order"
    · exact .inr rfl
    · exact .inl rfl⟩⟩
/-- the walk into the new set, and what stands behind it -/
theorem set_walk {I : Addr} {fp : List Addr} {Pv : Nat → Value → Prop} {St : Nat → Shared → Prop} {G : Array GenState → Array GenState → Prop} {n : Nat} {h1 : Heap} {Q : Value → Shared → Prop} (ks : List Key) (hI : s.heap.objs.size < I) (hSf : s.heap.objs.size ∉ fp)
    (W : WalksS P w A.in1.in1.in1 I fp [I] G n Pv St) (hn : n = ks.length) (hb : ks.length + 1 < scanBound) (hval : ∀ i v, Pv i v → ∃ k, ks[i]? = some k ∧ keyIs k v = true) (hG : ∀ g g', G g g' → g' = g)
    (hk : ∀ b o, (s.heap.push (newSet w)).get? b = some o → h1.get? b = some o) (hst : St 0 { s with heap := h1 })
    (hQ : ∀ (h' : Heap) (tk : Nat) (l : List Key), SetM w h' s.heap.objs.size l → (∀ k, k ∈ l ↔ k ∈ ks) → l.length ≤ ks.length → (∀ b o, s.heap.get? b = some o → h'.get? b = some o) → Q (.ref s.heap.objs.size) { s with heap := h', toks := tk }) :
    codeAny (model P w) A.in1.in1 (.builtin "set.update.loop" ⟨[.ref s.heap.objs.size, .ref I], []⟩) (fun r s' => match r with | .ok (.ret v) => v = Value.none ∧ Q (.ref s.heap.objs.size) s' | .ok _ => False | .error _ => False) { s with heap := h1 } := by
  refine upd_loop W s.heap.objs.size hSf ks hn hb hval n 0 _ rfl (Nat.zero_le _) hst ⟨[], newSetM (hk _ _ (Heap.get?_push_size _ rfl)), ⟨fun k => by simp, Nat.le_refl _⟩⟩ fun s' l hm hS g => ⟨rfl, ?_⟩
  obtain ⟨h', g2, d', tk', os'⟩ := s'
  have eg : g2 = s.gens := hG _ _ hm.gens
  have ed : d' = s.drawn := hm.drawn
  have eo : os' = s.os := hm.os
  subst eg ed eo
  refine hQ h' tk' l hS (fun k => by rw [g.mem k, hn, List.take_length]) (by rw [← hn]; exact g.len) fun b o e => hm.heap b o ?_ (hk b o (Heap.get?_push_of_some _ e))
  have := Heap.lt_size e
  simp only [List.mem_cons, List.not_mem_nil, or_false, not_or]
  exact ⟨Nat.ne_of_lt this, Nat.ne_of_lt (Nat.lt_trans this hI)⟩
theorem keys_at : ∀ {ks : List Key} {us : List Value}, Vals (ks.map kV) us → ∀ (i : Nat) (v : Value), us[i]? = some v → ∃ k, ks[i]? = some k ∧ keyIs k v = true
  | [], _, .nil, i, v, h => by simp at h
  | k :: ks, _, .cons r t, 0, v, h => by
    have e : _ = v := Option.some.inj h
    subst e
    refine ⟨k, rfl, ?_⟩
    cases k with
    | inl i => obtain ⟨tk, rfl⟩ := r; exact keyIs_int i tk
    | inr x => obtain ⟨tk, rfl⟩ := r; exact keyIs_str x tk
  | k :: ks, _, .cons r t, i + 1, v, h => by
    obtain ⟨k', e, q⟩ := keys_at t i v (by simpa using h)
    exact ⟨k', by simpa using e, q⟩
theorem call_set_L {l : Addr} {items : Array Value} (ks : List Key) {Q : Value → Shared → Prop} (hh : A.handled = none) (hl : s.heap.IsList l items) (hit : Vals (ks.map kV) items.toList) (hb : ks.length + 1 < scanBound)
    (hQ : ∀ (h' : Heap) (tk : Nat) (l : List Key), SetM w h' s.heap.objs.size l → (∀ k, k ∈ l ↔ k ∈ ks) → l.length ≤ ks.length → (∀ b o, s.heap.get? b = some o → h'.get? b = some o) → Q (.ref s.heap.objs.size) { s with heap := h', toks := tk }) :
    wpAny (model P w) A (call (.type "set") [.ref l]) Q E s := by
  refine set_shell _ ?_
  obtain ⟨ol, hol, hcl, nl, hdl⟩ := hl
  obtain ⟨ocls, odict, odata, oslots⟩ := ol
  simp only at hcl hdl
  subst hcl; subst hdl
  have hol' : (s.heap.push (newSet w)).get? l = some { cls := .type "list", dict := odict, data := .seq items nl, slots := oslots } := Heap.get?_push_of_some _ hol
  have hl1 : (s.heap.push (newSet w)).IsList l items := ⟨_, hol', rfl, nl, rfl⟩
  have f1 := F.sub_list_set
  have f2 := F.sub_list_frozenset
  have f3 : (Value.type "list" == Value.type "dict") = false := by decide
  unfold Builtin.«set.__init__» noKeywords Builtin.Frozenset.updateFrom
  generalize hPI : pyIter = PI
  wp_walk
  subst hPI
  refine wpAny_pyIter_list hl1 ?_
  refine wpAny_bind (wpAny_runValue ?_)
  have hlS : l < s.heap.objs.size := Heap.lt_size hol
  have hz1 : (s.heap.push (newSet w)).objs.size = s.heap.objs.size + 1 := Heap.size_push ..
  have hneI : l ≠ (s.heap.push (newSet w)).objs.size := by rw [hz1]; exact Nat.ne_of_lt (Nat.lt_succ_of_lt hlS)
  refine codeAny_mono (set_walk (s := s) ks (by rw [hz1]; exact Nat.lt_succ_self _) ?_ ((Walks.list (by simp [hh]) _ l hneI items).toS) (by simpa using hit.length.symm) hb ?_ ?_ (fun b o e => Heap.get?_push_of_some _ e) ⟨⟨_, Heap.get?_push_size _ rfl, rfl, rfl⟩, (hl1.push _)⟩ hQ) fun r s' hr => ?_
  · rw [hz1]
    simp only [List.mem_cons, List.not_mem_nil, or_false, not_or]
    exact ⟨Nat.ne_of_lt (Nat.lt_succ_self _), Nat.ne_of_gt hlS⟩
  · intro i v hv
    exact keys_at hit i v (by simpa using hv)
  · first | exact fun _ _ e => e | exact fun _ _ e => e.symm
  · cases r with
    | error e => exact hr.elim
    | ok fl =>
      cases fl with
      | ret v =>
        obtain ⟨rfl, hq⟩ := hr
        refine wpAny_pure ?_
        exact wpAny_pure ⟨rfl, hq⟩
      | _ => exact hr.elim
theorem call_set_T {l : Addr} {items : Array Value} (ks : List Key) {Q : Value → Shared → Prop} (hh : A.handled = none) (hl : s.heap.IsTuple l items) (hit : Vals (ks.map kV) items.toList) (hb : ks.length + 1 < scanBound)
    (hQ : ∀ (h' : Heap) (tk : Nat) (l : List Key), SetM w h' s.heap.objs.size l → (∀ k, k ∈ l ↔ k ∈ ks) → l.length ≤ ks.length → (∀ b o, s.heap.get? b = some o → h'.get? b = some o) → Q (.ref s.heap.objs.size) { s with heap := h', toks := tk }) :
    wpAny (model P w) A (call (.type "set") [.ref l]) Q E s := by
  refine set_shell _ ?_
  obtain ⟨ol, hol, hcl, nl, hdl⟩ := hl
  obtain ⟨ocls, odict, odata, oslots⟩ := ol
  simp only at hcl hdl
  subst hcl; subst hdl
  have hol' : (s.heap.push (newSet w)).get? l = some { cls := .type "tuple", dict := odict, data := .seq items nl, slots := oslots } := Heap.get?_push_of_some _ hol
  have hl1 : (s.heap.push (newSet w)).IsTuple l items := ⟨_, hol', rfl, nl, rfl⟩
  have f1 := F.sub_tuple_set
  have f2 := F.sub_tuple_frozenset
  have f3 : (Value.type "tuple" == Value.type "dict") = false := by decide
  unfold Builtin.«set.__init__» noKeywords Builtin.Frozenset.updateFrom
  generalize hPI : pyIter = PI
  wp_walk
  subst hPI
  refine wpAny_pyIter_tuple hl1 ?_
  refine wpAny_bind (wpAny_runValue ?_)
  have hlS : l < s.heap.objs.size := Heap.lt_size hol
  have hz1 : (s.heap.push (newSet w)).objs.size = s.heap.objs.size + 1 := Heap.size_push ..
  have hneI : l ≠ (s.heap.push (newSet w)).objs.size := by rw [hz1]; exact Nat.ne_of_lt (Nat.lt_succ_of_lt hlS)
  refine codeAny_mono (set_walk (s := s) ks (by rw [hz1]; exact Nat.lt_succ_self _) ?_ ((Walks.tuple (by simp [hh]) _ l hneI items).toS) (by simpa using hit.length.symm) hb ?_ ?_ (fun b o e => Heap.get?_push_of_some _ e) ⟨⟨_, Heap.get?_push_size _ rfl, rfl, rfl⟩, (hl1.push _)⟩ hQ) fun r s' hr => ?_
  · rw [hz1]
    simp only [List.mem_cons, List.not_mem_nil, or_false, not_or]
    exact ⟨Nat.ne_of_lt (Nat.lt_succ_self _), Nat.ne_of_gt hlS⟩
  · intro i v hv
    exact keys_at hit i v (by simpa using hv)
  · first | exact fun _ _ e => e | exact fun _ _ e => e.symm
  · cases r with
    | error e => exact hr.elim
    | ok fl =>
      cases fl with
      | ret v =>
        obtain ⟨rfl, hq⟩ := hr
        refine wpAny_pure ?_
        exact wpAny_pure ⟨rfl, hq⟩
      | _ => exact hr.elim
end
end SR
set_option maxRecDepth 100000
set_option maxHeartbeats 4000000
namespace SR
open PySem PySem.Spec PyProof.Rows L2
section
variable {P : Program} {w : World} {A : Around} {E : Value → Shared → Prop} {s : Shared}
theorem call_set_S {x : Str} {t : Tok} {Q : Value → Shared → Prop} (hh : A.handled = none) (hb : x.cps.size + 1 < scanBound)
    (hQ : ∀ (h' : Heap) (tk : Nat) (l : List Key), SetM w h' s.heap.objs.size l → (∀ k, k ∈ l ↔ k ∈ x.cps.toList.map fun c => (Sum.inr (SR.lt c) : Key)) → l.length ≤ (x.cps.toList.map fun c => (Sum.inr (SR.lt c) : Key)).length → (∀ b o, s.heap.get? b = some o → h'.get? b = some o) → Q (.ref s.heap.objs.size) { s with heap := h', toks := tk }) :
    wpAny (model P w) A (call (.type "set") [.str x t]) Q E s := by
  refine set_shell _ ?_
  have f1 := F.sub_str_set
  have f2 := F.sub_str_frozenset
  have f3 : (Value.type "str" == Value.type "dict") = false := by decide
  unfold Builtin.«set.__init__» noKeywords Builtin.Frozenset.updateFrom
  generalize hPI : pyIter = PI
  wp_walk
  subst hPI
  refine wpAny_pyIter_str fun o St W hst => ?_
  refine wpAny_bind (wpAny_runValue ?_)
  have hz1 : (s.heap.push (newSet w)).objs.size = s.heap.objs.size + 1 := Heap.size_push ..
  refine codeAny_mono (set_walk (s := s) (x.cps.toList.map fun c => (Sum.inr (SR.lt c) : Key)) (by rw [hz1]; exact Nat.lt_succ_self _) ?_ ((W _ (by simp [hh])).toS) (by simp) (by simpa using hb) ?_ ?_ (fun b o e => Heap.get?_push_of_some _ e) hst hQ) fun r s' hr => ?_
  · rw [hz1]
    simp only [List.mem_cons, List.not_mem_nil, or_false]
    exact Nat.ne_of_lt (Nat.lt_succ_self _)
  · rintro i v ⟨c, u, hc, rfl⟩
    refine ⟨.inr (SR.lt c), ?_, keyIs_str _ _⟩
    rw [List.getElem?_map, Array.getElem?_toList, hc]
    rfl
  · first | exact fun _ _ e => e | exact fun _ _ e => e.symm
  · cases r with
    | error e => exact hr.elim
    | ok fl =>
      cases fl with
      | ret v =>
        obtain ⟨rfl, hq⟩ := hr
        refine wpAny_pure ?_
        exact wpAny_pure ⟨rfl, hq⟩
      | _ => exact hr.elim
def SetMO (w : World) (a : Addr) (l : List Key) : HO := .ext fun h => SetM w h a l
theorem setMO_new {H : Hp} {h : Heap} {a : Addr} {l : List Key} (R : SetM w h a l) : ObjOk P w H h a (SetMO w a l) := by
  obtain ⟨o, es, ep, t, e, r⟩ := id R
  exact ⟨R, ⟨o, e⟩, fun h1 h2 q k => SetM.at q k⟩
end
section
variable {X : Cx}
/-- set(xs): a list or a tuple of ints and texts, or a text -/
def rSetK (K : PySem.W.Frag) (w : World) : List V → Hp → VK → Prop := fun xs H Q => ∃ ks : List Key, ((∃ a, xs = [.ref a] ∧ (SqL K H a (ks.map kV) ∨ SqT K H a (ks.map kV))) ∨ (∃ z : Str, xs = [.str z] ∧ ks = z.cps.toList.map fun c => (Sum.inr (SR.lt c) : Key))) ∧ ks.length < 1000 ∧
  ∀ p l, H p = none → l.Nodup → (∀ k, k ∈ l ↔ k ∈ ks) → l.length ≤ ks.length → Q (.ref p) (upd H p (SetMO w p l))
theorem SetM.nd {w : World} {h : Heap} {a : Addr} {l : List Key} (R : SetM w h a l) : l.Nodup := by
  obtain ⟨o, es, ep, t, e, _, _, M⟩ := R
  exact M.nd
theorem cr_setK (hc : X.calm = true) : CallR X (.type "set") (rSetK X.K X.w) := by
  intro pins s σ H xs us Q I r h
  obtain ⟨ks, h, hb, q⟩ := h
  have hb' : ks.length + 1 < scanBound := by unfold scanBound; omega
  have fin : ∀ (h' : Heap) (tk : Nat) (l : List Key), SetM X.w h' s.heap.objs.size l → (∀ k, k ∈ l ↔ k ∈ ks) → l.length ≤ ks.length → (∀ b o, s.heap.get? b = some o → h'.get? b = some o) → EP X pins σ Q (.ref s.heap.objs.size) { s with heap := h', toks := tk } := fun h' tk l S m ln k =>
    ⟨.ref s.heap.objs.size, _, I.laid (t' := tk) k (Nat.le_refl _) (setMO_new S), rfl, q _ l (I.hok.fresh (Nat.le_refl _)) S.nd m ln⟩
  rcases h with ⟨a, rfl, hq⟩ | ⟨z, rfl, rfl⟩
  · obtain ⟨u, rfl, rx⟩ := vals1 r
    cases rx
    rcases hq with hq | hq
    · obtain ⟨its, rv, pl, hz⟩ := I.list hq
      exact call_set_L ks (I.ok.hd hc) pl.isList (by simpa using rv) hb' fin
    · obtain ⟨its, rv, pl, hz⟩ := I.tuple hq
      exact call_set_T ks (I.ok.hd hc) pl (by simpa using rv) hb' fin
  · obtain ⟨u, rfl, rx⟩ := vals1 r
    obtain ⟨t, rfl⟩ := rx
    exact call_set_S (I.ok.hd hc) (by simpa using hb') fin
theorem setM_get {pins : List (Addr × Obj)} {σ : L2.St} {H : Hp} {s : Shared} {a : Addr} {l : List Key} (I : Inv X pins σ H s) (ha : H a = some (SetMO X.w a l)) : SetM X.w s.heap a l := (I.hok a _ ha).1
/-- len(set) -/
theorem cr_lenK : CallR X (.builtin "len") (fun xs H Q => ∃ a l, xs = [.ref a] ∧ H a = some (SetMO X.w a l) ∧ Q (.int (l.length : Nat)) H) := by
  intro pins s σ H xs us Q I r h
  obtain ⟨a, l, rfl, ha, q⟩ := h
  obtain ⟨u, rfl, rx⟩ := vals1 r
  cases rx
  obtain ⟨o, es, ep, t, ho, hex, hd, M⟩ := setM_get I ha
  have e := M.size
  exact call_len_set ho hex hd M.fit (by have := M.few; unfold scanBound at this; omega) ⟨.int (l.length : Nat), H, I.tok _, ⟨_, by rw [← e]⟩, q⟩
end
end SR
set_option maxRecDepth 100000
set_option maxHeartbeats 4000000
namespace SR
open PySem PySem.Spec PyProof.Rows L2
section
variable {P : Program} {w : World} {A : Around} {E : Value → Shared → Prop} {s : Shared}
/-- sorted(set): the members laid into a new list, the list sorted as sortIt says -/
theorem sorted_shell {a : Addr} {l : List Key} {Q : Value → Shared → Prop} (R : SetM w s.heap a l) (hh : A.handled = none) (hfew : l.length < 64)
    (srt : ∀ (vs : List Value) (s1 : Shared) (L : Addr) (Z : Fin → Shared → Prop), s1.heap.get? L = some (seqObj "list" vs.toArray 0) → vs.length < 64 → (vs.map kOf).Perm l → (∀ v ∈ vs, keyIs (kOf v) v = true) →
      (∀ out : Array Value, (∀ (s' : Shared) (p : Addr) (c : Nat), (∀ b o, s.heap.get? b = some o → s'.heap.get? b = some o) → s'.gens = s.gens → s'.os = s.os → s.heap.objs.size ≤ p → s'.heap.get? p = some (seqObj "list" out c) → Q (.ref p) s') → Z (.done (.ret .none)) { s1 with heap := sortedHeap s1.heap L vs out }) →
      wpAny (model P w) A.in1.in1 (Builtin.«list.sort» ⟨[.ref L], []⟩) Z (fun e s' => wants Q E (.error e) s') s1) :
    wpAny (model P w) A (call (.builtin "sorted") [.ref a]) Q E s := by
  obtain ⟨o, es, ep, t, ho, hex, hd, M⟩ := R
  refine Calls.call_function_entry kind_sorted plain_sorted entry_sorted (args_sorted1 _) ?_
  unfold Builtin.«sorted»
  refine wpAny_bind (m := checkCount "sorted" 1 1 _) (wpAny_pure ?_)
  refine wpAny_bind (collect_set (A := A.in1) hh ⟨o, ho, hex.1, hd⟩ M.fit M.few M.ris M.led fun s1 vs k1 hz g1 o1 pm => ?_)
  have pk : (vs.map kOf).Perm l := by
    have q := pm.map kOf
    rw [List.map_map] at q
    exact q.trans (List.Perm.of_eq M.keys)
  have hvl : vs.length < 64 := by
    have q := pk.length_eq
    rw [List.length_map] at q
    omega
  have hv : ∀ v ∈ vs, keyIs (kOf v) v = true := fun v h => by
    obtain ⟨e, he, q⟩ := List.mem_map.mp (pm.mem_iff.mp h)
    rw [← q]
    exact (M.good e he).1
  refine wpAny_bind (wpAny_newList ?_ (by rw [sizeLine_eq]; omega))
  have hoL : (s1.heap.push (seqObj "list" vs.toArray 0)).get? s1.heap.objs.size = some (seqObj "list" vs.toArray 0) := Heap.get?_push_size _ rfl
  refine wpAny_bind (wpAny_holding (wpAny_call_entry slot_list_sort ⟨_, hoL, rfl⟩ entry_list_sort ?_ (args_list_sort _)))
  refine srt vs _ _ _ hoL hvl pk hv fun out hq => ⟨_, rfl, ?_⟩
  obtain ⟨c, hc⟩ := sortedHeap_at (vs := vs) (out := out) hoL
  refine wpAny_pure ⟨_, rfl, hq _ s1.heap.objs.size c (fun b u e => ?_) g1 o1 hz hc⟩
  have q := k1 b u e
  have hlt := Heap.lt_size q
  show (sortedHeap (s1.heap.push (seqObj "list" vs.toArray 0)) s1.heap.objs.size vs out).get? b = some u
  rw [sortedHeap_old (Nat.ne_of_lt hlt) (by rw [size_push']; exact Nat.lt_succ_of_lt hlt)]
  exact Heap.get?_push_of_some _ q
theorem strs_of : ∀ (vs : List Value) (ss : List Str), (vs.map kOf) = ss.map Sum.inr → (∀ v ∈ vs, keyIs (kOf v) v = true) → StrsAre vs ss
  | [], [], _, _ => .nil
  | v :: vs, x :: ss, h, g => by
    injection h with h1 h2
    have k := g v List.mem_cons_self
    rw [h1] at k
    rcases keyIs_shape k with ⟨i, t, q, _⟩ | ⟨y, t, q, e⟩
    · cases q
    · injection q with q
      subst q
      rw [e]
      exact .cons x t (strs_of vs ss h2 fun u hu => g u (List.mem_cons_of_mem _ hu))
  | [], _ :: _, h, _ => by simp at h
  | _ :: _, [], h, _ => by simp at h
theorem perm_inr {l : List Key} {ss : List Str} : ∀ {m : List Key}, m.Perm (ss.map Sum.inr) → ∃ ts : List Str, m = ts.map Sum.inr ∧ ts.Perm ss := fun {m} p => by
  have h : ∀ k ∈ m, ∃ x : Str, k = Sum.inr x := fun k hk => by
    obtain ⟨x, _, e⟩ := List.mem_map.mp (p.mem_iff.mp hk)
    exact ⟨x, e.symm⟩
  have ex : ∀ m : List Key, (∀ k ∈ m, ∃ x : Str, k = Sum.inr x) → ∃ ts : List Str, m = ts.map Sum.inr := by
    intro m
    induction m with
    | nil => intro _; exact ⟨[], rfl⟩
    | cons k m ih =>
      intro hm
      obtain ⟨x, rfl⟩ := hm k List.mem_cons_self
      obtain ⟨ts, rfl⟩ := ih fun u hu => hm u (List.mem_cons_of_mem _ hu)
      exact ⟨x :: ts, rfl⟩
  obtain ⟨ts, rfl⟩ := ex m h
  refine ⟨ts, rfl, ?_⟩
  have q := p.map (fun k : Key => match k with | .inr x => x | .inl _ => Str.empty)
  rw [List.map_map, List.map_map] at q
  have e : ∀ u : List Str, u.map ((fun k : Key => match k with | .inr x => x | .inl _ => Str.empty) ∘ Sum.inr) = u := fun u => by
    have : ((fun k : Key => match k with | .inr x => x | .inl _ => Str.empty) ∘ Sum.inr) = (id : Str → Str) := rfl
    rw [this, List.map_id]
  rw [e, e] at q
  exact q
end
section
variable {X : Cx}
/-- sorted(set of texts) -/
theorem cr_sortedKS (hc : X.calm = true) : CallR X (.builtin "sorted") (fun vs H Q => ∃ (a : Addr) (ss : List Str), vs = [.ref a] ∧ H a = some (SetMO X.w a (ss.map Sum.inr)) ∧ ss.length < 64 ∧ ∀ (ys : List Str) (p : Addr), ys.Perm ss → sortedS ys = true → H p = none → Q (.ref p) (upd H p (.lst (ys.map V.str)))) := by
  intro pins s σ H vs us Q I r h
  obtain ⟨a, ss, rfl, ha, hf, q⟩ := h
  obtain ⟨u, rfl, rx⟩ := vals1 r
  cases rx
  refine sorted_shell (setM_get I ha) (I.ok.hd hc) (by simpa using hf) fun vs s1 L Z ho h64 pk hv hz => ?_
  obtain ⟨ts, et, pt⟩ := perm_inr (l := []) pk
  have hS : StrsAre vs ts := strs_of vs ts et hv
  refine list_sort_treeK strKind_oneLt ho hS.keysOf (fun v₁ v₂ rest e => keyKind_strs (by rw [← e]; exact hS)) h64 fun st' hp hs => ?_
  obtain ⟨ys, h1, h2, h3⟩ := sorted_out_str hS hp hs
  refine hz _ fun s' p c k g o hp' hg => ?_
  have hn : H p = none := I.hok.fresh hp'
  have hl : (ys.map V.str).length ≤ sizeLine := by rw [List.length_map, (h2.trans pt).length_eq, sizeLine_eq]; omega
  have J : Inv X pins σ (upd H p (.lst (ys.map V.str))) { s with heap := s'.heap, gens := s'.gens, drawn := s'.drawn, toks := s'.toks } :=
    I.call (ch := []) (Un.laid k hp' hn) (I.hok.laid k hp' ⟨hl, _, c, vals_of_strs h1, hg⟩) (by rw [g]; exact I.bare) (fun _ z => nomatch z)
  have e : s' = { s with heap := s'.heap, gens := s'.gens, drawn := s'.drawn, toks := s'.toks } := by
    cases s'; cases s; cases o; rfl
  rw [e]
  exact ⟨.ref p, _, J, rfl, q ys p (h2.trans pt) h3 hn⟩
end
end SR
set_option maxRecDepth 100000
set_option maxHeartbeats 4000000
namespace SR
open PySem PySem.Spec PyProof.Rows L2
end SR
set_option maxRecDepth 100000
set_option maxHeartbeats 4000000
namespace SR
open PySem PySem.Spec PyProof.Rows L2
abbrev PKey := Int × List Int
section
variable (P : Program) (w : World)
def IsPair (h : Heap) (k : PKey) (a : Addr) : Prop := ∃ o n t b, h.get? a = some o ∧ o.cls = .type "tuple" ∧ o.data = .seq #[.int k.1 t, .ref b] n ∧ IsTupleKey (intKind P w) h k.2 b
def pairHash (k : PKey) : Int := reduceHash (Builtin.Tuple.tupleHashOf [(intKind P w).hash k.1, tupleKeyHash (intKind P w) k.2])
end
section
variable {P : Program} {w : World} {A : Around} {E : Value → Shared → Prop} {s : Shared}
theorem IsPair.typeIs {k : PKey} {a : Addr} (x : IsPair P w s.heap k a) : s.TypeIs (.ref a) "tuple" := by
  obtain ⟨o, n, t, b, ho, hc, _⟩ := x
  exact ⟨o, ho, hc⟩
theorem IsPair.inj {h : Heap} {a : Addr} {x y : PKey} (hx : IsPair P w h x a) (hy : IsPair P w h y a) : x = y := by
  obtain ⟨o, n, t, b, ho, hc, hd, hk⟩ := hx
  obtain ⟨o', n', t', b', ho', hc', hd', hk'⟩ := hy
  obtain rfl : o = o' := Option.some.inj (ho.symm.trans ho')
  rw [hd] at hd'
  injection hd' with h1 _
  injection h1 with h1
  injection h1 with h2 h3
  injection h2 with h2 _
  injection h3 with h3 _
  injection h3 with h3
  subst h3
  exact Prod.ext h2 (hk.inj hk')
theorem IsPair.keeps {h h' : Heap} {k : PKey} {a d : Addr} {o : Obj} {es ep} (x : IsPair P w h k a) (ho : h.get? d = some o) (hd : o.data = .dict es ep) (hs : Heap.SameBut d h h') : IsPair P w h' k a := by
  obtain ⟨o', n, t, b, ho', hc, hd', hk⟩ := x
  have hne : a ≠ d := by
    rintro rfl
    obtain rfl : o' = o := Option.some.inj (ho'.symm.trans ho)
    rw [hd] at hd'
    exact nomatch hd'
  exact ⟨o', n, t, b, (hs.2 a hne).trans ho', hc, hd', hk.keeps ho hd hs⟩
theorem pair_hash {k : PKey} {a : Addr} {Q : Int → Shared → Prop} (hu : A.units + 1 < cLine) (hk : IsPair P w s.heap k a) (h : Q (pairHash P w k) { s with toks := s.toks + (k.2.length + 3) }) : wpAny (model P w) A (pyHash (.ref a)) Q E s := by
  have hT := hk.typeIs
  obtain ⟨o, n, t, b, ho, _, hd, hb⟩ := hk
  unfold pyHash
  first | unfold pyHashByItsType | skip
  first | refine wpAny_bind (wpAny_cRoomFor_or (.inr (by omega)) ?_) | skip
  refine wpAny_bind (wpAny_specialOf hT F.slot_tuple_hash.lookup ?_)
  show wpAny _ _ (if (some (Value.builtin "tuple.__hash__") == some Value.none) = true then _ else _) Q E s
  rw [if_neg (by rw [beq_builtin_none]; exact Bool.false_ne_true)]
  refine wpAny_bind (wpAny_specialOf hT F.slot_tuple_hash.lookup ?_)
  show wpAny _ _ (callSpecialIfBoundUnlessNone? (.ref a) "__hash__" _ >>= _) Q E s
  refine wpAny_bind (wpAny_callSpecialIfBoundUnlessNone?_slot hT F.slot_tuple_hash (wpAny_call_entry F.slot_tuple_hash hT F.entry_tuple_hash ?_ (F.args_tuple_hash_1 _)))
  show wpAny _ _ (Builtin.Tuple.tupleItemsOf (.ref a) >>= _) _ _ s
  refine wpAny_bind (wpAny_tupleItemsOf ho hd (wpAny_bind ?_))
  rw [← Array.forIn_toList]
  refine wpAny_forIn_list _ (fun rest (c : Array Int) s' =>
      (rest = [.int k.1 t, .ref b] ∧ c.toList = [] ∧ s' = s) ∨ (rest = [.ref b] ∧ c.toList = [(intKind P w).hash k.1] ∧ s' = { s with toks := s.toks + 1 }) ∨ (rest = [] ∧ c.toList = [(intKind P w).hash k.1, tupleKeyHash (intKind P w) k.2] ∧ s' = { s with toks := s.toks + (k.2.length + 2) })) _ ?_ ?_ _ _ (.inl ⟨rfl, rfl, rfl⟩)
  · rintro x rest c s' (⟨e, hc, rfl⟩ | ⟨e, hc, rfl⟩ | ⟨e, hc, rfl⟩)
    · injection e with e1 e2
      subst e1 e2
      refine wpAny_bind ((intKind P w).pyHash (intKind_is P w _ _) ?_)
      first
        | exact wpAny_pure (.inr (.inl ⟨rfl, by simp [hc], rfl⟩))
        | exact wpAny_bind (wpAny_pure (wpAny_pure (.inr (.inl ⟨rfl, by simp [hc], rfl⟩))))
    · injection e with e1 e2
      subst e1 e2
      refine wpAny_bind (wpAny_pyHash_tuple (A := A.in1) hu hb ?_)
      have et : s.toks + 1 + (k.2.length + 1) = s.toks + (k.2.length + 2) := by omega
      first
        | exact wpAny_pure (.inr (.inr ⟨rfl, by simp [hc], by simp only [et]⟩))
        | exact wpAny_bind (wpAny_pure (wpAny_pure (.inr (.inr ⟨rfl, by simp [hc], by simp only [et]⟩))))
    · cases e
  · rintro c s' (⟨e, _⟩ | ⟨e, _⟩ | ⟨_, hc, rfl⟩)
    · cases e
    · cases e
    · show wpAny _ _ (retInt (Builtin.Tuple.tupleHashOf c.toList)) _ _ _
      rw [hc]
      refine wpAny_ret_mkInt ?_
      unfold pairHash reduceHash at h
      generalize Builtin.Tuple.tupleHashOf [(intKind P w).hash k.1, tupleKeyHash (intKind P w) k.2] = z at h ⊢
      show wpAny _ _ (if (decide (-(2 : Int) ^ 63 ≤ z) && decide (z < 2 ^ 63)) = true then _ else _) Q E _
      have et : s.toks + (k.2.length + 2) + 1 = s.toks + (k.2.length + 3) := by omega
      by_cases hr : (decide (-(2 : Int) ^ 63 ≤ z) && decide (z < 2 ^ 63)) = true
      · rw [if_pos hr] at h ⊢
        exact wpAny_pure (by simpa only [et] using h)
      · rw [if_neg hr] at h ⊢
        exact wpAny_bind (wpAny_rule (wpAny_pure (by simpa only [et] using h)))
theorem pair_eq_tree {x y : PKey} {a b : Addr} {Z : Fin → Shared → Prop} (hu : A.units < cLine) (hx : IsPair P w s.heap x a) (hy : IsPair P w s.heap y b) (h : Z (.done (.ret (.bool (decide (x = y))))) s) :
    wpAny (model P w) A (Builtin.«tuple.__eq__» ⟨[.ref a, .ref b], []⟩) Z E s := by
  have hTb := hy.typeIs
  obtain ⟨oa, na, ta, ca, hoa, _, hda, hka⟩ := hx
  obtain ⟨ob, nb, tb, cb, hob, _, hdb, hkb⟩ := hy
  show wpAny _ _ (isInstance (.ref b) (.type "tuple") >>= _) _ _ s
  refine wpAny_bind (wpAny_isInstance hTb isSubtype_tuple_tuple ?_)
  simp only [Bool.not_true, Bool.false_eq_true, if_false]
  refine wpAny_bind (wpAny_tupleItemsOf hoa hda (wpAny_bind (wpAny_tupleItemsOf hob hdb (wpAny_bind ?_))))
  refine wpAny_forIn_list _ (fun rest r s' => r.1 = none ∧ s' = s ∧ (rest = [(.int x.1 ta, .int y.1 tb), (.ref ca, .ref cb)] ∨ (x.1 = y.1 ∧ rest = [(.ref ca, .ref cb)]) ∨ (x = y ∧ rest = []))) _ ?_ ?_ _ _ ⟨rfl, rfl, .inl rfl⟩
  · rintro ⟨u, v⟩ rest r s' ⟨hr, rfl, e | ⟨e0, e⟩ | ⟨_, e⟩⟩
    · injection e with e1 e2
      injection e1 with e3 e4
      subst e2 e3 e4
      refine wpAny_bind ((intKind P w).eqBool (a := x.1) (b := y.1) (intKind_is P w _ _) (intKind_is P w _ _) ?_)
      by_cases hk : x.1 = y.1
      · rw [decide_eq_true hk]
        simp only [Bool.not_true, Bool.false_eq_true, if_false]
        exact wpAny_pure ⟨rfl, rfl, .inr (.inl ⟨hk, by trivial⟩)⟩
      · rw [decide_eq_false hk]
        simp only [Bool.not_false, if_true]
        rw [decide_eq_false (fun z => hk (congrArg Prod.fst z))] at h
        exact wpAny_bind (wpAny_pure (wpAny_pure (wpAny_pure h)))
    · injection e with e1 e2
      injection e1 with e3 e4
      subst e2 e3 e4
      refine wpAny_bind (wpAny_eqBool_tuple hu hka hkb ?_)
      by_cases hk : x.2 = y.2
      · rw [decide_eq_true hk]
        simp only [Bool.not_true, Bool.false_eq_true, if_false]
        exact wpAny_pure ⟨rfl, rfl, .inr (.inr ⟨Prod.ext e0 hk, by trivial⟩)⟩
      · rw [decide_eq_false hk]
        simp only [Bool.not_false, if_true]
        rw [decide_eq_false (fun z => hk (congrArg Prod.snd z))] at h
        exact wpAny_bind (wpAny_pure (wpAny_pure (wpAny_pure h)))
    · cases e
  · rintro ⟨r1, r2⟩ s' ⟨hr, rfl, e | ⟨_, e⟩ | ⟨e, _⟩⟩
    · cases e
    · cases e
    · simp only at hr
      subst hr
      rw [decide_eq_true e] at h
      exact wpAny_pure h
theorem pair_eqBool {x y : PKey} {a b : Addr} {Q : Bool → Shared → Prop} (hu : A.units + 1 < cLine) (hx : IsPair P w s.heap x a) (hy : IsPair P w s.heap y b) (h : Q (decide (x = y)) s) :
    wpAny (model P w) A (eqBool (.ref a) (.ref b)) Q E s := by
  unfold eqBool
  try with_reducible refine wpAny_holding ?_
  show wpAny _ _ (if (Value.ref a == Value.ref b) = true then _ else _) Q E s
  by_cases hab : (Value.ref a == Value.ref b) = true
  · rw [if_pos hab]
    have e : a = b := by have := eq_of_beq hab; injection this
    subst e
    obtain rfl := hx.inj hy
    exact wpAny_bind (wpAny_rule (wpAny_pure (by simpa using h)))
  · rw [if_neg hab]
    exact wpAny_bind (wpAny_richCompare_same_room (op := .Eq) hx.typeIs hy.typeIs F.slot_tuple_eq
      (wpAny_call_entry F.slot_tuple_eq hx.typeIs F.entry_tuple_eq (pair_eq_tree (A := A.in1) hu hx hy ⟨_, rfl, (fun e => nomatch e), wpAny_truthy_bool h⟩) (F.args_tuple_eq_2 _ _)) (by omega))
theorem quiet_n {n : Nat} {ks : List Int} {a : Addr} {Q : Bool → Shared → Prop} (hk : IsTupleKey (intKind P w) s.heap ks a) (h : Q true s) : wpAny (model P w) A (eqIsQuiet (n + 1) (.ref a)) Q E s := by
  have hT := hk.typeIs
  obtain ⟨o, items, m, ho, _, hd, hi⟩ := hk
  unfold eqIsQuiet
  refine wpAny_bind (wpAny_specialOf hT F.slot_tuple_eq.lookup ?_)
  show wpAny _ _ (isInstance (.ref a) (.type "tuple") >>= _) _ _ s
  refine wpAny_bind (wpAny_isInstance hT isSubtype_tuple_tuple ?_)
  simp only [Bool.not_true, Bool.false_eq_true, if_false]
  refine wpAny_bind (wpAny_seqItems ho hd (wpAny_bind ?_))
  show wpAny _ _ (forIn items _ _) _ _ s
  rw [← Array.forIn_toList]
  refine wpAny_forIn_list _ (fun rest r s' => r.1 = none ∧ s' = s ∧ ∀ v ∈ rest, carriedByValue v = true) _ ?_ ?_ _ _ ⟨rfl, rfl, hi.byValue⟩
  · rintro v rest r s' ⟨hr, rfl, hall⟩
    rw [eqIsQuiet_byValue _ (hall v List.mem_cons_self)]
    refine wpAny_bind (wpAny_pure ?_)
    simp only [Bool.not_true, Bool.false_eq_true, if_false]
    exact wpAny_pure ⟨rfl, rfl, fun u hu' => hall u (List.mem_cons_of_mem _ hu')⟩
  · rintro ⟨r1, r2⟩ s' ⟨hr, rfl, _⟩
    simp only at hr
    subst hr
    exact wpAny_pure h
theorem pair_quiet {k : PKey} {a : Addr} {Q : Bool → Shared → Prop} (hk : IsPair P w s.heap k a) (h : Q true s) : wpAny (model P w) A (eqIsQuiet 8 (.ref a)) Q E s := by
  have hT := hk.typeIs
  obtain ⟨o, n, t, b, ho, _, hd, hb⟩ := hk
  unfold eqIsQuiet
  refine wpAny_bind (wpAny_specialOf hT F.slot_tuple_eq.lookup ?_)
  show wpAny _ _ (isInstance (.ref a) (.type "tuple") >>= _) _ _ s
  refine wpAny_bind (wpAny_isInstance hT isSubtype_tuple_tuple ?_)
  simp only [Bool.not_true, Bool.false_eq_true, if_false]
  refine wpAny_bind (wpAny_seqItems ho hd (wpAny_bind ?_))
  show wpAny _ _ (forIn (#[Value.int k.1 t, Value.ref b] : Array Value) _ _) _ _ s
  rw [← Array.forIn_toList]
  refine wpAny_forIn_list _ (fun rest r s' => r.1 = none ∧ s' = s ∧ ∀ v ∈ rest, carriedByValue v = true ∨ v = .ref b) _ ?_ ?_ _ _ ⟨rfl, rfl, fun v hv => ?_⟩
  · rintro v rest r s' ⟨hr, rfl, hall⟩
    have fin : ∀ u ∈ rest, carriedByValue u = true ∨ u = Value.ref b := fun u hu' => hall u (List.mem_cons_of_mem _ hu')
    rcases hall v List.mem_cons_self with c | c
    · rw [eqIsQuiet_byValue _ c]
      refine wpAny_bind (wpAny_pure ?_)
      simp only [Bool.not_true, Bool.false_eq_true, if_false]
      exact wpAny_pure ⟨rfl, rfl, fin⟩
    · subst c
      refine wpAny_bind (quiet_n (n := 6) hb ?_)
      simp only [Bool.not_true, Bool.false_eq_true, if_false]
      exact wpAny_pure ⟨rfl, rfl, fin⟩
  · rintro ⟨r1, r2⟩ s' ⟨hr, rfl, _⟩
    simp only at hr
    subst hr
    exact wpAny_pure h
  · have : v = .int k.1 t ∨ v = .ref b := by simpa using hv
    rcases this with e | e
    · subst e; exact .inl rfl
    · exact .inr e
end
def pairKind (P : Program) (w : World) : HeapKind P w PKey where
  is := IsPair P w
  hash := pairHash P w
  draws := fun k => k.2.length + 3
  room := fun A => A.units + 1 < cLine
  inj := fun hx hy => hx.inj hy
  keeps := fun x ho hd hs => x.keeps ho hd hs
  pyHash := fun hu hk h => pair_hash hu hk h
  eqBool := fun hu hx hy h => pair_eqBool hu hx hy h
  quiet := fun hk h => pair_quiet hk h
end SR
set_option maxRecDepth 100000
set_option maxHeartbeats 4000000
namespace SR
open PySem PySem.Spec PyProof.Rows L2
/-- the dict at a: its keys, their places, its ints -/
def PkD (P : Program) (w : World) (h : Heap) (a : Addr) (xs : List (PKey × Addr × Int)) : Prop :=
  (a == sysModules) = false ∧ xs.length ≤ sizeLine ∧ ∃ (ys : List (PKey × Addr × Value)) (o : Obj) (es : Array DictEntry) (ep : Nat), Paired (fun (x : PKey × Addr × Int) (y : PKey × Addr × Value) => y.1 = x.1 ∧ y.2.1 = x.2.1 ∧ ∃ t, y.2.2 = .int x.2.2 t) xs ys ∧
    h.get? a = some o ∧ o.ExactDict ∧ o.data = .dict es ep ∧ es.toList = ys.map (entryOfKey (pairKind P w)) ∧ (ys.map (·.1)).Nodup
def PkO (P : Program) (w : World) (a : Addr) (xs : List (PKey × Addr × Int)) : HO := .ext fun h => PkD P w h a xs
theorem pkO_new {P : Program} {w : World} {H : Hp} {h : Heap} {a : Addr} {xs : List (PKey × Addr × Int)} (R : PkD P w h a xs) : ObjOk P w H h a (PkO P w a xs) := by
  obtain ⟨_, _, ys, o, es, ep, _, ho, _⟩ := id R
  refine ⟨R, ⟨o, ho⟩, fun h1 h2 q k => ?_⟩
  obtain ⟨q1, q2, ys, o, es, ep, q3, q4, q5⟩ := q
  exact ⟨q1, q2, ys, o, es, ep, q3, k o q4, q5⟩
def KeyT (H : Hp) (k : PKey) (b : Addr) : Prop := ∃ c, H b = some (.tup [.int k.1, .ref c]) ∧ H c = some (.tup (k.2.map V.int))
theorem KeyT.mono {H H' : Hp} {k : PKey} {b : Addr} (e : Same H H') (h : KeyT H k b) : KeyT H' k b := by
  obtain ⟨c, h1, h2⟩ := h
  exact ⟨c, e _ _ h1, e _ _ h2⟩
def lookP (xs : List (PKey × Addr × Int)) (k : PKey) : Option Int := (xs.find? fun x => decide (x.1 = k)).map (·.2.2)
theorem items_ints {P : Program} {w : World} : ∀ {k : List Int} {us : List Value}, Vals (k.map V.int) us → ItemsAre (intKind P w) k us
  | [], _, .nil => .nil
  | n :: k, _, .cons r t => by
    obtain ⟨tk, rfl⟩ := r
    exact .cons (intKind_is P w n tk) (items_ints t)
section
variable {X : Cx} {pins : List (Addr × Obj)} {σ : L2.St} {H : Hp} {s : Shared} {a : Addr} {xs : List (PKey × Addr × Int)}
theorem KeyT.is {k : PKey} {b : Addr} (h : KeyT H k b) (I : Inv X pins σ H s) : IsPair X.prog X.w s.heap k b := by
  obtain ⟨c, h1, h2⟩ := h
  obtain ⟨_, its, rv, o, ho, hc, n, hd⟩ := I.hok b _ h1
  obtain ⟨_, its2, rv2, o2, ho2, hc2, n2, hd2⟩ := I.hok c _ h2
  cases rv with
  | cons r1 rr =>
    cases rr with
    | cons r2 rr =>
      cases rr
      obtain ⟨t, rfl⟩ := r1
      cases r2
      exact ⟨o, n, t, c, ho, hc, by simpa using hd, o2, _, n2, ho2, hc2, hd2, by simpa using items_ints rv2⟩
theorem pk_dict (I : Inv X pins σ H s) (ha : H a = some (PkO X.prog X.w a xs)) (hk : ∀ x ∈ xs, KeyT H x.1 x.2.1) :
    (a == sysModules) = false ∧ xs.length ≤ sizeLine ∧ ∃ ys : List (PKey × Addr × Value), Paired (fun (x : PKey × Addr × Int) (y : PKey × Addr × Value) => y.1 = x.1 ∧ y.2.1 = x.2.1 ∧ ∃ t, y.2.2 = .int x.2.2 t) xs ys ∧ s.heap.DictOfH (pairKind X.prog X.w) a ys := by
  obtain ⟨q1, q2, ys, o, es, ep, q3, ho, hex, hd, he, nd⟩ := (I.hok a _ ha).1
  refine ⟨q1, q2, ys, q3, o, es, ep, ho, hex, hd, he, ?_, nd⟩
  have key : ∀ {xs : List (PKey × Addr × Int)} {ys : List (PKey × Addr × Value)}, Paired (fun (x : PKey × Addr × Int) (y : PKey × Addr × Value) => y.1 = x.1 ∧ y.2.1 = x.2.1 ∧ ∃ t, y.2.2 = .int x.2.2 t) xs ys → (∀ x ∈ xs, KeyT H x.1 x.2.1) → ∀ y ∈ ys, IsPair X.prog X.w s.heap y.1 y.2.1 := by
    intro xs ys p
    induction p with
    | nil => intro _ y hy; cases hy
    | cons r _ ih =>
      intro hk y hy
      rcases List.mem_cons.mp hy with z | z
      · subst z
        rw [r.1, r.2.1]
        exact (hk _ List.mem_cons_self).is I
      · exact ih (fun x hx => hk x (List.mem_cons_of_mem _ hx)) y z
  exact key q3 hk
theorem look_at {k : PKey} : ∀ {xs : List (PKey × Addr × Int)} {ys : List (PKey × Addr × Value)}, Paired (fun (x : PKey × Addr × Int) (y : PKey × Addr × Value) => y.1 = x.1 ∧ y.2.1 = x.2.1 ∧ ∃ t, y.2.2 = .int x.2.2 t) xs ys →
    (∀ p, atKey ys k = some p → ∃ i t, lookP xs k = some i ∧ p.2 = .int i t) ∧ (atKey ys k = none → lookP xs k = none)
  | _, _, .nil => ⟨fun p h => by simp [atKey] at h, fun _ => rfl⟩
  | x :: xs, y :: ys, .cons r t => by
    obtain ⟨ih1, ih2⟩ := look_at (k := k) t
    obtain ⟨e1, e2, tk, e3⟩ := r
    by_cases c : x.1 = k
    · have a1 : atKey (y :: ys) k = some y.2 := by simp [atKey, e1, c]
      have a2 : lookP (x :: xs) k = some x.2.2 := by simp [lookP, c]
      rw [a1, a2]
      exact ⟨fun p h => ⟨_, tk, rfl, by rw [← Option.some.inj h]; exact e3⟩, fun h => nomatch h⟩
    · have a1 : atKey (y :: ys) k = atKey ys k := by simp [atKey, e1, c]
      have a2 : lookP (x :: xs) k = lookP xs k := by simp [lookP, c]
      rw [a1, a2]
      exact ⟨ih1, ih2⟩
theorem paired_snoc {α β : Type} {R : α → β → Prop} {x : α} {y : β} : ∀ {xs : List α} {ys : List β}, Paired R xs ys → R x y → Paired R (xs ++ [x]) (ys ++ [y])
  | _, _, .nil, r => .cons r .nil
  | _, _, .cons q t, r => .cons q (paired_snoc t r)
end
section
variable {X : Cx} {o e f : Expr} {td ty tx : TE} {apos cpos : Pos}
def tDNewP (P : Program) (w : World) : TE := fun _ H Q => ∀ p, H p = none → Q (.ref p) (upd H p (PkO P w p []))
theorem pe_dnewP {pos : Pos} : PE X (.Dict [] [] pos) (tDNewP X.prog X.w) := ⟨fun pins s σ H Q I h =>
  wpAny_Dict_empty ⟨.ref s.heap.objs.size, _, I.laid (a := s.heap.objs.size) (o := PkO X.prog X.w s.heap.objs.size []) (t' := s.toks) (fun _ _ q => Heap.get?_push_of_some _ q) (Nat.le_refl _)
    (pkO_new ⟨beq_eq_false_iff_ne.mpr (Ne.symm (Nat.ne_of_lt I.big)), Nat.zero_le _, [], _, #[], 0, .nil, Heap.get?_push_size _ rfl, ⟨rfl, rfl, rfl⟩, rfl, rfl, List.nodup_nil⟩), rfl, h _ (I.hok.fresh (Nat.le_refl _))⟩⟩
def tPSetd (P : Program) (w : World) (td ty tx : TE) : TE := fun σ H Q => td σ H fun x H1 => ∃ a xs0, x = .ref a ∧ H1 a = some (PkO P w a xs0) ∧ ty σ H1 fun y H2 => tx σ H2 fun z H3 => ∃ (xs : List (PKey × Addr × Int)) (k : PKey) (b : Addr) (n : Int), H3 a = some (PkO P w a xs) ∧ y = .ref b ∧ KeyT H3 k b ∧ z = .int n ∧ xs.length < sizeLine ∧
  (∀ x ∈ xs, KeyT H3 x.1 x.2.1) ∧ (∀ v, lookP xs k = some v → Q (.int v) H3) ∧ (lookP xs k = none → Q (.int n) (upd H3 a (PkO P w a (xs ++ [(k, b, n)]))))
theorem pe_psetd (hu : X.A.units + 2 < cLine) (ho : PE X o td) (he : PE X e ty) (hf : PE X f tx) (m : M2 X o "setdefault" apos e f cpos) : PE X (.Call (.Attribute o "setdefault" apos) [e, f] [] cpos) (tPSetd X.prog X.w td ty tx) := by
  refine ⟨fun pins s σ H Q I h => ?_⟩
  refine wpAny_Call_method m.base m.few m.line PySem.F.plainAttrs_dict PySem.F.slot_dict_setdefault PySem.F.type_dict_setdefault (thn (ho.run pins s σ H _ I h) fun u s1 ⟨x, H1, I1, rx, a, xs0, ex, ha, q1⟩ => ?_)
  subst ex
  obtain rfl : u = Value.ref a := rx
  obtain ⟨_, _, _, od, _, _, _, hod, hex, _⟩ := (I1.hok a _ ha).1
  refine ⟨⟨od, hod, hex.1⟩, fun b q => ?_, ?_⟩
  · cases q
    exact ⟨od, hod, hex.2.1⟩
  rw [m.trees]
  refine Calls.callWith_builtin rfl (Calls.evalArgs_plain (Calls.spliced_cons (thn (he.run pins s1 σ H1 _ I1 q1) fun iv s2 ⟨y, H2, I2, ry, q2⟩ =>
    Calls.spliced_cons (thn (hf.run pins s2 σ H2 _ I2 q2) fun fv s3 ⟨z, H3, I3, rz, xs, k, b, n, ea, ey, hk, ez, hl, hks, q3, q4⟩ => Calls.spliced_nil ?_))))
  subst ey ez
  obtain rfl : iv = Value.ref b := ry
  obtain ⟨tk, rfl⟩ := rz
  obtain ⟨r1, r2, ys, rel, dd⟩ := pk_dict I3 ea hks
  have hlen : xs.length = ys.length := Paired.length rel
  refine call_setdefault_heap (knd := pairKind X.prog X.w) (k := k) hu (hk.is I3) r1 dd (fun p hp => ?_) (fun hn h' dd' sb => ?_) (by rw [← hlen]; exact r2)
  · obtain ⟨i, t, e1, e2⟩ := (look_at rel).1 p hp
    exact ⟨.int i, H3, I3.tok _, ⟨t, e2⟩, q3 i e1⟩
  · have e1 := (look_at rel).2 hn
    obtain ⟨o', es, ep, w1, w2, w3, w4, w5, w6⟩ := dd'
    rw [storedH_new hn] at w4 w6
    exact ⟨.int n, _, d_write (t' := s3.toks + (pairKind X.prog X.w).draws k) I3 (by rw [ea]; exact True.intro) sb ⟨o', w1⟩ (pkO_new ⟨r1, by simp only [List.length_append, List.length_cons, List.length_nil]; omega, _, o', es, ep, paired_snoc rel ⟨rfl, rfl, tk, rfl⟩, w1, w2, w3, w4, w6⟩), ⟨tk, rfl⟩, q4 e1⟩
theorem call_lenP : CallR X (.builtin "len") (fun vs H Q => ∃ a xs, vs = [.ref a] ∧ H a = some (PkO X.prog X.w a xs) ∧ (∀ x ∈ xs, KeyT H x.1 x.2.1) ∧ Q (.int (xs.length : Nat)) H) := by
  intro pins s σ H vs us Q I r h
  obtain ⟨a, xs, rfl, ha, hk, q⟩ := h
  obtain ⟨u, rfl, rx⟩ := vals1 r
  obtain rfl : u = .ref a := rx
  obtain ⟨r1, r2, ys, rel, dd⟩ := pk_dict I ha hk
  have hl : xs.length = ys.length := Paired.length rel
  refine call_len_dictH r1 dd (by rw [← hl]; rw [sizeLine_eq] at r2; omega) ?_
  rw [← hl]
  exact ⟨.int ((xs.length : Nat) : Int), H, I.tok _, ⟨_, rfl⟩, q⟩
end
end SR
set_option maxRecDepth 100000
set_option maxHeartbeats 4000000
namespace SS
open PySem L2
theorem scDraw : FnScope ["_law_rng_here", "_law_many", "_law_digit"] ["_law_rng_here", "_law_many"] (defScope sDraw) := ⟨rfl, rfl, rfl, by decide +kernel, rfl, by decide +kernel, by decide +kernel⟩
/-- the built-ins that the top leaves alone -/
structure Bl (mg : Str → Option Value) : Prop where
  len : mg "len" = none
  range : mg "range" = none
  int : mg "int" = none
  list : mg "list" = none
  dict : mg "dict" = none
  tuple : mg "tuple" = none
  set : mg "set" = none
  sorted : mg "sorted" = none
  all : mg "all" = none
  any : mg "any" = none
  max : mg "max" = none
  min : mg "min" = none
  abs : mg "abs" = none
  divmod : mg "divmod" = none
  repr : mg "repr" = none
  isinstance : mg "isinstance" = none
  enumerate : mg "enumerate" = none
  str : mg "str" = none
  bool : mg "bool" = none
/-- the numbers of a drawing list -/
def RngOk (a b : Int) : Prop := 0 ≤ a ∧ 0 ≤ b ∧ b < 4294967296
def spDraw1 : Sp := fun vs H Q _ => ∃ (r : Addr) (m a b : Int), vs = [.ref r, .int m] ∧ 0 < m ∧ m < 2000 ∧ H r = some (.lst [.int a, .int b]) ∧ RngOk a b ∧
  ∀ (d a' b' : Int) (H' : Hp), 0 ≤ d → d < m → RngOk a' b' → (∀ x o, x ≠ r → H x = some o → H' x = some o) → H' r = some (.lst [.int a', .int b']) → Q (.int d) H'
section
variable {P : Program} {w : World} {K : PySem.W.Frag} {mg : Str → Option Value} {base : Heap}
theorem ok_draw1 {f : Addr} {fd : FuncData} (F : Fun K "_law_draw" "_law_draw" sDraw f fd) (B : Bl mg) : FnOk P w K mg base CX0 1 f fd ["_law_rng_here", "_law_many"] spDraw1 := by
  refine F.ok scDraw (fun vs H Q E h => ?_) (fun cdv A outer s H vs Q E hr h => ?_)
  · obtain ⟨r, m, a, b, rfl, _⟩ := h
    rfl
  · obtain ⟨r, m, a, b, rfl, m0, m1, hR, ⟨a0, b0, b1⟩, k⟩ := h
    refine ⟨_, pss_cons (ps_if (pt_cmpR op_gt (pe_ix ix_list (pv 0) pe_int (fun _ _ => rfl)) pe_int (nomark _))
        (pss_cons (ps_asg (pe_callB call_divmod (by rfl) B.divmod (by decide +kernel) (pa_cons (pe_ix ix_list (pv 0) pe_int (fun _ _ => rfl)) (pa_cons (pv 1) pa_nil)))
            (pg_tup rfl (pgs_cons (pg_sub (pv 0) pe_int set_list) (pgs_cons (pg_name (i := 2) scDraw.nd rfl (.inl rfl)) pgs_nil))))
          (pss_one (ps_ret (pv 2)))) pss_nil)
      (pss_cons (ps_asg (pe_op op_mod (pe_callTy call_int1 (by rfl) B.int (by decide +kernel) (pa_cons (pe_op op_add (pe_op op_mul (pe_ix ix_list (pv 0) pe_int (fun _ _ => rfl)) pe_int) pe_int) pa_nil)) pe_int)
          (pg_sub (pv 0) pe_int set_list))
      (pss_one (ps_ret (pe_op op_mod (pe_op op_fdiv (pe_op op_mod (pe_callTy call_int1 (by rfl) B.int (by decide +kernel) (pa_cons (pe_op op_mul (pe_ix ix_list (pv 0) pe_int (fun _ _ => rfl)) (pe_ix ix_list (pv 0) pe_int (fun _ _ => rfl))) pa_nil)) pe_int) pe_int) (pv 1))))), ?_⟩
    refine ⟨_, rfl, r, _, _, _, rfl, rfl, SqL.of hR, rfl, _, _, rfl, rfl, _, rfl, ?_⟩
    refine ite2 (fun ha => ?_) (fun ha => ?_)
    · refine ⟨_, rfl, r, _, _, _, rfl, rfl, SqL.of hR, rfl, _, rfl, _, _, rfl, ⟨by omega, by omega⟩, fun p hp => ?_⟩
      have nrp : r ≠ p := ne_of_none hR hp
      refine ⟨p, _, rfl, SqT.of upd_same, rfl, _, _, rfl, _, rfl, r, _, _, 0, rfl, rfl, (by rw [upd_ne nrp]; exact hR), rfl, _, _, rfl, rfl, _, rfl, ?_⟩
      refine k (a % m) (a / m) b _ (Int.emod_nonneg _ (by omega)) (Int.emod_lt_of_pos _ m0) ⟨Int.ediv_nonneg a0 (by omega), b0, b1⟩ (fun x o hx e => ?_) upd_same
      rw [upd_ne hx, upd_ne (ne_of_none e hp)]
      exact e
    · refine ⟨_, rfl, r, _, _, _, rfl, rfl, SqL.of hR, rfl, _, _, rfl, rfl, .inl ⟨by omega, by omega⟩, _, _, rfl, rfl, .inl ⟨_, rfl, _, _, rfl, rfl, (by show (0 : Int) < 2147483563; decide), ?_⟩⟩
      refine ⟨_, rfl, r, _, _, 1, rfl, rfl, hR, rfl, ?_⟩
      have b2 : 0 ≤ (b * 39373 + 30011) % 2147483563 := Int.emod_nonneg _ (by decide)
      have b3 : (b * 39373 + 30011) % 2147483563 < 2147483563 := Int.emod_lt_of_pos _ (by decide)
      refine ⟨_, rfl, r, _, _, _, rfl, rfl, SqL.of upd_same, rfl, _, rfl, r, _, _, _, rfl, rfl, SqL.of upd_same, rfl, _, _, rfl, rfl, .inl ⟨by omega, by omega⟩, .inl ⟨_, rfl, _, _, rfl, rfl, (by show (0 : Int) < 2147483497; decide), _, _, rfl, rfl, ⟨by decide, by decide⟩, _, rfl, _, _, rfl, rfl, m0, ?_⟩⟩
      refine k _ a ((b * 39373 + 30011) % 2147483563) _ (Int.emod_nonneg _ (by omega)) (Int.emod_lt_of_pos _ m0) ⟨a0, b2, by omega⟩ (fun x o hx e => ?_) upd_same
      rw [upd_ne hx]
      exact e
def rngO (r : Addr) : HO := .ext fun h => ∃ (its : List Value) (n : Nat) (a b : Int), RngOk a b ∧ Vals [.int a, .int b] its ∧ h.get? r = some { cls := .type "list", data := .seq its.toArray n }
theorem rngO_ok {H : Hp} {h : Heap} {r : Addr} {a b : Int} (z : RngOk a b) (o : ObjOk P w H h r (.lst [.int a, .int b])) (H' : Hp) : ObjOk P w H' h r (rngO r) := by
  obtain ⟨_, its, n, v, e⟩ := o
  refine ⟨⟨its, n, a, b, z, v, e⟩, ⟨_, e⟩, fun h1 h2 q k => ?_⟩
  obtain ⟨its, n, a, b, z, v, e⟩ := q
  exact ⟨its, n, a, b, z, v, k _ e⟩
theorem rngO_open {H : Hp} {h : Heap} {r : Addr} (o : ObjOk P w H h r (rngO r)) (H' : Hp) : ∃ a b, RngOk a b ∧ ObjOk P w H' h r (.lst [.int a, .int b]) := by
  obtain ⟨⟨its, n, a, b, z, v, e⟩, _, _⟩ := o
  exact ⟨a, b, z, by show 2 ≤ sizeLine; decide, its, n, v, e⟩
theorem hok_swap {H : Hp} {h : Heap} {r : Addr} {u o : HO} (k : HOk P w H h) (hr : H r = some u) (nt : ∀ xs, u ≠ .tup xs) (nw : ∀ x, u ≠ .own x) (new : ObjOk P w (upd H r o) h r o) : HOk P w (upd H r o) h := fun b v e => by
  by_cases hb : b = r
  · subst hb; rw [upd_same] at e; cases e; exact new
  · rw [upd_ne hb] at e
    refine (k b v e).stay (fun _ _ _ q => q) (fun c q => ?_) fun c xs q => ?_
    · rw [upd_ne (fun z => by subst z; rw [hr] at q; exact nw _ (Option.some.inj q))]; exact q
    · rw [upd_ne (fun z => by subst z; rw [hr] at q; exact nt _ (Option.some.inj q))]; exact q
def spDraw : Sp := fun vs H Q _ => ∃ (r : Addr) (m : Int), vs = [.ref r, .int m] ∧ 0 < m ∧ m < 2000 ∧ H r = some (rngO r) ∧ ∀ (d : Int) (H' : Hp), 0 ≤ d → d < m → Same H H' → Q (.int d) H'
theorem ok_draw {f : Addr} {fd : FuncData} {k : Nat} {ps : List Str} (F : FnOk P w K mg base CX0 k f fd ps spDraw1) (hps : ps.length = 2) : FnOk P w K mg base CX0 k f fd ps spDraw := by
  refine ⟨fun vs H Q E h => ?_, fun A outer s H args us vs Q E hr e0 hb hv hs => ?_⟩
  · obtain ⟨r, m, rfl, _⟩ := h
    exact hps.symm
  · obtain ⟨r, m, rfl, m0, m1, hR, k⟩ := hs
    obtain ⟨a, b, z, ob⟩ := rngO_open (e0.hok r _ hR) (upd H r (.lst []))
    have ob' : ∀ H', ObjOk P w H' s.heap r (.lst [.int a, .int b]) := fun _ => ob
    have hN : ∀ {c : Addr}, H c = none → upd H r (.lst [.int a, .int b]) c = none := fun {c} q => by rw [upd_ne (fun z => by subst z; rw [hR] at q; cases q)]; exact q
    have e1 : Env0 P w K mg base A outer s (upd H r (.lst [.int a, .int b])) := ⟨e0.frames, e0.mod, fun c o q => ⟨(e0.bs c o q).1, hN (e0.bs c o q).2⟩, e0.bsz, e0.funs, fun c q => hN (e0.frf c q), hok_swap e0.hok hR (fun _ => nofun) (fun _ => nofun) (ob' _), e0.bare⟩
    refine codeAny_mono (F.run A outer s _ args us _ (fun v H' => ∃ d a' b', v = .int d ∧ 0 ≤ d ∧ d < m ∧ RngOk a' b' ∧ (∀ x o, x ≠ r → H x = some o → H' x = some o) ∧ H' r = some (.lst [.int a', .int b'])) E hr e1 hb hv
      ⟨r, m, a, b, rfl, m0, m1, upd_same, z, fun d a' b' H' h0 h1 hz hk hr' => ⟨d, a', b', rfl, h0, h1, hz, fun x o hx q => hk x o hx (by rw [upd_ne hx]; exact q), hr'⟩⟩) fun res s' hres => ?_
    unfold CR at hres ⊢
    split at hres
    · obtain ⟨v, H', os, bare, un, hok, rv, d, a', b', rfl, h0, h1, hz, hk, hr'⟩ := hres
      refine ⟨.int d, upd H' r (rngO r), os, bare, ?_, hok_swap hok hr' (fun _ => nofun) (fun _ => nofun) (rngO_ok hz (hok r _ hr') _), rv, k d _ h0 h1 fun c o q => ?_⟩
      · refine ⟨fun c o q n => un.keep c o q (hN n), fun c o q n => un.slot c o q (hN n), fun c o q n hx => ?_, un.there, fun c xs q => ?_, fun c o u q => ?_, fun c ps q => ?_⟩
        · have n' := un.free c o q (hN n) hx
          rw [upd_ne (fun z => by subst z; rw [hR] at n; cases n)]
          exact n'
        · have nc : c ≠ r := fun z => by subst z; rw [hR] at q; cases q
          rw [upd_ne nc]; exact un.tups c xs (by rw [upd_ne nc]; exact q)
        · have nc : c ≠ r := fun z => by subst z; rw [hR] at q; cases q
          rw [upd_ne nc]; exact un.frzs c o u (by rw [upd_ne nc]; exact q)
        · have nc : c ≠ r := fun z => by subst z; rw [hR] at q; cases q
          obtain ⟨more, e⟩ := un.tbls c ps (by rw [upd_ne nc]; exact q)
          exact ⟨more, by rw [upd_ne nc]; exact e⟩
      · by_cases hc : c = r
        · subst hc; rw [hR] at q; cases q; exact upd_same
        · rw [upd_ne hc]; exact hk c o hc q
    · exact hres
    · exact hres
end
end SS
set_option maxRecDepth 100000
set_option maxHeartbeats 4000000
namespace SS
open PySem L2
theorem scRng : FnScope ["_law_script", "_law_k", "_law_cell"] ["_law_script", "_law_k"] (defScope sRng) := ⟨rfl, rfl, rfl, by decide +kernel, rfl, by decide +kernel, by decide +kernel⟩
def spRng1 (K : PySem.W.Frag) : Sp := fun vs H Q _ => ∃ (a : Addr) (k : Int) (ns : List Int), vs = [.ref a, .int k] ∧ SqL K H a (ns.map V.int) ∧ 0 ≤ k ∧ k < 1000 ∧
  ∀ (x y : Int) (p : Addr), RngOk x y → H p = none → Q (.ref p) (upd H p (.lst [.int x, .int y]))
section
variable {P : Program} {w : World} {K : PySem.W.Frag} {mg : Str → Option Value} {base : Heap}
theorem rng_nums (k i : Int) : RngOk (if (if i < 0 then -i else i) - 10 ^ (18 : Int).toNat > 0 then (if i < 0 then -i else i) - 10 ^ (18 : Int).toNat else 0) (((if i < 0 then -i else i) % 2147483549 + 1) * (2 * k + 3) ^ (3 : Int).toNat % 2147483543 + 1) := by
  refine ⟨?_, ?_, ?_⟩
  · split <;> omega
  · have := Int.emod_nonneg (((if i < 0 then -i else i) % 2147483549 + 1) * (2 * k + 3) ^ (3 : Int).toNat) (show (2147483543 : Int) ≠ 0 by decide)
    omega
  · have := Int.emod_lt_of_pos (((if i < 0 then -i else i) % 2147483549 + 1) * (2 * k + 3) ^ (3 : Int).toNat) (show (0 : Int) < 2147483543 by decide)
    omega
theorem ok_rng1 {f : Addr} {fd : FuncData} (F : Fun K "_law_rng" "_law_rng" sRng f fd) (B : Bl mg) : FnOk P w K mg base CX0 1 f fd ["_law_script", "_law_k"] (spRng1 K) := by
  refine F.ok scRng (fun vs H Q E h => ?_) (fun cdv A outer s H vs Q E hr h => ?_)
  · obtain ⟨a, k, ns, rfl, _⟩ := h
    rfl
  · obtain ⟨a, k, ns, rfl, hS, k0, k1, hQ⟩ := h
    refine ⟨_, pss_cons (ps_set (i := 2) scRng.nd rfl (.inl rfl) (pe_op op_add (pe_op op_mul pe_int (pv 1)) pe_int))
      (pss_cons (ps_if (pt_cmpR op_lt (pv 1) (pe_callB call_len_seq (by rfl) B.len boot_len (pa_cons (pv 0) pa_nil)) (nomark _))
        (pss_one (ps_set (i := 2) scRng.nd rfl (.inl rfl) (pe_ix ix_list (pv 0) (pv 1) (fun _ _ => rfl)))) pss_nil)
      (pss_one (ps_ret (pe_lst (pa_cons (pe_callB (call_max2 rfl) (by rfl) B.max (by decide +kernel) (pa_cons pe_int (pa_cons (pe_op op_sub (pe_callB call_abs (by rfl) B.abs (by decide +kernel) (pa_cons (pv 2) pa_nil)) (pe_op op_pow pe_int pe_int)) pa_nil)))
        (pa_cons (pe_op op_add (pe_op op_mod (pe_op op_mul (pe_callTy call_int1 (by rfl) B.int (by decide +kernel) (pa_cons (pe_op op_add (pe_op op_mod (pe_callTy call_int1 (by rfl) B.int (by decide +kernel) (pa_cons (pe_callB call_abs (by rfl) B.abs (by decide +kernel) (pa_cons (pv 2) pa_nil)) pa_nil)) pe_int) pe_int) pa_nil)) (pe_op op_pow (pe_op op_add (pe_op op_mul pe_int (pv 1)) pe_int) pe_int)) pe_int) pe_int) pa_nil)))))), ?_⟩
    have fin : ∀ (i : Int) (D : Ends) (σ : St), D.rt = Q → σ[1]? = some (some (V.int k)) → σ[2]? = some (some (V.int i)) → (tRet (tLst (tCons (tCB (fun xs H Q => ∃ i j, xs = [V.int i, V.int j] ∧ Q (V.int (if j > i then j else i)) H) (tCons (tC (V.int 0)) (tCons (tOp (rI0 fun i j => .int (i - j)) (tCB (fun xs H Q => ∃ i, xs = [V.int i] ∧ Q (V.int (if i < 0 then -i else i)) H) (tCons (tVar 2) tNil)) (tOp (rI CPow fun i j => .int (i ^ j.toNat)) (tC (V.int 10)) (tC (V.int 18)))) tNil))) (tCons (tOp (rI0 fun i j => .int (i + j)) (tOp (rI (fun _ j => 0 < j) fun i j => .int (i % j)) (tOp (rI CMul fun i j => .int (i * j)) (tCB (fun xs H Q => (∃ i, xs = [V.int i] ∧ Q (V.int i) H) ∨ ∃ k, xs = [V.bl k] ∧ Q (V.int (if k = true then 1 else 0)) H) (tCons (tOp (rI0 fun i j => .int (i + j)) (tOp (rI (fun _ j => 0 < j) fun i j => .int (i % j)) (tCB (fun xs H Q => (∃ i, xs = [V.int i] ∧ Q (V.int i) H) ∨ ∃ k, xs = [V.bl k] ∧ Q (V.int (if k = true then 1 else 0)) H) (tCons (tCB (fun xs H Q => ∃ i, xs = [V.int i] ∧ Q (V.int (if i < 0 then -i else i)) H) (tCons (tVar 2) tNil)) tNil)) (tC (V.int 2147483549))) (tC (V.int 1))) tNil)) (tOp (rI CPow fun i j => .int (i ^ j.toNat)) (tOp (rI0 fun i j => .int (i + j)) (tOp (rI CMul fun i j => .int (i * j)) (tC (V.int 2)) (tVar 1)) (tC (V.int 3))) (tC (V.int 3)))) (tC (V.int 2147483543))) (tC (V.int 1))) tNil)))) D σ H := by
      intro i D σ hD e1 e2
      have p0 : 0 ≤ (if i < 0 then -i else i) % 2147483549 := Int.emod_nonneg _ (by decide)
      have p1 : (if i < 0 then -i else i) % 2147483549 < 2147483549 := Int.emod_lt_of_pos _ (by decide)
      refine ⟨_, e2, _, rfl, _, _, rfl, rfl, ⟨by decide, by decide, by decide⟩, _, _, rfl, rfl, _, _, rfl, ?_⟩
      refine ⟨_, e2, _, rfl, .inl ⟨_, rfl, _, _, rfl, rfl, (by show (0 : Int) < 2147483549; decide), _, _, rfl, rfl, .inl ⟨_, rfl, ?_⟩⟩⟩
      refine ⟨_, e1, _, _, rfl, rfl, .inl ⟨by decide, by decide⟩, _, _, rfl, rfl, _, _, rfl, rfl, ⟨by decide, by decide, by omega⟩, _, _, rfl, rfl, .inl ⟨by omega, by omega⟩, _, _, rfl, rfl, (by show (0 : Int) < 2147483543; decide), _, _, rfl, rfl, ?_⟩
      refine ⟨(by show 2 ≤ sizeLine; decide), fun p hp => ?_⟩
      rw [hD]
      exact hQ _ _ p (rng_nums k i) hp
    refine ⟨_, rfl, _, _, rfl, rfl, .inl ⟨by decide, by decide⟩, _, _, rfl, rfl, ?_⟩
    refine ⟨_, rfl, _, rfl, a, _, rfl, .inl hS, _, _, rfl, rfl, _, rfl, ?_⟩
    refine ite2 (fun hk => ?_) (fun hk => ?_)
    · have hk' : k < ((ns.map V.int).length : Int) := of_decide_eq_true hk
      have hlt : k.toNat < ns.length := by rw [List.length_map] at hk'; omega
      have e : atI (ns.map V.int) k = some (V.int ns[k.toNat]) := by
        have := atI_nat (xs := ns.map V.int) (j := k.toNat) (v := V.int ns[k.toNat]) (by simp [hlt])
        rw [Int.toNat_of_nonneg k0] at this
        exact this
      refine ⟨_, rfl, _, rfl, a, _, _, _, rfl, rfl, hS, e, ?_⟩
      exact fin _ _ _ rfl rfl rfl
    · exact fin _ _ _ rfl rfl rfl
end
end SS
set_option maxRecDepth 100000
set_option maxHeartbeats 4000000
namespace SS
open PySem L2 SR
/-- a def of the top that may be called: where it stands, what it promises -/
structure Cal (P : Program) (w : World) (K : PySem.W.Frag) (mg : Str → Option Value) (base : Heap) (x : Str) (k : Nat) (ps : List Str) (sp : Sp) : Prop where
  ex : ∃ f fd, FnOk P w K mg base CX0 k f fd ps sp ∧ mg x = some (.ref f) ∧ PySem.W.keepIn K (.ref f) = true ∧ Binds K fd ps []
theorem pe_cal {X : Cx} {x : Str} {k : Nat} {ps : List Str} {sp : Sp} {e : Expr} {es : List Expr} {t : TA} {p pos : Pos} (C : Cal X.prog X.w X.K X.mg X.base x k ps sp) (hr : Room k X.A) (ha : PA X (e :: es) t) (hg : Gl X x := by rfl) (hdb : (x == ("__debug__" : Str)) = false := by decide)
    (he : starEach (e :: es) X.env = (false, eval e X.env) :: starEach es X.env := by rfl) (hpl : (backTo pos (starEach es X.env)).any (·.1) = false := by rfl) : PE X (.Call (.Name x p) (e :: es) [] pos) (tCall sp [] E0 t) := by
  obtain ⟨f, fd, F, m, kp, b⟩ := C.ex
  exact pe_call F hr hg m kp b .nil pass0 ha hdb he hpl
theorem same_new {H : Hp} {p : Addr} {o : HO} (h : H p = none) : Same H (upd H p o) := fun a u e => by
  rw [upd_ne (ne_of_none e h)]
  exact e
theorem same_upd {H H' : Hp} {p : Addr} {o : HO} (e : Same H H') (h : H p = none) : Same H (upd H' p o) := fun a u ha => by
  rw [upd_ne (ne_of_none ha h)]
  exact e a u ha
section
variable {P : Program} {w : World} {K : PySem.W.Frag} {mg : Str → Option Value} {base : Heap}
def spRng (K : PySem.W.Frag) : Sp := fun vs H Q _ => ∃ (a : Addr) (k : Int) (ns : List Int), vs = [.ref a, .int k] ∧ SqL K H a (ns.map V.int) ∧ 0 ≤ k ∧ k < 1000 ∧
  ∀ (p : Addr) (H' : Hp), H p = none → Same H H' → H' p = some (rngO p) → Q (.ref p) H'
theorem ok_rng {f : Addr} {fd : FuncData} {k : Nat} {ps : List Str} (F : FnOk P w K mg base CX0 k f fd ps (spRng1 K)) (hps : ps.length = 2) : FnOk P w K mg base CX0 k f fd ps (spRng K) := by
  refine ⟨fun vs H Q E h => ?_, fun A outer s H args us vs Q E hr e0 hb hv hs => ?_⟩
  · obtain ⟨a, k, ns, rfl, _⟩ := h
    exact hps.symm
  · obtain ⟨a, k, ns, rfl, hS, k0, k1, hQ⟩ := hs
    refine codeAny_mono (F.run A outer s _ args us _ (fun v H' => ∃ x y p, v = .ref p ∧ RngOk x y ∧ H p = none ∧ H' = upd H p (.lst [.int x, .int y])) E hr e0 hb hv
      ⟨a, k, ns, rfl, hS, k0, k1, fun x y p z hp => ⟨x, y, p, rfl, z, hp, rfl⟩⟩) fun res s' hres => ?_
    unfold CR at hres ⊢
    split at hres
    · obtain ⟨v, H', os, bare, un, hok, rv, x, y, p, rfl, z, hp, rfl⟩ := hres
      have hpl : upd H p (.lst [.int x, .int y]) p = some (.lst [.int x, .int y]) := upd_same
      have eq : upd (upd H p (.lst [.int x, .int y])) p (rngO p) = upd H p (rngO p) := upd_upd
      refine ⟨.ref p, upd H p (rngO p), os, bare, ?_, ?_, rv, hQ p _ hp (same_new hp) upd_same⟩
      · refine ⟨un.keep, un.slot, fun c o q n hx => ?_, un.there, fun c xs q => ?_, fun c o u q => ?_, fun c ps q => ?_⟩
        · have n' := un.free c o q n hx
          have nc : c ≠ p := fun e => by rw [e, hpl] at n'; cases n'
          rw [upd_ne nc]; exact n
        · rw [upd_ne (ne_of_none q hp)]; exact q
        · rw [upd_ne (ne_of_none q hp)]; exact q
        · exact ⟨#[], by rw [upd_ne (ne_of_none q hp), q]; simp⟩
      · rw [← eq]
        exact hok_swap hok hpl (fun _ => nofun) (fun _ => nofun) (rngO_ok z (hok p _ hpl) _)
    · exact hres
    · exact hres
theorem scChoice : FnScope ["_law_rng_here", "_law_some"] ["_law_rng_here", "_law_some"] (defScope sChoice) := ⟨rfl, rfl, rfl, by decide +kernel, rfl, by decide +kernel, by decide +kernel⟩
def spChoice (K : PySem.W.Frag) : Sp := fun vs H Q _ => (∃ (r l : Addr) (xs : List V), vs = [.ref r, .ref l] ∧ H r = some (rngO r) ∧ SqL K H l xs ∧ 0 < xs.length ∧ xs.length < 2000 ∧ ∀ x H', x ∈ xs → Same H H' → Q x H') ∨
  (∃ (r : Addr) (z : Str), vs = [.ref r, .str z] ∧ H r = some (rngO r) ∧ 0 < z.cps.toList.length ∧ z.cps.toList.length < 1000 ∧ ∀ c H', c ∈ z.cps.toList → Same H H' → Q (ltV c) H')
theorem atI_in {α : Type} {xs : List α} {d : Int} (h0 : 0 ≤ d) (h1 : d < (xs.length : Int)) : ∃ x, atI xs d = some x ∧ x ∈ xs := by
  have hl : d.toNat < xs.length := by omega
  refine ⟨xs[d.toNat], ?_, List.getElem_mem hl⟩
  have := atI_nat (xs := xs) (j := d.toNat) (v := xs[d.toNat]) (by simp [hl])
  rwa [Int.toNat_of_nonneg h0] at this
theorem ok_choice {f : Addr} {fd : FuncData} (F : Fun K "_law_choice" "_law_choice" sChoice f fd) (B : Bl mg) (D : Cal P w K mg base "_law_draw" 1 ["_law_rng_here", "_law_many"] spDraw) : FnOk P w K mg base CX0 2 f fd ["_law_rng_here", "_law_some"] (spChoice K) := by
  refine F.ok scChoice (fun vs H Q E h => ?_) (fun cdv A outer s H vs Q E hr h => ?_)
  · rcases h with ⟨r, l, xs, rfl, _⟩ | ⟨r, z, rfl, _⟩ <;> rfl
  · refine ⟨_, pss_one (ps_ret (pe_ix ix_seq (pv 1) (pe_cal D hr (pa_cons (pv 0) (pa_cons (pe_callB call_len (by rfl) B.len boot_len (pa_cons (pv 1) pa_nil)) pa_nil))) (fun _ _ => rfl))), ?_⟩
    rcases h with ⟨r, l, xs, rfl, hR, hS, h0, h1, k⟩ | ⟨r, z, rfl, hR, h0, h1, k⟩
    · refine ⟨_, rfl, _, rfl, _, rfl, _, xs.length, rfl, .inl ⟨xs, hS, rfl⟩, r, _, rfl, by omega, by omega, hR, fun d H' d0 d1 e => ?_⟩
      obtain ⟨x, hx, hm⟩ := atI_in d0 d1
      exact .inl ⟨l, xs, d, x, rfl, rfl, e.seq hS, hx, k x H' hm e⟩
    · have hz : z.length ≤ sizeLine := Nat.le_trans (Nat.le_of_lt (show z.length < 1000 by simpa [Str.length] using h1)) (by decide)
      refine ⟨_, rfl, _, rfl, _, rfl, _, z.length, rfl, ⟨hz, rfl⟩, r, _, rfl, by have : z.length = z.cps.toList.length := by simp [Str.length]
                                                                                 omega, by have : z.length = z.cps.toList.length := by simp [Str.length]
                                                                                           omega, hR, fun d H' d0 d1 e => ?_⟩
      obtain ⟨c, hc, hm⟩ := atI_in (xs := z.cps.toList) d0 (by have : z.length = z.cps.toList.length := by simp [Str.length]
                                                               omega)
      exact .inr (.inr ⟨z, d, c, rfl, rfl, hz, hc, k c H' hm e⟩)
end
end SS
set_option maxRecDepth 100000
set_option maxHeartbeats 4000000
namespace SS
open PySem L2 SR
abbrev ABC : Str := "abcdefghijklmnopqrstuvwxyz"
theorem abc_codes : ABC.cps.toList = (List.range 26).map (· + 97) := by decide +kernel
end SS
set_option maxRecDepth 100000
set_option maxHeartbeats 4000000
namespace SS
open PySem L2 SR TL
def txt (cs : List Nat) : Str := ⟨cs.toArray⟩
theorem txt_codes (cs : List Nat) : (txt cs).cps.toList = cs := by simp [txt]
theorem txt_of (z : Str) : z = txt z.cps.toList := by cases z; simp [txt]
theorem txt_inj {a b : List Nat} (h : txt a = txt b) : a = b := by
  have := congrArg (fun z : Str => z.cps.toList) h
  simpa [txt] using this
theorem txt_len (cs : List Nat) : (txt cs).length = cs.length := by simp [txt, Str.length]
theorem sorted_lt : ∀ cs : List Nat, PyProof.Rows.sortedS (cs.map lt) = true → cs.Pairwise (· ≤ ·)
  | [], _ => List.Pairwise.nil
  | [c], _ => List.pairwise_singleton _ _
  | c :: d :: cs, h => by
    have h' : (!PySem.Spec.ltCps [d] [c] && PyProof.Rows.risingS (lt d) (cs.map lt)) = true := h
    rw [Bool.and_eq_true] at h'
    have h1 : c ≤ d := by
      have := h'.1
      simp [PySem.Spec.ltCps] at this
      omega
    have ih := sorted_lt (d :: cs) h'.2
    refine List.pairwise_cons.mpr ⟨fun x hx => ?_, ih⟩
    rcases List.mem_cons.mp hx with e | e
    · rw [e]; exact h1
    · exact Nat.le_trans h1 ((List.pairwise_cons.mp ih).1 x e)
theorem perm_lt {ys : List Str} {cs : List Nat} (p : ys.Perm (cs.map lt)) : ∃ ds : List Nat, ys = ds.map lt ∧ ds.Perm cs := by
  have hall : ∀ y ∈ ys, ∃ c, y = lt c := fun y hy => by
    obtain ⟨c, _, e⟩ := List.mem_map.mp (p.mem_iff.mp hy)
    exact ⟨c, e.symm⟩
  have ex : ∀ ys : List Str, (∀ y ∈ ys, ∃ c, y = lt c) → ∃ ds : List Nat, ys = ds.map lt := by
    intro ys
    induction ys with
    | nil => intro _; exact ⟨[], rfl⟩
    | cons y ys ih =>
      intro h
      obtain ⟨c, rfl⟩ := h y List.mem_cons_self
      obtain ⟨ds, rfl⟩ := ih fun u hu => h u (List.mem_cons_of_mem _ hu)
      exact ⟨c :: ds, rfl⟩
  obtain ⟨ds, rfl⟩ := ex ys hall
  refine ⟨ds, rfl, ?_⟩
  have q := p.map (fun z : Str => z.cps.toList.headD 0)
  rw [List.map_map, List.map_map] at q
  have e : ∀ u : List Nat, u.map ((fun z : Str => z.cps.toList.headD 0) ∘ lt) = u := fun u => by
    have : ((fun z : Str => z.cps.toList.headD 0) ∘ lt) = (id : Nat → Nat) := rfl
    rw [this, List.map_id]
  rw [e, e] at q
  exact q
/-- one to four ascending letters -/
structure Abc (cs : List Nat) : Prop where
  ris : cs.Pairwise (· < ·)
  abc : ∀ c ∈ cs, 97 ≤ c ∧ c < 123
  one : 1 ≤ cs.length
  four : cs.length ≤ 4
theorem ris_nodup {l : List Nat} (h : l.Pairwise (· < ·)) : l.Nodup := h.imp fun h e => by omega
end SS
set_option maxRecDepth 100000
set_option maxHeartbeats 4000000
namespace SR
open PySem PySem.Spec PyProof.Rows L2
def ItE (src : Hp → Prop) (xs : List V) : It :=
  ⟨fun i H => src H ∧ i < xs.length, fun i H v H' => ∃ T x, v = .ref T ∧ H T = none ∧ H' = upd H T (.tup [.int (i : Nat), x]) ∧ xs[i]? = some x, fun i H => src H ∧ i = xs.length⟩
theorem walk_enumE {src : Hp → Prop} {xs : List V} : Walk (ItE src xs) xs.length src (YPair (fun i => some (.int (i : Nat))) (fun i => xs[i]?)) := by
  refine ⟨fun i _ hi q => ⟨q, hi⟩, fun _ q => ⟨q, rfl⟩, fun i H v H' _ q y => ?_⟩
  obtain ⟨T, x, h1, h2, h3, h4⟩ := y
  exact ⟨T, .int (i : Nat), x, h1, h2, h3, rfl, h4⟩
structure ESrc (P : Program) (w : World) (K : PySem.W.Frag) (src : Hp → Prop) (xs : List V) (a it : Addr) (At : Nat → Heap → Prop) : Prop where
  draws : ∀ (X : Cx), X.prog = P → X.w = w → X.K = K → X.calm = true → ∀ (pins : List (Addr × Obj)) (s : Shared) (σ : L2.St) (H : Hp), Inv X pins σ H s → src H →
    ∃ (Pv : Nat → Value → Prop) (St0 : Nat → Heap → Prop), Draws P w X.A.in1 it [it, a] xs.length Pv St0 ∧ (∀ i, At i s.heap → St0 i s.heap) ∧ (∀ i h', St0 i h' → At i h') ∧ ∀ (i : Nat) (v : Value) (x : V), Pv i v → xs[i]? = some x → RelV x v
  obj : ∀ i h, At i h → ∃ o, h.get? it = some o ∧ ∀ v, o.data ≠ .cell v
  keep : ∀ i h h', At i h → (∀ o, h.get? it = some o → h'.get? it = some o) → At i h'
theorem turn_enumS {P : Program} {w : World} {K : PySem.W.Frag} {src : Hp → Prop} {xs : List V} {a it e : Addr} {At : Nat → Heap → Prop} (S : ESrc P w K src xs a it At) (hei : e ≠ it) (hea : e ≠ a) {elts : List Expr} {kk : Nat} {tpos : Pos} :
    Turn P w K (.Tuple elts kk tpos) (ItE src xs) [e, it] e (fun i h => (∃ old, IsEnum h e it ((i : Nat) : Int) old) ∧ At i h) where
  mem := by simp
  obj := fun i h st b hb => by
    obtain ⟨⟨old, he⟩, ha⟩ := st
    have e' : b = e ∨ b = it := by simpa using hb
    rcases e' with z | z
    · rw [z]; exact ⟨_, he, fun v q => nomatch q⟩
    · rw [z]; exact S.obj i h ha
  keep := fun i h h' st k => ⟨let ⟨old, he⟩ := st.1; ⟨old, k e (by simp) _ he⟩, S.keep i h h' st.2 fun o q => k it (by simp) o q⟩
  item := by
    intro X hP hw hK hc i pins s σ H E I hf st hg
    obtain ⟨Pv, St0, D, d1, d2, d3⟩ := S.draws X hP hw hK hc pins s σ H I hg.1
    subst hP hw hK
    obtain ⟨⟨old, he⟩, ha⟩ := st
    obtain ⟨x, hx⟩ : ∃ x, xs[i]? = some x := ⟨xs[i]'hg.2, List.getElem?_eq_getElem hg.2⟩
    have hel : e < s.heap.objs.size := Heap.lt_size he
    have hil : it < s.heap.objs.size := by obtain ⟨_, q, _⟩ := S.obj i _ ha; exact Heap.lt_size q
    refine wpAny_pyNext_enum_itemD D he (d1 i ha) hg.2 hei (by simp [hei, hea]) fun u h' tk hPu ho hst hT hsz hk => ?_
    have ru := d3 i u x hPu hx
    refine ⟨_, rfl, wpAny_letOwnedTupleGo_enum (s := { s with heap := h', toks := tk + 1 }) ho fun h'' he' sb => ?_⟩
    have hT2 : h''.get? s.heap.objs.size = some { cls := .type "tuple", data := .seq #[.int i tk, u] } := (sb.2 _ (Nat.ne_of_gt hel)).trans hT
    have new : ObjOk X.prog X.w (upd H s.heap.objs.size (.tup [.int (i : Nat), x])) h'' s.heap.objs.size (.tup [.int (i : Nat), x]) :=
      ⟨by show 2 ≤ sizeLine; decide, [.int i tk, u], .cons ⟨_, rfl⟩ (.cons ru .nil), ⟨_, hT2, rfl, _, rfl⟩⟩
    have I1 : Inv X pins σ (upd H s.heap.objs.size (.tup [.int (i : Nat), x])) { s with heap := h'', toks := tk + 1 } :=
      I.turnedNew (ch := [e, it]) (fun b ob hb q => (sb.2 b (fun z => hb (by simp [z]))).trans (hk b ob (fun z => hb (by simp [z])) (fun z => hb (by simp [z])) q)) hf (Nat.le_refl _) new
    refine ⟨.ref s.heap.objs.size, _, I1, rfl, ⟨_, x, rfl, I.hok.fresh (Nat.le_refl _), rfl, hx⟩, ⟨⟨u, ?_⟩, S.keep _ _ _ (d2 _ _ hst) fun o q => (sb.2 it (Ne.symm hei)).trans q⟩, fun b hb => ?_⟩
    · have e1 : ((i + 1 : Nat) : Int) = (i : Int) + 1 := by omega
      rw [e1]; exact he'
    · have hb' : b < s.heap.objs.size := by
        have e' : b = e ∨ b = it := by simpa using hb
        rcases e' with z | z
        · rw [z]; exact hel
        · rw [z]; exact hil
      rw [upd_ne (Nat.ne_of_lt hb')]
      exact (hf b hb).1
  done := by
    intro X hP hw hK hc i pins s σ H E I hf st hg
    obtain ⟨Pv, St0, D, d1, d2, d3⟩ := S.draws X hP hw hK hc pins s σ H I hg.1
    subst hP hw hK
    obtain ⟨⟨old, he⟩, ha⟩ := st
    obtain ⟨hs, rfl⟩ := hg
    obtain ⟨f0, f1, f2, f3, f4, f5⟩ := hf it (by simp)
    exact wpAny_pyNext_enum_endD D he (d1 _ ha) fun h' eb => ⟨rfl, I.turned (t' := s.toks) (fun b o hb q => eb b o hb q) f0 f1 f3 f4 f5⟩
  self := fun A i s Q E st h => let ⟨⟨_, he⟩, _⟩ := st; wpAny_pyIter_enum he h
set_option maxHeartbeats 4000000 in
theorem meets_enum1 {v : Value} {o : Obj} {H : Heap → Prop} (B : Begins v o H) :
    Meets (Builtin.«enumerate.__new__» ⟨[.type "enumerate", v], []⟩) (fun _ R s => H s.heap ∧
      R (.ok (.ret (.ref (s.heap.push o).objs.size))) { s with heap := (s.heap.push o).push { cls := .type "enumerate", data := .fields #[.none, .bool false, .ref s.heap.objs.size, rawInt 0, .none, .none] } }) :=
  .of_wp fun prog w A R s h => by
    obtain ⟨hp, g, d, tk, os⟩ := s; obtain ⟨h1, h⟩ := h
    have hsub := sub_enumerate
    have q1 : ∀ {A' : Around} {E : Value → Shared → Prop} {Q : Value → Shared → Prop}, Q (.ref hp.objs.size) ⟨hp.push o, g, d, tk, os⟩ → wpAny (model prog w) A' (pyIter v) Q E ⟨hp, g, d, tk, os⟩ :=
      fun q => B.iter prog w _ _ ⟨hp, g, d, tk, os⟩ _ h1 q
    wp_walk using q1
    refine wpAny_stack_any fun st => wpAny_pure ?_
    split
    · rename_i c _ _ _ _ _
      cases (c == Value.type "enumerate")
      · wp_walk using q1
        exact ⟨_, rfl, h⟩
      · wp_walk using q1
        exact ⟨_, rfl, h⟩
    · wp_walk using q1
      exact ⟨_, rfl, h⟩
section
variable {prog : Program} {w : World} {A : Around} {E : Value → Shared → Prop} {s : Shared}
theorem enum_begins1 {v : Value} {o : Obj} {H : Heap → Prop} {Q : Value → Shared → Prop} (B : Begins v o H) (h1 : H s.heap)
    (h : ∀ h', IsEnum h' (s.heap.objs.size + 1) s.heap.objs.size 0 .none → h'.get? s.heap.objs.size = some o → h'.objs.size = s.heap.objs.size + 2 →
      (∀ b o, s.heap.get? b = some o → h'.get? b = some o) → Q (.ref (s.heap.objs.size + 1)) { s with heap := h' }) :
    wpAny (model prog w) A (call (.type "enumerate") [v]) Q E s := by
  refine callType_new F.called_enumerate (by decide) (F.typeCall_enumerate_1 _) (F.newCall_enumerate_1 _) (fun obj => F.args_object_init_2 obj _) F.entry_enumerate_new (meets_enum1 B) ⟨h1, ?_⟩
  have hz : (s.heap.push o).objs.size = s.heap.objs.size + 1 := Heap.size_push ..
  have he : IsEnum ((s.heap.push o).push { cls := .type "enumerate", data := .fields #[.none, .bool false, .ref s.heap.objs.size, rawInt 0, .none, .none] }) (s.heap.objs.size + 1) s.heap.objs.size 0 .none := by
    have := Heap.get?_push_size (s.heap.push o) (o := { cls := .type "enumerate", data := .fields #[.none, .bool false, .ref s.heap.objs.size, rawInt 0, .none, .none] }) rfl
    rw [hz] at this; exact this
  show _ ∧ _
  rw [hz]
  exact ⟨⟨_, he, rfl⟩, h _ he (Heap.get?_push_of_some _ (Heap.get?_push_size _ B.free)) (by rw [Heap.size_push, hz]) fun b o x => Heap.get?_push_of_some _ (Heap.get?_push_of_some _ x)⟩
end
theorem src_tuple {P : Program} {w : World} {K : PySem.W.Frag} {a it : Addr} {xs : List V} (hne : a ≠ it) : ESrc P w K (fun H => SqT K H a xs) xs a it (fun i h => h.IsTupleIter it a i) where
  draws := by
    intro X hP hw hK hc pins s σ H I hs
    subst hP hw hK
    obtain ⟨its, rv, ht, hz⟩ := I.tuple hs
    have hl : its.toArray.size = xs.length := by rw [List.size_toArray, ← rv.length]
    have D := Draws.tuple (prog := X.prog) (w := X.w) (A := X.A.in1) (I.ok.hd hc) it a hne its.toArray
    rw [hl] at D
    refine ⟨_, _, D, fun i h => ⟨h, ht⟩, fun i h' h => h.1, fun i v x hv hx => ?_⟩
    obtain ⟨u, hu, ru⟩ := rv.get hx
    have e : its[i]? = some v := by simpa using hv
    rw [hu] at e
    cases e
    exact ru
  obj := fun i h st => by
    obtain ⟨o, ho, hc, hd⟩ := st
    exact ⟨o, ho, fun v q => by rw [hd] at q; cases q⟩
  keep := fun i h h' st k => st.at fun o e => k o e
def iEnumT (K : PySem.W.Frag) (ta : TA) : TI := fun σ H R => ta σ H fun vs H1 => ∃ a xs, vs = [.ref a] ∧ SqT K H1 a xs ∧ R (ItE (fun H => SqT K H a xs) xs) H1
theorem pi_enumT {X : Cx} {e : Expr} {ta : TA} {p pos tpos : Pos} {elts : List Expr} {kk : Nat} (hg : Gl X "enumerate") (hm : X.mg "enumerate" = none) (ha : PA X [e] ta) (hs : starEach [e] X.env = [(false, eval e X.env)] := by rfl) :
    PI X (.Tuple elts kk tpos) (.Call (.Name "enumerate" p) [e] [] pos) (iEnumT X.K ta) := by
  refine ⟨fun pins s σ H R I h => ?_⟩
  refine Call_ (ld_blt I hg hm boot_enumerate (PyProof.Rows.callWith_type1 (thn (ha.run pos pins s σ H _ I h) fun us s1 ⟨vs, H1, I1, r1, q1⟩ => ?_) hs rfl))
  obtain ⟨a, xs, ex, hq, q⟩ := q1
  subst ex
  cases r1 with
  | cons r rr =>
    cases rr
    cases r
    obtain ⟨its, rv, ht, hz⟩ := I1.tuple hq
    have hla : a < s1.heap.objs.size := by obtain ⟨_, z, _⟩ := ht; exact Heap.lt_size z
    refine enum_begins1 (begins_tuple a its.toArray) ht fun h' he hit hsz hk => wpAny_pyIter_enum he ?_
    have I2 : Inv X pins σ H1 { s1 with heap := h' } := I1.kept (t' := s1.toks) hk
    refine ⟨s1.heap.objs.size + 1, [s1.heap.objs.size + 1, s1.heap.objs.size], _, _, H1, rfl, I2, turn_enumS (src_tuple (a := a) (it := s1.heap.objs.size) (xs := xs) (Nat.ne_of_lt hla)) (Nat.succ_ne_self _) (Nat.ne_of_gt (Nat.lt_succ_of_lt hla)), ⟨⟨.none, he⟩, _, hit, rfl, rfl⟩, fun b hb => ?_, q⟩
    have e' : b = s1.heap.objs.size + 1 ∨ b = s1.heap.objs.size := by simpa using hb
    have hle : s1.heap.objs.size ≤ b := by
      rcases e' with z | z
      · rw [z]; exact Nat.le_add_right _ _
      · rw [z]; exact Nat.le_refl _
    exact I1.fpOk hle (I1.hok.fresh hle)
end SR
set_option maxRecDepth 100000
set_option maxHeartbeats 4000000
namespace SR
open PySem PySem.Spec PyProof.Rows L2
def LoT (H : Hp) (a : Addr) (xs : List V) : Prop := H a = some (.lst xs) ∨ H a = some (.tup xs)
theorem LoT.mono {H H' : Hp} {a : Addr} {xs : List V} (e : Same H H') (h : LoT H a xs) : LoT H' a xs := h.imp (e _ _) (e _ _)
theorem LoT.seq {K : PySem.W.Frag} {H : Hp} {a : Addr} {xs : List V} (h : LoT H a xs) : SqL K H a xs ∨ SqT K H a xs := h.imp SqL.of SqT.of
theorem isi_LT {K : PySem.W.Frag} {H : Hp} {a : Addr} {xs : List V} (h : LoT H a xs) : ∃ t, TyX K H (.ref a) t ∧ PySem.W.kitAny K t [.type "list", .type "tuple"] = some true := by
  rcases h with h | h
  · exact ⟨_, .base (.lst h), kitAny_cons (kit_ty (b := "list") (r := true) (by decide +kernel)) nofun fun _ => rfl⟩
  · exact ⟨_, .base (.tup h), kitAny_cons (kit_ty (b := "list") (r := false) (by decide +kernel)) (fun _ => kitAny_cons (kit_ty (b := "tuple") (r := true) (by decide +kernel)) nofun fun _ => rfl) nofun⟩
def iLoT (tl : TE) : TI := fun σ H R => tl σ H fun x H1 => ∃ a xs, x = .ref a ∧ LoT H1 a xs ∧ ∀ (J : It) (G : Hp → Prop), Walk J xs.length G (YAt xs) → (∀ H', Same H1 H' → G H') → R J H1
theorem pi_lot {X : Cx} {tg l : Expr} {tl : TE} (hl : PE X l tl) : PI X tg l (iLoT tl) := by
  refine ⟨fun pins s σ H R I h => ?_⟩
  refine thn (hl.run pins s σ H _ I h) fun v s1 ⟨x, H1, I1, r1, q1⟩ => ?_
  obtain ⟨a, xs, e, hq, q⟩ := q1
  subst e
  cases r1
  rcases hq with hq | hq
  · have hq' : SqL X.K H1 a xs := SqL.of hq
    obtain ⟨its, rv, p, hz⟩ := I1.list hq'
    refine wpAny_pyIter_list p.isList ?_
    exact pi_one (tk := s1.toks) I1 _ (turn_list a _) ⟨_, Heap.get?_push_size _ rfl, rfl, rfl⟩ (q (Itl X.K a) _ walk_list fun H' e => e.seq hq')
  · have hq' : SqT X.K H1 a xs := SqT.of hq
    obtain ⟨its, rv, p, hz⟩ := I1.tuple hq'
    refine wpAny_pyIter_tuple (show s1.heap.IsTuple a its.toArray from p) ?_
    exact pi_one (tk := s1.toks) I1 _ (turn_tuple a _) ⟨_, Heap.get?_push_size _ rfl, rfl, rfl⟩ (q (Itt X.K a) _ walk_tup fun H' e => SqT.of (e _ _ hq))
def iEnumL (ta : TA) : TI := fun σ H R => ta σ H fun vs H1 => ∃ a xs, vs = [.ref a] ∧ LoT H1 a xs ∧ ∀ (J : It) (G : Hp → Prop), Walk J xs.length G (YPair (fun i => some (.int (i : Nat))) (fun i => xs[i]?)) → (∀ H', Same H1 H' → G H') → R J H1
theorem pi_enumL {X : Cx} {e : Expr} {ta : TA} {p pos tpos : Pos} {elts : List Expr} {kk : Nat} (hg : Gl X "enumerate") (hm : X.mg "enumerate" = none) (ha : PA X [e] ta) (hs : starEach [e] X.env = [(false, eval e X.env)] := by rfl) :
    PI X (.Tuple elts kk tpos) (.Call (.Name "enumerate" p) [e] [] pos) (iEnumL ta) := by
  refine ⟨fun pins s σ H R I h => ?_⟩
  refine Call_ (ld_blt I hg hm boot_enumerate (PyProof.Rows.callWith_type1 (thn (ha.run pos pins s σ H _ I h) fun us s1 ⟨vs, H1, I1, r1, q1⟩ => ?_) hs rfl))
  obtain ⟨a, xs, ex, hq, q⟩ := q1
  subst ex
  cases r1 with
  | cons r rr =>
    cases rr
    cases r
    rcases hq with hq | hq
    · have hq' : SqL X.K H1 a xs := SqL.of hq
      obtain ⟨its, rv, p', hz⟩ := I1.list hq'
      refine call_enumerate_list p'.isList fun h' he hit hsz hk => wpAny_pyIter_enum he ?_
      have I2 : Inv X pins σ H1 { s1 with heap := h' } := I1.kept (t' := s1.toks) hk
      refine ⟨s1.heap.objs.size + 1, [s1.heap.objs.size + 1, s1.heap.objs.size], _, _, H1, rfl, I2, turn_enum a (s1.heap.objs.size + 1) s1.heap.objs.size, ⟨⟨.none, he⟩, hit, Nat.succ_ne_self _⟩, fun b hb => ?_, q (Ite X.K a) _ walk_enum fun H' e => e.seq hq'⟩
      have e' : b = s1.heap.objs.size + 1 ∨ b = s1.heap.objs.size := by simpa using hb
      have hle : s1.heap.objs.size ≤ b := by
        rcases e' with z | z
        · rw [z]; exact Nat.le_add_right _ _
        · rw [z]; exact Nat.le_refl _
      exact I1.fpOk hle (I1.hok.fresh hle)
    · have hq' : SqT X.K H1 a xs := SqT.of hq
      obtain ⟨its, rv, ht, hz⟩ := I1.tuple hq'
      have hla : a < s1.heap.objs.size := by obtain ⟨_, z, _⟩ := ht; exact Heap.lt_size z
      refine enum_begins1 (begins_tuple a its.toArray) ht fun h' he hit hsz hk => wpAny_pyIter_enum he ?_
      have I2 : Inv X pins σ H1 { s1 with heap := h' } := I1.kept (t' := s1.toks) hk
      refine ⟨s1.heap.objs.size + 1, [s1.heap.objs.size + 1, s1.heap.objs.size], _, _, H1, rfl, I2, turn_enumS (src_tuple (a := a) (it := s1.heap.objs.size) (xs := xs) (Nat.ne_of_lt hla)) (Nat.succ_ne_self _) (Nat.ne_of_gt (Nat.lt_succ_of_lt hla)), ⟨⟨.none, he⟩, _, hit, rfl, rfl⟩, fun b hb => ?_, q (ItE (fun H => SqT X.K H a xs) xs) _ walk_enumE fun H' e => SqT.of (e _ _ hq)⟩
      have e' : b = s1.heap.objs.size + 1 ∨ b = s1.heap.objs.size := by simpa using hb
      have hle : s1.heap.objs.size ≤ b := by
        rcases e' with z | z
        · rw [z]; exact Nat.le_add_right _ _
        · rw [z]; exact Nat.le_refl _
      exact I1.fpOk hle (I1.hok.fresh hle)
end SR
set_option maxRecDepth 100000
set_option maxHeartbeats 4000000
namespace SR
open PySem PySem.Spec PyProof.Rows L2
theorem kv_at {κ : Type} {kvs : List (κ × V)} {vs : List (κ × Value)} (r : KV kvs vs) : ∀ (i : Nat) {y : κ × Value}, vs[i]? = some y → ∃ x, kvs[i]? = some x ∧ RelV x.2 y.2 := by
  unfold KV at r
  induction r with
  | nil => intro i y e; simp at e
  | @cons a b _ _ h _ ih =>
    intro i y e
    match i, e with
    | 0, e => exact ⟨a, rfl, by rw [← Option.some.inj e]; exact h.2⟩
    | i + 1, e =>
      obtain ⟨x, h1, h2⟩ := ih i (by simpa using e)
      exact ⟨x, by simpa using h1, h2⟩
def ViewO (r d : Addr) : HO := .ext fun h => h.IsValuesView r d
section
variable {X : Cx} {o : Expr} {td : TE} {apos cpos : Pos}
def tView (td : TE) : TE := fun σ H Q => td σ H fun x H1 => ∃ a kvs, x = .ref a ∧ H1 a = some (.dK kvs) ∧ ∀ r, H1 r = none → Q (.ref r) (upd H1 r (ViewO r a))
theorem pe_view (he : PE X o td) (hbase : attributeBase o "values" X.env (eval o X.env) = eval o X.env := by rfl) (hline : (apos.endLine == cpos.line) = true := by rfl) : PE X (.Call (.Attribute o "values" apos) [] [] cpos) (tView td) := by
  refine ⟨fun pins s σ H Q I h => ?_⟩
  refine wpAny_Call_method0_late hbase hline (thn (he.run pins s σ H _ I h) fun u s1 ⟨x, H1, I1, rx, a, kvs, ex, ha, q⟩ => ?_)
  subst ex
  obtain rfl : u = Value.ref a := rx
  obtain ⟨_, hsys, vs, rel, dof⟩ := dk_of I1.hok ha
  refine ⟨"dict", "dict.values", F.plainAttrs_dict, F.slot_dict_values, F.type_dict_values, dof.typeIs, dof.mapOf.noDict, Calls.callWith_builtin rfl (PySem.evalArgs_none ?_)⟩
  refine call_meetsIn F.slot_dict_values dof.typeIs F.entry_dict_values (F.args_dict_values_1 _) (meets_dict_values (mixKind X.prog X.w) a hsys) ⟨⟨vs, dof⟩, ?_⟩
  refine ⟨.ref s1.heap.objs.size, _, I1.laid (a := s1.heap.objs.size) (o := ViewO s1.heap.objs.size a) (t' := s1.toks) (fun _ _ q => Heap.get?_push_of_some _ q) (Nat.le_refl _) ?_, rfl, q _ (I1.hok.fresh (Nat.le_refl _))⟩
  refine ⟨⟨_, Heap.get?_push_size _ rfl, rfl, rfl⟩, ⟨_, Heap.get?_push_size _ rfl⟩, fun h1 h2 z k => ?_⟩
  obtain ⟨ov, z1, z2⟩ := z
  exact ⟨ov, k ov z1, z2⟩
theorem call_list_view (hc : X.calm = true) : CallR X (.type "list") (fun xs H Q => ∃ r a kvs, xs = [.ref r] ∧ H r = some (ViewO r a) ∧ H a = some (.dK kvs) ∧ ∀ l, H l = none → Q (.ref l) (upd H l (.lst (kvs.map (·.2))))) := by
  intro pins s σ H xs us Q I r h
  obtain ⟨r', a, kvs, rfl, hr, ha, q⟩ := h
  obtain ⟨u, rfl, rx⟩ := vals1 r
  obtain rfl : u = Value.ref r' := rx
  obtain ⟨hl, hsys, vs, rel, dof⟩ := dk_of I.hok ha
  obtain ⟨es, ep, raw, hsz, ent⟩ := dof.raw
  have hlen : vs.length = kvs.length := (KV.length rel).symm
  refine PySem.W.kdl_call (KdlSrc.rawValues (es := es) (ep := ep)) (I.ok.hd hc) ⟨(I.hok r' _ hr).1, raw⟩ (by rw [hsz, hlen]; exact hl) fun h' tk acc' c' hk hS' hacc => ?_
  have hv : Vals (kvs.map (·.2)) acc'.toList := by
    have key : ∀ (l : List (Key × V)) (ys : List Value), ys.length = l.length → (∀ (j : Nat) y, ys[j]? = some y → ∃ kx, l[j]? = some kx ∧ RelV kx.2 y) → Vals (l.map (·.2)) ys := by
      intro l
      induction l with
      | nil =>
        intro ys e _
        rw [List.length_eq_zero_iff.mp e]
        exact .nil
      | cons c l ih =>
        intro ys e hy
        cases ys with
        | nil => simp at e
        | cons y ys =>
          obtain ⟨kx, e1, e2⟩ := hy 0 y rfl
          cases (Option.some.inj e1)
          exact .cons e2 (ih ys (by simpa using e) fun j v hv => hy (j + 1) v (by simpa using hv))
    refine key _ _ (by rw [Array.length_toList, hacc.1, hsz, hlen]) fun j y hy => ?_
    obtain ⟨hj, e⟩ := hacc.2 j y (by simpa using hy)
    have hj' : j < vs.length := by rw [← hsz]; exact hj
    obtain ⟨_, e2⟩ := ent j hj _ _ (List.getElem?_eq_getElem hj')
    obtain ⟨x, x1, x2⟩ := kv_at rel _ (List.getElem?_eq_getElem hj')
    refine ⟨_, x1, ?_⟩
    rw [e, e2]
    exact x2
  refine ⟨.ref s.heap.objs.size, _, I.laid (t' := tk) hk (Nat.le_refl _) (show ObjOk X.prog X.w _ h' _ (.lst (kvs.map (·.2))) from ⟨by rw [List.length_map]; exact hl, acc'.toList, c', hv, by simpa using hS'⟩), rfl, q _ (I.hok.fresh (Nat.le_refl _))⟩
end
section
variable {prog : Program} {w : World} {A : Around} {E : Value → Shared → Prop} {s : Shared}
theorem next_key {it d : Addr} {i ep : Nat} {es : Array DictEntry} {Q : Value → Shared → Prop} (hit : s.heap.IsKeyIter it d i es.size ep) (hm : s.heap.DictRaw d es ep) (hi : i < es.size)
    (hQ : ∀ h', h'.IsKeyIter it d (i + 1) es.size ep → Heap.SameBut it s.heap h' → Q es[i].key { s with heap := h' }) : wpAny (model prog w) A (Builtin.SmallTypes.nextOf (.ref it)) Q E s := by
  obtain ⟨o, e1, e2, e3⟩ := id hit
  obtain ⟨od, d1, d2, d3⟩ := id hm
  have ty := hit.typeIs
  have own : Builtin.Dict_items.ownsTuple "dict_keyiterator" = false := by decide
  unfold Builtin.SmallTypes.nextOf
  refine wpAny_bind (wpAny_callSpecial?_slot (name := Str.ofString "__next__") ty F.slot_dict_keyiterator_next (wpAny_call_entry F.slot_dict_keyiterator_next ty F.entry_dict_keyiterator_next (wpAny_bind (wpAny_pure (wpAny_bind (wpAny_bind ?_)))) (F.args_dict_keyiterator_next_1 _)))
  first | refine wpAny_bind (wpAny_typeNameOfWhole_keyiter ty (wpAny_pure (wpAny_bind (wpAny_fieldsOf e1 e3 ?_)))) | refine wpAny_bind (wpAny_typeNameOf_keyiter ty (wpAny_pure (wpAny_bind (wpAny_fieldsOf e1 e3 ?_))))
  simp only [own, Bool.false_eq_true, if_false]
  refine wpAny_ite_false rfl (wpAny_bind (wpAny_pure (wpAny_bind (wpAny_dictEntries d1 d3 ?_))))
  rw [if_neg (by simp)]
  refine wpAny_bind (wpAny_pure (wpAny_bind (wpAny_dictEpoch d1 d3 ?_)))
  rw [if_neg (by simp)]
  refine wpAny_pure ?_
  have n0 : ¬ ((i : Int) < 0) := by omega
  simp only [n0, if_false, Int.toNat_natCast, Array.getElem?_eq_getElem hi]
  refine wpAny_bind ?_
  first | refine wpAny_bind (wpAny_typeNameOfWhole_keyiter ty (wpAny_pure (wpAny_bind (wpAny_isOneOf_keyiter ty ?_)))) | refine wpAny_bind (wpAny_typeNameOf_keyiter ty (wpAny_pure (wpAny_bind (wpAny_isOneOf_keyiter ty ?_))))
  show wpAny _ _ (setField (.ref it) 1 (rawInt ((i : Int) + 1)) >>= _) _ _ s
  have nx : (s.heap.update it (Obj.mapFields (·.setIfInBounds 1 (rawInt ((i : Int) + 1))))).IsKeyIter it d (i + 1) es.size ep :=
    ⟨_, Heap.get?_update_self _ e1 (Obj.isFreed_of_fields (Obj.data_mapFields e3 _)), (Obj.cls_mapFields ..).trans e2, by rw [Obj.data_mapFields e3]; simp [rawInt]⟩
  refine wpAny_bind (wpAny_setField e1 e3 (by simp) (wpAny_bind (wpAny_holding (wpAny_bind (wpAny_isOneOf_keyiter (s := { s with heap := s.heap.update it (Obj.mapFields (·.setIfInBounds 1 (rawInt ((i : Int) + 1)))) }) nx.typeIs ?_)))))
  show wpAny _ _ (pure es[i].key) _ _ _
  exact wpAny_pure (wpAny_pure ⟨_, rfl, wpAny_pure (hQ _ nx (Heap.SameBut.update ..))⟩)
theorem next_keyE {it d : Addr} {i ep : Nat} {es : Array DictEntry} {Q : Value → Shared → Prop} (hh : A.handled = none) (hit : s.heap.IsKeyIter it d i es.size ep) (hm : s.heap.DictRaw d es ep) (hi : es.size ≤ i)
    (hE : ∀ h' e, Heap.ExtBut it s.heap h' → (∃ o, h'.get? e = some o ∧ o.cls = .type "StopIteration") → E (.ref e) { s with heap := h' }) : wpAny (model prog w) A (Builtin.SmallTypes.nextOf (.ref it)) Q E s := by
  obtain ⟨o, e1, e2, e3⟩ := id hit
  obtain ⟨od, d1, d2, d3⟩ := id hm
  have ty := hit.typeIs
  have own : Builtin.Dict_items.ownsTuple "dict_keyiterator" = false := by decide
  unfold Builtin.SmallTypes.nextOf
  refine wpAny_bind (wpAny_callSpecial?_slot (name := Str.ofString "__next__") ty F.slot_dict_keyiterator_next (wpAny_call_entry F.slot_dict_keyiterator_next ty F.entry_dict_keyiterator_next (wpAny_bind (wpAny_pure (wpAny_bind (wpAny_bind ?_)))) (F.args_dict_keyiterator_next_1 _)))
  first | refine wpAny_bind (wpAny_typeNameOfWhole_keyiter ty (wpAny_pure (wpAny_bind (wpAny_fieldsOf e1 e3 ?_)))) | refine wpAny_bind (wpAny_typeNameOf_keyiter ty (wpAny_pure (wpAny_bind (wpAny_fieldsOf e1 e3 ?_))))
  simp only [own, Bool.false_eq_true, if_false]
  refine wpAny_ite_false rfl (wpAny_bind (wpAny_pure (wpAny_bind (wpAny_dictEntries d1 d3 ?_))))
  rw [if_neg (by simp)]
  refine wpAny_bind (wpAny_pure (wpAny_bind (wpAny_dictEpoch d1 d3 ?_)))
  rw [if_neg (by simp)]
  refine wpAny_pure ?_
  have n0 : ¬ ((i : Int) < 0) := by omega
  simp only [n0, if_false, Int.toNat_natCast, Array.getElem?_eq_none hi]
  refine wpAny_bind ?_
  first | refine wpAny_bind (wpAny_typeNameOfWhole_keyiter ty (wpAny_pure ?_)) | refine wpAny_bind (wpAny_typeNameOf_keyiter ty (wpAny_pure ?_))
  show wpAny _ _ (setField (.ref it) 0 .none >>= _) _ _ s
  refine wpAny_bind (wpAny_setField e1 e3 (by simp) ?_)
  show wpAny _ _ (newExc (.type "StopIteration") [] >>= _) _ _ _
  refine wpAny_bind ?_
  simp only [newExc, newTuple]
  refine wpAny_bind (wpAny_newObj_type (wpAny_bind (m := firstArgMember _ _) (wpAny_of_eq (a := Value.none) (by first | rfl | (simp only [firstArgMember]; rfl)) (wpAny_newObj_type ?_ (by size_fits)))) (by size_fits))
  simp only [raiseNew]
  refine wpAny_bind (wpAny_handled ?_)
  first | rw [show A.in1.handled = none from hh] | rw [hh]
  exact wpAny_bind (wpAny_pure (wpAny_throw (hE _ _ (((Heap.SameBut.update ..).extBut.push _).push _) ⟨_, Heap.get?_push_size _ rfl, rfl⟩)))
end
theorem draws_keys {P : Program} {w : World} {A : Around} (hh : A.handled = none) (it d : Addr) (hne : d ≠ it) (es : Array DictEntry) (ep : Nat) :
    Draws P w A it [it, d] es.size (fun i v => ∃ hi : i < es.size, v = es[i].key) (fun i h => h.IsKeyIter it d i es.size ep ∧ h.DictRaw d es ep) where
  live := fun _ _ st => let ⟨o, ho, _⟩ := st.1; ⟨o, ho⟩
  frame := fun _ _ _ st hk => ⟨let ⟨o, ho, r⟩ := st.1; ⟨o, hk it (by simp) o ho, r⟩, st.2.at fun o e => hk d (by simp) o e⟩
  item := fun i s Q E hi st hQ => next_key st.1 st.2 hi fun h' hit hs => hQ _ h' s.toks ⟨hi, rfl⟩ ⟨hit, st.2.at fun o e => hs.extBut d o hne e⟩ hs
  done := fun s Q E st hE => next_keyE hh st.1 st.2 (Nat.le_refl _) hE
theorem begins_keys (d : Addr) (es : Array DictEntry) (ep : Nat) (hd : (d == sysModules) = false) : Begins (.ref d) { cls := .type "dict_keyiterator", data := .fields #[.ref d, .int 0 0, .int es.size 0, .int ep 0] } fun h => h.DictRaw d es ep where
  iter := fun prog w A E s Q hm h => wpAny_pyIter_dict_raw hd hm h
  keeps := fun h h' x hk => x.at fun o e => hk d o e
  free := rfl
/-- the dict at d, locked: its keys -/
theorem src_keys {P : Program} {w : World} {K : PySem.W.Frag} {d it : Addr} {ob : Obj} {kvs : List (Key × V)} {ep : Nat} (hne : d ≠ it) (hep : ∃ es, ob.data = .dict es ep) :
    ESrc P w K (fun H => H d = some (.frz ob (.dK kvs))) (kvs.map fun kv => kV kv.1) d it (fun i h => h.IsKeyIter it d i kvs.length ep) where
  draws := by
    intro X hP hw hK hc pins s σ H I hs
    subst hP hw hK
    obtain ⟨h1, h2, h3, es, ep', vs, hdt, hsz, kv, hm⟩ := I.frzK hs
    obtain ⟨es', e'⟩ := hep
    obtain ⟨e1, e2⟩ := dict_ep hdt e'
    subst e1 e2
    have hl : kvs.length = vs.length := Paired.length kv
    have hz : es'.size = kvs.length := by rw [hsz]
    have D := draws_keys (P := X.prog) (w := X.w) (A := X.A.in1) (I.ok.hd hc) it d hne es' ep
    refine ⟨fun i v => ∃ hi : i < es'.size, v = es'[i].key, fun i h => h.IsKeyIter it d i es'.size ep ∧ h.DictRaw d es' ep, by rw [List.length_map, ← hz]; exact D, fun i h => ⟨by rw [hz]; exact h, ob, h2, h3, hdt⟩, fun i h' h => by rw [← hz]; exact h.1, fun i v x hv hx => ?_⟩
    obtain ⟨hi, rfl⟩ := hv
    rw [List.getElem?_map] at hx
    obtain ⟨p, hp, rfl⟩ := Option.map_eq_some_iff.mp hx
    obtain ⟨k, y⟩ := p
    obtain ⟨u, hu, _⟩ := kv_get kv hp
    obtain ⟨o2, es2, g2, _, dt2, _, pr, _⟩ := hm
    rw [h2] at g2
    cases g2
    obtain ⟨e3, _⟩ := dict_ep hdt dt2
    subst e3
    exact relV_key (show keyIs k es2[i].key = true from (pr.get? (e := es2[i]) (by simp [hi]) hu).1)
  obj := fun i h st => by
    obtain ⟨o, ho, hc, hd⟩ := st
    exact ⟨o, ho, fun v q => by rw [hd] at q; cases q⟩
  keep := fun i h h' st k => let ⟨o, ho, r⟩ := st; ⟨o, k o ho, r⟩
/-- enumerate(d), d a locked dict -/
def iEnumK (ta : TA) : TI := fun σ H R => ta σ H fun vs H1 => ∃ d ob kvs, vs = [.ref d] ∧ H1 d = some (.frz ob (.dK kvs)) ∧ R (ItE (fun H => H d = some (.frz ob (.dK kvs))) (kvs.map fun kv => kV kv.1)) H1
theorem pi_enumK {X : Cx} {e : Expr} {ta : TA} {p pos tpos : Pos} {elts : List Expr} {kk : Nat} (hg : Gl X "enumerate") (hm : X.mg "enumerate" = none) (ha : PA X [e] ta) (hs : starEach [e] X.env = [(false, eval e X.env)] := by rfl) :
    PI X (.Tuple elts kk tpos) (.Call (.Name "enumerate" p) [e] [] pos) (iEnumK ta) := by
  refine ⟨fun pins s σ H R I h => ?_⟩
  refine Call_ (ld_blt I hg hm boot_enumerate (PyProof.Rows.callWith_type1 (thn (ha.run pos pins s σ H _ I h) fun us s1 ⟨vs, H1, I1, r1, q1⟩ => ?_) hs rfl))
  obtain ⟨d, ob, kvs, ex, hq, q⟩ := q1
  subst ex
  cases r1 with
  | cons r rr =>
    cases rr
    cases r
    obtain ⟨h1, h2, h3, es, ep, ws, hdt, hsz, kv, _⟩ := I1.frzK hq
    have hld : d < s1.heap.objs.size := Heap.lt_size h2
    refine enum_begins1 (begins_keys d es ep h1) ⟨ob, h2, h3, hdt⟩ fun h' he hit _ hk => wpAny_pyIter_enum he ?_
    have I2 : Inv X pins σ H1 { s1 with heap := h' } := I1.kept (t' := s1.toks) hk
    refine ⟨s1.heap.objs.size + 1, [s1.heap.objs.size + 1, s1.heap.objs.size], _, _, H1, rfl, I2, turn_enumS (src_keys (d := d) (it := s1.heap.objs.size) (kvs := kvs) (Nat.ne_of_lt hld) ⟨es, hdt⟩) (Nat.succ_ne_self _) (Nat.ne_of_gt (Nat.lt_succ_of_lt hld)), ⟨⟨.none, he⟩, _, hit, rfl, by rw [hsz]; rfl⟩, fun b hb => ?_, q⟩
    have e' : b = s1.heap.objs.size + 1 ∨ b = s1.heap.objs.size := by simpa using hb
    have hle : s1.heap.objs.size ≤ b := by
      rcases e' with z | z
      · rw [z]; exact Nat.le_add_right _ _
      · rw [z]; exact Nat.le_refl _
    exact I1.fpOk hle (I1.hok.fresh hle)
end SR
set_option maxRecDepth 100000
set_option maxHeartbeats 4000000
namespace SR
open PySem PySem.Spec PyProof.Rows L2
structure FnG (P : Program) (w : World) (K : PySem.W.Frag) (mg : Str → Option Value) (base : Heap) (k : Nat) (f : Addr) (fd : FuncData) (ps : List Str) (sp : Sp) : Prop where
  len : ∀ vs H Q E, sp vs H Q E → vs.length = ps.length
  run : ∀ (A : Around) (outer : List Env) (s : Shared) (H : Hp) (args : Args) (us : List Value) (vs : List V) (Q : VK) (E : XK), Room k A → A.guards = some [] → Env0 P w K mg base A outer s H → BindsTo s fd args (ps.zip us) → Vals vs us → sp vs H Q E →
    codeAny (model P w) A (.call (.ref f) args) (CR CX0 outer P w H s Q E) s
theorem FnG.of {P : Program} {w : World} {K : PySem.W.Frag} {mg : Str → Option Value} {base : Heap} {k : Nat} {f : Addr} {fd : FuncData} {ps : List Str} {sp : Sp} (F : FnOk P w K mg base CX0 k f fd ps sp) : FnG P w K mg base k f fd ps sp :=
  ⟨F.len, fun A outer s H args us vs Q E hr _ => F.run A outer s H args us vs Q E hr⟩
theorem FnG.mono {P : Program} {w : World} {K : PySem.W.Frag} {mg : Str → Option Value} {base : Heap} {j k : Nat} {f : Addr} {fd : FuncData} {ps : List Str} {sp : Sp} (F : FnG P w K mg base j f fd ps sp) (h : j ≤ k) : FnG P w K mg base k f fd ps sp :=
  ⟨F.len, fun A outer s H args us vs Q E hr => F.run A outer s H args us vs Q E (hr.mono h)⟩
/-- a def by its body; hgd: no repr is under way -/
theorem okG {P : Program} {w : World} {K : PySem.W.Frag} {mg : Str → Option Value} {base : Heap} {x qual : Str} {st : Stmt} {f : Addr} {fd : FuncData} {N ps : List Str} {k : Nat} {sp : Sp} (F : Fun K x qual st f fd) (S : FnScope N ps (defScope st)) (len : ∀ vs H Q E, sp vs H Q E → vs.length = ps.length)
    (hbody : ∀ (cdv : Value) (A : Around) (outer : List Env) (s : Shared) (H : Hp) (vs : List V) (Q : VK) (E : XK), Room k (A.deeper (envOfC qual (defScope st) s.heap.objs.size f cdv)) → (A.deeper (envOfC qual (defScope st) s.heap.objs.size f cdv)).guards = some [] → sp vs H Q E →
      ∃ t, PSs (cxOf CX0 P w K mg base N qual (defScope st) f cdv A outer s H E).nox (defBody st) t ∧ t { nx := fun _ H' => Q .non H', rt := Q } (L2.start N vs) H) : FnG P w K mg base (k + 1) f fd ps sp := by
  obtain ⟨oc, od, kV, doc, pm, an, cdv, ct, osl, rfl, lk, hcd⟩ := F.ex
  refine ⟨len, fun A outer s H args us vs Q E hr hg e0 hb r hsp => ?_⟩
  have inK : K.In s.heap := e0.mod.kin.keeps fun b o e => (e0.bs b o e).1
  have noL : s.heap.NoLimit := e0.mod.nolimit.keeps fun b o e => (e0.bs b o e).1
  refine codeAny_call_function hr.depth (inK _ _ lk) rfl S.co S.gen rfl (PySem.W.codeRec_of inK hcd) (hb _ _ _ _ (wpAny_newFunctionEnv_cells S.kind ?_ ?_))
  · rintro ⟨n, v⟩ hy
    exact (S.par n (List.of_mem_zip hy).1).elim .inl fun q => .inr ⟨q, PySem.W.cellsFrom_some _ _ _ (.inl q)⟩
  · intro env he s1 new
    subst he
    obtain ⟨t, ht, hq⟩ := hbody cdv A outer s H vs Q E (hr.deeper _) hg hsp
    have I : Inv (cxOf CX0 P w K mg base N qual (defScope st) f cdv A outer s H E) [] (L2.start N vs) H s1 := inv_start S hr.hd e0 (len _ _ _ _ hsp) r new
    refine ⟨noL.keeps new.toInCall.keep, codeAny_func (wpAny_mono (ht.nox.run [] s1 (L2.start N vs) H _ I hq) (fun fl s' hs => ?_) fun e s' hs => hs)⟩
    cases fl with
    | ret u =>
      obtain ⟨v, σ', H', J, rv, q⟩ := hs
      exact ⟨v, H', J.os, J.bare, J.base, J.hok, rv, q⟩
    | next =>
      obtain ⟨σ', H', J, q⟩ := hs
      exact ⟨V.non, H', J.os, J.bare, J.base, J.hok, rfl, q⟩
    | brk => exact hs.elim fun _ z => z.elim fun _ z => z.2.elim
    | cont => exact hs.elim fun _ z => z.elim fun _ z => z.2.elim
section
variable {X : Cx} {k : Nat} {f : Addr} {fd : FuncData} {ps : List Str} {sp : Sp}
theorem run_fnG {pins : List (Addr × Obj)} {σ : L2.St} {H : Hp} {s : Shared} {Q : VK} {us : List Value} {vs : List V} (F : FnG X.prog X.w X.K X.mg X.base k f fd ps sp) (hr : Room k X.A) (hg : X.A.guards = some []) (hb : Binds X.K fd ps [])
    (I : Inv X pins σ H s) (r : Vals vs us) (h : sp vs H Q E0) : wpAny (model X.prog X.w) X.A (call (.ref f) us) (EP X pins σ Q) X.xe s := by
  have hl : us.length = ps.length := by rw [← r.length]; exact F.len _ _ _ _ h
  have b := hb s us I.kIn (by simpa using hl)
  rw [List.append_nil] at b
  refine wpAny_call (codeAny_mono (F.run X.A X.stack s H ⟨us, []⟩ us vs Q E0 hr hg I.env0 b r h) fun r s' hq => ?_)
  cases r with
  | error e => exact pass0 pins σ H s e s' I hq
  | ok fl =>
    cases fl with
    | ret u => exact I.after hq
    | next => exact False.elim hq
    | brk => exact False.elim hq
    | cont => exact False.elim hq
/-- a def of the top that may be called where no repr is under way -/
structure CalG (P : Program) (w : World) (K : PySem.W.Frag) (mg : Str → Option Value) (base : Heap) (x : Str) (k : Nat) (ps : List Str) (sp : Sp) : Prop where
  ex : ∃ f fd, FnG P w K mg base k f fd ps sp ∧ mg x = some (.ref f) ∧ PySem.W.keepIn K (.ref f) = true ∧ Binds K fd ps []
theorem pe_calG {x : Str} {e : Expr} {es : List Expr} {t : TA} {p pos : Pos} (C : CalG X.prog X.w X.K X.mg X.base x k ps sp) (hr : Room k X.A) (hgd : X.A.guards = some []) (ha : PA X (e :: es) t) (hg : Gl X x := by rfl) (hdb : (x == ("__debug__" : Str)) = false := by decide)
    (he : starEach (e :: es) X.env = (false, eval e X.env) :: starEach es X.env := by rfl) (hpl : (backTo pos (starEach es X.env)).any (·.1) = false := by rfl) : PE X (.Call (.Name x p) (e :: es) [] pos) (tCall sp [] E0 t) := by
  obtain ⟨f, fd, F, m, kp, b⟩ := C.ex
  refine ⟨fun pins s σ H Q I h => wpAny_Call_Name_kw (ld_glob I hg m (PySem.W.callWith_K (h₀ := X.base) I.ok.mod.kin kp (thn (ha.run pos pins s σ H _ I h) fun us s1 ⟨vs, H1, I1, r, q⟩ => ⟨I1.kIn, ?_⟩) he hpl) hdb)⟩
  have q' : sp (vs ++ []) H1 Q E0 := q
  rw [List.append_nil] at q'
  exact run_fnG F hr hgd b I1 r q'
end
end SR
set_option maxRecDepth 100000
set_option maxHeartbeats 4000000
namespace SR
open PySem PySem.Spec PyProof.Rows L2
/-- the law's call, its promise given where no repr is under way -/
theorem law_callG {P : Program} {w : World} {K : PySem.W.Frag} {mg mb : Str → Option Value} {k : Nat} {fa a : Addr} {fd : FuncData} {x : Str} {sp : Sp} {s1 : Shared} {vs : List Value} {ns : List Int}
    (KX : K.In s1.heap) (gns : s1.heap.Ns mainGlobals mg) (bns : s1.heap.Ns builtinsNs mb) (bis : ∀ x : Str, x ≠ "__name__" → mb x = bootBuiltins x) (lim : s1.heap.NoLimit) (g0 : s1.gens = #[])
    (ha : s1.heap.get? a = some { cls := .type "list", data := .seq vs.toArray }) (hi : IntsAre vs ns) (hl : ns.length ≤ sizeLine) (hr : Room k callerA)
    (F : ∀ base : Heap, K.In base → base.Ns mainGlobals mg → FnG P w K mg base k fa fd [x] sp) (hbind : ∀ (s : Shared) (u : Value), BindsTo s fd ⟨[u], []⟩ [(x, u)])
    (hsp : ∀ H : Hp, SqL K H a (ns.map V.int) → sp [.ref a] H (fun v _ => v = .bl true) E0) :
    codeAny (model P w) callerA (.call (.ref fa) ⟨[.ref a], []⟩) (fun r s' => r = .ok (.ret (.bool true)) ∧ OldK s1.heap s'.heap ∧ s'.os = s1.os ∧ AllBare s'.gens) s1 := by
  have core : ∀ H : Hp, SqL K H a (ns.map V.int) → HOk P w H s1.heap → (∀ b u, H b = some u → b = a ∧ K.lookup a = none ∧ ∃ ob xs, u = .frz ob (.lst xs)) →
      codeAny (model P w) callerA (.call (.ref fa) ⟨[.ref a], []⟩) (fun r s' => r = .ok (.ret (.bool true)) ∧ OldK s1.heap s'.heap ∧ s'.os = s1.os ∧ AllBare s'.gens) s1 := by
    intro H hS ok only
    have free : ∀ {b : Addr} {o : Obj}, s1.heap.get? b = some o → (b = a → False) → (hidT s1.heap H).get? b = some o := fun {b o} e n => hidT_get e (by
      cases z : H b with
      | none => rfl
      | some u => exact (n (only b u z).1).elim)
    have notD : ∀ {b : Addr} {o : Obj} {es : Array DictEntry} {ep : Nat}, s1.heap.get? b = some o → o.data = .dict es ep → b = a → False := fun {b o es ep} e d z => by
      subst z
      rw [ha] at e
      cases e
      cases d
    have ns' : ∀ {b : Addr} {m : Str → Option Value}, s1.heap.Ns b m → (hidT s1.heap H).Ns b m := fun {b m} ⟨o, es, ep, e, d, r⟩ => ⟨o, es, ep, free e (notD e d), d, r⟩
    have kin : K.In (hidT s1.heap H) := fun b o e => hidT_get (KX b o e) (by
      cases z : H b with
      | none => rfl
      | some u =>
        obtain ⟨z1, z2, _⟩ := only b u z
        rw [z1, z2] at e
        cases e)
    have md : Mod K mg (hidT s1.heap H) := ⟨kin, ns' gns, ⟨mb, ns' bns, bis⟩, let ⟨mc, h1, h2⟩ := lim; ⟨mc, ns' h1, h2⟩⟩
    have en : Env0 P w K mg (hidT s1.heap H) callerA [] s1 H := ⟨rfl, md, fun b o e => of_hidT e, Nat.le_of_eq (hidT_size _ _), trivial, fun b hb => absurd (show b ∈ ([] : List Addr) from hb) (by simp), ok, .of_eq g0⟩
    refine codeAny_mono ((F _ kin (ns' gns)).run callerA [] s1 H ⟨[.ref a], []⟩ [.ref a] [.ref a] _ _ hr rfl en (hbind s1 (.ref a)) (.cons rfl .nil) (hsp H hS)) fun r s' h => ?_
    cases r with
    | error e => exact False.elim h
    | ok fl =>
      cases fl with
      | next => exact False.elim h
      | brk => exact False.elim h
      | cont => exact False.elim h
      | ret u =>
        obtain ⟨v, H', os, bare, un, ok', rel, q⟩ := h
        obtain rfl : v = .bl true := q
        obtain rfl : u = Value.bool true := rel
        refine ⟨rfl, OldK.of_keep fun b o e => ?_, os, bare⟩
        cases z : H b with
        | none => exact un.keep b o e z (by intro z; exact absurd (show b ∈ ([] : List Addr) from z) (by simp)) (by simp)
        | some u =>
          obtain ⟨_, _, ob, xs, rfl⟩ := only b u z
          obtain ⟨e1, _⟩ := ok b _ z
          obtain ⟨e2, _⟩ := ok' b _ (un.frzs b ob _ z)
          rw [e] at e1
          cases e1
          exact e2
  have rv := vals_ints hi
  cases hk : K.lookup a with
  | some o =>
    have e := KX a o hk
    rw [ha] at e
    cases e
    exact core (fun _ => none) (.inr ⟨_, vs.toArray, _, hk, rfl, rfl, rfl, by rw [List.size_toArray, hi.length]; exact hl, by simpa using rv⟩) (fun b u z => nomatch z) (fun b u z => nomatch z)
  | none =>
    refine core (fun b => if b = a then some (.frz { cls := .type "list", data := .seq vs.toArray } (.lst (ns.map V.int))) else none) (.inl (.inr ⟨_, if_pos rfl⟩)) (fun b u z => ?_) (fun b u z => ?_)
    · revert z
      show (if b = a then some _ else none) = some u → _
      split
      · rename_i hb
        subst hb
        rintro ⟨⟩
        exact ⟨ha, by rw [List.length_map]; exact hl, vs, _, rv, ha⟩
      · rintro ⟨⟩
    · revert z
      show (if b = a then some _ else none) = some u → _
      split
      · rename_i hb
        rintro ⟨⟩
        exact ⟨hb, hk, _, _, rfl⟩
      · rintro ⟨⟩
theorem walk_ofG {l : PySem.W.OpenLaw} {n k : Nat} {q : Program} {loose : List Str} {XP : (Str → Option Value) → Heap → Prop} {YP : World → Heap → Prop} {d : DefRec} {K : Params → PySem.W.Frag} {sp : World → Sp} {x : Str}
    (hn : l.most = some n) (hn2 : n ≤ sizeLine) (hdf : d.params.defaults = []) (hr : Room k callerA) (hY : ∀ (w : World) (h : Heap), YP w h → (K w.params).In h)
    (F : ∀ (w : World) (mg : Str → Option Value) (fa : Addr) (h : Heap), (K w.params).In h → h.Ns mainGlobals mg → mg d.name = some (.ref fa) → ∃ fd : FuncData, (∀ (s : Shared) (u : Value), BindsTo s fd ⟨[u], []⟩ [(x, u)]) ∧
      ∀ base : Heap, (K w.params).In base → base.Ns mainGlobals mg → FnG l.prog w (K w.params) mg base k fa fd [x] (sp w))
    (hsp : ∀ (w : World) (H : Hp) (a : Addr) (ns : List Int), ns.length ≤ n → SqL (K w.params) H a (ns.map V.int) → sp w [.ref a] H (fun v _ => v = .bl true) E0) :
    PySem.W.WalkO q loose XP YP l.row.toRowW d [] (fun f vs => PySem.call f vs) := by
  refine Att.attach_call hn hdf fun w s0 s1 mg mb fa o pm cd doc a vs ns G Y ho hd hcd hmg hobj hints hlen hg => ?_
  obtain ⟨fd, hb, hF⟩ := F w mg fa _ (hY w _ Y) G.T.g hmg
  exact law_callG (hY w _ Y) G.T.g G.T.b G.T.builtins G.T.nolimit hg hobj hints (Nat.le_trans hlen hn2) hr hF hb fun H hS => hsp w H a ns hlen hS
end SR
set_option maxRecDepth 100000
set_option maxHeartbeats 4000000
namespace SR
open PySem PySem.Spec PyProof.Rows L2 GenW
section
variable {P : Program} {w : World} {K : PySem.W.Frag} {mg : Str → Option Value} {base : Heap}
/-- a generator def by its body -/
theorem _root_.L2.Fun.gen {x qual : Str} {st : Stmt} {f : Addr} {fd : FuncData} {N ps : List Str} {k : Nat} {sp : SpG} (F : Fun K x qual st f fd) (S : GScope N ps (defScope st)) (len : ∀ vs H Q E, sp vs H Q E → vs.length = ps.length)
    (hbody : ∀ (cdv : Value) (A : Around) (outer : List Env) (s : Shared) (H : Hp) (vs : List V) (Q : List V → Hp → Prop) (E : XK) (pn : List (Addr × Obj)), Room k (A.deeper (envOfC qual (defScope st) s.heap.objs.size f cdv)) → sp vs H Q E →
      ∃ t, GSs (gcxOf P w K mg base N qual (defScope st) f cdv A outer s H E pn) (defBody st) t ∧ t { nx := fun ys _ H' => Q ys H', rt := fun ys v H' => v = .non ∧ Q ys H' } [] (start N vs) H) : GFn P w K mg base (k + 1) f fd ps sp := by
  obtain ⟨oc, od, kV, doc, pm, an, cdv, ct, osl, rfl, lk, hcd⟩ := F.ex
  exact gfn_of lk hcd S len fun A outer s H vs Q E pn hr hsp => hbody cdv A outer s H vs Q E pn hr hsp
end
end SR
set_option maxRecDepth 100000
set_option maxHeartbeats 4000000
namespace SS
open PySem L2 SR TL
/-- all but D stays -/
def SameB (D : Addr) (H H' : Hp) : Prop := ∀ a o, a ≠ D → H a = some o → H' a = some o
theorem Same.b {D : Addr} {H H' : Hp} (e : Same H H') : SameB D H H' := fun a o _ h => e a o h
theorem SameB.upd {D : Addr} {H : Hp} {o : HO} : SameB D H (upd H D o) := fun a u ha h => by rw [upd_ne ha]; exact h
/-- a comprehension that changes nothing but its own list D: S tells what is gathered -/
theorem lc_S {J : It} {n : Nat} {G : Hp → Prop} {Y : Nat → Hp → V → Hp → Prop} (w : Walk J n G Y) {g : TG} {tt : TT} {te : TE} {vs : List Nat} {σ : St} {H1 : Hp} {D : Addr} {Qd : Hp → Prop} (hD : H1 D = none) (hn : n ≤ 1000000)
    (S : Nat → List V → Hp → Prop) (hS : ∀ i acc acc' H H', H D = some (.lst acc') → SameB D H H' → S i acc H → S i acc H') (h0 : S 0 [] (upd H1 D (.lst []))) (hG : ∀ H, Same H1 H → G H)
    (hs : ∀ i x H H' acc (Qt : V → Hp → Prop) (Qf : Hp → Prop), i < n → Same H1 H → H D = some (.lst acc) → S i acc H → Y i H x H' → (∀ y H4, Same H H4 → S (i + 1) (acc ++ [y]) H4 → Qt y H4) → (∀ H3, Same H H3 → S (i + 1) acc H3 → Qf H3) →
      g x (wipe σ vs) H' fun σ2 H2 => wipe σ2 vs = wipe σ vs ∧ tt σ2 H2 fun b H3 => if b = true then te σ2 H3 Qt else Qf H3)
    (hd : ∀ H acc, Same H1 H → H D = some (.lst acc) → S n acc H → Qd H) :
    ∃ W : Nat → Nat → Hp → Prop, (∃ m, W 0 m (upd H1 D (.lst []))) ∧ ∀ i m H, W i m H →
      (J.stop i H ∧ Qd H) ∨ (J.go i H ∧ ∃ Nx : Hp → Prop, (∀ H', Nx H' → ∃ m', m' < m ∧ W (i + 1) m' H') ∧ ∀ x H', J.yld i H x H' → g x (wipe σ vs) H' fun σ2 H2 => wipe σ2 vs = wipe σ vs ∧ tt σ2 H2 fun b H3 =>
        if b = true then te σ2 H3 fun y H4 => ∃ acc, H4 D = some (.lst acc) ∧ acc.length < sizeLine ∧ Nx (upd H4 D (.lst (acc ++ [y]))) else Nx H3) := by
  refine lc_it w (fun i H => Same H1 H ∧ ∃ acc, H D = some (.lst acc) ∧ acc.length ≤ i ∧ S i acc H) ⟨same_new hD, [], upd_same, Nat.le_refl _, h0⟩ (fun i H _ p => hG H p.1) (fun i x H H' hi p y => ?_) (fun H p => ?_)
  · obtain ⟨e, acc, hd', hl, s⟩ := p
    refine hs i x H H' acc _ _ hi e hd' s y (fun z H4 e4 s4 => ⟨acc, e4 _ _ hd', by rw [sizeLine_eq]; omega, same_upd (e.trans e4) hD, acc ++ [z], upd_same, by rw [List.length_append]; exact Nat.succ_le_succ hl, ?_⟩) (fun H3 e3 s3 => ⟨e.trans e3, acc, e3 _ _ hd', Nat.le_succ_of_le hl, s3⟩)
    exact hS _ _ _ _ _ (e4 _ _ hd') SameB.upd s4
  · obtain ⟨e, acc, hd', _, s⟩ := p
    exact hd H acc e hd' s
theorem ne_lst {H : Hp} {D q : Addr} {acc : List V} {o : HO} (hd : H D = some (.lst acc)) (h : H q = some o) (n : ∀ xs, o ≠ .lst xs) : q ≠ D := fun e => by
  rw [e, hd] at h
  exact n acc (Option.some.inj h).symm
theorem Paired.mono {α β : Type} {R R' : α → β → Prop} : ∀ {xs : List α} {ys : List β}, Paired R xs ys → (∀ a b, R a b → R' a b) → Paired R' xs ys
  | _, _, .nil, _ => .nil
  | _, _, .cons r t, f => .cons (f _ _ r) (Paired.mono t f)
theorem mergeK_nil {kvs : List (Key × V)} (nd : (kvs.map (·.1)).Nodup) : mergeK [] kvs = kvs := by
  have key : ∀ (more acc : List (Key × V)), ((acc ++ more).map (·.1)).Nodup → mergeK acc more = acc ++ more := by
    intro more
    induction more with
    | nil => intro acc _; exact (List.append_nil acc).symm
    | cons p more ih =>
      intro acc nd
      have hv : valV acc p.1 = none := by
        unfold valV
        rw [Option.map_eq_none_iff, List.find?_eq_none]
        intro q hq hk
        have e : q.1 = p.1 := by simpa using hk
        rw [List.map_append, List.nodup_append] at nd
        exact nd.2.2 q.1 (List.mem_map.mpr ⟨q, hq, rfl⟩) p.1 (by simp) e
      have e1 : mergeK acc (p :: more) = mergeK (acc ++ [p]) more := by
        show mergeK (putK acc p.1 p.2) more = _
        rw [putK_new _ hv]
      rw [e1, ih (acc ++ [p]) (by rwa [List.append_assoc])]
      rw [List.append_assoc]; rfl
  exact key kvs [] nd
theorem paired_get {α β : Type} {R : α → β → Prop} : ∀ {xs : List α} {ys : List β} (i : Nat) {y : β}, Paired R xs ys → ys[i]? = some y → ∃ x, xs[i]? = some x ∧ R x y
  | _, _, _, _, .nil, h => by simp at h
  | x :: xs, y :: ys, 0, z, .cons r _, h => by
    have e : y = z := Option.some.inj h
    exact ⟨x, rfl, e ▸ r⟩
  | x :: xs, y :: ys, i + 1, z, .cons _ t, h => by
    obtain ⟨a, h1, h2⟩ := paired_get i t (by simpa using h)
    exact ⟨a, by simpa using h1, h2⟩
theorem inV_ints (q : Int) (es : List Int) : inV (.int q) (es.map .int) = decide (q ∈ es) := by
  unfold inV
  induction es with
  | nil => rfl
  | cons e es ih =>
    rw [List.map_cons, List.any_cons, ih]
    show ((e == q) || decide (q ∈ es)) = _
    by_cases h : e = q
    · subst h; simp
    · have : (e == q) = false := beq_eq_false_iff_ne.mpr h
      rw [this, Bool.false_or]
      have h' : ¬ q = e := fun z => h z.symm
      simp [h']
theorem flat_ints (es : List Int) : (es.map V.int).all flatV = true := by
  induction es with
  | nil => rfl
  | cons e es ih => rw [List.map_cons, List.all_cons, ih]; rfl
theorem atI_of {α : Type} {xs : List α} {q : Int} {x : α} (q0 : 0 ≤ q) (h : xs[q.toNat]? = some x) : atI xs q = some x := by
  have := atI_nat h
  rwa [Int.toNat_of_nonneg q0] at this
theorem nodup_len : ∀ (m : Nat) (l : List Int), l.Nodup → (∀ q ∈ l, 0 ≤ q ∧ q < (m : Int)) → l.length ≤ m := by
  intro m
  induction m with
  | zero =>
    intro l _ b
    cases l with
    | nil => exact Nat.le_refl _
    | cons q l => have := b q List.mem_cons_self; omega
  | succ m ih =>
    intro l nd b
    by_cases hm : ((m : Nat) : Int) ∈ l
    · have := ih (l.erase (m : Int)) (nd.erase _) (fun q hq => by
        have h1 := b q (List.mem_of_mem_erase hq)
        have h2 : q ≠ (m : Int) := (List.Nodup.mem_erase_iff nd).mp hq |>.1
        omega)
      rw [List.length_erase_of_mem hm] at this
      omega
    · have := ih l nd (fun q hq => by
        have h1 := b q hq
        have h2 : q ≠ (m : Int) := fun z => hm (z ▸ hq)
        omega)
      omega
def NonStr (H : Hp) (v : V) : Prop := v = .non ∨ (∃ i, v = .int i) ∨ (∃ b, v = .bl b) ∨ ∃ a, v = .ref a ∧ ((∃ xs, H a = some (.lst xs)) ∨ (∃ xs, H a = some (.tup xs)) ∨ ∃ kvs, H a = some (.dK kvs))
theorem NonStr.mono {H H' : Hp} {v : V} (e : Same H H') (h : NonStr H v) : NonStr H' v := by
  rcases h with h | h | h | ⟨a, h, h' | h' | h'⟩
  · exact .inl h
  · exact .inr (.inl h)
  · exact .inr (.inr (.inl h))
  · obtain ⟨xs, z⟩ := h'; exact .inr (.inr (.inr ⟨a, h, .inl ⟨xs, e _ _ z⟩⟩))
  · obtain ⟨xs, z⟩ := h'; exact .inr (.inr (.inr ⟨a, h, .inr (.inl ⟨xs, e _ _ z⟩)⟩))
  · obtain ⟨xs, z⟩ := h'; exact .inr (.inr (.inr ⟨a, h, .inr (.inr ⟨xs, e _ _ z⟩)⟩))
theorem NonStr.isi {K : PySem.W.Frag} {H : Hp} {v : V} (h : NonStr H v) : ∃ t, TyX K H v t ∧ PySem.W.kitOne K t (.type "str") = some false := by
  rcases h with rfl | ⟨i, rfl⟩ | ⟨b, rfl⟩ | ⟨a, rfl, ⟨xs, z⟩ | ⟨xs, z⟩ | ⟨xs, z⟩⟩
  · exact ⟨_, .base .non, kit_ty (by decide +kernel)⟩
  · exact ⟨_, .base (.int i), kit_ty (by decide +kernel)⟩
  · exact ⟨_, .base (.bl b), kit_ty (by decide +kernel)⟩
  · exact ⟨_, .base (.lst z), kit_ty (by decide +kernel)⟩
  · exact ⟨_, .base (.tup z), kit_ty (by decide +kernel)⟩
  · exact ⟨_, .base (.dK z), kit_ty (by decide +kernel)⟩
def txtV (x : List Nat) : V := .str (txt x)
def rInSg : R2 := fun x y H Q => ∃ (c : Nat) (z : Str), x = .str ⟨#[c]⟩ ∧ y = .str z ∧ Q (.bl (decide (c ∈ z.cps.toList))) H
theorem in26 (c : Nat) : c ∈ (Str.ofString "abcdefghijklmnopqrstuvwxyz").cps.toList ↔ 97 ≤ c ∧ c < 123 := by
  rw [abc_codes]
  constructor
  · intro h
    obtain ⟨j, hj, e⟩ := List.mem_map.mp h
    have := List.mem_range.mp hj
    omega
  · intro h
    exact List.mem_map.mpr ⟨c - 97, List.mem_range.mpr (by omega), by omega⟩
def Leaf (d : PyData) : Prop := d.canLay0 = true ∧ d.depth = 0
theorem leaf_lay : ∀ ds : List PyData, (∀ d ∈ ds, Leaf d) → PyData.canLayAll0 ds = true
  | [], _ => rfl
  | d :: ds, h => by
    rw [PyData.canLayAll0, (h d List.mem_cons_self).1, leaf_lay ds fun x hx => h x (List.mem_cons_of_mem _ hx)]
    rfl
theorem leaf_depth : ∀ ds : List PyData, (∀ d ∈ ds, Leaf d) → PyData.depthAll ds = 0
  | [], _ => by simp [PyData.depthAll]
  | d :: ds, h => by
    rw [PyData.depthAll, (h d List.mem_cons_self).2, leaf_depth ds fun x hx => h x (List.mem_cons_of_mem _ hx)]
    rfl
theorem leaf_list {ds : List PyData} (h : ∀ d ∈ ds, Leaf d) : SeqAt.shaped (.list ds) = true := by
  unfold SeqAt.shaped
  rw [PyData.canLay0, leaf_lay ds h, PyData.depth, leaf_depth ds h]
  rfl
theorem leaf_tuple {ds : List PyData} (h : ∀ d ∈ ds, Leaf d) : SeqAt.shaped (.tuple ds) = true := by
  unfold SeqAt.shaped
  rw [PyData.canLay0, leaf_lay ds h, PyData.depth, leaf_depth ds h]
  rfl
theorem leaf_int (i : Int) : Leaf (.int i) := ⟨by simp [PyData.canLay0], by simp [PyData.depth]⟩
theorem leaf_lt {c : Nat} (h : c < 123) : Leaf (.str (lt c)) := ⟨by
    have key : ∀ k : Fin 123, PyData.canLay0 (.str (lt k.val)) = true := by decide +kernel
    exact key ⟨c, h⟩, by simp [PyData.depth]⟩
theorem dp_map {α : Type} {K : PySem.W.Frag} {H : Hp} {f : α → V} {g : α → PyData} (h : ∀ a, Dp K H (f a) (g a)) : ∀ xs : List α, DpAll K H (xs.map f) (xs.map g)
  | [] => .nil
  | a :: xs => .cons (h a) (dp_map h xs)
/-- all letters -/
def Lets (x : List Nat) : Prop := ∀ c ∈ x, 97 ≤ c ∧ c < 123
/-- what a move leads to and tells -/
abbrev Mv := Int × Option (List Nat)
/-- a state: sign, move -/
abbrev Rw := List (Nat × Mv)
def tellV : Option (List Nat) → V
  | none => .non
  | some x => txtV x
def MvAt (H : Hp) (p : Addr) (m : Mv) : Prop := H p = some (.tup [.int m.1, tellV m.2])
def entK (e : Nat × Mv) (p : Addr) : Key × V := (Sum.inr (lt e.1), V.ref p)
def RwAt (H : Hp) (q : Addr) (row : Rw) : Prop := ∃ ps : List Addr, H q = some (.dK (List.zipWith entK row ps)) ∧ Paired (fun p e => MvAt H p e.2) ps row
theorem RwAt.mono {H H' : Hp} {q : Addr} {row : Rw} (e : Same H H') (h : RwAt H q row) : RwAt H' q row := by
  obtain ⟨ps, h1, h2⟩ := h
  exact ⟨ps, e _ _ h1, Paired.mono h2 fun a b g => e _ _ g⟩
/-- what is no list stands -/
def SameN (H H' : Hp) : Prop := ∀ b o, H b = some o → (∀ xs, o ≠ .lst xs) → H' b = some o
theorem Same.n {H H' : Hp} (e : Same H H') : SameN H H' := fun b o h _ => e b o h
theorem SameN.upd {H : Hp} {p : Addr} {xs ys : List V} (h : H p = some (.lst xs)) : SameN H (upd H p (.lst ys)) := fun b o hb no => by
  rw [upd_ne fun z => ?_]
  · exact hb
  · rw [z, h] at hb
    cases hb
    exact no _ rfl
theorem RwAt.nl {H H' : Hp} {q : Addr} {row : Rw} (e : SameN H H') (h : RwAt H q row) : RwAt H' q row := by
  obtain ⟨ps, h1, h2⟩ := h
  exact ⟨ps, e _ _ h1 fun _ => nofun, Paired.mono h2 fun a b g => e _ _ g fun _ => nofun⟩
/-- a name that a move tells -/
def Name (x : List Nat) : Prop := Lets x ∧ 1 ≤ x.length ∧ x.length ≤ 8
/-- the form of a reader, over page signs cs, text signs ts and marks ms -/
structure WfR (cs ts : List Nat) (ms : List (List Nat)) (rows : List Rw) (ends : List Int) (start : Int) : Prop where
  one : 1 ≤ rows.length
  most : rows.length ≤ 12
  nd : ∀ row ∈ rows, (row.map (·.1)).Nodup
  key : ∀ row ∈ rows, ∀ e ∈ row, e.1 ∈ cs
  goal : ∀ row ∈ rows, ∀ e ∈ row, 0 ≤ e.2.1 ∧ e.2.1 < (rows.length : Int)
  told : ∀ row ∈ rows, ∀ e ∈ row, ∀ x, e.2.2 = some x → (∃ c ∈ ts, x = [c]) ∨ x ∈ ms
  end0 : ∀ s ∈ ends, 0 ≤ s ∧ s < (rows.length : Int)
  endN : ends.Nodup
  st0 : 0 ≤ start
  st1 : start < (rows.length : Int)
/-- the letters and marks that are drawn -/
structure Pal (cs ts : List Nat) (ms : List (List Nat)) : Prop where
  csl : Lets cs
  tsl : Lets ts
  msl : ∀ x ∈ ms, Lets x ∧ 2 ≤ x.length ∧ x.length ≤ 8
  csn : cs.length ≤ 6
  tsn : ts.length ≤ 4
  msn : ms.length ≤ 6
end SS
set_option maxRecDepth 100000
set_option maxHeartbeats 4000000
namespace SS
open PySem L2 SR TL
theorem inV_txts (y : List Nat) (ms : List (List Nat)) : inV (txtV y) (ms.map txtV) = decide (y ∈ ms) := by
  unfold inV
  induction ms with
  | nil => simp
  | cons a as ih =>
    rw [List.map_cons, List.any_cons, ih]
    show ((txt a == txt y) || decide (y ∈ as)) = _
    by_cases h : a = y
    · subst h; simp
    · have : (txt a == txt y) = false := beq_eq_false_iff_ne.mpr fun z => h (txt_inj z)
      rw [this, Bool.false_or]
      have h' : ¬ y = a := fun z => h z.symm
      simp [h']
theorem flat_txts (ms : List (List Nat)) : (ms.map txtV).all flatV = true := by
  rw [List.all_eq_true]
  intro v hv
  obtain ⟨y, _, rfl⟩ := List.mem_map.mp hv
  rfl
theorem len_subG {α : Type} [DecidableEq α] : ∀ (l D : List α), l.Nodup → (∀ x ∈ l, x ∈ D) → l.length ≤ D.length
  | [], _, _, _ => Nat.zero_le _
  | x :: l, D, nd, h => by
    obtain ⟨n1, n2⟩ := List.nodup_cons.mp nd
    have hx := h x List.mem_cons_self
    have := len_subG l (D.erase x) n2 fun y hy => (List.mem_erase_of_ne (fun (e : y = x) => n1 (e ▸ hy))).mpr (h y (List.mem_cons_of_mem _ hy))
    rw [List.length_erase_of_mem hx] at this
    have hpos : 0 < D.length := List.length_pos_of_mem hx
    show l.length + 1 ≤ D.length
    omega
end SS
set_option maxRecDepth 100000
set_option maxHeartbeats 4000000
namespace SS
open PySem L2 SR TL
/-- rows as they grow -/
def RowOk (cs ts : List Nat) (ms : List (List Nat)) (n : Nat) (row : Rw) : Prop := (row.map (·.1)).Nodup ∧ ∀ e ∈ row, e.1 ∈ cs ∧ (0 ≤ e.2.1 ∧ e.2.1 < (n : Int)) ∧ ∀ z, e.2.2 = some z → (∃ c ∈ ts, z = [c]) ∨ z ∈ ms
end SS
set_option maxRecDepth 100000
set_option maxHeartbeats 4000000
namespace SS
open PySem L2 SR TL
theorem wf_rows {cs ts : List Nat} {ms : List (List Nat)} {rows : List Rw} {ends : List Int} {start : Int} (h1 : 1 ≤ rows.length) (h12 : rows.length ≤ 12) (h : ∀ row ∈ rows, RowOk cs ts ms rows.length row) (he : ∀ s ∈ ends, 0 ≤ s ∧ s < (rows.length : Int)) (hn : ends.Nodup) (s0 : 0 ≤ start) (s1 : start < (rows.length : Int)) : WfR cs ts ms rows ends start :=
  ⟨h1, h12, fun row hr => (h row hr).1, fun row hr e h' => ((h row hr).2 e h').1, fun row hr e h' => ((h row hr).2 e h').2.1, fun row hr e h' => ((h row hr).2 e h').2.2, he, hn, s0, s1⟩
end SS
set_option maxRecDepth 100000
set_option maxHeartbeats 4000000
namespace SS
open PySem L2 SR TL
theorem paired_at {α β : Type} {R : α → β → Prop} : ∀ {xs : List α} {ys : List β}, Paired R xs ys → ∀ {i : Nat} {x : α} {y : β}, xs[i]? = some x → ys[i]? = some y → R x y
  | _, _, .nil, i, x, y, h, _ => by simp at h
  | _, _, .cons r _, 0, x, y, h1, h2 => by cases h1; cases h2; exact r
  | _, _, .cons _ t, i + 1, x, y, h1, h2 => paired_at t (by simpa using h1) (by simpa using h2)
/-- an entry of a state's dict -/
def EntAt (H : Hp) (kv : Key × V) (e : Nat × Mv) : Prop := kv.1 = Sum.inr (lt e.1) ∧ ∃ p, kv.2 = V.ref p ∧ MvAt H p e.2
theorem rw_iff {H : Hp} {q : Addr} {row : Rw} : RwAt H q row ↔ ∃ kvs, H q = some (.dK kvs) ∧ Paired (EntAt H) kvs row := by
  constructor
  · rintro ⟨ps, h1, h2⟩
    refine ⟨_, h1, ?_⟩
    clear h1
    induction h2 with
    | nil => exact .nil
    | cons r _ ih => exact .cons ⟨rfl, _, rfl, r⟩ ih
  · rintro ⟨kvs, h1, h2⟩
    have key : ∀ {kvs : List (Key × V)} {row : Rw}, Paired (EntAt H) kvs row → ∃ ps : List Addr, kvs = List.zipWith entK row ps ∧ Paired (fun p e => MvAt H p e.2) ps row := by
      intro kvs row h
      induction h with
      | nil => exact ⟨[], rfl, .nil⟩
      | @cons kv e _ _ r _ ih =>
        obtain ⟨ps, h1, h2⟩ := ih
        obtain ⟨k1, p, k2, k3⟩ := r
        refine ⟨p :: ps, ?_, .cons k3 h2⟩
        rw [h1]
        show kv :: _ = entK e p :: _
        rw [show kv = entK e p from Prod.ext k1 k2]
    obtain ⟨ps, rfl, h⟩ := key h2
    exact ⟨ps, h1, h⟩
theorem lt_inj {a b : Nat} (h : lt a = lt b) : a = b := by
  have := congrArg (fun z : Str => z.cps.toList) h
  simpa [lt] using this
def dropR (row : Rw) (c : Nat) : Rw := row.filter fun e => decide (e.1 ≠ c)
theorem RowOk.drop {cs ts : List Nat} {ms : List (List Nat)} {n c : Nat} {row : Rw} (h : RowOk cs ts ms n row) : RowOk cs ts ms n (dropR row c) := by
  refine ⟨h.1.sublist (List.Sublist.map _ List.filter_sublist), fun e he => h.2 e (List.mem_filter.mp he).1⟩
theorem WfR.row {cs ts : List Nat} {ms : List (List Nat)} {rows : List Rw} {ends : List Int} {start : Int} (W : WfR cs ts ms rows ends start) {row : Rw} (h : row ∈ rows) : RowOk cs ts ms rows.length row := ⟨W.nd row h, fun e he => ⟨W.key row h e he, W.goal row h e he, W.told row h e he⟩⟩
theorem WfR.set {cs ts : List Nat} {ms : List (List Nat)} {rows : List Rw} {ends : List Int} {start : Int} (W : WfR cs ts ms rows ends start) {i : Nat} {row : Rw} (h : RowOk cs ts ms rows.length row) : WfR cs ts ms (rows.set i row) ends start := by
  have hl : (rows.set i row).length = rows.length := List.length_set
  refine wf_rows (by rw [hl]; exact W.one) (by rw [hl]; exact W.most) (fun r hr => ?_) (by rw [hl]; exact W.end0) W.endN W.st0 (by rw [hl]; exact W.st1)
  rw [hl]
  rcases List.mem_or_eq_of_mem_set hr with z | z
  · exact W.row z
  · rw [z]; exact h
end SS
set_option maxRecDepth 100000
set_option maxHeartbeats 4000000
namespace SS
open PySem L2 SR TL
end SS
set_option maxRecDepth 100000
set_option maxHeartbeats 4000000
namespace SR
open PySem PySem.Spec PyProof.Rows L2
def KTup (K : PySem.W.Frag) (a : Addr) (xs : List V) : Prop := ∃ (o : Obj) (its : Array Value) (n : Nat), K.lookup a = some o ∧ o.cls = .type "tuple" ∧ o.data = .seq its n ∧ its.size ≤ sizeLine ∧ Vals xs its.toList
def LoQ (K : PySem.W.Frag) (H : Hp) (a : Addr) (xs : List V) : Prop := LoT H a xs ∨ KTup K a xs
theorem LoQ.mono {K : PySem.W.Frag} {H H' : Hp} {a : Addr} {xs : List V} (e : Same H H') (h : LoQ K H a xs) : LoQ K H' a xs := h.imp (·.mono e) id
theorem LoQ.seq {K : PySem.W.Frag} {H : Hp} {a : Addr} {xs : List V} (h : LoQ K H a xs) : SqL K H a xs ∨ SqT K H a xs := h.elim LoT.seq fun k => .inr (.inr k)
theorem isi_LQ {K : PySem.W.Frag} {H : Hp} {a : Addr} {xs : List V} (h : LoQ K H a xs) : ∃ t, TyX K H (.ref a) t ∧ PySem.W.kitAny K t [.type "list", .type "tuple"] = some true := by
  rcases h with h | ⟨o, its, n, h1, h2, _⟩
  · exact isi_LT h
  · exact ⟨_, .kTuple h1 h2, kitAny_cons (kit_ty (b := "list") (r := false) (by decide +kernel)) (fun _ => kitAny_cons (kit_ty (b := "tuple") (r := true) (by decide +kernel)) nofun fun _ => rfl) nofun⟩
def iLoQ (K : PySem.W.Frag) (tl : TE) : TI := fun σ H R => tl σ H fun x H1 => ∃ a xs, x = .ref a ∧ LoQ K H1 a xs ∧ ∀ (J : It) (G : Hp → Prop), Walk J xs.length G (YAt xs) → (∀ H', Same H1 H' → G H') → R J H1
theorem pi_loq {X : Cx} {tg l : Expr} {tl : TE} (hl : PE X l tl) : PI X tg l (iLoQ X.K tl) := by
  refine ⟨fun pins s σ H R I h => ?_⟩
  refine thn (hl.run pins s σ H _ I h) fun v s1 ⟨x, H1, I1, r1, q1⟩ => ?_
  obtain ⟨a, xs, e, hq, q⟩ := q1
  subst e
  cases r1
  have tp : ∀ hq' : SqT X.K H1 a xs, (∀ H', Same H1 H' → SqT X.K H' a xs) → wpAny (model X.prog X.w) X.A (pyIter (.ref a)) (PIE X pins σ tg R) X.xe s1 := fun hq' hs => by
    obtain ⟨its, rv, p, hz⟩ := I1.tuple hq'
    refine wpAny_pyIter_tuple (show s1.heap.IsTuple a its.toArray from p) ?_
    exact pi_one (tk := s1.toks) I1 _ (turn_tuple a _) ⟨_, Heap.get?_push_size _ rfl, rfl, rfl⟩ (q (Itt X.K a) _ walk_tup hs)
  rcases hq with (hq | hq) | hq
  · have hq' : SqL X.K H1 a xs := SqL.of hq
    obtain ⟨its, rv, p, hz⟩ := I1.list hq'
    refine wpAny_pyIter_list p.isList ?_
    exact pi_one (tk := s1.toks) I1 _ (turn_list a _) ⟨_, Heap.get?_push_size _ rfl, rfl, rfl⟩ (q (Itl X.K a) _ walk_list fun H' e => e.seq hq')
  · exact tp (SqT.of hq) fun H' e => SqT.of (e _ _ hq)
  · exact tp (.inr hq) fun H' e => .inr hq
end SR
set_option maxRecDepth 100000
set_option maxHeartbeats 4000000
namespace SS
open PySem L2 SR TL
theorem all_true : ∀ n : Nat, (List.replicate n true).all id = true
  | 0 => rfl
  | n + 1 => by rw [List.replicate_succ, List.all_cons, all_true n]; rfl
/-- the constants of the program -/
structure Cn (mg : Str → Option Value) : Prop where
  letters : ∃ t, mg "LETTERS" = some (.str (Str.ofString "abcdefghijklmnopqrstuvwxyz") t)
  longest : ∃ t, mg "LONGEST_NAME" = some (.int 8 t)
  page : ∃ t, mg "MOST_PAGE_SIGNS" = some (.int 6 t)
  text : ∃ t, mg "MOST_TEXT_SIGNS" = some (.int 4 t)
  marks : ∃ t, mg "MOST_MARKS_readers" = some (.int 6 t)
section
variable {P : Program} {w : World} {K : PySem.W.Frag} {mg : Str → Option Value} {base : Heap}
abbrev nWord : List Str := ["value", "letter"]
abbrev psWord : List Str := ["value"]
theorem scWord : FnScope nWord psWord (defScope sWord) := ⟨rfl, rfl, rfl, by decide +kernel, rfl, by decide +kernel, by decide +kernel⟩
def spWord : Sp := fun vs H Q _ => ∃ v, vs = [v] ∧ ((NonStr H v ∧ Q (.bl false) H) ∨ ∃ x, v = .str (txt x) ∧ x.length ≤ 1000 ∧ ∀ b H', (b = true ↔ Lets x) → Same H H' → Q (.bl b) H')
theorem ok_word {f : Addr} {fd : FuncData} (F : Fun K "is_word" "is_word" sWord f fd) (B : Bl mg) (C : Cn mg) : FnOk P w K mg base CX0 1 f fd ["value"] spWord := by
  obtain ⟨tl, hl⟩ := C.letters
  refine F.ok scWord (fun vs H Q E h => ?_) (fun cdv A outer s H vs Q E hr h => ?_)
  · obtain ⟨v, rfl, _⟩ := h
    rfl
  · obtain ⟨v, rfl, k⟩ := h
    refine ⟨_, pss_one (ps_ret (pe_and (pe_callB call_isi (by rfl) B.isinstance (by decide +kernel) (pa_cons (pv 0) (pa_cons (pe_bltn (v := .ty "str") (by rfl) B.str (by decide +kernel) rfl) pa_nil)))
      (pe_one (pe_callB (cr_all rfl) (by rfl) B.all (by decide +kernel) (pa_cons (pe_lc (own := [("letter", 1)]) (g := gName 1) (tt := tYes) (te := tOp rInSg (tVar 1) (tC (.str (Str.ofString "abcdefghijklmnopqrstuvwxyz")))) rfl scWord.nd (pi_str (pv 0)) (blkOk_by (by kernel_rfl))
        (fun _ _ _ _ _ => pg_name (i := 1) scWord.nd rfl (.inl rfl)) (fun _ _ _ _ _ => pts_nil) (fun _ _ _ _ _ => pe_cmpR op_in_sign (pv 1) (pe_glob rfl hl ⟨tl, rfl⟩) (by rfl))) pa_nil))))), ?_⟩
    rcases k with ⟨hn, k⟩ | ⟨x, rfl, hx, k⟩
    · obtain ⟨t, h1, h2⟩ := hn.isi (K := K)
      exact ⟨_, rfl, _, _, t, _, false, rfl, .ty "str", h1, h2, false, rfl, k⟩
    · refine ⟨_, rfl, _, _, _, _, true, rfl, .ty "str", .base (.str _), kit_ty (by decide +kernel), true, rfl, ?_⟩
      have hz : (txt x).cps.size = x.length := by simp [txt]
      refine ⟨_, rfl, _, rfl, fun D hD => lc_S walk_str hD (by rw [hz]; omega) (fun i acc _ => acc = ((x.take i).map fun c => decide (97 ≤ c ∧ c < 123)).map V.bl) (fun _ _ _ _ _ _ _ h => h) rfl (fun _ _ => trivial) ?_ ?_⟩
      · rintro i v H3 H3' acc Qt Qf hi e3 hd rfl ⟨rfl, c, hc, rfl⟩ kt kf
        have hc' : x[i]? = some c := by simpa [txt] using hc
        refine ⟨rfl, _, rfl, c, _, rfl, rfl, kt _ _ (Same.refl _) ?_⟩
        have et : x.take (i + 1) = x.take i ++ [c] := by rw [List.take_add_one, hc']; rfl
        rw [et, List.map_append, List.map_append]
        have : decide (c ∈ (Str.ofString "abcdefghijklmnopqrstuvwxyz").cps.toList) = decide (97 ≤ c ∧ c < 123) := decide_eq_decide.mpr (in26 c)
        rw [this]
        rfl
      · rintro H1 acc e1 hd rfl
        rw [hz, List.take_length] at hd
        refine ⟨D, _, rfl, SqL.of hd, k _ _ ?_ e1⟩
        rw [List.all_eq_true]
        constructor
        · intro h c hc
          exact of_decide_eq_true (h _ (List.mem_map.mpr ⟨c, hc, rfl⟩))
        · intro h b hb
          obtain ⟨c, hc, rfl⟩ := List.mem_map.mp hb
          exact decide_eq_true (h c hc)
abbrev nSign : List Str := ["value"]
abbrev psSign : List Str := ["value"]
theorem scSign : FnScope nSign psSign (defScope sSign) := ⟨rfl, rfl, rfl, by decide +kernel, rfl, by decide +kernel, by decide +kernel⟩
def spSign : Sp := fun vs H Q _ => ∃ x, vs = [txtV x] ∧ Lets x ∧ x.length ≤ 1000 ∧ ∀ H', Same H H' → Q (.bl (decide (x.length = 1))) H'
theorem ok_sign {f : Addr} {fd : FuncData} (F : Fun K "is_sign" "is_sign" sSign f fd) (B : Bl mg) (Wd : Cal P w K mg base "is_word" 1 ["value"] spWord) : FnOk P w K mg base CX0 2 f fd ["value"] spSign := by
  refine F.ok scSign (fun vs H Q E h => ?_) (fun cdv A outer s H vs Q E hr h => ?_)
  · obtain ⟨x, rfl, _⟩ := h
    rfl
  · obtain ⟨x, rfl, hx, hl, k⟩ := h
    refine ⟨_, pss_one (ps_ret (pe_and (pe_cal Wd hr (pa_cons (pv 0) pa_nil)) (pe_one (pe_cmpR op_eq (pe_callB call_len_str (by rfl) B.len boot_len (pa_cons (pv 0) pa_nil)) pe_int (nomark _))))), ?_⟩
    refine ⟨_, rfl, _, rfl, .inr ⟨x, rfl, hl, fun b H1 hb e1 => ?_⟩⟩
    have hb' : b = true := hb.mpr hx
    subst hb'
    refine ⟨true, rfl, ?_⟩
    refine ⟨_, rfl, _, rfl, by rw [txt_len, sizeLine_eq]; omega, rfl, ?_⟩
    rw [show decide (V.int ((txt x).length : Nat) = V.int 1) = decide (x.length = 1) by
      rw [txt_len, decide_eq_decide]
      exact ⟨fun h => by have := V.int.inj h; omega, fun h => by rw [h]; rfl⟩]
    exact k _ e1
abbrev nMark : List Str := ["value"]
abbrev psMark : List Str := ["value"]
theorem scMark : FnScope nMark psMark (defScope sMark) := ⟨rfl, rfl, rfl, by decide +kernel, rfl, by decide +kernel, by decide +kernel⟩
def spMark : Sp := fun vs H Q _ => ∃ x, vs = [txtV x] ∧ Lets x ∧ x.length ≤ 1000 ∧ ∀ H', Same H H' → Q (.bl (decide (1 < x.length ∧ x.length ≤ 8))) H'
theorem ok_mark {f : Addr} {fd : FuncData} (F : Fun K "is_mark" "is_mark" sMark f fd) (B : Bl mg) (C : Cn mg) (Wd : Cal P w K mg base "is_word" 1 ["value"] spWord) : FnOk P w K mg base CX0 2 f fd ["value"] spMark := by
  obtain ⟨tl, hlo⟩ := C.longest
  refine F.ok scMark (fun vs H Q E h => ?_) (fun cdv A outer s H vs Q E hr h => ?_)
  · obtain ⟨x, rfl, _⟩ := h
    rfl
  · obtain ⟨x, rfl, hx, hl, k⟩ := h
    refine ⟨_, pss_one (ps_ret (pe_and (pe_cal Wd hr (pa_cons (pv 0) pa_nil)) (pe_one (pe_chain op_lt op_le pe_int (pe_callB call_len_str (by rfl) B.len boot_len (pa_cons (pv 0) pa_nil)) (pe_glob (v := .int 8) rfl hlo ⟨tl, rfl⟩))))), ?_⟩
    refine ⟨_, rfl, _, rfl, .inr ⟨x, rfl, hl, fun b H1 hb e1 => ?_⟩⟩
    have hb' : b = true := hb.mpr hx
    subst hb'
    refine ⟨true, rfl, ?_⟩
    refine ⟨_, rfl, _, rfl, by rw [txt_len, sizeLine_eq]; omega, _, _, rfl, rfl, _, rfl, ?_⟩
    rw [txt_len]
    by_cases h1 : 1 < x.length
    · rw [show decide ((1 : Int) < (x.length : Nat)) = true from decide_eq_true (by omega)]
      refine ⟨_, _, rfl, rfl, ?_⟩
      show Q (.bl (decide (((x.length : Nat) : Int) ≤ 8))) _
      rw [show decide (((x.length : Nat) : Int) ≤ 8) = decide (1 < x.length ∧ x.length ≤ 8) by rw [decide_eq_decide]; omega]
      exact k _ e1
    · rw [show decide ((1 : Int) < (x.length : Nat)) = false from decide_eq_false (by omega)]
      have := k _ e1
      rw [show decide (1 < x.length ∧ x.length ≤ 8) = false from decide_eq_false (by omega)] at this
      exact this
abbrev nName : List Str := ["value"]
abbrev psName : List Str := ["value"]
theorem scName : FnScope nName psName (defScope sName) := ⟨rfl, rfl, rfl, by decide +kernel, rfl, by decide +kernel, by decide +kernel⟩
def spName : Sp := fun vs H Q _ => ∃ x, vs = [txtV x] ∧ Lets x ∧ x.length ≤ 1000 ∧ ∀ H', Same H H' → Q (.bl (decide (1 ≤ x.length ∧ x.length ≤ 8))) H'
theorem ok_name {f : Addr} {fd : FuncData} (F : Fun K "is_name" "is_name" sName f fd) (Sg : Cal P w K mg base "is_sign" 2 ["value"] spSign) (Mk : Cal P w K mg base "is_mark" 2 ["value"] spMark) : FnOk P w K mg base CX0 3 f fd ["value"] spName := by
  refine F.ok scName (fun vs H Q E h => ?_) (fun cdv A outer s H vs Q E hr h => ?_)
  · obtain ⟨x, rfl, _⟩ := h
    rfl
  · obtain ⟨x, rfl, hx, hl, k⟩ := h
    refine ⟨_, pss_one (ps_ret (pe_or (pe_cal Sg hr (pa_cons (pv 0) pa_nil)) (pe_one (pe_cal Mk hr (pa_cons (pv 0) pa_nil))))), ?_⟩
    refine ⟨_, rfl, x, rfl, hx, hl, fun H1 e1 => ⟨_, rfl, ite2 (fun h => ?_) (fun h => ?_)⟩⟩
    · have := k _ e1
      rw [show decide (1 ≤ x.length ∧ x.length ≤ 8) = true from decide_eq_true (by have := of_decide_eq_true h; omega)] at this
      exact this
    · refine ⟨_, rfl, x, rfl, hx, hl, fun H2 e2 => ?_⟩
      have h' : ¬ x.length = 1 := fun z => h (decide_eq_true z)
      have := k _ (e1.trans e2)
      rw [show decide (1 ≤ x.length ∧ x.length ≤ 8) = decide (1 < x.length ∧ x.length ≤ 8) by rw [decide_eq_decide]; omega] at this
      exact this
abbrev nNum : List Str := ["value", "limit"]
abbrev psNum : List Str := ["value", "limit"]
theorem scNum : FnScope nNum psNum (defScope sNum) := ⟨rfl, rfl, rfl, by decide +kernel, rfl, by decide +kernel, by decide +kernel⟩
def spNum : Sp := fun vs H Q _ => ∃ i m, vs = [.int i, .int m] ∧ 0 ≤ i ∧ i < m ∧ Q (.bl true) H
theorem ok_num {f : Addr} {fd : FuncData} (F : Fun K "is_below" "is_below" sNum f fd) (B : Bl mg) : FnOk P w K mg base CX0 1 f fd ["value", "limit"] spNum := by
  refine F.ok scNum (fun vs H Q E h => ?_) (fun cdv A outer s H vs Q E hr h => ?_)
  · obtain ⟨i, m, rfl, _⟩ := h
    rfl
  · obtain ⟨i, m, rfl, i0, i1, k⟩ := h
    refine ⟨_, pss_one (ps_ret (pe_and (pe_callB call_isi (by rfl) B.isinstance (by decide +kernel) (pa_cons (pv 0) (pa_cons (pe_bltn (v := .ty "int") (by rfl) B.int (by decide +kernel) rfl) pa_nil)))
      (pe_and (pe_not (pe_callB call_isi (by rfl) B.isinstance (by decide +kernel) (pa_cons (pv 0) (pa_cons (pe_bltn (v := .ty "bool") (by rfl) B.bool (by decide +kernel) rfl) pa_nil))))
        (pe_one (pe_chain op_le op_lt pe_int (pv 0) (pv 1)))))), ?_⟩
    refine ⟨_, rfl, _, _, _, _, true, rfl, .ty "int", .base (.int i), kit_ty (by decide +kernel), true, rfl, ?_⟩
    refine ⟨_, rfl, _, _, _, _, false, rfl, .ty "bool", .base (.int i), kit_ty (by decide +kernel), false, rfl, true, rfl, ?_⟩
    refine ⟨_, rfl, _, _, rfl, rfl, _, rfl, ?_⟩
    rw [decide_eq_true i0]
    refine ⟨_, rfl, _, _, rfl, rfl, ?_⟩
    show Q (.bl (decide (i < m))) H
    rw [decide_eq_true i1]
    exact k
abbrev nSta : List Str := ["value", "limit", "one"]
abbrev psSta : List Str := ["value", "limit"]
theorem scSta : FnScope nSta psSta (defScope sSta) := ⟨rfl, rfl, rfl, by decide +kernel, rfl, by decide +kernel, by decide +kernel⟩
def spSta (K : PySem.W.Frag) : Sp := fun vs H Q _ => ∃ (a : Addr) (m : Int) (es : List Int), vs = [.ref a, .int m] ∧ es.length ≤ 100 ∧ es.Nodup ∧ (∀ g ∈ es, 0 ≤ g ∧ g < m) ∧ LoQ K H a (es.map .int) ∧ ∀ H', Same H H' → Q (.bl true) H'
theorem ok_sta {f : Addr} {fd : FuncData} (F : Fun K "are_different" "are_different" sSta f fd) (B : Bl mg) (N : Cal P w K mg base "is_below" 1 ["value", "limit"] spNum) : FnOk P w K mg base CX0 2 f fd ["value", "limit"] (spSta K) := by
  refine F.ok scSta (fun vs H Q E h => ?_) (fun cdv A outer s H vs Q E hr h => ?_)
  · obtain ⟨a, m, es, rfl, _⟩ := h
    rfl
  · obtain ⟨a, m, es, rfl, hl, nd, hg, ha, k⟩ := h
    refine ⟨_, pss_cons (ps_if (PW.pt (pw_or (pt_not (pt_val (pe_callB call_isiT (by rfl) B.isinstance (by decide +kernel) (pa_cons (pv 0) (pa_cons (pe_tup (pa_cons (pe_bltn (v := .ty "list") (by rfl) B.list (by decide +kernel) rfl) (pa_cons (pe_bltn (v := .ty "tuple") (by rfl) B.tuple (by decide +kernel) rfl) pa_nil))) pa_nil)))))
          (pw_or1 (pt_not (pt_val (pe_callB (cr_all rfl) (by rfl) B.all (by decide +kernel) (pa_cons (pe_lc (own := [("one", 2)]) (g := gName 2) (tt := tYes) (te := tCall spNum [] E0 (tCons (tVar 2) (tCons (tVar 1) tNil))) rfl scSta.nd (pi_loq (pv 0)) (blkOk_by (by kernel_rfl))
            (fun _ _ _ _ _ => pg_name (i := 2) scSta.nd rfl (.inl rfl)) (fun _ _ _ _ _ => pts_nil) (fun _ _ _ _ _ => pe_cal N hr (pa_cons (pv 2) (pa_cons (pv 1) pa_nil)))) pa_nil)))))))
        (pss_one (ps_ret pe_bl)) pss_nil)
      (pss_one (ps_ret (pe_cmpR op_eq (pe_callB cr_lenK (by rfl) B.len boot_len (pa_cons (pe_callTy (cr_setK rfl) (by rfl) B.set (by decide +kernel) (pa_cons (pv 0) pa_nil)) pa_nil)) (pe_callB call_len_seq (by rfl) B.len boot_len (pa_cons (pv 0) pa_nil)) (nomark _)))), ?_⟩
    refine ⟨_, rfl, (by show 2 ≤ sizeLine; decide), fun T hT => ?_⟩
    have e0 : Same H (upd H T (.tup [.ty "list", .ty "tuple"])) := same_new hT
    obtain ⟨t, ty, kt⟩ := isi_LQ (K := K) (ha.mono e0)
    refine ⟨_, T, _, t, _, true, rfl, upd_same, .cons (.ty _) (.cons (.ty _) .nil), ty, kt, true, rfl, ?_⟩
    refine ⟨_, rfl, a, _, rfl, ha.mono e0, fun J G wk hG D hD => lc_S wk hD (by rw [List.length_map]; omega) (fun i acc _ => acc = (List.replicate i true).map V.bl) (fun _ _ _ _ _ _ _ h => h) rfl hG ?_ ?_⟩
    · rintro i v H3 H3' acc Qt Qf hi e3 hd rfl ⟨rfl, hv⟩ kt kf
      rw [List.getElem?_map] at hv
      obtain ⟨g, hg', rfl⟩ := Option.map_eq_some_iff.mp hv
      have hgm := hg g (List.mem_of_getElem? hg')
      refine ⟨rfl, _, rfl, _, rfl, _, _, rfl, hgm.1, hgm.2, kt _ _ (Same.refl _) ?_⟩
      rw [List.replicate_succ', List.map_append]
      rfl
    · rintro H1 acc e1 hd rfl
      refine ⟨D, _, rfl, SqL.of hd, _, rfl, ?_⟩
      rw [all_true]
      have e01 := e0.trans e1
      refine ⟨_, rfl, es.map Sum.inl, .inl ⟨a, rfl, ?_⟩, by rw [List.length_map]; omega, fun p l hp ndl hm hll => ?_⟩
      · have := (ha.mono e01).seq
        rw [show (es.map Sum.inl).map kV = es.map V.int by rw [List.map_map]; rfl]
        exact this
      · have pm : l.Perm (es.map Sum.inl) := (List.perm_ext_iff_of_nodup ndl (List.Pairwise.map _ (fun a b hab e => hab (Sum.inl.inj e)) nd)).mpr hm
        have e2 := e01.trans (same_new (o := SetMO w p l) hp)
        refine ⟨p, l, rfl, upd_same, _, rfl, a, _, rfl, (ha.mono e2).seq, rfl, ?_⟩
        have hh : decide (V.int (l.length : Nat) = V.int ((es.map V.int).length : Nat)) = true := decide_eq_true (by rw [pm.length_eq, List.length_map, List.length_map])
        show Q (.bl (decide (V.int (l.length : Nat) = V.int ((es.map V.int).length : Nat)))) _
        rw [hh]
        exact k _ e2
end
end SS
set_option maxRecDepth 100000
set_option maxHeartbeats 4000000
namespace SS
open PySem L2 SR TL
theorem lock_same {H H' : Hp} {q : Addr} {u : HO} {od : Obj} (h : H q = some u) (e : Same (upd H q (.frz od u)) H') : Same H (upd H' q u) := fun b o hb => by
  by_cases hq : b = q
  · subst hq
    rw [upd_same, ← hb, h]
  · rw [upd_ne hq]
    exact e _ _ (by rw [upd_ne hq]; exact hb)
theorem lock_get {H : Hp} {q b : Addr} {u o : HO} {od : Obj} (h : H q = some u) (hb : H b = some o) (n : u ≠ o) : (upd H q (.frz od u)) b = some o := by
  rw [upd_ne fun z => ?_]
  · exact hb
  · rw [z, h] at hb
    exact n (Option.some.inj hb)
theorem tell_non {o : Option (List Nat)} : decide (tellV o = V.non) = decide (o = none) := by
  cases o with
  | none => rfl
  | some x => exact (decide_eq_false (by intro z; cases z)).trans (decide_eq_false (by intro z; cases z)).symm
section
variable {P : Program} {w : World} {K : PySem.W.Frag} {mg : Str → Option Value} {base : Heap}
abbrev nMove : List Str := ["value", "many"]
abbrev psMove : List Str := ["value", "many"]
theorem scMove : FnScope nMove psMove (defScope sMove) := ⟨rfl, rfl, rfl, by decide +kernel, rfl, by decide +kernel, by decide +kernel⟩
def spMove : Sp := fun vs H Q _ => ∃ (p : Addr) (m : Mv) (n : Int), vs = [.ref p, .int n] ∧ MvAt H p m ∧ 0 ≤ m.1 ∧ m.1 < n ∧ (∀ x, m.2 = some x → Name x) ∧ ∀ H', Same H H' → Q (.bl true) H'
theorem ok_move {f : Addr} {fd : FuncData} (F : Fun K "is_move" "is_move" sMove f fd) (B : Bl mg) (N : Cal P w K mg base "is_below" 1 ["value", "limit"] spNum) (Nm : Cal P w K mg base "is_name" 3 ["value"] spName) : FnOk P w K mg base CX0 4 f fd psMove spMove := by
  refine F.ok scMove (fun vs H Q E h => ?_) (fun cdv A outer s H vs Q E hr h => ?_)
  · obtain ⟨p, m, n, rfl, _⟩ := h
    rfl
  · obtain ⟨p, m, n, rfl, hp, g0, g1, hx, k⟩ := h
    have hr1 := hr.mono (by decide : 1 ≤ 3)
    refine ⟨_, pss_cons (ps_if (PW.pt (pw_or (pt_not (pt_val (pe_callB call_isi (by rfl) B.isinstance (by decide +kernel) (pa_cons (pv 0) (pa_cons (pe_bltn (v := .ty "tuple") (by rfl) B.tuple (by decide +kernel) rfl) pa_nil))))) (pw_or (pt_cmpR op_ne (pe_callB call_len_seq (by rfl) B.len boot_len (pa_cons (pv 0) pa_nil)) pe_int (nomark _)) (pw_or1 (pt_not (pt_val (pe_cal N hr1 (pa_cons (pe_ix ix_tup (pv 0) pe_int (fun _ _ => rfl)) (pa_cons (pv 1) pa_nil)))))))))
        (pss_one (ps_ret pe_bl)) pss_nil)
      (pss_one (ps_ret (pe_or (pe_cmpR op_isN (pe_ix ix_tup (pv 0) pe_int (fun _ _ => rfl)) pe_non (nomark _)) (pe_one (pe_cal Nm hr (pa_cons (pe_ix ix_tup (pv 0) pe_int (fun _ _ => rfl)) pa_nil)))))), ?_⟩
    have sp := SqT.of (K := K) hp
    refine ⟨_, rfl, _, _, _, _, true, rfl, .ty "tuple", .base (.tup hp), kit_ty (by decide +kernel), _, rfl, ?_⟩
    refine ⟨_, rfl, p, _, rfl, .inr sp, rfl, _, rfl, ?_⟩
    refine ite2 (fun h => absurd h (by simp)) (fun _ => ?_)
    refine ⟨_, rfl, p, _, _, _, rfl, rfl, sp, rfl, _, rfl, _, _, rfl, g0, g1, _, rfl, iteF ?_⟩
    refine ⟨_, rfl, p, _, _, _, rfl, rfl, sp, rfl, rfl, _, rfl, ?_⟩
    rw [tell_non]
    cases ho : m.2 with
    | none => exact iteT (k _ (Same.refl _))
    | some x =>
      obtain ⟨n1, n2, n3⟩ := hx x ho
      refine iteF ⟨_, rfl, p, _, _, _, rfl, rfl, sp, rfl, x, by rw [ho]; rfl, n1, by omega, fun H' e => ?_⟩
      rw [decide_eq_true (show 1 ≤ x.length ∧ x.length ≤ 8 from ⟨n2, n3⟩)]
      exact k _ e
abbrev nSdi : List Str := ["value", "many", "sign", "move"]
abbrev psSdi : List Str := ["value", "many"]
theorem scSdi : FnScope nSdi psSdi (defScope sSdi) := ⟨rfl, rfl, rfl, by decide +kernel, rfl, by decide +kernel, by decide +kernel⟩
def spSdi : Sp := fun vs H Q _ => ∃ (q : Addr) (row : Rw) (n : Int), vs = [.ref q, .int n] ∧ RwAt H q row ∧ row.length ≤ 100 ∧ (∀ e ∈ row, (97 ≤ e.1 ∧ e.1 < 123) ∧ (0 ≤ e.2.1 ∧ e.2.1 < n) ∧ ∀ x, e.2.2 = some x → Name x) ∧ ∀ H', Same H H' → Q (.bl true) H'
theorem ok_sdi {f : Addr} {fd : FuncData} (F : Fun K "is_state_dict" "is_state_dict" sSdi f fd) (B : Bl mg) (Sg : Cal P w K mg base "is_sign" 2 ["value"] spSign) (Mo : Cal P w K mg base "is_move" 4 psMove spMove) : FnOk P w K mg base CX0 5 f fd psSdi spSdi := by
  refine F.ok scSdi (fun vs H Q E h => ?_) (fun cdv A outer s H vs Q E hr h => ?_)
  · obtain ⟨q, row, n, rfl, _⟩ := h
    rfl
  · obtain ⟨q, row, n, rfl, hq, hl, hrow, k⟩ := h
    have hr2 := hr.mono (by decide : 2 ≤ 4)
    refine ⟨_, pss_one (ps_ret (pe_and (pe_callB call_isi (by rfl) B.isinstance (by decide +kernel) (pa_cons (pv 0) (pa_cons (pe_bltn (v := .ty "dict") (by rfl) B.dict (by decide +kernel) rfl) pa_nil))) (pe_one (pe_callB (cr_all rfl) (by rfl) B.all (by decide +kernel) (pa_cons (pe_lock (pe_lc (own := [("sign", 2), ("move", 3)]) (g := gTup K 2 (gCons (gName 2) (gCons (gName 3) gNil))) (tt := tYes) (te := tAndV (tCall spSign [] E0 (tCons (tVar 2) tNil)) (tCall spMove [] E0 (tCons (tVar 3) (tCons (tVar 1) tNil)))) rfl scSdi.nd (pi_items (pv 0)) (blkOk_by (by kernel_rfl)) (fun _ _ _ _ _ => pg_tup rfl (pgs_cons (pg_name (i := 2) scSdi.nd rfl (.inl rfl)) (pgs_cons (pg_name (i := 3) scSdi.nd rfl (.inl rfl)) pgs_nil))) (fun _ _ _ _ _ => pts_nil) (fun _ _ _ _ _ => pe_and (pe_cal Sg hr2 (pa_cons (pv 2) pa_nil)) (pe_one (pe_cal Mo hr (pa_cons (pv 3) (pa_cons (pv 1) pa_nil))))))) pa_nil))))), ?_⟩
    obtain ⟨kvs, h1, h2⟩ := rw_iff.mp hq
    have hkl : kvs.length = row.length := Paired.length h2
    refine ⟨_, rfl, _, _, _, _, true, rfl, .ty "dict", .base (.dK h1), kit_ty (by decide +kernel), true, rfl, ?_⟩
    refine ⟨q, _, h1, trivial, fun od => ?_⟩
    refine ⟨_, rfl, q, od, kvs, rfl, upd_same, fun D hD => lc_S (walk_items (d := q) (o := od) (kvs := kvs)) hD (by omega) (fun i acc _ => acc = (List.replicate i true).map V.bl) (fun _ _ _ _ _ _ _ h => h) rfl (fun H' e' => e' _ _ upd_same) ?_ ?_⟩
    · rintro i v H3 H3' acc Qt Qf hi e3 hd rfl ⟨T, x, y, rfl, hT, rfl, hx, hy⟩ kt kf
      have hir : i < row.length := by omega
      obtain ⟨kv, hkv, ent⟩ := paired_get i h2 (List.getElem?_eq_getElem hir)
      obtain ⟨en1, p, en2, en3⟩ := ent
      have hx' : x = ltV (row[i]).1 := by
        have := hx
        simp only [hkv, Option.map_some] at this
        rw [← Option.some.inj this, en1]
        rfl
      have hy' : y = .ref p := by
        have := hy
        simp only [hkv, Option.map_some] at this
        rw [← Option.some.inj this, en2]
      subst hx' hy'
      obtain ⟨c0, g0, t0⟩ := hrow _ (List.getElem_mem hir)
      have eT := same_new (o := .tup [ltV (row[i]).1, .ref p]) hT
      refine ⟨T, _, rfl, SqT.of upd_same, rfl, _, _, rfl, _, _, rfl, rfl, rfl, ?_⟩
      refine ⟨_, rfl, [(row[i]).1], rfl, fun c hc => by rw [List.mem_singleton.mp hc]; exact c0, by show 1 ≤ 1000; decide, fun H4 e4 => ⟨_, rfl, iteT ?_⟩⟩
      refine ⟨_, rfl, _, rfl, p, (row[i]).2, n, rfl, e4 _ _ (eT _ _ (e3 _ _ (lock_get h1 en3 (by intro z; cases z)))), g0.1, g0.2, t0, fun H5 e5 => kt _ _ ((eT.trans e4).trans e5) ?_⟩
      rw [List.replicate_succ', List.map_append]
      rfl
    · rintro H1 acc e1 hd rfl
      have nDq : D ≠ q := fun z => by rw [z, upd_same] at hD; cases hD
      refine ⟨e1 _ _ upd_same, D, List.replicate kvs.length true, rfl, SqL.of (by rw [upd_ne nDq]; exact hd), ?_⟩
      rw [all_true]
      exact k _ (lock_same h1 e1)
end
end SS
set_option maxRecDepth 100000
set_option maxHeartbeats 4000000
namespace SS
open PySem L2 SR TL
/-- [.. for row in rows for .. in row], the rows dicts: what is gathered -/
theorem lc2_rows {J : It} {G : Hp → Prop} {ds : List (Addr × List (Key × V))} (w : Walk J ds.length G (YAt (ds.map fun d => V.ref d.1))) {ir : Nat} {vs vs2 : List Nat} {wi2 : TI} {g2 : TG} {tt2 : TT} {te : TE} {σ : St} {H1 : Hp} {D : Addr} {Qd : Hp → Prop} (hD : H1 D = none) (hG : ∀ H, Same H1 H → G H)
    (hds : ∀ d ∈ ds, H1 d.1 = some (.dK d.2)) (part : List (Key × V) → List V) (p0 : part [] = []) (few : ∀ i j d, ds[i]? = some d → j ≤ d.2.length → (((ds.take i).flatMap fun d => part d.2) ++ part (d.2.take j)).length ≤ 1000000)
    (Jk : Addr → Obj → List (Key × V) → It) (Yk : List (Key × V) → Nat → Hp → V → Hp → Prop) (wk : ∀ d od kvs, Walk (Jk d od kvs) kvs.length (fun H => H d = some (.frz od (.dK kvs))) (Yk kvs))
    (hwi : ∀ σ2 H R q od kvs, σ2[ir]? = some (some (.ref q)) → H q = some (.frz od (.dK kvs)) → R (Jk q od kvs) H → wi2 σ2 H R)
    (hst : ∀ d ∈ ds, ∀ (j : Nat) (kv : Key × V), d.2[j]? = some kv → ∀ (v0 : V) (od : Obj) (H : Hp) (y : V) (H6 : Hp) (Qt : V → Hp → Prop) (Qf : Hp → Prop), Same (upd H1 d.1 (.frz od (.dK d.2))) H → Yk d.2 j H y H6 →
      (∀ z H8, Same H H8 → part (d.2.take (j + 1)) = part (d.2.take j) ++ [z] → Qt z H8) → (∀ H8, Same H H8 → part (d.2.take (j + 1)) = part (d.2.take j) → Qf H8) →
      g2 y (wipe ((wipe σ vs).set ir (some v0)) vs2) H6 fun σ3 H7 => wipe σ3 vs2 = wipe ((wipe σ vs).set ir (some v0)) vs2 ∧ tt2 σ3 H7 fun b H8 => if b = true then te σ3 H8 Qt else Qf H8)
    (hσ1 : ∀ v, ((wipe σ vs).set ir (some v))[ir]? = some (some v)) (hσ2 : ∀ v, wipe ((wipe σ vs).set ir (some v)) vs = wipe σ vs)
    (hd : ∀ H, Same H1 H → H D = some (.lst (ds.flatMap fun d => part d.2)) → Qd H) :
    ∃ W : Nat → Nat → Hp → Prop, (∃ m, W 0 m (upd H1 D (.lst []))) ∧ ∀ i m H, W i m H →
      (J.stop i H ∧ Qd H) ∨ (J.go i H ∧ ∃ Nx : Hp → Prop, (∀ H', Nx H' → ∃ m', m' < m ∧ W (i + 1) m' H') ∧ ∀ x H', J.yld i H x H' → gName ir x (wipe σ vs) H' fun σ2 H2 => wipe σ2 vs = wipe σ vs ∧ tYes σ2 H2 fun b H3 =>
        if b = true then (∃ d u, H3 d = some u ∧ Mut (some u) ∧ ∀ od, wi2 σ2 (upd H3 d (.frz od u)) fun J2 H4 => ∃ W2 : Nat → Nat → Hp → Prop, (∃ m, W2 0 m H4) ∧ ∀ j m H5, W2 j m H5 →
          (J2.stop j H5 ∧ H5 d = some (.frz od u) ∧ Nx (upd H5 d u)) ∨ (J2.go j H5 ∧ ∃ N2 : Hp → Prop, (∀ H', N2 H' → ∃ m', m' < m ∧ W2 (j + 1) m' H') ∧ ∀ y H6, J2.yld j H5 y H6 → g2 y (wipe σ2 vs2) H6 fun σ3 H7 => wipe σ3 vs2 = wipe σ2 vs2 ∧ tt2 σ3 H7 fun b H8 =>
            if b = true then te σ3 H8 fun z H9 => ∃ acc, H9 D = some (.lst acc) ∧ acc.length < sizeLine ∧ N2 (upd H9 D (.lst (acc ++ [z]))) else N2 H8)) else Nx H3) := by
  refine ⟨fun i m H => m = ds.length - i ∧ i ≤ ds.length ∧ Same H1 H ∧ H D = some (.lst ((ds.take i).flatMap fun d => part d.2)), ⟨ds.length, by omega, Nat.zero_le _, same_new hD, upd_same⟩, ?_⟩
  rintro i m H ⟨rfl, hi, e, hacc⟩
  by_cases hlt : i < ds.length
  · refine .inr ⟨w.goes i H hlt (hG H e), fun H' => Same H1 H' ∧ H' D = some (.lst ((ds.take (i + 1)).flatMap fun d => part d.2)), fun H' h => ⟨_, by omega, rfl, hlt, h⟩, fun x H' hy => ?_⟩
    obtain ⟨rfl, hx⟩ := w.yields i H x H' hlt (hG H e) hy
    rw [List.getElem?_map, List.getElem?_eq_getElem hlt] at hx
    cases hx
    generalize hq : ds[i] = dd
    have hmem : dd ∈ ds := by rw [← hq]; exact List.getElem_mem hlt
    have hget : ds[i]? = some dd := by rw [List.getElem?_eq_getElem hlt, hq]
    obtain ⟨q, kvs⟩ := dd
    have h1 : H1 q = some (.dK kvs) := hds _ hmem
    refine ⟨hσ2 _, q, _, e _ _ h1, trivial, fun od => hwi _ _ _ q od kvs (hσ1 _) upd_same ?_⟩
    have nqD : D ≠ q := fun z => by rw [z, h1] at hD; cases hD
    refine ⟨fun j m H => m = kvs.length - j ∧ j ≤ kvs.length ∧ Same (upd H1 q (.frz od (.dK kvs))) H ∧ H D = some (.lst (((ds.take i).flatMap fun d => part d.2) ++ part (kvs.take j))), ⟨kvs.length, by omega, Nat.zero_le _, fun b o hb => ?_, ?_⟩, ?_⟩
    · by_cases hbq : b = q
      · subst hbq
        rw [upd_same] at hb ⊢
        exact hb
      · rw [upd_ne hbq] at hb ⊢
        exact e _ _ hb
    · rw [upd_ne nqD, List.take_zero, p0, List.append_nil]
      exact hacc
    rintro j m H5 ⟨rfl, hj, e5, hacc5⟩
    have hfz : H5 q = some (.frz od (.dK kvs)) := e5 _ _ upd_same
    by_cases hjl : j < kvs.length
    · refine .inr ⟨(wk q od kvs).goes j H5 hjl hfz, fun H' => Same (upd H1 q (.frz od (.dK kvs))) H' ∧ H' D = some (.lst (((ds.take i).flatMap fun d => part d.2) ++ part (kvs.take (j + 1)))), fun H' h => ⟨_, by omega, rfl, hjl, h⟩, fun y H6 hy => ?_⟩
      have hY := (wk q od kvs).yields j H5 y H6 hjl hfz hy
      have hDl : (upd H1 q (.frz od (.dK kvs))) D = none := by rw [upd_ne nqD]; exact hD
      refine hst _ hmem j kvs[j] (List.getElem?_eq_getElem hjl) _ od H5 y H6 _ _ e5 hY (fun z H8 e8 hp => ⟨_, e8 _ _ hacc5, ?_, same_upd (e5.trans e8) hDl, ?_⟩) (fun H8 e8 hp => ⟨e5.trans e8, by rw [hp]; exact e8 _ _ hacc5⟩)
      · exact Nat.lt_of_le_of_lt (few i j (q, kvs) hget hj) (by rw [sizeLine_eq]; decide)
      · rw [upd_same, List.append_assoc, ← hp]
    · have ej : j = kvs.length := by omega
      subst ej
      refine .inl ⟨(wk q od kvs).stops H5 hfz, hfz, lock_same h1 e5, ?_⟩
      rw [upd_ne nqD, List.take_add_one, hget, List.flatMap_append, hacc5, List.take_length]
      simp
  · have ei : i = ds.length := by omega
    subst ei
    exact .inl ⟨w.stops H (hG H e), hd H e (by rw [hacc, List.take_length])⟩
end SS
set_option maxRecDepth 100000
set_option maxHeartbeats 4000000
namespace SS
open PySem L2 SR TL
def rNotN : R2 := fun x y H Q => y = .non ∧ Q (.bl (!decide (x = .non))) H
/-- what the rows tell, as it comes -/
def toldsOf (rows : List Rw) : List (List Nat) := rows.flatMap fun row => row.filterMap fun e => e.2.2
def signsOf (rows : List Rw) : List Nat := rows.flatMap fun row => row.map (·.1)
/-- what the move at v tells -/
def toldV (H : Hp) : V → Option (List Nat)
  | .ref p => match H p with
    | some (.tup [_, .str z]) => some z.cps.toList
    | _ => none
  | _ => none
theorem toldV_of {H : Hp} {p : Addr} {m : Mv} (h : MvAt H p m) : toldV H (.ref p) = m.2 := by
  unfold MvAt at h
  unfold toldV
  cases e : m.2 with
  | none => rw [e] at h; simp only [h]; rfl
  | some x => rw [e] at h; simp only [h, tellV, txtV, txt_codes]
def partT (H : Hp) (kvs : List (Key × V)) : List V := kvs.filterMap fun kv => (toldV H kv.2).map txtV
theorem partT_of {H : Hp} : ∀ {kvs : List (Key × V)} {row : Rw}, Paired (EntAt H) kvs row → partT H kvs = (row.filterMap fun e => e.2.2).map txtV
  | _, _, .nil => rfl
  | _, _, .cons (a := kv) (b := e) r t => by
    obtain ⟨k1, p, k2, k3⟩ := r
    unfold partT
    have ih := partT_of t
    unfold partT at ih
    rw [List.filterMap_cons, List.filterMap_cons, ih, k2, toldV_of k3]
    cases e.2.2 <;> rfl
def partS (kvs : List (Key × V)) : List V := kvs.map fun kv => kV kv.1
theorem partS_of {H : Hp} : ∀ {kvs : List (Key × V)} {row : Rw}, Paired (EntAt H) kvs row → partS kvs = (row.map (·.1)).map ltV
  | _, _, .nil => rfl
  | _, _, .cons (a := kv) (b := e) r t => by
    have ih := partS_of t
    unfold partS at ih ⊢
    rw [List.map_cons, ih, r.1]
    rfl
theorem flat_paired {H : Hp} {part : List (Key × V) → List V} {g : Rw → List V} (hp : ∀ {kvs : List (Key × V)} {row : Rw}, Paired (EntAt H) kvs row → part kvs = g row) : ∀ {ds : List (Addr × List (Key × V))} {rows : List Rw}, Paired (fun d row => Paired (EntAt H) d.2 row) ds rows → (ds.flatMap fun d => part d.2) = rows.flatMap g
  | _, _, .nil => rfl
  | _, _, .cons r t => by rw [List.flatMap_cons, List.flatMap_cons, hp r, flat_paired hp t]
/-- rows laid: a list or a tuple of dicts -/
def RowsL (H : Hp) (a : Addr) (rows : List Rw) : Prop := ∃ qs : List Addr, LoT H a (qs.map .ref) ∧ Paired (RwAt H) qs rows
theorem RowsL.mono {H H' : Hp} {a : Addr} {rows : List Rw} (e : Same H H') (h : RowsL H a rows) : RowsL H' a rows := by
  obtain ⟨qs, h1, h2⟩ := h
  exact ⟨qs, h1.mono e, Paired.mono h2 fun a b g => g.mono e⟩
/-- the dicts of the rows -/
theorem RowsL.ds {H : Hp} {a : Addr} {rows : List Rw} (h : RowsL H a rows) : ∃ ds : List (Addr × List (Key × V)), LoT H a (ds.map fun d => V.ref d.1) ∧ (∀ d ∈ ds, H d.1 = some (.dK d.2)) ∧ Paired (fun d row => Paired (EntAt H) d.2 row) ds rows := by
  obtain ⟨qs, h1, h2⟩ := h
  have key : ∀ {qs : List Addr} {rows : List Rw}, Paired (RwAt H) qs rows → ∃ ds : List (Addr × List (Key × V)), qs = ds.map (·.1) ∧ (∀ d ∈ ds, H d.1 = some (.dK d.2)) ∧ Paired (fun d row => Paired (EntAt H) d.2 row) ds rows := by
    intro qs rows h
    induction h with
    | nil => exact ⟨[], rfl, fun d hd => (nomatch hd), .nil⟩
    | @cons q row _ _ r _ ih =>
      obtain ⟨ds, e1, e2, e3⟩ := ih
      obtain ⟨kvs, k1, k2⟩ := rw_iff.mp r
      refine ⟨(q, kvs) :: ds, by rw [e1]; rfl, fun d hd => ?_, .cons k2 e3⟩
      rcases List.mem_cons.mp hd with rfl | hd
      · exact k1
      · exact e2 d hd
  obtain ⟨ds, e1, e2, e3⟩ := key h2
  exact ⟨ds, by rw [e1, List.map_map] at h1; exact h1, e2, e3⟩
theorem flat_len {α β : Type} {f : α → List β} {b : Nat} : ∀ {l : List α}, (∀ x ∈ l, (f x).length ≤ b) → (l.flatMap f).length ≤ l.length * b
  | [], _ => by simp
  | x :: l, h => by
    rw [List.flatMap_cons, List.length_append, List.length_cons, Nat.succ_mul]
    have := h x List.mem_cons_self
    have := flat_len (l := l) fun y hy => h y (List.mem_cons_of_mem _ hy)
    omega
section
variable {P : Program} {w : World} {K : PySem.W.Frag} {mg : Str → Option Value} {base : Heap}
abbrev nTol : List Str := ["rows", "row", "goal", "told"]
abbrev psTol : List Str := ["rows"]
theorem scTol : FnScope nTol psTol (defScope sTol) := ⟨rfl, rfl, rfl, by decide +kernel, rfl, by decide +kernel, by decide +kernel⟩
def spTol : Sp := fun vs H Q _ => ∃ (a : Addr) (rows : List Rw), vs = [.ref a] ∧ RowsL H a rows ∧ rows.length ≤ 12 ∧ (∀ row ∈ rows, row.length ≤ 6) ∧ (∃ cap : List (List Nat), cap.length < 64 ∧ ∀ x ∈ toldsOf rows, x ∈ cap) ∧
  ∀ (p : Addr) (xs : List (List Nat)) (H' : Hp), H p = none → Same H H' → xs.Nodup → (∀ x, x ∈ xs ↔ x ∈ toldsOf rows) → PyProof.Rows.sortedS (xs.map txt) = true → H' p = some (.lst (xs.map txtV)) → Q (.ref p) H'
theorem ok_tol {f : Addr} {fd : FuncData} (F : Fun K "told_in" "told_in" sTol f fd) (B : Bl mg) : FnOk P w K mg base CX0 1 f fd psTol spTol := by
  refine F.ok scTol (fun vs H Q E h => ?_) (fun cdv A outer s H vs Q E hr h => ?_)
  · obtain ⟨a, rows, rfl, _⟩ := h
    rfl
  · obtain ⟨a, rows, rfl, hR, h12, h6, ⟨cap, hcap, hin⟩, k⟩ := h
    refine ⟨_, pss_one (ps_ret (pe_callB (cr_sortedKS rfl) (by rfl) B.sorted (by decide +kernel) (pa_cons (pe_callTy (cr_setK rfl) (by rfl) B.set (by decide +kernel) (pa_cons (pe_lc2L (own := [("row", 1), ("goal", 2), ("told", 3)]) (vs2 := [2, 3]) (g := gName 1) (tt := tYes) (wi2 := iVals (tVar 1)) (g2 := gTup K 2 (gCons (gName 2) (gCons (gName 3) gNil))) (tt2 := tTest (tOp rNotN (tVar 3) (tC .non))) (te := tVar 3) rfl scTol.nd (pi_lot (pv 0)) (blkOk_by (by kernel_rfl)) (by decide) (fun _ _ _ _ _ => pg_name (i := 1) scTol.nd rfl (.inl rfl)) (fun _ _ _ _ _ => pts_nil) (fun _ _ _ _ _ => pi_values (pv 1)) (fun _ _ _ _ _ => pg_tup rfl (pgs_cons (pg_name (i := 2) scTol.nd rfl (.inl rfl)) (pgs_cons (pg_name (i := 3) scTol.nd rfl (.inl rfl)) pgs_nil))) (fun _ _ _ _ _ => pts_one (pt_cmpR op_notN (pv 3) pe_non (nomark _))) (fun _ _ _ _ _ => pv 3)) pa_nil)) pa_nil))), ?_⟩
    obtain ⟨ds, d1, d2, d3⟩ := hR.ds
    have hdl : ds.length = rows.length := Paired.length d3
    have hkl : ∀ (i : Nat) d row, ds[i]? = some d → rows[i]? = some row → d.2.length = row.length := fun i d row h1 h2 => Paired.length (paired_at d3 h1 h2)
    have hk6 : ∀ d ∈ ds, d.2.length ≤ 6 := fun d hd => by
      obtain ⟨i, hi⟩ := List.mem_iff_getElem?.mp hd
      obtain ⟨row, hrow⟩ : ∃ row, rows[i]? = some row := ⟨_, List.getElem?_eq_getElem (by have := (List.getElem?_eq_some_iff.mp hi).1; omega)⟩
      rw [hkl i d row hi hrow]
      exact h6 row (List.mem_of_getElem? hrow)
    refine ⟨_, rfl, a, _, rfl, d1, fun J G wk hG D hD => ?_⟩
    rw [List.length_map] at wk
    have hpl : ∀ kvs : List (Key × V), (partT H kvs).length ≤ kvs.length := fun kvs => List.length_filterMap_le _ _
    refine lc2_rows wk hD hG d2 (partT H) rfl (fun i j d hd hj => ?_) Itd (fun kvs i H x H' => H' = H ∧ ∃ k, kvs[i]? = some (k, x)) (fun _ _ _ => walk_values) (fun σ2 H R q od kvs hq hfz hR => ⟨_, hq, q, od, kvs, rfl, hfz, hR⟩) ?_ (fun _ => rfl) (fun _ => rfl) ?_
    · have h1 := flat_len (f := fun d : Addr × List (Key × V) => partT H d.2) (b := 6) (l := ds.take i) fun d hd => Nat.le_trans (hpl _) (hk6 d (List.mem_of_mem_take hd))
      have h2 := hpl (d.2.take j)
      have h3 := hk6 d (List.mem_of_getElem? hd)
      rw [List.length_take] at h1 h2
      rw [List.length_append]
      omega
    · rintro d hd j kv hkv v0 od H3 y H6 Qt Qf e3 ⟨rfl, k', hk'⟩ kt kf
      rw [hkv] at hk'
      cases hk'
      obtain ⟨i, hi⟩ := List.mem_iff_getElem?.mp hd
      obtain ⟨row, hrow⟩ : ∃ row, rows[i]? = some row := ⟨_, List.getElem?_eq_getElem (by have := (List.getElem?_eq_some_iff.mp hi).1; omega)⟩
      have pr := paired_at d3 hi hrow
      obtain ⟨e, he, ent⟩ := LiI.paired_get pr hkv
      obtain ⟨k1, p, k2, k3⟩ := ent
      have k2' : y = .ref p := k2
      subst k2'
      have hp3 : MvAt H6 p e.2 := e3 _ _ (lock_get (d2 d hd) k3 (by intro z; cases z))
      refine ⟨p, _, rfl, SqT.of hp3, rfl, _, _, rfl, _, _, rfl, rfl, rfl, ?_⟩
      refine ⟨_, rfl, rfl, _, rfl, ?_⟩
      have et : d.2.take (j + 1) = d.2.take j ++ [(k', .ref p)] := by rw [List.take_add_one, hkv]; rfl
      have ep : partT H (d.2.take (j + 1)) = partT H (d.2.take j) ++ (e.2.2.map txtV).toList := by
        unfold partT
        rw [et, List.filterMap_append]
        congr 1
        simp only [List.filterMap_cons, List.filterMap_nil, toldV_of k3]
        cases e.2.2 <;> rfl
      rw [tell_non]
      cases ho : e.2.2 with
      | none =>
        refine kf _ (Same.refl _) ?_
        rw [ep, ho]
        exact List.append_nil _
      | some x =>
        refine ⟨_, rfl, kt _ _ (Same.refl _) ?_⟩
        rw [ep, ho]
        rfl
    · intro H1 e1 hd1
      rw [flat_paired (g := fun row => (row.filterMap fun e => e.2.2).map txtV) partT_of d3] at hd1
      have hfl : (rows.flatMap fun row => (row.filterMap fun e => e.2.2).map txtV) = (toldsOf rows).map txtV := by
        unfold toldsOf
        rw [List.map_flatMap]
      rw [hfl] at hd1
      have htl : (toldsOf rows).length ≤ 72 := by
        have := flat_len (f := fun row : Rw => row.filterMap fun e => e.2.2) (b := 6) (l := rows) fun row hr => Nat.le_trans (List.length_filterMap_le _ _) (h6 row hr)
        unfold toldsOf
        omega
      refine ⟨(toldsOf rows).map (fun x => (Sum.inr (txt x) : Key)), .inl ⟨D, rfl, .inl (SqL.of (by rw [hd1, List.map_map]; rfl))⟩, by rw [List.length_map]; omega, fun p l hp nd hm hll => ?_⟩
      obtain ⟨xs, rfl, xnd, xm⟩ : ∃ xs : List (List Nat), l = (xs.map txt).map Sum.inr ∧ xs.Nodup ∧ ∀ x, x ∈ xs ↔ x ∈ toldsOf rows := by
        have ex : ∀ l : List Key, (∀ k ∈ l, ∃ x, k = Sum.inr (txt x)) → ∃ xs : List (List Nat), l = (xs.map txt).map Sum.inr := by
          intro l
          induction l with
          | nil => intro _; exact ⟨[], rfl⟩
          | cons k l ih =>
            intro h
            obtain ⟨x, rfl⟩ := h k List.mem_cons_self
            obtain ⟨xs, rfl⟩ := ih fun k' hk' => h k' (List.mem_cons_of_mem _ hk')
            exact ⟨x :: xs, rfl⟩
        obtain ⟨xs, rfl⟩ := ex l fun k hk => by
          obtain ⟨x, _, e⟩ := List.mem_map.mp ((hm k).mp hk)
          exact ⟨x, e.symm⟩
        refine ⟨xs, rfl, ?_, fun x => ?_⟩
        · rw [List.map_map] at nd
          exact List.Pairwise.of_map _ (fun a b h e => h (by rw [e])) nd
        · have := hm (Sum.inr (txt x))
          rw [List.map_map] at this
          constructor
          · intro h
            obtain ⟨y, hy, e⟩ := List.mem_map.mp (this.mp (List.mem_map.mpr ⟨x, h, rfl⟩))
            rw [← txt_inj (Sum.inr.inj e)]
            exact hy
          · intro h
            obtain ⟨y, hy, e⟩ := List.mem_map.mp (this.mpr (List.mem_map.mpr ⟨x, h, rfl⟩))
            rw [← txt_inj (Sum.inr.inj e)]
            exact hy
      have xl : xs.length < 64 := Nat.lt_of_le_of_lt (len_subG xs cap xnd fun x hx => hin x ((xm x).mp hx)) hcap
      refine ⟨p, xs.map txt, rfl, upd_same, by rw [List.length_map]; exact xl, fun ys p2 py so hp2 => ?_⟩
      obtain ⟨zs, rfl⟩ : ∃ zs : List (List Nat), ys = zs.map txt := ⟨ys.map fun y => y.cps.toList, by rw [List.map_map]; exact (List.map_id _).symm.trans (List.map_congr_left fun y _ => txt_of y)⟩
      have pz : zs.Perm xs := by
        have := py.map (fun y : Str => y.cps.toList)
        rw [List.map_map, List.map_map] at this
        have e : ∀ u : List (List Nat), u.map ((fun y : Str => y.cps.toList) ∘ txt) = u := fun u => by
          conv => rhs; rw [← List.map_id u]
          exact List.map_congr_left fun x _ => txt_codes x
        rw [e, e] at this
        exact this
      refine k p2 zs _ ?_ ?_ (pz.nodup_iff.mpr xnd) (fun x => (pz.mem_iff).trans (xm x)) so ?_
      · exact e1.free ((same_new hp).free hp2)
      · exact (e1.trans (same_new hp)).trans (same_new hp2)
      · rw [upd_same, List.map_map]
        rfl
abbrev nSgi : List Str := ["rows", "row", "sign"]
abbrev psSgi : List Str := ["rows"]
theorem scSgi : FnScope nSgi psSgi (defScope sSgi) := ⟨rfl, rfl, rfl, by decide +kernel, rfl, by decide +kernel, by decide +kernel⟩
def spSgi : Sp := fun vs H Q _ => ∃ (a : Addr) (rows : List Rw), vs = [.ref a] ∧ RowsL H a rows ∧ rows.length ≤ 12 ∧ (∀ row ∈ rows, row.length ≤ 6) ∧ (∃ cap : List Nat, cap.length < 64 ∧ ∀ x ∈ signsOf rows, x ∈ cap) ∧
  ∀ (p : Addr) (xs : List Nat) (H' : Hp), H p = none → Same H H' → xs.Nodup → (∀ x, x ∈ xs ↔ x ∈ signsOf rows) → xs.Pairwise (· ≤ ·) → H' p = some (.lst (xs.map ltV)) → Q (.ref p) H'
theorem ok_sgi {f : Addr} {fd : FuncData} (F : Fun K "signs_in" "signs_in" sSgi f fd) (B : Bl mg) : FnOk P w K mg base CX0 1 f fd psSgi spSgi := by
  refine F.ok scSgi (fun vs H Q E h => ?_) (fun cdv A outer s H vs Q E hr h => ?_)
  · obtain ⟨a, rows, rfl, _⟩ := h
    rfl
  · obtain ⟨a, rows, rfl, hR, h12, h6, ⟨cap, hcap, hin⟩, k⟩ := h
    refine ⟨_, pss_one (ps_ret (pe_callB (cr_sortedKS rfl) (by rfl) B.sorted (by decide +kernel) (pa_cons (pe_callTy (cr_setK rfl) (by rfl) B.set (by decide +kernel) (pa_cons (pe_lc2L (own := [("row", 1), ("sign", 2)]) (vs2 := [2]) (g := gName 1) (tt := tYes) (wi2 := iKeys (tVar 1)) (g2 := gName 2) (tt2 := tYes) (te := tVar 2) rfl scSgi.nd (pi_lot (pv 0)) (blkOk_by (by kernel_rfl)) (by decide) (fun _ _ _ _ _ => pg_name (i := 1) scSgi.nd rfl (.inl rfl)) (fun _ _ _ _ _ => pts_nil) (fun _ _ _ _ _ => pi_keys (pv 1)) (fun _ _ _ _ _ => pg_name (i := 2) scSgi.nd rfl (.inl rfl)) (fun _ _ _ _ _ => pts_nil) (fun _ _ _ _ _ => pv 2)) pa_nil)) pa_nil))), ?_⟩
    obtain ⟨ds, d1, d2, d3⟩ := hR.ds
    have hdl : ds.length = rows.length := Paired.length d3
    have hkl : ∀ (i : Nat) d row, ds[i]? = some d → rows[i]? = some row → d.2.length = row.length := fun i d row h1 h2 => Paired.length (paired_at d3 h1 h2)
    have hk6 : ∀ d ∈ ds, d.2.length ≤ 6 := fun d hd => by
      obtain ⟨i, hi⟩ := List.mem_iff_getElem?.mp hd
      obtain ⟨row, hrow⟩ : ∃ row, rows[i]? = some row := ⟨_, List.getElem?_eq_getElem (by have := (List.getElem?_eq_some_iff.mp hi).1; omega)⟩
      rw [hkl i d row hi hrow]
      exact h6 row (List.mem_of_getElem? hrow)
    refine ⟨_, rfl, a, _, rfl, d1, fun J G wk hG D hD => ?_⟩
    rw [List.length_map] at wk
    refine lc2_rows wk hD hG d2 partS rfl (fun i j d hd hj => ?_) Itk (fun kvs i H x H' => H' = H ∧ ∃ k v, kvs[i]? = some (k, v) ∧ x = kV k) (fun _ _ _ => walk_keys) (fun σ2 H R q od kvs hq hfz hR => ⟨_, hq, q, od, rfl, .inl ⟨kvs, hfz, hR⟩⟩) ?_ (fun _ => rfl) (fun _ => rfl) ?_
    · have h1 := flat_len (f := fun d : Addr × List (Key × V) => partS d.2) (b := 6) (l := ds.take i) fun d hd => by unfold partS; rw [List.length_map]; exact hk6 d (List.mem_of_mem_take hd)
      have h3 := hk6 d (List.mem_of_getElem? hd)
      rw [List.length_take] at h1
      rw [List.length_append]
      have h2 : (partS (d.2.take j)).length ≤ 6 := by unfold partS; rw [List.length_map, List.length_take]; omega
      omega
    · rintro d hd j kv hkv v0 od H3 y H6 Qt Qf e3 ⟨rfl, k', v', hk', rfl⟩ kt kf
      rw [hkv] at hk'
      cases hk'
      refine ⟨rfl, _, rfl, kt _ _ (Same.refl _) ?_⟩
      unfold partS
      rw [List.take_add_one, hkv, List.map_append]
      rfl
    · intro H1 e1 hd1
      rw [flat_paired (g := fun row => (row.map (·.1)).map ltV) partS_of d3] at hd1
      have hfl : (rows.flatMap fun row => (row.map (·.1)).map ltV) = (signsOf rows).map ltV := by
        unfold signsOf
        rw [List.map_flatMap]
      rw [hfl] at hd1
      have htl : (signsOf rows).length ≤ 72 := by
        have := flat_len (f := fun row : Rw => row.map (·.1)) (b := 6) (l := rows) fun row hr => by rw [List.length_map]; exact h6 row hr
        unfold signsOf
        omega
      refine ⟨(signsOf rows).map (fun x => (Sum.inr (lt x) : Key)), .inl ⟨D, rfl, .inl (SqL.of (by rw [hd1, List.map_map]; rfl))⟩, by rw [List.length_map]; omega, fun p l hp nd hm hll => ?_⟩
      obtain ⟨xs, rfl, xnd, xm⟩ : ∃ xs : List Nat, l = (xs.map lt).map Sum.inr ∧ xs.Nodup ∧ ∀ x, x ∈ xs ↔ x ∈ signsOf rows := by
        have ex : ∀ l : List Key, (∀ k ∈ l, ∃ x, k = Sum.inr (lt x)) → ∃ xs : List Nat, l = (xs.map lt).map Sum.inr := by
          intro l
          induction l with
          | nil => intro _; exact ⟨[], rfl⟩
          | cons k l ih =>
            intro h
            obtain ⟨x, rfl⟩ := h k List.mem_cons_self
            obtain ⟨xs, rfl⟩ := ih fun k' hk' => h k' (List.mem_cons_of_mem _ hk')
            exact ⟨x :: xs, rfl⟩
        obtain ⟨xs, rfl⟩ := ex l fun k hk => by
          obtain ⟨x, _, e⟩ := List.mem_map.mp ((hm k).mp hk)
          exact ⟨x, e.symm⟩
        refine ⟨xs, rfl, ?_, fun x => ?_⟩
        · rw [List.map_map] at nd
          exact List.Pairwise.of_map _ (fun a b h e => h (by rw [e])) nd
        · have := hm (Sum.inr (lt x))
          rw [List.map_map] at this
          constructor
          · intro h
            obtain ⟨y, hy, e⟩ := List.mem_map.mp (this.mp (List.mem_map.mpr ⟨x, h, rfl⟩))
            rw [← lt_inj (Sum.inr.inj e)]
            exact hy
          · intro h
            obtain ⟨y, hy, e⟩ := List.mem_map.mp (this.mpr (List.mem_map.mpr ⟨x, h, rfl⟩))
            rw [← lt_inj (Sum.inr.inj e)]
            exact hy
      have xl : xs.length < 64 := Nat.lt_of_le_of_lt (len_subG xs cap xnd fun x hx => hin x ((xm x).mp hx)) hcap
      refine ⟨p, xs.map lt, rfl, upd_same, by rw [List.length_map]; exact xl, fun ys p2 py so hp2 => ?_⟩
      obtain ⟨zs, rfl, pz⟩ := perm_lt py
      refine k p2 zs _ ?_ ?_ (pz.nodup_iff.mpr xnd) (fun x => (pz.mem_iff).trans (xm x)) (sorted_lt zs so) ?_
      · exact e1.free ((same_new hp).free hp2)
      · exact (e1.trans (same_new hp)).trans (same_new hp2)
      · rw [upd_same, List.map_map]
        rfl
end
end SS
set_option maxRecDepth 100000
set_option maxHeartbeats 4000000
namespace SS
open PySem L2 SR TL
theorem told_mem {rows : List Rw} {x : List Nat} : x ∈ toldsOf rows ↔ ∃ row ∈ rows, ∃ e ∈ row, e.2.2 = some x := by
  unfold toldsOf
  rw [List.mem_flatMap]
  exact exists_congr fun row => and_congr Iff.rfl List.mem_filterMap
theorem WfR.told_in {cs ts : List Nat} {ms : List (List Nat)} {rows : List Rw} {ends : List Int} {start : Int} (W : WfR cs ts ms rows ends start) {x : List Nat} (h : x ∈ toldsOf rows) : (∃ c ∈ ts, x = [c]) ∨ x ∈ ms := by
  obtain ⟨row, hr, e, he, ex⟩ := told_mem.mp h
  exact W.told row hr e he x ex
theorem WfR.row6 {cs ts : List Nat} {ms : List (List Nat)} {rows : List Rw} {ends : List Int} {start : Int} (W : WfR cs ts ms rows ends start) (A : Pal cs ts ms) {row : Rw} (h : row ∈ rows) : row.length ≤ 6 := by
  have h1 := len_subG (row.map (·.1)) cs (W.nd row h) fun y hy => by
    obtain ⟨e, he, rfl⟩ := List.mem_map.mp hy
    exact W.key row h e he
  rw [List.length_map] at h1
  exact Nat.le_trans h1 A.csn
theorem Pal.name {cs ts : List Nat} {ms : List (List Nat)} (A : Pal cs ts ms) {x : List Nat} (h : (∃ c ∈ ts, x = [c]) ∨ x ∈ ms) : Name x := by
  rcases h with ⟨c, hc, rfl⟩ | h
  · exact ⟨fun b hb => by rw [List.mem_singleton.mp hb]; exact A.tsl c hc, by show 1 ≤ 1; decide, by show 1 ≤ 8; decide⟩
  · obtain ⟨h1, h2, h3⟩ := A.msl x h
    exact ⟨h1, by omega, h3⟩
/-- the class as a name, its constant -/
structure RdM (K : PySem.W.Frag) (mg : Str → Option Value) (C : Addr) : Prop where
  mgC : mg "Reader" = some (.ref C)
  mx : ∃ mc u, ClX.CRead K C mc ∧ ClX.CVal K C mc "MAX_STATES" (.int 12) u
section
variable {P : Program} {w : World} {K : PySem.W.Frag} {mg : Str → Option Value} {base : Heap}
abbrev nPrb : List Str := ["states", "ends", "start", "index", "row", "things", "thing"]
abbrev psPrb : List Str := ["states", "ends", "start"]
theorem scPrb : FnScope nPrb psPrb (defScope sPrb) := ⟨rfl, rfl, rfl, by decide +kernel, rfl, by decide +kernel, by decide +kernel⟩
def spPrb (K : PySem.W.Frag) : Sp := fun vs H Q _ => ∃ (a e : Addr) (cs ts : List Nat) (ms : List (List Nat)) (rows : List Rw) (ends : List Int) (start : Int), vs = [.ref a, .ref e, .int start] ∧ Pal cs ts ms ∧ WfR cs ts ms rows ends start ∧ RowsL H a rows ∧ LoQ K H e (ends.map .int) ∧ ∀ H', Same H H' → Q .non H'
theorem ok_prb {f C : Addr} {fd : FuncData} (F : Fun K "reader_problem" "reader_problem" sPrb f fd) (B : Bl mg) (Cc : Cn mg) (G : RdM K mg C) (Sd : Cal P w K mg base "is_state_dict" 5 psSdi spSdi) (Sa : Cal P w K mg base "are_different" 2 ["value", "limit"] (spSta K)) (N : Cal P w K mg base "is_below" 1 ["value", "limit"] spNum)
    (Si : Cal P w K mg base "signs_in" 1 psSgi spSgi) (To : Cal P w K mg base "told_in" 1 psTol spTol) (Sg : Cal P w K mg base "is_sign" 2 ["value"] spSign) (Mk : Cal P w K mg base "is_mark" 2 ["value"] spMark) : FnOk P w K mg base CX0 6 f fd psPrb (spPrb K) := by
  obtain ⟨tpg, hpg⟩ := Cc.page
  obtain ⟨ttx, htx⟩ := Cc.text
  obtain ⟨tmk, hmk⟩ := Cc.marks
  obtain ⟨mc, mu, cR, cV⟩ := G.mx
  refine F.ok scPrb (fun vs H Q E h => ?_) (fun cdv A outer s H vs Q E hr h => ?_)
  · obtain ⟨a, e, cs, ts, ms, rows, ends, start, rfl, _⟩ := h
    rfl
  · obtain ⟨a, e, cs, ts, ms, rows, ends, start, rfl, PA', W, hR, hE, k⟩ := h
    have hr1 := hr.mono (by decide : 1 ≤ 5)
    have hr2 := hr.mono (by decide : 2 ≤ 5)
    refine ⟨_, pss_cons (ps_if (PW.pt (pw_or (pt_not (pt_val (pe_callB call_isiT (by rfl) B.isinstance (by decide +kernel) (pa_cons (pv 0) (pa_cons (pe_tup (pa_cons (pe_bltn (v := .ty "list") (by rfl) B.list (by decide +kernel) rfl) (pa_cons (pe_bltn (v := .ty "tuple") (by rfl) B.tuple (by decide +kernel) rfl) pa_nil))) pa_nil))))) (pw_or1 (pt_not (pt_chain op_le op_le pe_int (pe_callB call_len_seq (by rfl) B.len boot_len (pa_cons (pv 0) pa_nil)) (ClX.pe_cval (pe_glob (v := .ref C) rfl G.mgC rfl)))))))
        (pss_one (ps_ret (pe_tup (pa_cons pe_str (pa_cons pe_non pa_nil))))) pss_nil)
      (pss_cons (ps_for PassesOwn.never rfl (pi_enumL (by rfl) B.enumerate (pa_cons (pv 0) pa_nil)) (pg_tup rfl (pgs_cons (pg_name (i := 3) scPrb.nd rfl (.inl rfl)) (pgs_cons (pg_name (i := 4) scPrb.nd rfl (.inl rfl)) pgs_nil)))
        (pss_one (ps_if (pt_not (pt_val (pe_cal Sd hr (pa_cons (pv 4) (pa_cons (pe_callB call_len_seq (by rfl) B.len boot_len (pa_cons (pv 0) pa_nil)) pa_nil)))))
        (pss_one (ps_ret (pe_tup (pa_cons pe_str (pa_cons (pv 3) pa_nil))))) pss_nil)))
      (pss_cons (ps_if (pt_not (pt_val (pe_cal Sa hr2 (pa_cons (pv 1) (pa_cons (pe_callB call_len_seq (by rfl) B.len boot_len (pa_cons (pv 0) pa_nil)) pa_nil)))))
        (pss_one (ps_ret (pe_tup (pa_cons pe_str (pa_cons pe_non pa_nil))))) pss_nil)
      (pss_cons (ps_if (pt_not (pt_val (pe_cal N hr1 (pa_cons (pv 2) (pa_cons (pe_callB call_len_seq (by rfl) B.len boot_len (pa_cons (pv 0) pa_nil)) pa_nil)))))
        (pss_one (ps_ret (pe_tup (pa_cons pe_str (pa_cons pe_non pa_nil))))) pss_nil)
      (pss_cons (ps_if (pt_cmpR op_gt (pe_callB call_len_seq (by rfl) B.len boot_len (pa_cons (pe_cal Si hr1 (pa_cons (pv 0) pa_nil)) pa_nil)) (pe_glob (v := .int 6) rfl hpg ⟨tpg, rfl⟩) (nomark _))
        (pss_one (ps_ret (pe_tup (pa_cons pe_str (pa_cons pe_non pa_nil))))) pss_nil)
      (pss_cons (ps_set (i := 5) scPrb.nd rfl (.inl rfl) (pe_cal To hr1 (pa_cons (pv 0) pa_nil)))
      (pss_cons (ps_if (pt_cmpR op_gt (pe_callB call_len_seq (by rfl) B.len boot_len (pa_cons (pe_lc (own := [("thing", 6)]) (g := gName 6) (tt := tB (tCall spSign [] E0 (tCons (tVar 6) tNil))) (te := tVar 6) rfl scPrb.nd (pi_list (pv 5)) (blkOk_by (by kernel_rfl)) (fun _ _ _ _ _ => pg_name (i := 6) scPrb.nd rfl (.inl rfl)) (fun _ _ _ _ _ => pts_one (pt_val (pe_cal Sg hr2 (pa_cons (pv 6) pa_nil)))) (fun _ _ _ _ _ => pv 6)) pa_nil)) (pe_glob (v := .int 4) rfl htx ⟨ttx, rfl⟩) (nomark _))
        (pss_one (ps_ret (pe_tup (pa_cons pe_str (pa_cons pe_non pa_nil))))) pss_nil)
      (pss_one (ps_ret (pe_ifExp (pt_cmpR op_gt (pe_callB call_len_seq (by rfl) B.len boot_len (pa_cons (pe_lc (own := [("thing", 6)]) (g := gName 6) (tt := tB (tCall spMark [] E0 (tCons (tVar 6) tNil))) (te := tVar 6) rfl scPrb.nd (pi_list (pv 5)) (blkOk_by (by kernel_rfl)) (fun _ _ _ _ _ => pg_name (i := 6) scPrb.nd rfl (.inl rfl)) (fun _ _ _ _ _ => pts_one (pt_val (pe_cal Mk hr2 (pa_cons (pv 6) pa_nil)))) (fun _ _ _ _ _ => pv 6)) pa_nil)) (pe_glob (v := .int 6) rfl hmk ⟨tmk, rfl⟩) (nomark _)) (pe_tup (pa_cons pe_str (pa_cons pe_non pa_nil))) pe_non))))))))), ?_⟩
    have h1 := W.one
    have h12 := W.most
    obtain ⟨qs, q1, q2⟩ := hR
    have hql : qs.length = rows.length := Paired.length q2
    refine ⟨_, rfl, (by show 2 ≤ sizeLine; decide), fun T hT => ?_⟩
    have e2 : Same H (upd H T (.tup [.ty "list", .ty "tuple"])) := same_new hT
    obtain ⟨t, ty, kt⟩ := isi_LT (K := K) (q1.mono e2)
    refine ⟨_, T, _, t, _, true, rfl, upd_same, .cons (.ty _) (.cons (.ty _) .nil), ty, kt, true, rfl, ?_⟩
    refine ⟨_, rfl, a, _, rfl, (q1.mono e2).seq, _, _, rfl, rfl, _, rfl, ?_⟩
    rw [List.length_map, hql]
    rw [decide_eq_true (show (1 : Int) ≤ (rows.length : Nat) by omega)]
    refine ⟨C, mc, _, mu, rfl, cR, cV, _, _, rfl, rfl, _, rfl, ?_⟩
    rw [decide_eq_true (show ((rows.length : Nat) : Int) ≤ 12 by omega)]
    generalize (upd H T (.tup [.ty "list", .ty "tuple"])) = H2 at e2
    refine ⟨_, rfl, a, _, rfl, q1.mono e2, fun J G' wk hG => for_it wk (fun i σ H' => Same H2 H' ∧ ∃ a3 a4 a5 a6, σ = [some (.ref a), some (.ref e), some (.int start), a3, a4, a5, a6]) ⟨Same.refl _, _, _, _, _, rfl⟩ (fun _ _ H' _ p => hG H' p.1) ?_ ?_⟩
    · rintro j v σ H3 H3' hj ⟨e3, b3, b4, b5, b6, rfl⟩ ⟨T2, x, y, rfl, hT2, rfl, ex, ey⟩
      rw [List.length_map] at hj
      cases ex
      dsimp only at ey
      rw [List.getElem?_map] at ey
      obtain ⟨q, hq, rfl⟩ := Option.map_eq_some_iff.mp ey
      have hjr : j < rows.length := by omega
      obtain ⟨q', hq', hrow⟩ := paired_get j q2 (List.getElem?_eq_getElem hjr)
      rw [hq] at hq'
      cases hq'
      have rok := W.row (List.getElem_mem hjr)
      have e4 : Same H3 (upd H3 T2 (.tup [.int (j : Nat), .ref q])) := same_new hT2
      have e5 := e2.trans (e3.trans e4)
      refine ⟨T2, _, rfl, SqT.of upd_same, rfl, _, _, rfl, _, _, rfl, rfl, ?_⟩
      refine ⟨_, rfl, _, rfl, a, _, rfl, (q1.mono e5).seq, q, _, _, rfl, hrow.mono e5, by have := W.row6 PA' (List.getElem_mem hjr); omega, fun en hen => ?_, fun H6 e6 => ⟨_, rfl, iteF ⟨(e3.trans e4).trans e6, _, _, _, _, rfl⟩⟩⟩
      obtain ⟨z1, z2, z3⟩ := rok.2 en hen
      rw [List.length_map, hql]
      exact ⟨PA'.csl _ z1, z2, fun x hx => PA'.name (z3 x hx)⟩
    · rintro σ H3 ⟨e3, b3, b4, b5, b6, rfl⟩
      have e5 := e2.trans e3
      refine ⟨_, rfl, _, rfl, a, _, rfl, (q1.mono e5).seq, e, _, ends, rfl, ?_, W.endN, ?_, hE.mono e5, fun H4 e4 => ⟨_, rfl, iteF ?_⟩⟩
      · exact Nat.le_trans (nodup_len _ _ W.endN W.end0) (by omega)
      · intro g hg
        rw [List.length_map, hql]
        exact W.end0 g hg
      have e6 := e5.trans e4
      refine ⟨_, rfl, _, rfl, a, _, rfl, (q1.mono e6).seq, _, _, rfl, W.st0, by rw [List.length_map, hql]; exact W.st1, _, rfl, iteF ?_⟩
      refine ⟨_, rfl, a, rows, rfl, ⟨qs, q1.mono e6, Paired.mono q2 fun _ _ g => g.mono e6⟩, h12, fun row hrow => W.row6 PA' hrow, ⟨cs, by have := PA'.csn; omega, fun x hx => ?_⟩, fun p xs H5 hp e7 xnd xm xs' hp5 => ?_⟩
      · unfold signsOf at hx
        obtain ⟨row, hrow, hx⟩ := List.mem_flatMap.mp hx
        obtain ⟨en, hen, rfl⟩ := List.mem_map.mp hx
        exact W.key row hrow en hen
      have sgm : ∀ x ∈ xs, x ∈ cs := fun x hx => by
        have := (xm x).mp hx
        unfold signsOf at this
        obtain ⟨row, hrow, hx⟩ := List.mem_flatMap.mp this
        obtain ⟨en, hen, rfl⟩ := List.mem_map.mp hx
        exact W.key row hrow en hen
      have xl : xs.length ≤ 6 := Nat.le_trans (len_subG xs cs xnd sgm) PA'.csn
      refine ⟨p, _, rfl, .inl (SqL.of hp5), _, _, rfl, rfl, _, rfl, ?_⟩
      rw [List.length_map]
      rw [show decide ((6 : Int) < ((xs.length : Nat) : Int)) = false from decide_eq_false (by omega)]
      refine iteF ?_
      have e8 := e6.trans e7
      refine ⟨_, rfl, a, rows, rfl, ⟨qs, q1.mono e8, Paired.mono q2 fun _ _ g => g.mono e8⟩, h12, fun row hrow => W.row6 PA' hrow, ⟨ts.map (fun c => [c]) ++ ms, by have := PA'.tsn; have := PA'.msn; rw [List.length_append, List.length_map]; omega, fun x hx => ?_⟩, fun pt zs H6 hpt e9 znd zm zs' hpt6 => ?_⟩
      · rcases W.told_in hx with ⟨c, hc, rfl⟩ | h
        · exact List.mem_append_left _ (List.mem_map.mpr ⟨c, hc, rfl⟩)
        · exact List.mem_append_right _ h
      have zt : ∀ x ∈ zs, (∃ c ∈ ts, x = [c]) ∨ x ∈ ms := fun x hx => W.told_in ((zm x).mp hx)
      have zl : zs.length ≤ 10 := by
        have := len_subG zs (ts.map (fun c => [c]) ++ ms) znd fun x hx => by
          rcases zt x hx with ⟨c, hc, rfl⟩ | h
          · exact List.mem_append_left _ (List.mem_map.mpr ⟨c, hc, rfl⟩)
          · exact List.mem_append_right _ h
        rw [List.length_append, List.length_map] at this
        have := PA'.tsn
        have := PA'.msn
        omega
      have ea := e8.trans e9
      -- the signs among them
      refine ⟨_, rfl, pt, rfl, ⟨_, SqL.of hpt6⟩, fun D1 hD1 => lc_S (walk_list (K := K) (a := pt) (xs := zs.map txtV)) hD1 (by rw [List.length_map]; omega) (fun j acc _ => acc = ((zs.take j).filter fun x => decide (x.length = 1)).map txtV) (fun _ _ _ _ _ _ _ h => h) rfl (fun H' e' => SqL.of (e' _ _ hpt6)) ?_ ?_⟩
      · rintro j v H7 H7' acc Qt Qf hj e7' hd rfl ⟨rfl, hv⟩ kt kf
        rw [List.getElem?_map] at hv
        obtain ⟨x, hx, rfl⟩ := Option.map_eq_some_iff.mp hv
        obtain ⟨n1, n2, n3⟩ := PA'.name (zt x (List.mem_of_getElem? hx))
        refine ⟨rfl, _, rfl, x, rfl, n1, by omega, fun H8 e8' => ⟨_, rfl, ite2 (fun hb => ?_) (fun hb => ?_)⟩⟩
        · refine ⟨_, rfl, kt _ _ e8' ?_⟩
          rw [List.take_add_one, hx, List.filter_append, List.map_append]
          simp [of_decide_eq_true hb]
        · refine kf _ e8' ?_
          rw [List.take_add_one, hx, List.filter_append, List.map_append]
          have : ¬ x.length = 1 := fun z => hb (decide_eq_true z)
          simp [this]
      rintro H7 acc e10 hd7 rfl
      rw [List.length_map, List.take_length] at hd7
      have f1 : (zs.filter fun x => decide (x.length = 1)).length ≤ 4 := by
        have := len_subG (zs.filter fun x => decide (x.length = 1)) (ts.map fun c => [c]) (znd.filter _) fun x hx => by
          obtain ⟨m1, m2⟩ := List.mem_filter.mp hx
          rcases zt x m1 with ⟨c, hc, rfl⟩ | h
          · exact List.mem_map.mpr ⟨c, hc, rfl⟩
          · have := (PA'.msl x h).2.1
            have := of_decide_eq_true m2
            omega
        rw [List.length_map] at this
        exact Nat.le_trans this PA'.tsn
      refine ⟨D1, _, rfl, .inl (SqL.of hd7), _, _, rfl, rfl, _, rfl, ?_⟩
      rw [List.length_map]
      rw [show decide ((4 : Int) < (((zs.filter fun x => decide (x.length = 1)).length : Nat) : Int)) = false from decide_eq_false (by omega)]
      refine iteF ?_
      have eb := ea.trans e10
      have hpt7 := e10 _ _ hpt6
      -- the marks among them
      refine ⟨_, rfl, pt, rfl, ⟨_, SqL.of hpt7⟩, fun D2 hD2 => lc_S (walk_list (K := K) (a := pt) (xs := zs.map txtV)) hD2 (by rw [List.length_map]; omega) (fun j acc _ => acc = ((zs.take j).filter fun x => decide (1 < x.length ∧ x.length ≤ 8)).map txtV) (fun _ _ _ _ _ _ _ h => h) rfl (fun H' e' => SqL.of (e' _ _ hpt7)) ?_ ?_⟩
      · rintro j v H8 H8' acc Qt Qf hj e7' hd rfl ⟨rfl, hv⟩ kt kf
        rw [List.getElem?_map] at hv
        obtain ⟨x, hx, rfl⟩ := Option.map_eq_some_iff.mp hv
        obtain ⟨n1, n2, n3⟩ := PA'.name (zt x (List.mem_of_getElem? hx))
        refine ⟨rfl, _, rfl, x, rfl, n1, by omega, fun H9 e8' => ⟨_, rfl, ite2 (fun hb => ?_) (fun hb => ?_)⟩⟩
        · refine ⟨_, rfl, kt _ _ e8' ?_⟩
          rw [List.take_add_one, hx, List.filter_append, List.map_append]
          simp [of_decide_eq_true hb]
        · refine kf _ e8' ?_
          rw [List.take_add_one, hx, List.filter_append, List.map_append]
          have : ¬ (1 < x.length ∧ x.length ≤ 8) := fun z => hb (decide_eq_true z)
          simp [this]
      rintro H8 acc e11 hd8 rfl
      rw [List.length_map, List.take_length] at hd8
      have f2 : (zs.filter fun x => decide (1 < x.length ∧ x.length ≤ 8)).length ≤ 6 := by
        have := len_subG (zs.filter fun x => decide (1 < x.length ∧ x.length ≤ 8)) ms (znd.filter _) fun x hx => by
          obtain ⟨m1, m2⟩ := List.mem_filter.mp hx
          rcases zt x m1 with ⟨c, hc, rfl⟩ | h
          · have := (of_decide_eq_true m2).1
            exact absurd this (by show ¬ 1 < 1; decide)
          · exact h
        exact Nat.le_trans this PA'.msn
      refine ⟨D2, _, rfl, .inl (SqL.of hd8), _, _, rfl, rfl, _, rfl, ?_⟩
      rw [List.length_map]
      rw [show decide ((6 : Int) < (((zs.filter fun x => decide (1 < x.length ∧ x.length ≤ 8)).length : Nat) : Int)) = false from decide_eq_false (by omega)]
      exact iteF (k _ (eb.trans e11))
end
end SS
set_option maxRecDepth 100000
set_option maxHeartbeats 4000000
namespace SR
open PySem PySem.Spec PyProof.Rows L2
/-- sorted(xs) of a list or tuple of ints -/
def rSortedLT (K : PySem.W.Frag) : List V → Hp → VK → Prop := fun vs H Q => ∃ (a : Addr) (ns : List Int), vs = [V.ref a] ∧ (SqL K H a (ns.map V.int) ∨ SqT K H a (ns.map V.int)) ∧ ns.length < 64 ∧
  ∀ (ns' : List Int) (p : Addr), ns'.Perm ns → ns'.Pairwise (· ≤ ·) → H p = none → Q (.ref p) (upd H p (.lst (ns'.map V.int)))
theorem cr_sortedLT {X : Cx} : CallR X (.builtin "sorted") (rSortedLT X.K) := by
  intro pins s σ H vs us Q I r h
  obtain ⟨a, ns, rfl, hs | hs, h64, q⟩ := h
  · exact cr_sorted pins s σ H _ us Q I r ⟨a, ns, rfl, hs, h64, q⟩
  obtain ⟨its, rv, pl, hz⟩ := I.tuple hs
  obtain ⟨ob, ho, hc, n, hd⟩ := id pl
  rw [Vals.ref1 r]
  have hi := rv.ints
  have hal : its.length = ns.length := hi.length
  refine Calls.call_function_entry PyProof.Rows.kind_sorted PyProof.Rows.plain_sorted PyProof.Rows.entry_sorted (PyProof.Rows.args_sorted1 _) ?_
  unfold Builtin.«sorted»
  refine wpAny_bind (m := checkCount "sorted" 1 1 _) (wpAny_pure ?_)
  refine wpAny_bind (wpAny_collect_seq a (.inr rfl) ho hc hd (fun h' hk => ?_) (by rw [List.size_toArray, hal, sizeLine_eq]; omega))
  have I1 : Inv X pins σ H { s with heap := h' } := I.kept (t' := s.toks) hk
  refine wpAny_bind (wpAny_newList ?_ (by simp only [List.toList_toArray]; rw [hal, sizeLine_eq]; omega))
  simp only [List.toList_toArray]
  have hoL : (h'.push (seqObj "list" its.toArray 0)).get? h'.objs.size = some (seqObj "list" its.toArray 0) := Heap.get?_push_size _ rfl
  show wpAny _ _ _ _ _ { s with heap := h'.push (seqObj "list" its.toArray 0) }
  refine wpAny_bind (wpAny_holding (wpAny_call_entry PyProof.Rows.slot_list_sort ⟨_, hoL, rfl⟩ PyProof.Rows.entry_list_sort
    (PyProof.Rows.list_sort_tree (s := { s with heap := h'.push (seqObj "list" its.toArray 0) }) hoL hi (by rw [hal]; exact h64) fun out ys g1 g2 g3 => ⟨_, rfl, ?_⟩) (PyProof.Rows.args_list_sort _)))
  obtain ⟨e', he'⟩ := PyProof.Rows.sortedHeap_at (vs := its) (out := out) hoL
  have hlen : (ys.map V.int).length ≤ sizeLine := by
    rw [List.length_map, g2.length_eq]
    exact Nat.le_trans (Nat.le_of_lt h64) (by decide)
  refine wpAny_pure ⟨_, rfl, .ref h'.objs.size, upd H h'.objs.size (.lst (ys.map V.int)), I1.laid (t' := s.toks) (fun b u e => ?_) (Nat.le_refl _)
    (show ObjOk X.prog X.w _ _ _ (.lst (ys.map V.int)) from ⟨hlen, out.toList, e', vals_of_ints g1, by rw [Array.toArray_toList]; exact he'⟩), rfl, q ys _ g2 g3 (I1.hok.fresh (Nat.le_refl _))⟩
  have hb : b < h'.objs.size := Heap.lt_size e
  rw [PyProof.Rows.sortedHeap_old (Nat.ne_of_lt hb) (by rw [size_push']; exact Nat.lt_succ_of_lt hb)]
  exact Heap.get?_push_of_some _ e
end SR
set_option maxRecDepth 100000
set_option maxHeartbeats 4000000
namespace SR
open PySem PySem.Spec PyProof.Rows L2
/-- a def with defaults, by its body -/
theorem okD {P : Program} {w : World} {K : PySem.W.Frag} {mg : Str → Option Value} {base : Heap} {x qual : Str} {st : Stmt} {dvs : List V} {kws : List (Str × V)} {f : Addr} {fd : FuncData} {N ps : List Str} {k : Nat} {sp : Sp} (F : FunD K x qual (defArgs st) (defBody st) (defScope st) dvs kws f fd) (S : FnScope N ps (defScope st)) (len : ∀ vs H Q E, sp vs H Q E → vs.length = ps.length)
    (hbody : ∀ (cdv : Value) (A : Around) (outer : List Env) (s : Shared) (H : Hp) (vs : List V) (Q : VK) (E : XK), Room k (A.deeper (envOfC qual (defScope st) s.heap.objs.size f cdv)) → sp vs H Q E →
      ∃ t, PSs (cxOf CX0 P w K mg base N qual (defScope st) f cdv A outer s H E).nox (defBody st) t ∧ t { nx := fun _ H' => Q .non H', rt := Q } (L2.start N vs) H) : FnOk P w K mg base CX0 (k + 1) f fd ps sp := by
  obtain ⟨oc, od, dW, kW, d1, p1, a1, c1, t1, o1, rfl, lk, hcd, _, _⟩ := F.ex
  exact fn_of lk hcd S len fun A outer s H vs Q E hr hsp => (hbody c1 A outer s H vs Q E hr hsp).imp fun t z => ⟨z.1.nox, z.2⟩
end SR
namespace SS
open PySem L2 SR TL
def sortR (row : Rw) : Rw := row.mergeSort fun a b => decide (a.1 ≤ b.1)
def sortI (l : List Int) : List Int := l.mergeSort fun a b => decide (a ≤ b)
theorem sortR_perm (row : Rw) : (sortR row).Perm row := List.mergeSort_perm _ _
theorem sortI_perm (l : List Int) : (sortI l).Perm l := List.mergeSort_perm _ _
theorem sortR_ord (row : Rw) : (sortR row).Pairwise fun a b => a.1 ≤ b.1 :=
  (List.pairwise_mergeSort (le := fun a b : Nat × Mv => decide (a.1 ≤ b.1)) (fun a b c h1 h2 => decide_eq_true (Nat.le_trans (of_decide_eq_true h1) (of_decide_eq_true h2))) (fun a b => by simp only [Bool.or_eq_true, decide_eq_true_eq]; omega) row).imp fun h => of_decide_eq_true h
theorem sortI_ord (l : List Int) : (sortI l).Pairwise (· ≤ ·) :=
  (List.pairwise_mergeSort (le := fun a b : Int => decide (a ≤ b)) (fun a b c h1 h2 => decide_eq_true (Int.le_trans (of_decide_eq_true h1) (of_decide_eq_true h2))) (fun a b => by simp only [Bool.or_eq_true, decide_eq_true_eq]; omega) l).imp fun h => of_decide_eq_true h
theorem sortI_uniq {l l' : List Int} (p : l'.Perm l) (s : l'.Pairwise (· ≤ ·)) : l' = sortI l :=
  List.Perm.eq_of_pairwise (fun a b _ _ h1 h2 => Int.le_antisymm h1 h2) s (sortI_ord l) (p.trans (sortI_perm l).symm)
theorem sortR_uniq {row row' : Rw} (nd : (row.map (·.1)).Nodup) (p : row'.Perm row) (s : row'.Pairwise fun a b => a.1 ≤ b.1) : row' = sortR row := by
  refine List.Perm.eq_of_pairwise (le := fun a b : Nat × Mv => a.1 ≤ b.1) (fun a b ha hb h1 h2 => ?_) s (sortR_ord row) (p.trans (sortR_perm row).symm)
  have e : a.1 = b.1 := Nat.le_antisymm h1 h2
  obtain ⟨i, hi, ea⟩ := List.getElem_of_mem (p.mem_iff.mp ha)
  obtain ⟨j, hj, eb⟩ := List.getElem_of_mem ((sortR_perm row).mem_iff.mp hb)
  have : i = j := by
    refine (List.getElem_inj (xs := row.map (·.1)) (h₀ := by rw [List.length_map]; exact hi) (h₁ := by rw [List.length_map]; exact hj) nd).mp ?_
    rw [List.getElem_map, List.getElem_map, ea, eb, e]
  subst this
  rw [← ea, ← eb]
theorem paired_perm {α β : Type} {R : α → β → Prop} {xs xs' : List α} {ys : List β} (h : Paired R xs ys) (p : xs'.Perm xs) : ∃ ys' : List β, ys'.Perm ys ∧ Paired R xs' ys' := by
  have key : ∀ {xs xs' : List α}, xs.Perm xs' → ∀ {ys : List β}, Paired R xs ys → ∃ ys' : List β, ys'.Perm ys ∧ Paired R xs' ys' := by
    intro xs xs' p
    induction p with
    | nil => intro ys h; exact ⟨ys, .refl _, h⟩
    | cons x _ ih =>
      intro ys h
      cases h with
      | cons r t =>
        obtain ⟨zs, z1, z2⟩ := ih t
        exact ⟨_ :: zs, z1.cons _, .cons r z2⟩
    | swap x y l =>
      intro ys h
      cases h with
      | cons r t =>
        cases t with
        | cons r2 t2 => exact ⟨_, List.Perm.swap _ _ _, .cons r2 (.cons r t2)⟩
    | trans _ _ ih1 ih2 =>
      intro ys h
      obtain ⟨zs, z1, z2⟩ := ih1 h
      obtain ⟨us, u1, u2⟩ := ih2 z2
      exact ⟨us, u1.trans z1, u2⟩
  exact key p.symm h
/-- the entries of a state in the order of their keys -/
theorem ents_sort {H : Hp} {kvs out : List (Key × V)} {row : Rw} (h : Paired (EntAt H) kvs row) (nd : (row.map (·.1)).Nodup) (p : out.Perm kvs) (s : out.Pairwise (fun e f => ∀ y z : Str, e.1 = .inr y → f.1 = .inr z → ¬ z.cps.toList < y.cps.toList)) : Paired (EntAt H) out (sortR row) := by
  obtain ⟨row', p', h'⟩ := paired_perm h p
  have so : row'.Pairwise fun a b => a.1 ≤ b.1 := by
    have key : ∀ {out : List (Key × V)} {row' : Rw}, Paired (EntAt H) out row' → out.Pairwise (fun e f => ∀ y z : Str, e.1 = .inr y → f.1 = .inr z → ¬ z.cps.toList < y.cps.toList) → row'.Pairwise fun a b => a.1 ≤ b.1 := by
      intro out row' h
      induction h with
      | nil => intro _; exact .nil
      | @cons kv e kvs es r t ih =>
        intro s
        obtain ⟨s1, s2⟩ := List.pairwise_cons.mp s
        refine List.pairwise_cons.mpr ⟨fun f hf => ?_, ih s2⟩
        obtain ⟨i, hi⟩ := List.mem_iff_getElem?.mp hf
        obtain ⟨kv', k1, k2⟩ := paired_get i t hi
        have := s1 kv' (List.mem_of_getElem? k1) (lt e.1) (lt f.1) r.1 k2.1
        have l1 : (lt f.1).cps.toList = [f.1] := rfl
        have l2 : (lt e.1).cps.toList = [e.1] := rfl
        rw [l1, l2] at this
        have h3 : ¬ f.1 < e.1 := fun z => this (show List.Lex (· < ·) [f.1] [e.1] from .rel z)
        omega
    exact key h' s
  rw [← sortR_uniq nd p' so]
  exact h'
theorem paired_getL {α β : Type} {R : α → β → Prop} : ∀ {xs : List α} {ys : List β} (i : Nat) {x : α}, Paired R xs ys → xs[i]? = some x → ∃ y, ys[i]? = some y ∧ R x y
  | _, _, _, _, .nil, h => by simp at h
  | x :: xs, y :: ys, 0, z, .cons r _, h => by
    have e : x = z := Option.some.inj h
    exact ⟨y, rfl, e ▸ r⟩
  | x :: xs, y :: ys, i + 1, z, .cons _ t, h => by
    obtain ⟨a, h1, h2⟩ := paired_getL i t (by simpa using h)
    exact ⟨a, by simpa using h1, h2⟩
theorem keys_nd {H : Hp} : ∀ {kvs : List (Key × V)} {row : Rw}, Paired (EntAt H) kvs row → (row.map (·.1)).Nodup → (kvs.map (·.1)).Nodup
  | _, _, .nil, _ => List.Pairwise.nil
  | _, _, .cons (a := kv) (b := e) r t, nd => by
    rw [List.map_cons, List.nodup_cons] at nd ⊢
    refine ⟨fun hm => nd.1 ?_, keys_nd t nd.2⟩
    obtain ⟨kv', h1, h2⟩ := List.mem_map.mp hm
    obtain ⟨i, hi⟩ := List.mem_iff_getElem?.mp h1
    obtain ⟨e', he', ent⟩ := paired_getL i t hi
    rw [ent.1, r.1] at h2
    exact List.mem_map.mpr ⟨e', List.mem_of_getElem? he', lt_inj (Sum.inr.inj h2)⟩
theorem keys_tx {H : Hp} {kvs : List (Key × V)} {row : Rw} (h : Paired (EntAt H) kvs row) : ∀ q ∈ kvs, ∃ z : Str, q.1 = .inr z := fun q hq => by
  obtain ⟨i, hi⟩ := List.mem_iff_getElem?.mp hq
  obtain ⟨e', _, ent⟩ := paired_getL i h hi
  exact ⟨_, ent.1⟩
theorem lk_ne {a b : Str} {v : V} {fs : List (Str × V)} (h : ¬ a = b) : (putF b v fs).lookup a = fs.lookup a := by rw [lookup_putF, if_neg h]
theorem lk_eq {a : Str} {v : V} {fs : List (Str × V)} : (putF a v fs).lookup a = some v := by rw [lookup_putF, if_pos rfl]
theorem SameB.trans {D : Addr} {H1 H2 H3 : Hp} (e : SameB D H1 H2) (e' : SameB D H2 H3) : SameB D H1 H3 := fun a o n h => e' a o n (e a o n h)
theorem freeB {D b : Addr} {H H' : Hp} (e : SameB D H H') (n : b ≠ D) (h : H' b = none) : H b = none := by
  cases z : H b with
  | none => rfl
  | some o =>
    have := e b o n z
    rw [h] at this
    cases this
/-- dict of a list of pairs -/
def rDictP (K : PySem.W.Frag) : List V → Hp → VK → Prop := fun xs H Q => ∃ (a : Addr) (ps : List Addr) (kvs : List (Key × V)), xs = [.ref a] ∧ SqL K H a (ps.map V.ref) ∧ Paired (fun p kv => SqT K H p [kV kv.1, kv.2]) ps kvs ∧ ∀ p, H p = none → Q (.ref p) (upd H p (.dK (mergeK [] kvs)))
/-- what the walk asks of the class -/
structure RTx (K : PySem.W.Frag) (mg : Str → Option Value) (C : Addr) : Prop where
  cl : Cls K C
  nR : NoAttr K C "rows"
  nE : NoAttr K C "end_list"
  nS : NoAttr K C "own_start"
  mgC : mg "Reader" = some (.ref C)
/-- a reader as it lies -/
structure RdAt (C : Addr) (H : Hp) (x : Addr) (rows : List Rw) (ends : List Int) (start : Int) : Prop where
  ex : ∃ (dx pr pe : Addr) (fs : List (Str × V)) (qs : List Addr), H x = some (.ins C dx fs) ∧ fs.lookup ("rows" : Str) = some (.ref pr) ∧ fs.lookup ("end_list" : Str) = some (.ref pe) ∧ fs.lookup ("own_start" : Str) = some (.int start) ∧
    (∀ n : Str, ¬ n = "rows" → ¬ n = "end_list" → ¬ n = "own_start" → fs.lookup n = none) ∧ H pr = some (.tup (qs.map .ref)) ∧ Paired (RwAt H) qs rows ∧ H pe = some (.tup (ends.map .int))
theorem RdAt.mono {C : Addr} {H H' : Hp} {x : Addr} {rows : List Rw} {ends : List Int} {start : Int} (e : Same H H') (h : RdAt C H x rows ends start) : RdAt C H' x rows ends start := by
  obtain ⟨dx, pr, pe, fs, qs, h1, h2, h3, h4, h5, h6, h7, h8⟩ := h.ex
  exact ⟨dx, pr, pe, fs, qs, e _ _ h1, h2, h3, h4, h5, e _ _ h6, Paired.mono h7 fun a b g => g.mono e, e _ _ h8⟩
theorem RwAt.bx {H H' : Hp} {q x C dx : Addr} {row : Rw} {fs : List (Str × V)} (hx : H x = some (.ins C dx fs)) (e : SameB x H H') (h : RwAt H q row) : RwAt H' q row := by
  obtain ⟨ps, h1, h2⟩ := h
  exact ⟨ps, e _ _ (ne_of h1 hx (by intro z; cases z)) h1, Paired.mono h2 fun a b g => e _ _ (ne_of g hx (by intro z; cases z)) g⟩
section
variable {P : Program} {w : World} {K : PySem.W.Frag} {mg : Str → Option Value} {base : Heap}
abbrev nIni : List Str := ["self", "states", "ends", "start", "problem", "row"]
abbrev psIni : List Str := ["self", "states", "ends", "start"]
theorem scIni : FnScope nIni psIni (defScope sIni) := ⟨rfl, rfl, rfl, by decide +kernel, rfl, by decide +kernel, by decide +kernel⟩
def spIni (K : PySem.W.Frag) (C : Addr) : Sp := fun vs H Q _ => ∃ (x dx a e : Addr) (cs ts : List Nat) (ms : List (List Nat)) (rows : List Rw) (ends : List Int) (start : Int), vs = [.ref x, .ref a, .ref e, .int start] ∧ H x = some (.ins C dx []) ∧ Pal cs ts ms ∧ WfR cs ts ms rows ends start ∧ RowsL H a rows ∧ LoQ K H e (ends.map .int) ∧
  ∀ H', (∀ H'' : Hp, (∀ b o, (H b = none ∨ b = x ∨ ∃ xs, o = .tup xs) → H' b = some o → H'' b = some o) → RdAt C H'' x (rows.map sortR) (sortI ends) start) → SameB x H H' → Q .non H'
theorem ok_ini {f C : Addr} {fd : FuncData} {dvs : List V} {kws : List (Str × V)} (F : FunD K "__init__" "Reader.__init__" (defArgs sIni) (defBody sIni) (defScope sIni) dvs kws f fd) (B : Bl mg) (T : RTx K mg C) (Pb : Cal P w K mg base "reader_problem" 6 psPrb (spPrb K)) : FnOk P w K mg base CX0 7 f fd psIni (spIni K C) := by
  refine okD F scIni (fun vs H Q E h => ?_) (fun cdv A outer s H vs Q E hr h => ?_)
  · obtain ⟨x, dx, a, e, cs, ts, ms, rows, ends, start, rfl, _⟩ := h
    rfl
  · obtain ⟨x, dx, a, e, cs, ts, ms, rows, ends, start, rfl, hx, PA', W, hR, hE, k⟩ := h
    have hr1 := hr
    refine ⟨_, pss_cons (ps_set (i := 4) scIni.nd rfl (.inl rfl) (pe_cal Pb hr1 (pa_cons (pv 1) (pa_cons (pv 2) (pa_cons (pv 3) pa_nil)))))
      (pss_cons (ps_if (pt_cmpR op_notN (pv 4) pe_non (nomark _))
        (pss_one ps_never) pss_nil)
      (pss_cons (ps_fld (pv 0) (pe_callTy call_tuple_of (by rfl) B.tuple (by decide +kernel) (pa_cons (pe_lc (own := [("row", 5)]) (g := gName 5) (tt := tYes) (te := tCB (rDictP K) (tCons (tCB VSI.rSortItK (tCons (tBM0 K "dict" VSI.rItemsK (tVar 5)) tNil)) tNil)) rfl scIni.nd (pi_lot (pv 1)) (blkOk_by (by kernel_rfl)) (fun _ _ _ _ _ => pg_name (i := 5) scIni.nd rfl (.inl rfl)) (fun _ _ _ _ _ => pts_nil) (fun _ _ _ _ _ => pe_callTy (call_dictP rfl) (by rfl) B.dict (by decide +kernel) (pa_cons (pe_callB (VSI.cr_sortedItK rfl) (by rfl) B.sorted (by decide +kernel) (pa_cons (pe_bm0 PySem.F.plainAttrs_dict PySem.F.slot_dict_items PySem.F.type_dict_items VSI.mt_itemsK (pv 5)) pa_nil)) pa_nil))) pa_nil)) rfl)
      (pss_cons (ps_fld (pv 0) (pe_callTy call_tuple_of (by rfl) B.tuple (by decide +kernel) (pa_cons (pe_callB cr_sortedLT (by rfl) B.sorted (by decide +kernel) (pa_cons (pv 2) pa_nil)) pa_nil)) rfl)
      (pss_one (ps_fld (pv 0) (pv 3) rfl))))), ?_⟩
    have h12 := W.most
    refine ⟨_, rfl, _, rfl, _, rfl, a, e, cs, ts, ms, rows, ends, start, rfl, PA', W, hR, hE, fun H1 e1 => ?_⟩
    refine ⟨_, rfl, rfl, _, rfl, iteF ?_⟩
    obtain ⟨qs, q1, q2⟩ := hR.mono e1
    have hql : qs.length = rows.length := Paired.length q2
    have hx1 := e1 _ _ hx
    -- the rows
    refine ⟨_, rfl, a, _, rfl, q1, fun J G wk hG D hD => lc_S wk hD (by rw [List.length_map]; omega) (fun i acc H' => ∃ qs' : List Addr, acc = qs'.map .ref ∧ Paired (fun q row => RwAt H' q row ∧ H1 q = none) qs' ((rows.take i).map sortR)) ?_ ⟨[], rfl, .nil⟩ hG ?_ ?_⟩
    · rintro i acc acc' H2 H3 hd ee ⟨qs', p1, p2⟩
      refine ⟨qs', p1, Paired.mono p2 fun a b h => ⟨RwAt.nl (fun x o hx no => ee _ _ (fun z => ?_) hx) h.1, h.2⟩⟩
      rw [z, hd] at hx
      cases hx
      exact no _ rfl
    · rintro i v H2 H2' acc Qt Qf hi e2 hd ⟨qs', rfl, hq⟩ ⟨rfl, hv⟩ kt kf
      rw [List.length_map] at hi
      rw [List.getElem?_map] at hv
      obtain ⟨q, hqi, rfl⟩ := Option.map_eq_some_iff.mp hv
      have hir : i < rows.length := by omega
      obtain ⟨q', hq', hrow⟩ := paired_get i q2 (List.getElem?_eq_getElem hir)
      rw [hqi] at hq'
      cases hq'
      obtain ⟨kvs, k1, k2⟩ := rw_iff.mp (hrow.mono e2)
      have nd := W.nd _ (List.getElem_mem hir)
      refine ⟨rfl, _, rfl, .inr (.inr (.inl ⟨rfl, .inl ⟨_, k1⟩⟩)), q, kvs, rfl, rfl, k1, fun p hp => ⟨p, q, kvs, rfl, upd_same, (same_new hp) _ _ k1, keys_tx k2, keys_nd k2 nd, fun H5 l tsl out e5 hl hts hlt h5 pr pm so => ?_⟩⟩
      refine ⟨l, tsl, out, rfl, SqL.of h5, Paired.mono pr fun t q h => SqT.of h, fun p' hp' => kt _ _ (((same_new hp).trans e5).trans (same_new hp')) ⟨qs' ++ [p'], by simp, ?_⟩⟩
      have e25 : Same H2' H5 := (same_new hp).trans e5
      rw [mergeK_nil (by rw [(pm.map (·.1)).nodup_iff]; exact keys_nd k2 nd)]
      rw [List.take_add_one, List.getElem?_eq_getElem hir, List.map_append]
      have e26 := e25.trans (same_new (o := .dK out) hp')
      refine paired_snoc (Paired.mono hq fun a b h => ⟨h.1.mono e26, h.2⟩) ⟨rw_iff.mpr ⟨out, upd_same, ?_⟩, e2.free (e25.free hp')⟩
      refine Paired.mono (ents_sort k2 nd pm so) fun x y g => ⟨g.1, g.2.imp fun p z => ⟨z.1, e26 _ _ z.2⟩⟩
    rintro H2 acc e2 hd ⟨qs', rfl, hq⟩
    rw [List.length_map, hql, List.take_length] at hq
    refine ⟨D, _, rfl, .inl ⟨SqL.of hd, fun pt hpt => ?_⟩⟩
    have e3 : Same H2 (upd H2 pt (.tup (qs'.map .ref))) := same_new hpt
    have hx3 := e3 _ _ (e2 _ _ hx1)
    have ht3 : (upd H2 pt (.tup (qs'.map .ref))) pt = some (.tup (qs'.map .ref)) := upd_same
    have hq3 : Paired (fun q row => RwAt (upd H2 pt (.tup (qs'.map .ref))) q row ∧ H1 q = none) qs' (rows.map sortR) := Paired.mono hq fun a b h => ⟨h.1.mono e3, h.2⟩
    have e13 := (e1.trans e2).trans e3
    generalize (upd H2 pt (.tup (qs'.map .ref))) = H3 at e3 hx3 ht3 hq3 e13
    refine ⟨_, rfl, x, C, dx, _, rfl, hx3, T.cl, T.nR, (by show 0 < 1000; decide), ?_⟩
    have b4 : SameB x H3 (upd H3 x (.ins C dx (putF "rows" (.ref pt) []))) := SameB.upd
    have hx4 : (upd H3 x (.ins C dx (putF "rows" (.ref pt) []))) x = some (.ins C dx (putF "rows" (.ref pt) [])) := upd_same
    generalize (upd H3 x (.ins C dx (putF "rows" (.ref pt) []))) = H4 at b4 hx4
    have hE4 : LoQ K H4 e (ends.map .int) := by
      rcases hE with (h | h) | h
      · exact .inl (.inl (b4 _ _ (ne_of h hx (by intro z; cases z)) (e13 _ _ h)))
      · exact .inl (.inr (b4 _ _ (ne_of h hx (by intro z; cases z)) (e13 _ _ h)))
      · exact .inr h
    -- the ends
    refine ⟨_, rfl, e, ends, rfl, hE4.seq, ?_, fun es p5 pm so hp5 => ⟨p5, _, rfl, .inl ⟨SqL.of upd_same, fun pt5 hpt5 => ?_⟩⟩⟩
    · have := nodup_len _ _ W.endN W.end0
      omega
    have ees := sortI_uniq pm so
    have e5 : Same H4 (upd (upd H4 p5 (.lst (es.map .int))) pt5 (.tup (es.map .int))) := (same_new hp5).trans (same_new hpt5)
    have hx5 := e5 _ _ hx4
    have ht5 : (upd (upd H4 p5 (.lst (es.map .int))) pt5 (.tup (es.map .int))) pt5 = some (.tup (es.map .int)) := upd_same
    generalize (upd (upd H4 p5 (.lst (es.map .int))) pt5 (.tup (es.map .int))) = H5 at e5 hx5 ht5
    refine ⟨_, rfl, x, C, dx, _, rfl, hx5, T.cl, T.nE, (by show 1 < 1000; decide), ?_⟩
    refine ⟨_, rfl, _, rfl, x, C, dx, _, rfl, upd_same, T.cl, T.nS, (by show 2 < 1000; decide), ?_⟩
    have b5 : SameB x H5 (upd (upd H5 x (.ins C dx (putF "end_list" (.ref pt5) (putF "rows" (.ref pt) [])))) x (.ins C dx (putF "own_start" (.int start) (putF "end_list" (.ref pt5) (putF "rows" (.ref pt) []))))) := SameB.upd.trans SameB.upd
    have hx6 : (upd (upd H5 x (.ins C dx (putF "end_list" (.ref pt5) (putF "rows" (.ref pt) [])))) x (.ins C dx (putF "own_start" (.int start) (putF "end_list" (.ref pt5) (putF "rows" (.ref pt) []))))) x = some (.ins C dx (putF "own_start" (.int start) (putF "end_list" (.ref pt5) (putF "rows" (.ref pt) [])))) := upd_same
    generalize (upd (upd H5 x (.ins C dx (putF "end_list" (.ref pt5) (putF "rows" (.ref pt) [])))) x (.ins C dx (putF "own_start" (.int start) (putF "end_list" (.ref pt5) (putF "rows" (.ref pt) []))))) = H6 at b5 hx6 ⊢
    have b36 : SameB x H3 H6 := (b4.trans (Same.b e5)).trans b5
    refine k H6 (fun H'' ext => ?_) ((Same.b e13).trans b36)
    have ntx : pt ≠ x := ne_of ht3 hx3 (by intro z; cases z)
    have nt5 : pt5 ≠ x := ne_of ht5 hx5 (by intro z; cases z)
    refine ⟨dx, pt, pt5, _, qs', ext _ _ (.inr (.inl rfl)) hx6, ?_, ?_, lk_eq, fun n n1 n2 n3 => by rw [lk_ne n3, lk_ne n2, lk_ne n1]; rfl, ext _ _ (.inr (.inr ⟨_, rfl⟩)) (b36 _ _ ntx ht3), Paired.mono hq3 fun q row h => ?_, ?_⟩
    · rw [lk_ne (by decide +kernel), lk_ne (by decide +kernel), lk_eq]
    · rw [lk_ne (by decide +kernel), lk_eq]
    · obtain ⟨ps, z1, z2⟩ := h.1.bx hx3 b36
      exact ⟨ps, ext _ _ (.inl (e1.free h.2)) z1, Paired.mono z2 fun a b g => ext _ _ (.inr (.inr ⟨_, rfl⟩)) g⟩
    · rw [← ees]
      exact ext _ _ (.inr (.inr ⟨_, rfl⟩)) (b5 _ _ nt5 ht5)
end
end SS
set_option maxRecDepth 100000
set_option maxHeartbeats 4000000
namespace SS
open PySem L2 SR TL
end SS
set_option maxRecDepth 100000
set_option maxHeartbeats 4000000
namespace SR
open PySem PySem.Spec PyProof.Rows L2 GenW
end SR
namespace SS
open PySem L2 SR TL
/-- all tuples stand -/
def Tups (H H' : Hp) : Prop := ∀ b xs, H b = some (.tup xs) → H' b = some (.tup xs)
theorem Same.tups {H H' : Hp} (e : Same H H') : Tups H H' := fun b xs h => e b _ h
theorem Tups.at {H H' : Hp} {b : Addr} {o : HO} (h : H b = some o) (n : ∀ xs, o ≠ .tup xs) (k : ∀ c u, c ≠ b → H c = some u → H' c = some u) : Tups H H' := fun c xs hc => k c _ (fun z => by
  rw [z, h] at hc
  exact n xs (Option.some.inj hc)) hc
theorem MvAt.tups {H H' : Hp} {p : Addr} {m : Mv} (e : Tups H H') (h : MvAt H p m) : MvAt H' p m := e _ _ h
end SS
set_option maxRecDepth 100000
set_option maxHeartbeats 4000000
namespace SR
open PySem PySem.Spec PyProof.Rows L2
def keyD : Key → PyData
  | .inl i => .int i
  | .inr x => .str x
def dD (kvs : List (Key × Int)) : PyData := .dict (kvs.map fun p => (keyD p.1, .int p.2))
def dV (kvs : List (Key × Int)) : List (Key × V) := kvs.map fun p => (p.1, V.int p.2)
section
variable {X : Cx} {pins : List (Addr × Obj)} {σ : L2.St} {H : Hp} {s : Shared}
theorem key_reads {k : Key} {v : Value} {h : Heap} (e : keyIs k v = true) : Reads h v (keyD k) [] := by
  rcases keyIs_shape e with ⟨i, t, rfl, rfl⟩ | ⟨x, t, rfl, rfl⟩
  · exact .int i t
  · exact .str x t
end
section
variable {X : Cx}
end
end SR
set_option maxRecDepth 100000
set_option maxHeartbeats 4000000
namespace SR
open PySem PySem.Spec PyProof.Rows L2
end SR
set_option maxRecDepth 100000
set_option maxHeartbeats 4000000
namespace SR
open PySem PySem.Spec PyProof.Rows L2
end SR
set_option maxRecDepth 100000
set_option maxHeartbeats 4000000
namespace SR
open PySem PySem.Spec PyProof.Rows L2
end SR
set_option maxRecDepth 100000
set_option maxHeartbeats 4000000
namespace SS
open PySem L2 SR TL
end SS
namespace ZA
open Classical
/-- steps of an edge relation -/
inductive Star (E : Int → Int → Prop) : Int → Int → Prop
  | refl (s) : Star E s s
  | step {s t u} : Star E s t → E t u → Star E s u
theorem Star.trans {E : Int → Int → Prop} {s t u : Int} (a : Star E s t) (b : Star E t u) : Star E s u := by
  induction b with
  | refl => exact a
  | step _ e ih => exact ih.step e
theorem Star.mono {E F : Int → Int → Prop} {s t : Int} (h : ∀ a b, E a b → F a b) (a : Star E s t) : Star F s t := by
  induction a with
  | refl => exact .refl _
  | step _ e ih => exact ih.step (h _ _ e)
/-- the numbers below n with P, in order -/
noncomputable def those (n : Nat) (P : Int → Prop) : List Int := ((List.range n).map fun k : Nat => (k : Int)).filter fun t => decide (P t)
/-- where at most k steps lead from S -/
def Within (E : Int → Int → Prop) (S : Int → Prop) : Nat → Int → Prop
  | 0, t => S t
  | k + 1, t => Within E S k t ∨ ∃ s, Within E S k s ∧ E s t
theorem Within.le {E : Int → Int → Prop} {S : Int → Prop} {k : Nat} {t : Int} (h : Within E S k t) : ∀ {m : Nat}, k ≤ m → Within E S m t := by
  intro m hm
  induction m with
  | zero => have : k = 0 := by omega
            subst this; exact h
  | succ m ih =>
    by_cases e : k = m + 1
    · subst e; exact h
    · exact .inl (ih (by omega))
/-- once nothing is new, nothing will be -/
theorem still {E : Int → Int → Prop} {S : Int → Prop} {k : Nat} (h : ∀ t, Within E S (k + 1) t → Within E S k t) : ∀ m t, Within E S m t → Within E S k t := by
  intro m
  induction m with
  | zero => exact fun t z => Within.le (k := 0) z (Nat.zero_le _)
  | succ m ih =>
    rintro t (z | ⟨s, z, e⟩)
    · exact ih t z
    · exact h t (.inr ⟨s, ih s z, e⟩)
end ZA
set_option maxRecDepth 100000
set_option maxHeartbeats 4000000
namespace SS
open PySem L2 SR TL ZA
def rowAt (rows : List Rw) (s : Int) : Rw := (rows[s.toNat]?).getD []
def SilE (rows : List Rw) (s t : Int) : Prop := ∃ e ∈ rowAt rows s, e.2.1 = t ∧ e.2.2 = none
def TellE (rows : List Rw) (x : List Nat) (s t : Int) : Prop := ∃ e ∈ rowAt rows s, e.2.1 = t ∧ e.2.2 = some x
/-- the states behind silent words from those of S -/
noncomputable def silL (rows : List Rw) (S : List Int) : List Int := those rows.length fun t => ∃ s ∈ S, Star (SilE rows) s t
/-- the goals of the moves of some states that tell x -/
def goalsL (rows : List Rw) (S : List Int) (x : List Nat) : List Int := S.flatMap fun s => (rowAt rows s).filterMap fun e => if e.2.2 = some x then some e.2.1 else none
noncomputable def stpL (rows : List Rw) (S : List Int) (x : List Nat) : List Int := silL rows (goalsL rows S x)
noncomputable def lastL (rows : List Rw) (s : Int) (w : List (List Nat)) : List Int := w.foldl (stpL rows) (silL rows [s])
/-- moves lead to states -/
def Good (rows : List Rw) : Prop := ∀ row ∈ rows, ∀ e ∈ row, 0 ≤ e.2.1 ∧ e.2.1 < (rows.length : Int)
theorem WfR.good {cs ts : List Nat} {ms : List (List Nat)} {rows : List Rw} {ends : List Int} {start : Int} (W : WfR cs ts ms rows ends start) : Good rows := W.goal
theorem rowAt_mem {rows : List Rw} {s : Int} {e : Nat × Mv} (h : e ∈ rowAt rows s) : rowAt rows s ∈ rows := by
  unfold rowAt at h ⊢
  cases z : rows[s.toNat]? with
  | none => rw [z] at h; cases h
  | some row => exact List.mem_of_getElem? z
theorem Good.rg {rows : List Rw} (g : Good rows) {s t : Int} (h : SilE rows s t) : 0 ≤ t ∧ t < (rows.length : Int) := by
  obtain ⟨e, he, rfl, _⟩ := h
  exact g _ (rowAt_mem he) e he
theorem Good.rgT {rows : List Rw} (g : Good rows) {x : List Nat} {s t : Int} (h : TellE rows x s t) : 0 ≤ t ∧ t < (rows.length : Int) := by
  obtain ⟨e, he, rfl, _⟩ := h
  exact g _ (rowAt_mem he) e he
theorem mem_goalsL {rows : List Rw} {S : List Int} {x : List Nat} {t : Int} : t ∈ goalsL rows S x ↔ ∃ s ∈ S, TellE rows x s t := by
  unfold goalsL TellE
  rw [List.mem_flatMap]
  refine exists_congr fun s => and_congr_right fun _ => ?_
  rw [List.mem_filterMap]
  refine exists_congr fun e => and_congr_right fun _ => ?_
  by_cases h : e.2.2 = some x
  · rw [if_pos h]
    exact ⟨fun z => ⟨Option.some.inj z, h⟩, fun z => by rw [z.1]⟩
  · rw [if_neg h]
    exact ⟨fun z => (nomatch z), fun z => (h z.2).elim⟩
theorem Good.sort {rows : List Rw} (g : Good rows) : Good (rows.map sortR) := by
  intro row hr e he
  obtain ⟨r, h1, rfl⟩ := List.mem_map.mp hr
  rw [List.length_map]
  exact g r h1 e ((sortR_perm r).mem_iff.mp he)
/-- a number less the counter in slot j -/
def muAt (m j : Nat) : L2.St → Hp → Nat := fun σ _ => match σ[j]? with
  | some (some (.int i)) => m - i.toNat
  | _ => 0
end SS
set_option maxRecDepth 100000
set_option maxHeartbeats 4000000
namespace SS
open PySem L2 SR TL ZA
/-- the goals, each once, as they come -/
structure Gl (rows : List Rw) (S : List Int) (x : List Nat) (k n : Nat) (gs : List Int) : Prop where
  nd : gs.Nodup
  mem : ∀ t, t ∈ gs ↔ (∃ s ∈ S.take k, TellE rows x s t) ∨ ∃ s, S[k]? = some s ∧ ∃ e ∈ (rowAt rows s).take n, e.2.1 = t ∧ e.2.2 = some x
theorem Gl.start {rows : List Rw} {S : List Int} {x : List Nat} : Gl rows S x 0 0 [] := ⟨List.Pairwise.nil, fun t => ⟨fun h => (nomatch h), fun h => by
  rcases h with ⟨s, h, _⟩ | ⟨s, _, e, h, _⟩
  · rw [List.take_zero] at h; cases h
  · rw [List.take_zero] at h; cases h⟩⟩
theorem Gl.skip {rows : List Rw} {S : List Int} {x : List Nat} {k n : Nat} {gs : List Int} {s : Int} {e : Nat × Mv} (h : Gl rows S x k n gs) (hs : S[k]? = some s) (he : (rowAt rows s)[n]? = some e) (hm : e.2.2 = some x → e.2.1 ∈ gs) : Gl rows S x k (n + 1) gs := by
  refine ⟨h.nd, fun t => ⟨fun ht => ((h.mem t).mp ht).imp_right ?_, fun ht => ?_⟩⟩
  · rintro ⟨s', h1, e', h2, h3⟩
    refine ⟨s', h1, e', ?_, h3⟩
    rw [List.take_add_one]
    exact List.mem_append_left _ h2
  · rcases ht with ht | ⟨s', h1, e', h2, h3, h4⟩
    · exact (h.mem t).mpr (.inl ht)
    · rw [hs] at h1
      cases h1
      rw [List.take_add_one, he] at h2
      rcases List.mem_append.mp h2 with z | z
      · exact (h.mem t).mpr (.inr ⟨s, hs, e', z, h3, h4⟩)
      · have : e' = e := by simpa using z
        rw [this] at h3 h4
        rw [← h3]
        exact hm h4
theorem Gl.add {rows : List Rw} {S : List Int} {x : List Nat} {k n : Nat} {gs : List Int} {s : Int} {e : Nat × Mv} (h : Gl rows S x k n gs) (hs : S[k]? = some s) (he : (rowAt rows s)[n]? = some e) (h2 : e.2.2 = some x) (hm : e.2.1 ∉ gs) : Gl rows S x k (n + 1) (gs ++ [e.2.1]) := by
  refine ⟨?_, fun t => ?_⟩
  · rw [List.nodup_append]
    refine ⟨h.nd, List.pairwise_singleton _ _, fun a ha b hb => ?_⟩
    rw [List.mem_singleton.mp hb]
    exact fun z => hm (z ▸ ha)
  · rw [List.mem_append, h.mem, List.mem_singleton, or_assoc]
    refine or_congr Iff.rfl ⟨fun ht => ?_, fun ht => ?_⟩
    · rcases ht with ⟨s', h1, e', z1, z2⟩ | rfl
      · refine ⟨s', h1, e', ?_, z2⟩
        rw [List.take_add_one]
        exact List.mem_append_left _ z1
      · refine ⟨s, hs, e, ?_, rfl, h2⟩
        rw [List.take_add_one, he]
        exact List.mem_append_right _ (by simp)
    · obtain ⟨s', h1, e', z1, z2, z3⟩ := ht
      rw [hs] at h1
      cases h1
      rw [List.take_add_one, he] at z1
      rcases List.mem_append.mp z1 with z | z
      · exact .inl ⟨s, hs, e', z, z2, z3⟩
      · have : e' = e := by simpa using z
        rw [this] at z2
        exact .inr z2.symm
theorem Gl.next {rows : List Rw} {S : List Int} {x : List Nat} {k : Nat} {gs : List Int} {s : Int} (hs : S[k]? = some s) (h : Gl rows S x k (rowAt rows s).length gs) : Gl rows S x (k + 1) 0 gs := by
  refine ⟨h.nd, fun t => (h.mem t).trans ?_⟩
  have et : S.take (k + 1) = S.take k ++ [s] := by rw [List.take_add_one, hs]; rfl
  rw [et]
  constructor
  · rintro (⟨s', h1, h2⟩ | ⟨s', h1, e, h2, h3⟩)
    · exact .inl ⟨s', List.mem_append_left _ h1, h2⟩
    · rw [hs] at h1
      cases h1
      rw [List.take_length] at h2
      exact .inl ⟨s, List.mem_append_right _ (by simp), e, h2, h3⟩
  · rintro (⟨s', h1, h2⟩ | ⟨s', _, e, h2, _⟩)
    · rcases List.mem_append.mp h1 with z | z
      · exact .inl ⟨s', z, h2⟩
      · have : s' = s := by simpa using z
        rw [this] at h2
        obtain ⟨e, h2, h3⟩ := h2
        exact .inr ⟨s, hs, e, by rw [List.take_length]; exact h2, h3⟩
    · rw [List.take_zero] at h2; cases h2
theorem Gl.done {rows : List Rw} {S : List Int} {x : List Nat} {k : Nat} {gs : List Int} (h : Gl rows S x k 0 gs) (hk : S.length ≤ k) : ∀ t, t ∈ gs ↔ t ∈ goalsL rows S x := fun t => by
  rw [h.mem, mem_goalsL, List.take_of_length_le hk]
  constructor
  · rintro (z | ⟨s, _, e, z, _⟩)
    · exact z
    · rw [List.take_zero] at z; cases z
  · exact .inl
theorem Gl.rg {rows : List Rw} {S : List Int} {x : List Nat} {k n : Nat} {gs : List Int} (g : Good rows) (h : Gl rows S x k n gs) : ∀ t ∈ gs, 0 ≤ t ∧ t < (rows.length : Int) := fun t ht => by
  rcases (h.mem t).mp ht with ⟨s, _, z⟩ | ⟨s, _, e, z, z1, z2⟩
  · exact g.rgT z
  · exact g.rgT ⟨e, List.mem_of_mem_take z, z1, z2⟩
end SS
set_option maxRecDepth 100000
set_option maxHeartbeats 4000000
namespace SS
open PySem L2 SR TL
end SS
set_option maxRecDepth 100000
set_option maxHeartbeats 4000000
namespace SS
open PySem L2 SR TL ZA
end SS
set_option maxRecDepth 100000
set_option maxHeartbeats 4000000
namespace SS
open PySem PySem.Spec PyProof.Rows L2 SR TL
/-- the keys rise -/
def Ris (r : Rw) : Prop := r.Pairwise fun a b => a.1 < b.1
theorem Ris.nd {r : Rw} (h : Ris r) : (r.map (·.1)).Nodup := List.pairwise_map.mpr (h.imp fun h => Nat.ne_of_lt h)
theorem Ris.nd' {r : Rw} (h : Ris r) : r.Nodup := h.imp fun h e => by rw [e] at h; exact Nat.lt_irrefl _ h
end SS
set_option maxRecDepth 100000
set_option maxHeartbeats 4000000
namespace SS
open PySem L2 SR TL ZA
def sl (v w : List Nat) : Prop := v.length < w.length ∨ (v.length = w.length ∧ v ≤ w)
theorem sl_refl (v : List Nat) : sl v v := .inr ⟨rfl, List.le_refl _⟩
theorem sl_anti {v w : List Nat} (a : sl v w) (b : sl w v) : v = w := by
  rcases a with a | ⟨a1, a2⟩ <;> rcases b with b | ⟨b1, b2⟩
  · omega
  · omega
  · omega
  · exact List.le_antisymm a2 b2
theorem le_cons {c d : Nat} {v w : List Nat} (h : c < d ∨ (c = d ∧ v ≤ w)) : (c :: v) ≤ (d :: w) := by
  rw [List.cons_le_cons_iff]
  rcases h with h | ⟨h, h2⟩
  · exact .inl h
  · exact .inr ⟨h, h2⟩
/-- the least one -/
def LeastW (p : List Nat → Prop) (w : List Nat) : Prop := p w ∧ ∀ v, p v → sl w v
theorem LeastW.uniq {p : List Nat → Prop} {v w : List Nat} (a : LeastW p v) (b : LeastW p w) : v = w := sl_anti (a.2 w b.1) (b.2 v a.1)
section
variable {α : Type} {δ : α → Nat → Option α}
def goW (δ : α → Nat → Option α) (a : α) (w : List Nat) : Option α := w.foldl (fun o c => o.bind fun a => δ a c) (some a)
theorem fold_none (w : List Nat) : w.foldl (fun (o : Option α) c => o.bind fun a => δ a c) none = none := by
  induction w with
  | nil => rfl
  | cons c w ih => exact ih
theorem goW_cons {a : α} {c : Nat} {w : List Nat} : goW δ a (c :: w) = (δ a c).bind fun b => goW δ b w := by
  unfold goW
  rw [List.foldl_cons]
  show List.foldl _ (δ a c) w = _
  cases δ a c with
  | none => exact fold_none w
  | some b => rfl
/-- w leads from a to where acc holds -/
def AccW (δ : α → Nat → Option α) (acc : α → Prop) (a : α) (w : List Nat) : Prop := ∃ b, goW δ a w = some b ∧ acc b
theorem AccW.cons {acc : α → Prop} {a : α} {c : Nat} {w : List Nat} : AccW δ acc a (c :: w) ↔ ∃ b, δ a c = some b ∧ AccW δ acc b w := by
  unfold AccW
  rw [goW_cons]
  constructor
  · rintro ⟨b, h, hb⟩
    obtain ⟨b1, h1, h2⟩ := Option.bind_eq_some_iff.mp h
    exact ⟨b1, h1, b, h2, hb⟩
  · rintro ⟨b1, h1, b, h2, hb⟩
    exact ⟨b, by rw [h1]; exact h2, hb⟩
structure Need (δ : α → Nat → Option α) (acc ok : α → Prop) (D : α → Nat) (F : Nat) : Prop where
  cl : ∀ a c b, ok a → δ a c = some b → ok b
  up : ∀ a c b, ok a → δ a c = some b → D a ≤ D b + 1
  at0 : ∀ a, ok a → acc a → D a = 0
  dn : ∀ a, ok a → D a < F → (D a = 0 ∧ acc a) ∨ ∃ c b, δ a c = some b ∧ D b + 1 = D a
theorem Need.lower {acc ok : α → Prop} {D : α → Nat} {F : Nat} (N : Need δ acc ok D F) : ∀ (w : List Nat) (a : α), ok a → AccW δ acc a w → D a ≤ w.length
  | [], a, ha, ⟨b, h, hb⟩ => by
    cases h
    rw [N.at0 a ha hb]
    exact Nat.zero_le _
  | c :: w, a, ha, h => by
    obtain ⟨b, h1, h2⟩ := AccW.cons.mp h
    have := N.lower w b (N.cl a c b ha h1) h2
    have := N.up a c b ha h1
    rw [List.length_cons]
    omega
/-- the least sign first -/
inductive Gd (δ : α → Nat → Option α) (D : α → Nat) : α → List Nat → Prop
  | nil {a : α} : D a = 0 → Gd δ D a []
  | cons {a b : α} {c : Nat} {w : List Nat} : δ a c = some b → D b + 1 = D a → (∀ c' b', c' < c → δ a c' = some b' → D b' + 1 ≠ D a) → Gd δ D b w → Gd δ D a (c :: w)
theorem Gd.least {acc ok : α → Prop} {D : α → Nat} {F : Nat} (N : Need δ acc ok D F) {a : α} {w : List Nat} (g : Gd δ D a w) : ok a → D a < F → w.length = D a ∧ LeastW (AccW δ acc a) w := by
  induction g with
  | @nil a h0 =>
    intro ha hF
    refine ⟨h0.symm, ?_, fun v hv => ?_⟩
    · rcases N.dn a ha hF with ⟨_, h⟩ | ⟨c, b, _, h⟩
      · exact ⟨a, rfl, h⟩
      · omega
    · cases v with
      | nil => exact sl_refl _
      | cons c v => exact .inl (by simp)
  | @cons a b c w h1 h2 h3 h4 ih =>
    intro ha hF
    have hb := N.cl a c b ha h1
    obtain ⟨l1, ⟨a1, a2⟩⟩ := ih hb (by omega)
    refine ⟨by rw [List.length_cons]; omega, AccW.cons.mpr ⟨b, h1, a1⟩, fun v hv => ?_⟩
    have lo := N.lower v a ha hv
    by_cases hl : v.length = D a
    · cases v with
      | nil => simp at hl; omega
      | cons c' v =>
        obtain ⟨b', g1, g2⟩ := AccW.cons.mp hv
        have lo' := N.lower v b' (N.cl a c' b' ha g1) g2
        have up' := N.up a c' b' ha g1
        rw [List.length_cons] at hl
        have e : D b' + 1 = D a := by omega
        have hc : ¬ c' < c := fun z => h3 c' b' z g1 e
        refine .inr ⟨by rw [List.length_cons, List.length_cons]; omega, le_cons ?_⟩
        by_cases ec : c = c'
        · subst ec
          rw [h1] at g1
          cases g1
          refine .inr ⟨rfl, ?_⟩
          rcases a2 v g2 with z | ⟨_, z⟩
          · omega
          · exact z
        · exact .inl (by omega)
    · exact .inl (by rw [List.length_cons]; omega)
end
end SS
set_option maxRecDepth 100000
set_option maxHeartbeats 4000000
namespace SS
open PySem L2 SR TL ZA
end SS
set_option maxRecDepth 100000
set_option maxHeartbeats 4000000
namespace SR
open PySem PySem.Spec PyProof.Rows L2
open PySem.SeqAt
open AutoSeq1 (wpAny_loadPart')
open MeetsSeq
end SR
set_option maxRecDepth 100000
set_option maxHeartbeats 4000000
namespace SR
open PySem PySem.Spec PyProof.Rows L2
open PySem.SeqAt
/-- the built-in types of which a thing may be -/
structure OddC (K : PySem.W.Frag) (C : Addr) : Prop where
  to : ∀ T ∈ (["NoneType", "int", "str", "list", "tuple", "dict"] : List String), PySem.W.subIn K (.type T) (.ref C) = some false
  fro : ∀ T ∈ (["NoneType", "int", "str", "list", "tuple", "dict"] : List String), PySem.W.subIn K (.ref C) (.type T) = some false
  ic : PySem.W.isClsIn K C = true
  ty : PySem.W.typeIn K (.ref C) = some (.type "type")
theorem OddC.kit {K : PySem.W.Frag} {C : Addr} (o : OddC K C) {T : String} (h : T ∈ (["NoneType", "int", "str", "list", "tuple", "dict"] : List String)) : PySem.W.kitOne K (.type T) (.ref C) = some false := by
  unfold PySem.W.kitOne
  have nq : ¬ (Value.type T == Value.ref C) = true := fun q => by
    have z : Value.type T = Value.ref C := beq_iff_eq.mp q
    cases z
  rw [if_neg nq]
  unfold PySem.W.kitCls
  have h2' : (PySem.W.clsIn K C).isSome = true := o.ic
  show (if ((PySem.W.clsIn K C).isSome && PySem.W.typeIn K (.ref C) == some (.type "type")) = true then PySem.W.subIn K (.type T) (.ref C) else none) = some false
  rw [if_pos (by rw [h2', o.ty] <;> rfl)]
  exact o.to T h
/-- a thing of such a type -/
inductive Odd (H : Hp) : V → String → Prop
  | non : Odd H .non "NoneType"
  | int (i : Int) : Odd H (.int i) "int"
  | str (z : Str) : Odd H (.str z) "str"
  | lst {a : Addr} {xs : List V} : H a = some (.lst xs) → Odd H (.ref a) "list"
  | tup {a : Addr} {xs : List V} : H a = some (.tup xs) → Odd H (.ref a) "tuple"
  | dict {a : Addr} {kvs : List (Key × V)} : H a = some (.dK kvs) → Odd H (.ref a) "dict"
theorem Odd.mem {H : Hp} {v : V} {T : String} (o : Odd H v T) : T ∈ (["NoneType", "int", "str", "list", "tuple", "dict"] : List String) := by
  cases o <;> decide
theorem Odd.mono {H H' : Hp} {v : V} {T : String} (e : ∀ b o, H b = some o → H' b = some o) (o : Odd H v T) : Odd H' v T := by
  cases o with
  | non => exact .non
  | int i => exact .int i
  | str z => exact .str z
  | lst h => exact .lst (e _ _ h)
  | tup h => exact .tup (e _ _ h)
  | dict h => exact .dict (e _ _ h)
theorem Odd.tyx {K : PySem.W.Frag} {H : Hp} {v : V} {T : String} (o : Odd H v T) : TyX K H v (.type T) := by
  cases o with
  | non => exact .base .non
  | int i => exact .base (.int i)
  | str z => exact .base (.str z)
  | lst h => exact .base (.lst h)
  | tup h => exact .base (.tup h)
  | dict h => exact .base (.dK h)
section
variable {X : Cx}
theorem Odd.typeIs {pins : List (Addr × Obj)} {σ : L2.St} {H : Hp} {s : Shared} {v : V} {u : Value} {T : String} (I : Inv X pins σ H s) (o : Odd H v T) (r : RelV v u) : s.TypeIs u T := by
  cases o with
  | non => cases (show u = Value.none from r); rfl
  | int i => obtain ⟨t, rfl⟩ := r; exact typeIs_int s i t
  | str z => obtain ⟨t, rfl⟩ := r; exact typeIs_str s z t
  | @lst a xs h =>
    cases (show u = Value.ref a from r)
    obtain ⟨_, _, n, _, h1⟩ := (show ObjOk X.prog X.w H s.heap a (.lst xs) from I.hok a _ h)
    exact ⟨_, h1, rfl⟩
  | @tup a xs h =>
    cases (show u = Value.ref a from r)
    obtain ⟨_, _, _, o, h1, h2, _⟩ := (show ObjOk X.prog X.w H s.heap a (.tup xs) from I.hok a _ h)
    exact ⟨o, h1, h2⟩
  | @dict a kvs h =>
    cases (show u = Value.ref a from r)
    obtain ⟨_, _, vs, _, o, es, ep, h1, h2, _⟩ := (show ObjOk X.prog X.w H s.heap a (.dK kvs) from I.hok a _ h)
    exact ⟨o, h1, h2.1⟩
end
end SR
set_option maxRecDepth 100000
set_option maxHeartbeats 4000000
namespace SR
open PySem PySem.Spec PyProof.Rows L2 PySem.SeqAt
end SR
set_option maxRecDepth 100000
set_option maxHeartbeats 1000000
namespace SS
open PySem PySem.Spec PyProof.Rows L2 SR TL
end SS
set_option maxRecDepth 100000
set_option maxHeartbeats 4000000
namespace SS
open PySem L2 SR TL
end SS
set_option maxRecDepth 100000
set_option maxHeartbeats 4000000
namespace SR
open PySem PySem.Spec PyProof.Rows L2 ClX
end SR
set_option maxRecDepth 100000
set_option maxHeartbeats 4000000
namespace SR
open PySem PySem.Spec PyProof.Rows L2 StX
end SR
set_option maxRecDepth 100000
set_option maxHeartbeats 4000000
namespace SR
open PySem PySem.Spec PyProof.Rows L2
end SR
set_option maxRecDepth 100000
set_option maxHeartbeats 4000000
namespace SR
open PySem PySem.Spec PyProof.Rows L2
end SR
namespace SS
open PySem L2 SR TL
def gA {α : Type} : List α → List α → List α := fun vs zs => vs ++ zs
/-- the orders of the keywords -/
def gI3 {α : Type} : List α → List α → List α
  | [x], [a, b, c] => [x, b, c, a]
  | _, _ => []
theorem gI3_rel {vs zs : List V} {us ws : List Value} (r1 : Vals vs us) (r2 : Vals zs ws) : Vals (gI3 vs zs) (gI3 us ws) := by
  rcases r1 with _ | ⟨x, r1⟩
  · exact .nil
  · rcases r1 with _ | ⟨y, r1⟩
    · rcases r2 with _ | ⟨a, r2⟩
      · exact .nil
      · rcases r2 with _ | ⟨b, r2⟩
        · exact .nil
        · rcases r2 with _ | ⟨c, r2⟩
          · exact .nil
          · rcases r2 with _ | ⟨d, r2⟩
            · exact .cons x (.cons b (.cons c (.cons a .nil)))
            · exact .nil
    · exact .nil
section
variable {P : Program} {w : World} {K : PySem.W.Frag} {mg : Str → Option Value} {base : Heap}
/-- Reader(..) in all the ways in which the law makes one; e: the default of ends -/
structure RdK (P : Program) (w : World) (K : PySem.W.Frag) (mg : Str → Option Value) (base : Heap) (C f : Addr) (fd : FuncData) (e : Addr) : Prop where
  mak : Mk K C f
  mgC : mg "Reader" = some (.ref C)
  ok : FnOk P w K mg base CX0 7 f fd psIni (spIni K C)
  emp : KTup K e []
  k3 : ∃ g, KBn K fd psIni 3 ["start"] g gA
  k2 : ∃ g, KBn K fd psIni 2 ["ends", "start"] g gA
  k1 : ∃ g, KBn K fd psIni 1 ["start", "states", "ends"] g gI3
  b3 : ∃ ds, Vals [V.int 0] ds ∧ Binds K fd psIni ds
  b2 : ∃ ds, Vals [V.ref e, V.int 0] ds ∧ Binds K fd psIni ds
  ks : ∃ g, KBn K fd psIni 1 ["states"] g (fun vs zs => vs ++ (zs ++ [V.ref e, V.int 0]))
theorem rdK_of {f C e : Addr} {fd : FuncData} (F : FunD K "__init__" "Reader.__init__" (defArgs sIni) (defBody sIni) (defScope sIni) [V.ref e] [("start", V.int 0)] f fd) (M : Mk K C f) (mC : mg "Reader" = some (.ref C)) (ok : FnOk P w K mg base CX0 7 f fd psIni (spIni K C)) (em : KTup K e []) : RdK P w K mg base C f fd e where
  mak := M
  mgC := mC
  ok := ok
  emp := em
  k3 := by
    obtain ⟨its, kb⟩ := F.kbindsD (ps := psIni) 3 ["start"] (fun us _ ws => us ++ ws) (by simp) (fun r1 _ r3 => r1.append r3) fun T kV doc pm an cdv ct us its ws l1 l2 l3 => by
      match us, l1, its, l2, ws, l3 with
      | [a, b, c], _, [d], _, [e], _ => exact ⟨_, rfl, rfl⟩
    exact ⟨_, kb⟩
  k2 := by
    obtain ⟨its, kb⟩ := F.kbindsD (ps := psIni) 2 ["ends", "start"] (fun us _ ws => us ++ ws) (by simp) (fun r1 _ r3 => r1.append r3) fun T kV doc pm an cdv ct us its ws l1 l2 l3 => by
      match us, l1, its, l2, ws, l3 with
      | [a, b], _, [d], _, [c, e], _ => exact ⟨_, rfl, rfl⟩
    exact ⟨_, kb⟩
  k1 := by
    obtain ⟨its, kb⟩ := F.kbindsD (ps := psIni) 1 ["start", "states", "ends"] (fun us _ ws => gI3 us ws) (by simp) (fun r1 _ r3 => gI3_rel r1 r3) fun T kV doc pm an cdv ct us its ws l1 l2 l3 => by
      match us, l1, its, l2, ws, l3 with
      | [a], _, [d], _, [b, c, e], _ => exact ⟨_, rfl, rfl⟩
    exact ⟨_, kb⟩
  b3 := F.binds (ps := psIni) 3 1 (by simp) rfl (fun T D doc pm an cdv ct us its ks l1 l2 l3 => by
    match us, l1, its, l2, ks, l3 with
    | [a, b, c], _, [d], _, [e], _ => exact ⟨_, rfl, _, _, _, _, _, _, rfl, rfl, rfl⟩) (by simp)
  b2 := F.binds (ps := psIni) 2 0 (by simp) rfl (fun T D doc pm an cdv ct us its ks l1 l2 l3 => by
    match us, l1, its, l2, ks, l3 with
    | [a, b], _, [d], _, [e], _ => exact ⟨_, rfl, _, _, _, _, _, _, rfl, rfl, rfl⟩) (by simp)
  ks := by
    obtain ⟨its, mv, kb⟩ := F.kbinds (ps := psIni) 1 ["states"] [("start", V.int 0)] (fun us its mv ws => us ++ (ws ++ (its ++ mv))) (by simp) (by simp) (fun q h => h) (fun r1 r2 r3 r4 => r1.append (r4.append (r2.append r3))) fun T D doc pm an cdv ct us its mv ws l1 l2 l3 l4 => by
      match us, l1, its, l2, mv, l3, ws, l4 with
      | [a], _, [d], _, [e], _, [b], _ => exact ⟨_, rfl, _, _, _, _, _, _, rfl, rfl, rfl⟩
    exact ⟨_, kb⟩
end
end SS
set_option maxRecDepth 100000
set_option maxHeartbeats 4000000
namespace SG
open PySem L2 SR TL SS
def rowK (cs : List Nat) (row : List Int) : List (Key × V) := (cs.zip row).map fun p => (Sum.inr (lt p.1), V.int p.2)
def RowAt (H : Hp) (cs : List Nat) (q : Addr) (row : List Int) : Prop := H q = some (.dK (rowK cs row))
structure WfM (cs : List Nat) (rows : List (List Int)) (ends : List Int) : Prop where
  one : 1 ≤ rows.length
  five : rows.length ≤ 40
  row : ∀ row ∈ rows, row.length = cs.length ∧ ∀ g ∈ row, 0 ≤ g ∧ g < (rows.length : Int)
  nd : ends.Nodup
  fin : ∀ e ∈ ends, 0 ≤ e ∧ e < (rows.length : Int)
end SG
set_option maxRecDepth 100000
set_option maxHeartbeats 4000000
namespace SG
open PySem L2 SR TL SS
end SG
set_option maxRecDepth 100000
set_option maxHeartbeats 4000000
namespace SG
open PySem L2 SR TL SS
end SG
set_option maxRecDepth 100000
set_option maxHeartbeats 4000000
namespace SG
open PySem L2 SR TL SS
def nxt (cs : List Nat) (rows : List (List Int)) (q : Int) (c : Nat) : Int := (rows.getD q.toNat []).getD (cs.idxOf c) 0
def run (cs : List Nat) (rows : List (List Int)) (q : Int) (x : List Nat) : Int := x.foldl (nxt cs rows) q
theorem val_row : ∀ {cs : List Nat} {row : List Int} {c : Nat}, row.length = cs.length → c ∈ cs → valV (rowK cs row) (Sum.inr (lt c)) = some (.int (row.getD (cs.idxOf c) 0))
  | [], row, c, _, h => nomatch h
  | d :: cs, [], c, h, _ => by simp at h
  | d :: cs, g :: row, c, hl, hc => by
    have hl' : row.length = cs.length := by simpa using hl
    by_cases e : d = c
    · subst e
      simp [valV, rowK, List.idxOf_cons]
    · have hc' : c ∈ cs := by
        rcases List.mem_cons.mp hc with z | z
        · exact absurd z.symm e
        · exact z
      have ih := val_row hl' hc'
      have ne : ¬ ((Sum.inr (lt d) : Key) = Sum.inr (lt c)) := fun z => e (lt_inj (Sum.inr.inj z))
      have e1 : valV (rowK (d :: cs) (g :: row)) (Sum.inr (lt c)) = valV (rowK cs row) (Sum.inr (lt c)) := by
        show ((((Sum.inr (lt d) : Key), V.int g) :: rowK cs row).find? fun kv => decide (kv.1 = Sum.inr (lt c))).map (·.2) = _
        rw [List.find?_cons_of_neg (by simpa using ne)]
        rfl
      rw [e1, ih]
      have : (d :: cs).idxOf c = cs.idxOf c + 1 := by
        rw [List.idxOf_cons]
        have : (d == c) = false := beq_eq_false_iff_ne.mpr e
        simp [this]
      rw [this]
      rfl
theorem WfM.nxt_ok {cs : List Nat} {rows : List (List Int)} {ends : List Int} (W : WfM cs rows ends) {q : Int} {c : Nat} (q0 : 0 ≤ q) (q1 : q < (rows.length : Int)) (hc : c ∈ cs) :
    ∃ row, rows[q.toNat]? = some row ∧ row.length = cs.length ∧ nxt cs rows q c = row.getD (cs.idxOf c) 0 ∧ 0 ≤ nxt cs rows q c ∧ nxt cs rows q c < (rows.length : Int) := by
  have hl : q.toNat < rows.length := by omega
  have hm := W.row rows[q.toNat] (List.getElem_mem hl)
  have e : nxt cs rows q c = rows[q.toNat].getD (cs.idxOf c) 0 := by simp [nxt, hl]
  refine ⟨rows[q.toNat], by simp [hl], hm.1, e, ?_⟩
  have hi : cs.idxOf c < rows[q.toNat].length := by rw [hm.1]; exact List.idxOf_lt_length_of_mem hc
  have hg : rows[q.toNat].getD (cs.idxOf c) 0 ∈ rows[q.toNat] := by
    rw [List.getD_eq_getElem?_getD, List.getElem?_eq_getElem hi]
    exact List.getElem_mem hi
  rw [e]
  exact hm.2 _ hg
end SG
set_option maxRecDepth 100000
set_option maxHeartbeats 4000000
namespace SG
open PySem L2 SR TL SS
end SG
set_option maxRecDepth 100000
set_option maxHeartbeats 4000000
namespace SG
open PySem L2 SR TL SS
def Hit (fd row : List Int) : Prop := ∃ g ∈ row, g ∈ fd
def Closed (rows : List (List Int)) (fd : List Int) : Prop := ∀ (j : Nat) row, rows[j]? = some row → Hit fd row → (j : Int) ∈ fd
structure Sound (n : Nat) (G : Int → Prop) (ends fd : List Int) : Prop where
  nd : fd.Nodup
  bd : ∀ q ∈ fd, 0 ≤ q ∧ q < (n : Int)
  good : ∀ q ∈ fd, G q
  all : ∀ e ∈ ends, e ∈ fd
structure Outer (rows : List (List Int)) (G : Int → Prop) (ends : List Int) (i : Nat) (fd : List Int) : Prop where
  snd : Sound rows.length G ends fd
  more : Closed rows fd ∨ i ≤ fd.length
structure Inner (rows : List (List Int)) (G : Int → Prop) (ends fd0 : List Int) (j : Nat) (fd : List Int) : Prop where
  snd : Sound rows.length G ends fd
  still : Closed rows fd0 → fd = fd0
  more : (fd = fd0 ∧ ∀ (a : Nat) row, a < j → rows[a]? = some row → Hit fd row → (a : Int) ∈ fd) ∨ fd0.length < fd.length
theorem Inner.start {rows : List (List Int)} {G : Int → Prop} {ends fd : List Int} (s : Sound rows.length G ends fd) : Inner rows G ends fd 0 fd := ⟨s, fun _ => rfl, .inl ⟨rfl, fun _ _ h => absurd h (Nat.not_lt_zero _)⟩⟩
theorem Inner.skip {rows : List (List Int)} {G : Int → Prop} {ends fd0 fd row : List Int} {j : Nat} (s : Inner rows G ends fd0 j fd) (hr : rows[j]? = some row) (h : (j : Int) ∈ fd ∨ ¬ Hit fd row) : Inner rows G ends fd0 (j + 1) fd := by
  refine ⟨s.snd, s.still, s.more.imp (fun ⟨e, m⟩ => ⟨e, fun a r ha hr' hh => ?_⟩) id⟩
  by_cases ea : a = j
  · subst ea
    rw [hr] at hr'
    cases hr'
    rcases h with h | h
    · exact h
    · exact absurd hh h
  · exact m a r (by omega) hr' hh
theorem Inner.add {rows : List (List Int)} {G : Int → Prop} {ends fd0 fd row : List Int} {j : Nat} (hG : ∀ (a : Nat) row g, rows[a]? = some row → g ∈ row → G g → G (a : Int)) (s : Inner rows G ends fd0 j fd) (hr : rows[j]? = some row) (hn : (j : Int) ∉ fd) (h : Hit fd row) :
    Inner rows G ends fd0 (j + 1) (fd ++ [(j : Int)]) := by
  have hj : j < rows.length := (List.getElem?_eq_some_iff.mp hr).1
  refine ⟨⟨?_, ?_, ?_, fun e he => List.mem_append_left _ (s.snd.all e he)⟩, fun c => ?_, .inr ?_⟩
  · rw [List.nodup_append]
    refine ⟨s.snd.nd, List.nodup_cons.mpr ⟨by simp, List.nodup_nil⟩, fun a ha b hb e => hn ?_⟩
    rw [List.mem_singleton] at hb
    rw [← hb, ← e]; exact ha
  · intro q hq
    rcases List.mem_append.mp hq with z | z
    · exact s.snd.bd q z
    · rw [List.mem_singleton.mp z]; omega
  · intro q hq
    rcases List.mem_append.mp hq with z | z
    · exact s.snd.good q z
    · obtain ⟨g, hg, hf⟩ := h
      rw [List.mem_singleton.mp z]
      exact hG j row g hr hg (s.snd.good g hf)
  · exact absurd ((s.still c) ▸ c j row hr (by rw [s.still c] at h; exact h)) hn
  · rcases s.more with ⟨e, _⟩ | h
    · rw [List.length_append, e]; simp
    · rw [List.length_append]; simp; omega
theorem Inner.done {rows : List (List Int)} {G : Int → Prop} {ends fd0 fd : List Int} {i : Nat} (o : Outer rows G ends i fd0) (s : Inner rows G ends fd0 rows.length fd) : Outer rows G ends (i + 1) fd := by
  refine ⟨s.snd, ?_⟩
  rcases s.more with ⟨e, m⟩ | h
  · exact .inl fun a r hr hh => m a r (List.getElem?_eq_some_iff.mp hr).1 hr hh
  · rcases o.more with c | c
    · have := s.still c
      rw [this] at h
      omega
    · exact .inr (by omega)
theorem all_of_long : ∀ (n : Nat) (l : List Int), l.Nodup → (∀ q ∈ l, 0 ≤ q ∧ q < (n : Int)) → n ≤ l.length → ∀ j : Nat, j < n → (j : Int) ∈ l
  | 0, _, _, _, _, j, hj => absurd hj (Nat.not_lt_zero _)
  | n + 1, l, nd, bd, hl, j, hj => by
    by_cases hn : ((n : Nat) : Int) ∈ l
    · by_cases e : j = n
      · rw [e]; exact hn
      · have nd' := nd.erase ((n : Nat) : Int)
        have ih := all_of_long n (l.erase (n : Int)) nd' (fun q hq => by
          have h1 := bd q (List.mem_of_mem_erase hq)
          have h2 : q ≠ (n : Int) := (List.Nodup.mem_erase_iff nd).mp hq |>.1
          omega) (by rw [List.length_erase_of_mem hn]; omega) j (by omega)
        exact List.mem_of_mem_erase ih
    · have := all_of_long n l nd (fun q hq => by
        have h1 := bd q hq
        have h2 : q ≠ (n : Int) := fun z => hn (z ▸ hq)
        omega) (by omega)
      -- n different numbers below n: one more than fits
      exfalso
      have := nodup_len n l nd (fun q hq => by
        have h1 := bd q hq
        have h2 : q ≠ (n : Int) := fun z => hn (z ▸ hq)
        omega)
      omega
theorem Sound.len {n : Nat} {G : Int → Prop} {ends fd : List Int} (s : Sound n G ends fd) : fd.length ≤ n := nodup_len n fd s.nd s.bd
theorem Outer.closed {rows : List (List Int)} {G : Int → Prop} {ends fd : List Int} (o : Outer rows G ends rows.length fd) : Closed rows fd := by
  rcases o.more with c | c
  · exact c
  · exact fun j row hr _ => all_of_long rows.length fd o.snd.nd o.snd.bd c j (List.getElem?_eq_some_iff.mp hr).1
/-- some text over cs leads from q into ends -/
def Leads (cs : List Nat) (rows : List (List Int)) (ends : List Int) (q : Int) : Prop := ∃ x : List Nat, (∀ c ∈ x, c ∈ cs) ∧ run cs rows q x ∈ ends
theorem getD_mem_row {cs : List Nat} {row : List Int} {c : Nat} (hl : row.length = cs.length) (hc : c ∈ cs) : row.getD (cs.idxOf c) 0 ∈ row := by
  have hi : cs.idxOf c < row.length := by rw [hl]; exact List.idxOf_lt_length_of_mem hc
  rw [List.getD_eq_getElem?_getD, List.getElem?_eq_getElem hi]
  exact List.getElem_mem hi
theorem leads_back {cs : List Nat} {rows : List (List Int)} {ends : List Int} (W : WfM cs rows ends) (nd : cs.Nodup) (a : Nat) (row : List Int) (g : Int) (hr : rows[a]? = some row) (hg : g ∈ row) (h : Leads cs rows ends g) : Leads cs rows ends (a : Int) := by
  obtain ⟨x, hx, he⟩ := h
  have hl := (W.row row (List.mem_of_getElem? hr)).1
  obtain ⟨j, hj, e⟩ := List.getElem_of_mem hg
  have hjc : j < cs.length := by omega
  refine ⟨cs[j] :: x, fun c hc => ?_, ?_⟩
  · rcases List.mem_cons.mp hc with z | z
    · rw [z]; exact List.getElem_mem hjc
    · exact hx c z
  · show run cs rows (nxt cs rows (a : Int) cs[j]) x ∈ ends
    have e1 : nxt cs rows (a : Int) cs[j] = g := by
      unfold nxt
      have er : rows.getD (a : Int).toNat [] = row := by rw [Int.toNat_natCast, List.getD_eq_getElem?_getD, hr]; rfl
      rw [er, List.Nodup.idxOf_getElem nd j hjc, List.getD_eq_getElem?_getD, List.getElem?_eq_getElem hj]
      exact e
    rw [e1]
    exact he
theorem closed_leads {cs : List Nat} {rows : List (List Int)} {ends fd : List Int} (W : WfM cs rows ends) (c : Closed rows fd) (ha : ∀ e ∈ ends, e ∈ fd) : ∀ (x : List Nat) (q : Int), 0 ≤ q → q < (rows.length : Int) → (∀ c ∈ x, c ∈ cs) → run cs rows q x ∈ ends → q ∈ fd
  | [], q, _, _, _, h => ha q h
  | d :: x, q, q0, q1, hx, h => by
    obtain ⟨row, hr, hl, e, n0, n1⟩ := W.nxt_ok q0 q1 (hx d List.mem_cons_self)
    have ih := closed_leads W c ha x _ n0 n1 (fun c hc => hx c (List.mem_cons_of_mem _ hc)) h
    have hm : nxt cs rows q d ∈ row := by rw [e]; exact getD_mem_row hl (hx d List.mem_cons_self)
    have := c q.toNat row hr ⟨_, hm, ih⟩
    rwa [Int.toNat_of_nonneg q0] at this
theorem Outer.leads {cs : List Nat} {rows : List (List Int)} {ends fd : List Int} (W : WfM cs rows ends) (o : Outer rows (Leads cs rows ends) ends rows.length fd) {q : Int} (q0 : 0 ≤ q) (q1 : q < (rows.length : Int)) : q ∈ fd ↔ Leads cs rows ends q :=
  ⟨o.snd.good q, fun ⟨x, hx, h⟩ => closed_leads W o.closed o.snd.all x q q0 q1 hx h⟩
end SG
set_option maxRecDepth 100000
set_option maxHeartbeats 4000000
namespace SG
open PySem L2 SR TL SS
/-- behind a lock -/
theorem lock_same {H H' : Hp} {d : Addr} {f u : HO} (hd : H d = some u) (e : Same (upd H d f) H') : Same H (upd H' d u) := fun a o h => by
  by_cases ha : a = d
  · subst ha; rw [upd_same, ← hd, h]
  · rw [upd_ne ha]; exact e a o (by rw [upd_ne ha]; exact h)
theorem any_dec (fd row : List Int) : (row.map fun g => decide (g ∈ fd)).any id = true ↔ Hit fd row := by
  rw [List.any_eq_true]
  constructor
  · rintro ⟨b, hb, e⟩
    obtain ⟨g, hg, rfl⟩ := List.mem_map.mp hb
    exact ⟨g, hg, of_decide_eq_true e⟩
  · rintro ⟨g, hg, h⟩
    exact ⟨_, List.mem_map.mpr ⟨g, hg, rfl⟩, decide_eq_true h⟩
theorem rowK_vals {cs : List Nat} {row : List Int} (h : row.length = cs.length) : (rowK cs row).map (·.2) = row.map .int := by
  unfold rowK
  rw [List.map_map]
  have : (cs.zip row).map ((fun x : Key × V => x.2) ∘ fun p : Nat × Int => ((Sum.inr (lt p.1) : Key), V.int p.2)) = ((cs.zip row).map Prod.snd).map .int := by
    rw [List.map_map]; rfl
  rw [this, List.map_snd_zip (by omega)]
section
variable {P : Program} {w : World} {K : PySem.W.Frag} {mg : Str → Option Value} {base : Heap}
/-- [goal in found for goal in line.values()], any of it -/
theorem vals_in {K : PySem.W.Frag} {H : Hp} {σ : St} {d pf : Addr} {cs : List Nat} {row fd : List Int} {sf sg sd : Nat} {Q : V → Hp → Prop} (hd : H d = some (.dK (rowK cs row))) (hl : row.length = cs.length) (hc : cs.length ≤ 1000) (hf : H pf = some (.lst (fd.map .int)))
    (h1 : ∀ v, wipe ((wipe σ [sg]).set sg v) [sg] = wipe σ [sg]) (h2 : ∀ v, ((wipe σ [sg]).set sg (some v))[sg]? = some (some v)) (h3 : ∀ v, ((wipe σ [sg]).set sg (some v))[sf]? = some (some (.ref pf))) (h4 : σ[sd]? = some (some (.ref d)))
    (hQ : ∀ D H', Same H H' → H' D = some (.lst ((row.map fun g => decide (g ∈ fd)).map V.bl)) → Q (.ref D) H') :
    tLockE (tLc (iVals (tVar sd)) (gName sg) tYes (tOp (rIn K false) (tVar sg) (tVar sf)) [sg]) σ H Q := by
  refine ⟨d, _, hd, trivial, fun od => ⟨_, h4, d, od, _, rfl, upd_same, fun D hD => ?_⟩⟩
  have nfd : pf ≠ d := ne_of hf hd (by intro z; cases z)
  refine lc_S walk_values hD (by unfold rowK; simp; omega) (fun i acc _ => acc = ((row.take i).map fun g => decide (g ∈ fd)).map V.bl) (fun _ _ _ _ _ _ _ h => h) rfl (fun H' e => e _ _ upd_same) ?_ ?_
  · rintro i x H3 H3' acc Qt Qf hi e3 hd3 rfl ⟨rfl, k, hk⟩ kt kf
    have hv : ((rowK cs row).map (·.2))[i]? = some x := by rw [List.getElem?_map, hk]; rfl
    rw [rowK_vals hl, List.getElem?_map] at hv
    obtain ⟨g, hg, rfl⟩ := Option.map_eq_some_iff.mp hv
    refine ⟨h1 _, _, h2 _, _, h3 _, pf, _, rfl, .inl (SqL.of (e3 _ _ (by rw [upd_ne nfd]; exact hf))), rfl, flat_ints _, kt _ _ (Same.refl _) ?_⟩
    have et : row.take (i + 1) = row.take i ++ [g] := by rw [List.take_add_one, hg]; rfl
    rw [et, List.map_append, List.map_append]
    show _ ++ [V.bl (inV (.int g) (fd.map .int))] = _
    rw [inV_ints]
    rfl
  · rintro H3 acc e3 hd3 rfl
    have hn : (rowK cs row).length = row.length := by unfold rowK; simp; omega
    rw [hn, List.take_length] at hd3
    have h3d := e3 _ _ (upd_same (H := H) (a := d) (o := HO.frz od (.dK (rowK cs row))))
    refine ⟨h3d, hQ D _ (lock_same hd e3) ?_⟩
    rw [upd_ne (ne_of hd3 h3d (by intro z; cases z))]
    exact hd3
end
end SG
set_option maxRecDepth 100000
set_option maxHeartbeats 8000000
namespace SG
open PySem L2 SR TL SS
def Odd (H : Hp) (cs : List Nat) (v : V) : Prop := NonStr H v ∨ ∃ x c, v = .str (txt x) ∧ c ∈ x ∧ c ∉ cs ∧ x.length ≤ 10
theorem Odd.mono {H H' : Hp} {cs : List Nat} {v : V} (e : Same H H') (h : Odd H cs v) : Odd H' cs v := h.imp (NonStr.mono e) id
end SG
set_option maxRecDepth 100000
set_option maxHeartbeats 4000000
namespace SG
open PySem L2 SR TL SS
/-- the constants of the program -/
structure Cn (mg : Str → Option Value) : Prop where
  letters : ∃ t, mg "LETTERS" = some (.str (Str.ofString "abcdefghijklmnopqrstuvwxyz") t)
  signs : ∃ t, mg "MOST_SIGNS" = some (.int 4 t)
  given : ∃ t, mg "MOST_GIVEN_STATES" = some (.int 40 t)
  most : ∃ t, mg "MOST_STATES" = some (.int 6 t)
theorem dp_map {α : Type} {K : PySem.W.Frag} {H : Hp} {f : α → V} {g : α → PyData} (h : ∀ a, Dp K H (f a) (g a)) : ∀ xs : List α, DpAll K H (xs.map f) (xs.map g)
  | [] => .nil
  | a :: xs => .cons (h a) (dp_map h xs)
section
variable {P : Program} {w : World} {K : PySem.W.Frag} {mg : Str → Option Value} {base : Heap}
theorem scSigns : FnScope ["value"] ["value"] (defScope sSigns) := ⟨rfl, rfl, rfl, by decide +kernel, rfl, by decide +kernel, by decide +kernel⟩
def spSigns : Sp := fun vs H Q _ => ∃ cs, vs = [.str (txt cs)] ∧ Abc cs ∧ ∀ H', Same H H' → Q (.bl true) H'
theorem ok_signs {f : Addr} {fd : FuncData} (F : Fun K "are_signs" "are_signs" sSigns f fd) (B : Bl mg) (C : Cn mg) (Wd : Cal P w K mg base "is_word" 1 ["value"] spWord) : FnOk P w K mg base CX0 2 f fd ["value"] spSigns := by
  obtain ⟨tl, hl⟩ := C.signs
  refine F.ok scSigns (fun vs H Q E h => ?_) (fun cdv A outer s H vs Q E hr h => ?_)
  · obtain ⟨v, rfl, _⟩ := h
    rfl
  · obtain ⟨cs, rfl, ha, k⟩ := h
    refine ⟨_, pss_one (ps_ret (pe_and (pe_cal Wd hr (pa_cons (pv 0) pa_nil))
      (pe_and (pe_chain op_le op_le pe_int (pe_callB call_len_str (by rfl) B.len boot_len (pa_cons (pv 0) pa_nil)) (pe_glob (v := .int 4) rfl hl ⟨tl, rfl⟩))
        (pe_one (pe_cmpR (op_eqD hr.units) (pe_callTy (call_list_txt rfl) (by rfl) B.list (by decide +kernel) (pa_cons (pv 0) pa_nil)) (pe_callB (cr_sortedKS rfl) (by rfl) B.sorted (by decide +kernel) (pa_cons (pe_callTy (cr_setK rfl) (by rfl) B.set (by decide +kernel) (pa_cons (pv 0) pa_nil)) pa_nil)) (nomark _)))))), ?_⟩
    have hz : (txt cs).length ≤ sizeLine := by rw [txt_len, sizeLine_eq]; have := ha.four; omega
    refine ⟨_, rfl, _, rfl, .inr ⟨cs, rfl, by have := ha.four; omega, fun b H1 hb e1 => ?_⟩⟩
    have hb' : b = true := hb.mpr ha.abc
    subst hb'
    refine ⟨true, rfl, ?_⟩
    refine ⟨_, rfl, _, rfl, hz, _, _, rfl, rfl, _, rfl, ?_⟩
    have h1 : decide ((1 : Int) ≤ ((txt cs).length : Nat)) = true := decide_eq_true (by rw [txt_len]; have := ha.one; omega)
    have h4 : decide (((txt cs).length : Nat) ≤ (4 : Int)) = true := decide_eq_true (by rw [txt_len]; have := ha.four; omega)
    rw [h1]
    refine ⟨_, _, rfl, rfl, _, rfl, ?_⟩
    rw [h4]
    refine ⟨_, rfl, _, rfl, hz, fun l hl => ?_⟩
    refine ⟨_, rfl, cs.map (fun c => (Sum.inr (lt c) : Key)), .inr ⟨_, rfl, by rw [txt_codes]⟩, by rw [List.length_map]; have := ha.four; omega, fun p kl hp nd hm _ => ?_⟩
    have ndc : (cs.map (fun c => (Sum.inr (lt c) : Key))).Nodup := List.Pairwise.map _ (fun a b hab e => hab (lt_inj (Sum.inr.inj e))) (ris_nodup ha.ris)
    have pm : kl.Perm ((cs.map lt).map Sum.inr) := by
      rw [List.map_map]
      exact (List.perm_ext_iff_of_nodup nd ndc).mpr hm
    obtain ⟨ts, rfl, pt⟩ := perm_inr (l := []) pm
    have tl4 : ts.length < 64 := by have := pt.length_eq; rw [List.length_map] at this; have := ha.four; omega
    refine ⟨p, ts, rfl, upd_same, tl4, fun ys q py so hq => ?_⟩
    obtain ⟨ds, rfl, pd⟩ := perm_lt (py.trans pt)
    have ed : ds = cs := List.Perm.eq_of_pairwise (le := (· ≤ ·)) (fun a b _ _ h1 h2 => Nat.le_antisymm h1 h2) (sorted_lt ds so) (ha.ris.imp fun h => Nat.le_of_lt h) pd
    subst ed
    have n1 : l ≠ p := ne_of_none upd_same hp
    have n2 : l ≠ q := ne_of_none (by rw [upd_ne n1]; exact upd_same) hq
    have lf : ∀ d ∈ ds.map (fun c => PyData.str (lt c)), Leaf d := fun d hd => by
      obtain ⟨c, hc, rfl⟩ := List.mem_map.mp hd
      exact leaf_lt (ha.abc c hc).2
    refine ⟨.list (ds.map fun c => .str (lt c)), .list (ds.map fun c => .str (lt c)), .lst (SqL.of (xs := ds.map ltV) (by rw [upd_ne n2, upd_ne n1, upd_same, txt_codes])) (dp_map (fun c => .str _) ds), .lst (SqL.of (xs := ds.map ltV) (by rw [upd_same, List.map_map]; rfl)) (dp_map (fun c => .str _) ds), leaf_list lf, leaf_list lf, ?_⟩
    rw [SeqAt.eqv_refl _ (SeqAt.canLay_of_shaped (leaf_list lf))]
    exact k _ (((e1.trans (same_new hl)).trans (same_new hp)).trans (same_new hq))
theorem scNum : FnScope ["value", "limit"] ["value", "limit"] (defScope sNum) := ⟨rfl, rfl, rfl, by decide +kernel, rfl, by decide +kernel, by decide +kernel⟩
theorem ok_num {f : Addr} {fd : FuncData} (F : Fun K "is_number_below" "is_number_below" sNum f fd) (B : Bl mg) : FnOk P w K mg base CX0 1 f fd ["value", "limit"] spNum := by
  refine F.ok scNum (fun vs H Q E h => ?_) (fun cdv A outer s H vs Q E hr h => ?_)
  · obtain ⟨i, m, rfl, _⟩ := h
    rfl
  · obtain ⟨i, m, rfl, i0, i1, k⟩ := h
    refine ⟨_, pss_one (ps_ret (pe_and (pe_callB call_isi (by rfl) B.isinstance (by decide +kernel) (pa_cons (pv 0) (pa_cons (pe_bltn (v := .ty "int") (by rfl) B.int (by decide +kernel) rfl) pa_nil)))
      (pe_and (pe_not (pe_callB call_isi (by rfl) B.isinstance (by decide +kernel) (pa_cons (pv 0) (pa_cons (pe_bltn (v := .ty "bool") (by rfl) B.bool (by decide +kernel) rfl) pa_nil))))
        (pe_one (pe_chain op_le op_lt pe_int (pv 0) (pv 1)))))), ?_⟩
    refine ⟨_, rfl, _, _, _, _, true, rfl, .ty "int", .base (.int i), kit_ty (by decide +kernel), true, rfl, ?_⟩
    refine ⟨_, rfl, _, _, _, _, false, rfl, .ty "bool", .base (.int i), kit_ty (by decide +kernel), false, rfl, true, rfl, ?_⟩
    refine ⟨_, rfl, _, _, rfl, rfl, _, rfl, ?_⟩
    rw [decide_eq_true i0]
    refine ⟨_, rfl, _, _, rfl, rfl, ?_⟩
    show Q (.bl (decide (i < m))) H
    rw [decide_eq_true i1]
    exact k
end
end SG
set_option maxRecDepth 100000
set_option maxHeartbeats 4000000
namespace SG
open PySem L2 SR TL SS
section
variable {P : Program} {w : World} {K : PySem.W.Frag} {mg : Str → Option Value} {base : Heap}
abbrev nSrow : List Str := ["value", "signs", "many", "sign"]
theorem scSrow : FnScope nSrow ["value", "signs", "many"] (defScope sSrow) := ⟨rfl, rfl, rfl, by decide +kernel, rfl, by decide +kernel, by decide +kernel⟩
def spSrow : Sp := fun vs H Q _ => ∃ (q : Addr) (cs : List Nat) (row : List Int) (m : Int), vs = [.ref q, .str (txt cs), .int m] ∧ cs.length ≤ 100 ∧ row.length = cs.length ∧ (∀ g ∈ row, 0 ≤ g ∧ g < m) ∧ RowAt H cs q row ∧ ∀ H', Same H H' → Q (.bl true) H'
theorem ok_srow {f : Addr} {fd : FuncData} (F : Fun K "is_state_row" "is_state_row" sSrow f fd) (B : Bl mg) (N : Cal P w K mg base "is_number_below" 1 ["value", "limit"] spNum) : FnOk P w K mg base CX0 2 f fd ["value", "signs", "many"] spSrow := by
  refine F.ok scSrow (fun vs H Q E h => ?_) (fun cdv A outer s H vs Q E hr h => ?_)
  · obtain ⟨q, cs, row, m, rfl, _⟩ := h
    rfl
  · obtain ⟨q, cs, row, m, rfl, hc, hl, hg, hq, k⟩ := h
    have hu := hu_of hr
    refine ⟨_, pss_cons (ps_if (PW.pt (pw_or (pt_not (pt_val (pe_callB call_isi (by rfl) B.isinstance (by decide +kernel) (pa_cons (pv 0) (pa_cons (pe_bltn (v := .ty "dict") (by rfl) B.dict (by decide +kernel) rfl) pa_nil)))))
          (pw_or1 (pt_cmpR op_ne (pe_callB call_lenD (by rfl) B.len boot_len (pa_cons (pv 0) pa_nil)) (pe_callB call_len_str (by rfl) B.len boot_len (pa_cons (pv 1) pa_nil)) (nomark _)))))
        (pss_one (ps_ret pe_bl)) pss_nil)
      (pss_one (ps_ret (pe_callB (cr_all rfl) (by rfl) B.all (by decide +kernel) (pa_cons (pe_lc (own := [("sign", 3)]) (g := gName 3) (tt := tYes) (te := tAndV (tDIn (tVar 3) (tVar 0)) (tCall spNum [] E0 (tCons (tDGet (tVar 0) (tVar 3)) (tCons (tVar 2) tNil)))) rfl scSrow.nd (pi_str (pv 1)) (blkOk_by (by kernel_rfl))
        (fun _ _ _ _ _ => pg_name (i := 3) scSrow.nd rfl (.inl rfl)) (fun _ _ _ _ _ => pts_nil) (fun _ _ _ _ _ => pe_and (pe_cmp (pc_din hu (pv 3) (pv 0)) rfl) (pe_one (pe_cal N hr (pa_cons (pe_dget hu (pv 0) (pv 3) (fun _ _ => rfl)) (pa_cons (pv 2) pa_nil)))))) pa_nil)))), ?_⟩
    have hz : (txt cs).length ≤ sizeLine := by rw [txt_len, sizeLine_eq]; omega
    have hz' : (txt cs).cps.size = cs.length := by simp [txt]
    refine ⟨_, rfl, _, _, _, _, true, rfl, .ty "dict", .base (.dK hq), kit_ty (by decide +kernel), _, rfl, ?_⟩
    refine ⟨_, rfl, _, _, rfl, hq, _, rfl, _, rfl, hz, rfl, _, rfl, ?_⟩
    have hlen : ((rowK cs row).length : Int) = ((txt cs).length : Nat) := by
      rw [txt_len]
      have : (rowK cs row).length = cs.length := by unfold rowK; simp; omega
      rw [this]
    refine ite2 (fun h => absurd h ?_) (fun _ => ?_)
    · simp [hlen]
    refine ⟨_, rfl, _, rfl, fun D hD => lc_S walk_str hD (by rw [hz']; omega) (fun i acc _ => acc = (List.replicate i true).map V.bl) (fun _ _ _ _ _ _ _ h => h) rfl (fun _ _ => trivial) ?_ ?_⟩
    · rintro i v H3 H3' acc Qt Qf hi e3 hd rfl ⟨rfl, c, hc, rfl⟩ kt kf
      have hc' : cs[i]? = some c := by simpa [txt] using hc
      have hm := List.mem_of_getElem? hc'
      have hv := val_row hl hm
      have hgg : row.getD (cs.idxOf c) 0 ∈ row := by
        have hi : cs.idxOf c < row.length := by rw [hl]; exact List.idxOf_lt_length_of_mem hm
        rw [List.getD_eq_getElem?_getD, List.getElem?_eq_getElem hi]
        exact List.getElem_mem hi
      have gd : DGet H3' q (ltV c) (some (.int (row.getD (cs.idxOf c) 0))) := by
        rw [← hv]
        exact DGet.k (k := Sum.inr (lt c)) (e3 _ _ hq)
      refine ⟨rfl, _, rfl, _, rfl, q, _, rfl, gd, true, rfl, _, rfl, _, rfl, q, _, rfl, gd, _, rfl, _, _, rfl, (hg _ hgg).1, (hg _ hgg).2, kt _ _ (Same.refl _) ?_⟩
      rw [List.replicate_succ', List.map_append]
      rfl
    · rintro H1 acc e1 hd rfl
      refine ⟨D, _, rfl, SqL.of hd, ?_⟩
      rw [all_true]
      exact k _ e1
abbrev nSta : List Str := ["value", "many", "state"]
theorem scSta : FnScope nSta ["value", "many"] (defScope sSta) := ⟨rfl, rfl, rfl, by decide +kernel, rfl, by decide +kernel, by decide +kernel⟩
def spSta : Sp := fun vs H Q _ => ∃ (a : Addr) (m : Int) (es : List Int), vs = [.ref a, .int m] ∧ es.length ≤ 100 ∧ es.Nodup ∧ (∀ g ∈ es, 0 ≤ g ∧ g < m) ∧ LoT H a (es.map .int) ∧ ∀ H', Same H H' → Q (.bl true) H'
theorem ok_sta {f : Addr} {fd : FuncData} (F : Fun K "are_states" "are_states" sSta f fd) (B : Bl mg) (N : Cal P w K mg base "is_number_below" 1 ["value", "limit"] spNum) : FnOk P w K mg base CX0 2 f fd ["value", "many"] spSta := by
  refine F.ok scSta (fun vs H Q E h => ?_) (fun cdv A outer s H vs Q E hr h => ?_)
  · obtain ⟨a, m, es, rfl, _⟩ := h
    rfl
  · obtain ⟨a, m, es, rfl, hl, nd, hg, ha, k⟩ := h
    refine ⟨_, pss_cons (ps_if (PW.pt (pw_or (pt_not (pt_val (pe_callB call_isiT (by rfl) B.isinstance (by decide +kernel) (pa_cons (pv 0) (pa_cons (pe_tup (pa_cons (pe_bltn (v := .ty "list") (by rfl) B.list (by decide +kernel) rfl) (pa_cons (pe_bltn (v := .ty "tuple") (by rfl) B.tuple (by decide +kernel) rfl) pa_nil))) pa_nil)))))
          (pw_or1 (pt_not (pt_val (pe_callB (cr_all rfl) (by rfl) B.all (by decide +kernel) (pa_cons (pe_lc (own := [("state", 2)]) (g := gName 2) (tt := tYes) (te := tCall spNum [] E0 (tCons (tVar 2) (tCons (tVar 1) tNil))) rfl scSta.nd (pi_lot (pv 0)) (blkOk_by (by kernel_rfl))
            (fun _ _ _ _ _ => pg_name (i := 2) scSta.nd rfl (.inl rfl)) (fun _ _ _ _ _ => pts_nil) (fun _ _ _ _ _ => pe_cal N hr (pa_cons (pv 2) (pa_cons (pv 1) pa_nil)))) pa_nil)))))))
        (pss_one (ps_ret pe_bl)) pss_nil)
      (pss_one (ps_ret (pe_cmpR op_eq (pe_callB cr_lenK (by rfl) B.len boot_len (pa_cons (pe_callTy (cr_setK rfl) (by rfl) B.set (by decide +kernel) (pa_cons (pv 0) pa_nil)) pa_nil)) (pe_callB call_len_seq (by rfl) B.len boot_len (pa_cons (pv 0) pa_nil)) (nomark _)))), ?_⟩
    refine ⟨_, rfl, (by show 2 ≤ sizeLine; decide), fun T hT => ?_⟩
    have e0 : Same H (upd H T (.tup [.ty "list", .ty "tuple"])) := same_new hT
    obtain ⟨t, ty, kt⟩ := isi_LT (K := K) (ha.mono e0)
    refine ⟨_, T, _, t, _, true, rfl, upd_same, .cons (.ty _) (.cons (.ty _) .nil), ty, kt, true, rfl, ?_⟩
    refine ⟨_, rfl, a, _, rfl, ha.mono e0, fun J G wk hG D hD => lc_S wk hD (by rw [List.length_map]; omega) (fun i acc _ => acc = (List.replicate i true).map V.bl) (fun _ _ _ _ _ _ _ h => h) rfl hG ?_ ?_⟩
    · rintro i v H3 H3' acc Qt Qf hi e3 hd rfl ⟨rfl, hv⟩ kt kf
      rw [List.getElem?_map] at hv
      obtain ⟨g, hg', rfl⟩ := Option.map_eq_some_iff.mp hv
      have hgm := hg g (List.mem_of_getElem? hg')
      refine ⟨rfl, _, rfl, _, rfl, _, _, rfl, hgm.1, hgm.2, kt _ _ (Same.refl _) ?_⟩
      rw [List.replicate_succ', List.map_append]
      rfl
    · rintro H1 acc e1 hd rfl
      refine ⟨D, _, rfl, SqL.of hd, _, rfl, ?_⟩
      rw [all_true]
      have e01 := e0.trans e1
      refine ⟨_, rfl, es.map Sum.inl, .inl ⟨a, rfl, ?_⟩, by rw [List.length_map]; omega, fun p l hp ndl hm hll => ?_⟩
      · have := (ha.mono e01).seq (K := K)
        rw [show (es.map Sum.inl).map kV = es.map V.int by rw [List.map_map]; rfl]
        exact this
      · have pm : l.Perm (es.map Sum.inl) := (List.perm_ext_iff_of_nodup ndl (List.Pairwise.map _ (fun a b hab e => hab (Sum.inl.inj e)) nd)).mpr hm
        have e2 := e01.trans (same_new (o := SetMO w p l) hp)
        refine ⟨p, l, rfl, upd_same, _, rfl, a, _, rfl, (ha.mono e2).seq, rfl, ?_⟩
        have hh : decide (V.int (l.length : Nat) = V.int ((es.map V.int).length : Nat)) = true := decide_eq_true (by rw [pm.length_eq, List.length_map, List.length_map])
        show Q (.bl (decide (V.int (l.length : Nat) = V.int ((es.map V.int).length : Nat)))) _
        rw [hh]
        exact k _ e2
end
end SG
set_option maxRecDepth 100000
set_option maxHeartbeats 4000000
namespace SG
open PySem L2 SR TL SS
/-- a machine's rows and its member states, as they are handed over -/
structure Given (H : Hp) (cs : List Nat) (a e : Addr) (rows : List (List Int)) (ends : List Int) : Prop where
  ex : ∃ qs : List Addr, LoT H a (qs.map .ref) ∧ Paired (RowAt H cs) qs rows
  mem : LoT H e (ends.map .int)
theorem Given.mono {H H' : Hp} {cs : List Nat} {a b : Addr} {rows : List (List Int)} {ends : List Int} (e : Same H H') (g : Given H cs a b rows ends) : Given H' cs a b rows ends := by
  obtain ⟨qs, h1, h2⟩ := g.ex
  exact ⟨⟨qs, h1.mono e, Paired.mono h2 fun _ _ h => e _ _ h⟩, g.mem.mono e⟩
section
variable {P : Program} {w : World} {K : PySem.W.Frag} {mg : Str → Option Value} {base : Heap}
abbrev nChk : List Str := ["signs", "states", "member_states", "index", "row"]
theorem scChk : FnScope nChk ["signs", "states", "member_states"] (defScope sChk) := ⟨rfl, rfl, rfl, by decide +kernel, rfl, by decide +kernel, by decide +kernel⟩
def spChk : Sp := fun vs H Q _ => ∃ (cs : List Nat) (a e : Addr) (rows : List (List Int)) (ends : List Int), vs = [.str (txt cs), .ref a, .ref e] ∧ Abc cs ∧ WfM cs rows ends ∧ Given H cs a e rows ends ∧ ∀ H', Same H H' → Q .non H'
theorem ok_chk {f : Addr} {fd : FuncData} (F : Fun K "check_machine" "check_machine" sChk f fd) (B : Bl mg) (C : Cn mg) (Sg : Cal P w K mg base "are_signs" 2 ["value"] spSigns) (Sr : Cal P w K mg base "is_state_row" 2 ["value", "signs", "many"] spSrow) (St : Cal P w K mg base "are_states" 2 ["value", "many"] spSta) :
    FnOk P w K mg base CX0 3 f fd ["signs", "states", "member_states"] spChk := by
  obtain ⟨tg, hgv⟩ := C.given
  refine F.ok scChk (fun vs H Q E h => ?_) (fun cdv A outer s H vs Q E hr h => ?_)
  · obtain ⟨cs, a, e, rows, ends, rfl, _⟩ := h
    rfl
  · obtain ⟨cs, a, e, rows, ends, rfl, ha, W, ⟨⟨qs, h1, h2⟩, h3⟩, k⟩ := h
    refine ⟨_, pss_cons (ps_if (pt_not (pt_val (pe_cal Sg hr (pa_cons (pv 0) pa_nil)))) (pss_one ps_never) pss_nil)
      (pss_cons (ps_if (PW.pt (pw_or (pt_not (pt_val (pe_callB call_isiT (by rfl) B.isinstance (by decide +kernel) (pa_cons (pv 1) (pa_cons (pe_tup (pa_cons (pe_bltn (v := .ty "list") (by rfl) B.list (by decide +kernel) rfl) (pa_cons (pe_bltn (v := .ty "tuple") (by rfl) B.tuple (by decide +kernel) rfl) pa_nil))) pa_nil)))))
          (pw_or1 (pt_not (pt_chain op_le op_le pe_int (pe_callB call_len_seq (by rfl) B.len boot_len (pa_cons (pv 1) pa_nil)) (pe_glob (v := .int 40) rfl hgv ⟨tg, rfl⟩)))))) (pss_one ps_never) pss_nil)
      (pss_cons (ps_for PassesOwn.never rfl (pi_enumL (by rfl) B.enumerate (pa_cons (pv 1) pa_nil)) (pg_tup rfl (pgs_cons (pg_name (i := 3) scChk.nd rfl (.inl rfl)) (pgs_cons (pg_name (i := 4) scChk.nd rfl (.inl rfl)) pgs_nil)))
          (pss_one (ps_if (pt_not (pt_val (pe_cal Sr hr (pa_cons (pv 4) (pa_cons (pv 0) (pa_cons (pe_callB call_len_seq (by rfl) B.len boot_len (pa_cons (pv 1) pa_nil)) pa_nil)))))) (pss_one ps_never) pss_nil)))
      (pss_one (ps_if (pt_not (pt_val (pe_cal St hr (pa_cons (pv 2) (pa_cons (pe_callB call_len_seq (by rfl) B.len boot_len (pa_cons (pv 1) pa_nil)) pa_nil))))) (pss_one ps_never) pss_nil)))), ?_⟩
    have hql : qs.length = rows.length := Paired.length h2
    refine ⟨_, rfl, cs, rfl, ha, fun H1 e1 => ⟨_, rfl, iteF ?_⟩⟩
    refine ⟨_, rfl, (by show 2 ≤ sizeLine; decide), fun T hT => ?_⟩
    have e2 : Same H (upd H1 T (.tup [.ty "list", .ty "tuple"])) := e1.trans (same_new hT)
    obtain ⟨t, ty, kt⟩ := isi_LT (K := K) (h1.mono e2)
    refine ⟨_, T, _, t, _, true, rfl, upd_same, .cons (.ty _) (.cons (.ty _) .nil), ty, kt, true, rfl, ?_⟩
    refine ⟨_, rfl, a, _, rfl, (h1.mono e2).seq, _, _, rfl, rfl, _, rfl, ?_⟩
    rw [List.length_map]
    rw [decide_eq_true (show (1 : Int) ≤ (qs.length : Nat) by have := W.one; omega)]
    refine ⟨_, _, rfl, rfl, _, rfl, ?_⟩
    rw [decide_eq_true (show ((qs.length : Nat) : Int) ≤ 40 by have := W.five; omega)]
    refine ⟨_, rfl, a, _, rfl, h1.mono e2, fun J G wk hG => ?_⟩
    refine for_it wk (fun i σ H' => Same (upd H1 T (.tup [.ty "list", .ty "tuple"])) H' ∧ ∃ a3 a4, σ = [some (.str (txt cs)), some (.ref a), some (.ref e), a3, a4]) ⟨Same.refl _, _, _, rfl⟩ (fun _ _ H' _ p => hG H' p.1) ?_ ?_
    · rintro j v σ H2 H2' hj ⟨e3, b3, b4, rfl⟩ ⟨T2, x, y, rfl, hT2, rfl, ex, ey⟩
      rw [List.length_map] at hj
      cases ex
      dsimp only at ey
      rw [List.getElem?_map] at ey
      obtain ⟨q, hq, rfl⟩ := Option.map_eq_some_iff.mp ey
      have hjr : j < rows.length := by omega
      obtain ⟨q', hq', hrow⟩ := paired_get j h2 (List.getElem?_eq_getElem hjr)
      rw [hq] at hq'
      cases hq'
      have hW := W.row _ (List.getElem_mem hjr)
      have e4 : Same H2 (upd H2 T2 (.tup [.int (j : Nat), .ref q])) := same_new hT2
      have e5 := e2.trans (e3.trans e4)
      refine ⟨T2, _, rfl, SqT.of upd_same, rfl, _, _, rfl, _, _, rfl, rfl, ?_⟩
      refine ⟨_, rfl, _, rfl, _, rfl, a, _, rfl, (h1.mono e5).seq, q, cs, _, _, rfl, (by have := ha.four; omega), hW.1, ?_, e5 _ _ hrow, fun H6 e6 => ⟨_, rfl, iteF ⟨(e3.trans e4).trans e6, _, _, rfl⟩⟩⟩
      intro g hg
      rw [List.length_map, hql]
      exact hW.2 g hg
    · rintro σ H2 ⟨e3, b3, b4, rfl⟩
      have e5 := e2.trans e3
      refine ⟨_, rfl, _, rfl, a, _, rfl, (h1.mono e5).seq, e, _, ends, rfl, ?_, W.nd, ?_, h3.mono e5, fun H6 e6 => ⟨_, rfl, iteF (k _ (e5.trans e6))⟩⟩
      · exact Nat.le_trans (nodup_len _ _ W.nd W.fin) (by have := W.five; omega)
      · intro g hg
        rw [List.length_map, hql]
        exact W.fin g hg
end
end SG
set_option maxRecDepth 100000
set_option maxHeartbeats 4000000
namespace SG
open PySem L2 SR TL SS
/-- the unseen ones of a row, laid behind -/
def addNew (L : List Int) : List Int → List Int
  | [] => L
  | g :: gs => addNew (if g ∈ L then L else L ++ [g]) gs
theorem addNew_prefix (gs : List Int) : ∀ L : List Int, ∃ t, addNew L gs = L ++ t := by
  induction gs with
  | nil => intro L; exact ⟨[], (List.append_nil L).symm⟩
  | cons g gs ih =>
    intro L
    obtain ⟨t, h⟩ := ih (if g ∈ L then L else L ++ [g])
    by_cases hm : g ∈ L
    · rw [if_pos hm] at h
      exact ⟨t, by show addNew (if g ∈ L then L else L ++ [g]) gs = _; rw [if_pos hm]; exact h⟩
    · rw [if_neg hm] at h
      exact ⟨[g] ++ t, by show addNew (if g ∈ L then L else L ++ [g]) gs = _; rw [if_neg hm, h, List.append_assoc]⟩
theorem addNew_none {gs : List Int} : ∀ {L : List Int}, (∀ g ∈ gs, g ∈ L) → addNew L gs = L := by
  induction gs with
  | nil => intro L _; rfl
  | cons g gs ih =>
    intro L h
    show addNew (if g ∈ L then L else L ++ [g]) gs = L
    rw [if_pos (h g List.mem_cons_self)]
    exact ih fun u hu => h u (List.mem_cons_of_mem _ hu)
theorem addNew_mem {gs : List Int} : ∀ {L : List Int}, ∀ g ∈ gs, g ∈ addNew L gs := by
  induction gs with
  | nil => intro L g h; cases h
  | cons g gs ih =>
    intro L u hu
    rcases List.mem_cons.mp hu with z | z
    · subst z
      show u ∈ addNew (if u ∈ L then L else L ++ [u]) gs
      obtain ⟨t, e⟩ := addNew_prefix gs (if u ∈ L then L else L ++ [u])
      rw [e]
      refine List.mem_append_left _ ?_
      by_cases hm : u ∈ L
      · rw [if_pos hm]; exact hm
      · rw [if_neg hm]; simp
    · exact ih u z
/-- n classes of L have been looked at -/
inductive BE (δ : Int → List Int) (q0 : Int) : Nat → List Int → Prop
  | start : BE δ q0 0 [q0]
  | turn {n : Nat} {L : List Int} {k : Int} : BE δ q0 n L → L[n]? = some k → BE δ q0 (n + 1) (addNew L (δ k))
theorem BE.fn {δ : Int → List Int} {q0 : Int} : ∀ {n : Nat} {L L' : List Int}, BE δ q0 n L → BE δ q0 n L' → L = L'
  | 0, _, _, .start, .start => rfl
  | n + 1, _, _, .turn b h, .turn b' h' => by
    have e := BE.fn b b'
    subst e
    rw [h] at h'
    cases h'
    rfl
/-- both are through: the same list -/
theorem BE.done {δ : Int → List Int} {q0 : Int} {n m : Nat} {L M : List Int} (b : BE δ q0 n L) (b' : BE δ q0 m M) (h : L.length ≤ n) (h' : M.length ≤ m) : L = M := by
  have key : ∀ {n m : Nat} {L M : List Int}, BE δ q0 n L → BE δ q0 m M → L.length ≤ n → n ≤ m → n = m := by
    intro n m L M b b' h le
    rcases Nat.lt_or_eq_of_le le with lt | e
    · exfalso
      have down : ∀ {m : Nat} {M : List Int}, BE δ q0 m M → n < m → ∃ k M', BE δ q0 n M' ∧ M'[n]? = some k := by
        intro m
        induction m with
        | zero => intro M _ lt; omega
        | succ m ih =>
          intro M b lt
          cases b with
          | turn b0 h0 =>
            by_cases e : n = m
            · subst e
              exact ⟨_, _, b0, h0⟩
            · exact ih b0 (by omega)
      obtain ⟨k, M', b1, h1⟩ := down b' lt
      have e := BE.fn b b1
      subst e
      have := (List.getElem?_eq_some_iff.mp h1).1
      omega
    · exact e
  have e : n = m := by
    rcases Nat.le_total n m with z | z
    · exact key b b' h z
    · exact (key b' b h' z).symm
  subst e
  exact BE.fn b b'
theorem addNew_app (a b : List Int) : ∀ L : List Int, addNew L (a ++ b) = addNew (addNew L a) b := by
  induction a with
  | nil => intro L; rfl
  | cons g a ih => intro L; exact ih _
theorem addNew_keep {L gs : List Int} {k : Int} (h : k ∈ L) : k ∈ addNew L gs := by
  obtain ⟨t, e⟩ := addNew_prefix gs L
  rw [e]
  exact List.mem_append_left _ h
theorem addNew_map (κ : Int → Int) (gs : List Int) : ∀ L : List Int, addNew [] ((addNew L gs).map κ) = addNew (addNew [] (L.map κ)) (gs.map κ) := by
  induction gs with
  | nil => intro L; rfl
  | cons g gs ih =>
    intro L
    show addNew [] ((addNew (if g ∈ L then L else L ++ [g]) gs).map κ) = addNew (if κ g ∈ addNew [] (L.map κ) then addNew [] (L.map κ) else addNew [] (L.map κ) ++ [κ g]) (gs.map κ)
    by_cases hm : g ∈ L
    · rw [if_pos hm, if_pos (addNew_mem (κ g) (List.mem_map.mpr ⟨g, hm, rfl⟩))]
      exact ih L
    · rw [if_neg hm, ih, List.map_append, addNew_app]
      rfl
theorem BE.closed {δ : Int → List Int} {q0 : Int} : ∀ {n : Nat} {L : List Int}, BE δ q0 n L → ∀ (j : Nat) (k : Int), j < n → L[j]? = some k → ∀ g ∈ δ k, g ∈ L
  | 0, _, .start, j, _, h, _, _, _ => by omega
  | n + 1, _, .turn (L := L) (k := k0) b h0, j, k, hj, hk, g, hg => by
    have hn := (List.getElem?_eq_some_iff.mp h0).1
    have hk' : L[j]? = some k := by
      obtain ⟨t, e⟩ := addNew_prefix (δ k0) L
      rw [e, List.getElem?_append_left (by omega)] at hk
      exact hk
    by_cases e : j = n
    · subst e
      rw [h0] at hk'
      cases hk'
      exact addNew_mem g hg
    · exact addNew_keep (BE.closed b j k (by omega) hk' g hg)
/-- the quotient of an enumeration -/
theorem BE.quot {δ δ' : Int → List Int} {κ : Int → Int} {q0 : Int} : ∀ {n : Nat} {L : List Int}, BE δ q0 n L → (∀ s ∈ L, (δ s).map κ = δ' (κ s)) → ∃ m, BE δ' (κ q0) m (addNew [] (L.map κ)) ∧ (addNew [] (L.map κ)).take m = addNew [] ((L.take n).map κ)
  | 0, _, .start, _ => ⟨0, .start, rfl⟩
  | n + 1, _, .turn (L := L) (k := s) b h, hδ => by
    obtain ⟨t, et⟩ := addNew_prefix (δ s) L
    obtain ⟨m, bm, em⟩ := BE.quot b fun u hu => hδ u (addNew_keep hu)
    have hn := (List.getElem?_eq_some_iff.mp h).1
    have hs : s ∈ L := List.mem_of_getElem? h
    have eM : addNew [] ((addNew L (δ s)).map κ) = addNew (addNew [] (L.map κ)) (δ' (κ s)) := by rw [addNew_map, hδ s (addNew_keep hs)]
    have eT : (addNew L (δ s)).take (n + 1) = L.take n ++ [s] := by
      rw [et, List.take_append_of_le_length (by omega), List.take_add_one, h]
      rfl
    have eP : addNew [] (((addNew L (δ s)).take (n + 1)).map κ) = addNew (addNew [] ((L.take n).map κ)) [κ s] := by
      rw [eT, List.map_append, addNew_app]
      rfl
    rw [eM, eP]
    generalize hP : addNew [] ((L.take n).map κ) = Pn at em
    have hL : L.map κ = (L.take n).map κ ++ (κ s :: (L.drop (n + 1)).map κ) := by
      have : L = L.take n ++ s :: L.drop (n + 1) := by
        have := (List.getElem?_eq_some_iff.mp h).2
        rw [← this, ← List.drop_eq_getElem_cons hn, List.take_append_drop]
      have e2 := congrArg (List.map κ) this
      rw [List.map_append, List.map_cons] at e2
      exact e2
    have eM0 : addNew [] (L.map κ) = addNew (addNew Pn [κ s]) ((L.drop (n + 1)).map κ) := by
      rw [hL, addNew_app, hP]
      rfl
    generalize addNew [] (L.map κ) = M at bm em eM0
    by_cases hm : κ s ∈ Pn
    · have e1 : addNew Pn [κ s] = Pn := addNew_none fun g hg => by rw [List.mem_singleton.mp hg]; exact hm
      rw [e1]
      have hm' : κ s ∈ M.take m := by rw [em]; exact hm
      obtain ⟨j, hj, ej⟩ := List.mem_iff_getElem.mp hm'
      rw [List.length_take] at hj
      rw [List.getElem_take] at ej
      have hMj : M[j]? = some (κ s) := by rw [List.getElem?_eq_getElem (by omega), ej]
      rw [addNew_none (BE.closed bm j (κ s) (by omega) hMj)]
      exact ⟨m, bm, em⟩
    · have e1 : addNew Pn [κ s] = Pn ++ [κ s] := by
        show (if κ s ∈ Pn then Pn else Pn ++ [κ s]) = _
        rw [if_neg hm]
      rw [e1] at eM0 ⊢
      obtain ⟨u, eu⟩ := addNew_prefix ((L.drop (n + 1)).map κ) (Pn ++ [κ s])
      rw [eu] at eM0
      have hlen : m = Pn.length := by
        have h1 := congrArg List.length em
        have h2 := congrArg List.length eM0
        simp at h1 h2
        omega
      have hMm : M[m]? = some (κ s) := by
        rw [eM0, hlen]
        simp
      refine ⟨m + 1, .turn bm hMm, ?_⟩
      obtain ⟨v, ev⟩ := addNew_prefix (δ' (κ s)) M
      have hlt := (List.getElem?_eq_some_iff.mp hMm).1
      rw [ev, List.take_append_of_le_length (by omega), List.take_add_one, hMm, em]
      rfl
/-- all looked at: so is the quotient -/
theorem BE.quotDone {δ δ' : Int → List Int} {κ : Int → Int} {q0 : Int} {n : Nat} {L : List Int} (b : BE δ q0 n L) (hδ : ∀ s ∈ L, (δ s).map κ = δ' (κ s)) (h : L.length ≤ n) : ∃ m, BE δ' (κ q0) m (addNew [] (L.map κ)) ∧ (addNew [] (L.map κ)).length ≤ m := by
  obtain ⟨m, b1, e⟩ := b.quot hδ
  rw [List.take_of_length_le h] at e
  refine ⟨m, b1, ?_⟩
  have := congrArg List.length e
  rw [List.length_take] at this
  omega
end SG
set_option maxRecDepth 100000
set_option maxHeartbeats 4000000
namespace SG
open PySem L2 SR TL SS
def dI (l : List Int) (F : Int → V) : List (Key × V) := l.map fun g => ((Sum.inl g : Key), F g)
theorem val_dI (F : Int → V) (g : Int) : ∀ l : List Int, valV (dI l F) (Sum.inl g) = if g ∈ l then some (F g) else none
  | [] => rfl
  | h :: l => by
    by_cases e : h = g
    · subst e
      rw [show dI (h :: l) F = ((Sum.inl h : Key), F h) :: dI l F from rfl, valV_pos rfl]
      simp
    · rw [show dI (h :: l) F = ((Sum.inl h : Key), F h) :: dI l F from rfl, valV_neg (fun z => e (Sum.inl.inj z)), val_dI F g l]
      have e' : ¬ g = h := fun z => e z.symm
      by_cases hm : g ∈ l
      · rw [if_pos hm, if_pos (List.mem_cons_of_mem _ hm)]
      · rw [if_neg hm, if_neg (by simp [e', hm])]
theorem put_dI {F : Int → V} {g : Int} {l : List Int} (h : g ∉ l) : putK (dI l F) (Sum.inl g) (F g) = dI (l ++ [g]) F := by
  rw [putK_new _ (by rw [val_dI, if_neg h])]
  unfold dI
  rw [List.map_append]
  rfl
theorem len_dI (l : List Int) (F : Int → V) : (dI l F).length = l.length := by simp [dI]
theorem ix_lot {K : PySem.W.Frag} {H : Hp} {a : Addr} {xs : List V} {i : Int} {v : V} {Q : V → Hp → Prop} (h : LoT H a xs) (hi : atI xs i = some v) (q : Q v H) : rIx K (.ref a) (.int i) H Q := by
  rcases h with h | h
  · exact .inl ⟨a, xs, i, v, rfl, rfl, SqL.of h, hi, q⟩
  · exact .inr (.inl ⟨a, xs, i, v, rfl, rfl, SqT.of h, hi, q⟩)
structure Rch (cs : List Nat) (rows : List (List Int)) (at' j : Nat) (fd : List Int) : Prop where
  hd : ∃ t, fd = 0 :: t
  nd : fd.Nodup
  rg : ∀ q ∈ fd, 0 ≤ q ∧ q < (rows.length : Int)
  rc : ∀ q ∈ fd, ∃ x : List Nat, (∀ c ∈ x, c ∈ cs) ∧ run cs rows 0 x = q
  cl : ∀ (i : Nat) q, i < at' → fd[i]? = some q → ∀ c ∈ cs, nxt cs rows q c ∈ fd
  cj : ∀ q, fd[at']? = some q → ∀ c ∈ cs.take j, nxt cs rows q c ∈ fd
theorem Rch.start {cs : List Nat} {rows : List (List Int)} (h : 1 ≤ rows.length) : Rch cs rows 0 0 [0] :=
  ⟨⟨[], rfl⟩, by simp, fun q hq => by rw [List.mem_singleton.mp hq]; omega, fun q hq => ⟨[], (fun _ h => nomatch h), (List.mem_singleton.mp hq).symm⟩, fun i q hi => by omega, fun q _ c hc => by simp at hc⟩
theorem Rch.skip {cs : List Nat} {rows : List (List Int)} {at' j c : Nat} {fd : List Int} {q : Int} (R : Rch cs rows at' j fd) (hq : fd[at']? = some q) (hc : cs[j]? = some c) (h : nxt cs rows q c ∈ fd) : Rch cs rows at' (j + 1) fd := by
  refine ⟨R.hd, R.nd, R.rg, R.rc, R.cl, fun q' hq' d hd => ?_⟩
  rw [hq] at hq'
  cases hq'
  rw [List.take_add_one, hc] at hd
  rcases List.mem_append.mp hd with z | z
  · exact R.cj q hq d z
  · have : d = c := by simpa using z
    rw [this]; exact h
theorem Rch.add {cs : List Nat} {rows : List (List Int)} {ends : List Int} {at' j c : Nat} {fd : List Int} {q : Int} (W : WfM cs rows ends) (R : Rch cs rows at' j fd) (hq : fd[at']? = some q) (hc : cs[j]? = some c) (h : nxt cs rows q c ∉ fd) : Rch cs rows at' (j + 1) (fd ++ [nxt cs rows q c]) := by
  have hqm := List.mem_of_getElem? hq
  have hcm := List.mem_of_getElem? hc
  obtain ⟨q0, q1⟩ := R.rg q hqm
  obtain ⟨_, _, _, _, n0, n1⟩ := W.nxt_ok q0 q1 hcm
  have hlt : at' < fd.length := (List.getElem?_eq_some_iff.mp hq).1
  refine ⟨?_, ?_, ?_, ?_, ?_, ?_⟩
  · obtain ⟨t, e⟩ := R.hd
    exact ⟨t ++ [nxt cs rows q c], by rw [e]; rfl⟩
  · rw [List.nodup_append]
    refine ⟨R.nd, by simp, fun a ha b hb e => ?_⟩
    rw [List.mem_singleton] at hb
    rw [e, hb] at ha
    exact h ha
  · intro p hp
    rcases List.mem_append.mp hp with z | z
    · exact R.rg p z
    · rw [List.mem_singleton.mp z]; exact ⟨n0, n1⟩
  · intro p hp
    rcases List.mem_append.mp hp with z | z
    · exact R.rc p z
    · rw [List.mem_singleton.mp z]
      obtain ⟨x, hx, e⟩ := R.rc q hqm
      refine ⟨x ++ [c], fun d hd => ?_, ?_⟩
      · rcases List.mem_append.mp hd with z | z
        · exact hx d z
        · rw [List.mem_singleton.mp z]; exact hcm
      · unfold run at e ⊢
        rw [List.foldl_append, e]
        rfl
  · intro i p hi hp d hd
    rw [List.getElem?_append_left (by omega)] at hp
    exact List.mem_append_left _ (R.cl i p hi hp d hd)
  · intro p hp d hd
    rw [List.getElem?_append_left hlt, hq] at hp
    cases hp
    rw [List.take_add_one, hc] at hd
    rcases List.mem_append.mp hd with z | z
    · exact List.mem_append_left _ (R.cj q hq d z)
    · have : d = c := by simpa using z
      rw [this]; exact List.mem_append_right _ (by simp)
theorem Rch.next {cs : List Nat} {rows : List (List Int)} {at' : Nat} {fd : List Int} (R : Rch cs rows at' cs.length fd) : Rch cs rows (at' + 1) 0 fd := by
  refine ⟨R.hd, R.nd, R.rg, R.rc, fun i q hi hq c hc => ?_, fun q _ c hc => by simp at hc⟩
  by_cases e : i = at'
  · subst e
    exact R.cj q hq c (by rw [List.take_length]; exact hc)
  · exact R.cl i q (by omega) hq c hc
/-- what reached gives -/
structure Order (cs : List Nat) (rows : List (List Int)) (fd : List Int) : Prop where
  hd : ∃ t, fd = 0 :: t
  nd : fd.Nodup
  rg : ∀ q ∈ fd, 0 ≤ q ∧ q < (rows.length : Int)
  rc : ∀ q ∈ fd, ∃ x : List Nat, (∀ c ∈ x, c ∈ cs) ∧ run cs rows 0 x = q
  cl : ∀ q ∈ fd, ∀ c ∈ cs, nxt cs rows q c ∈ fd
theorem Rch.done {cs : List Nat} {rows : List (List Int)} {at' : Nat} {fd : List Int} (R : Rch cs rows at' 0 fd) (h : fd.length ≤ at') : Order cs rows fd := by
  refine ⟨R.hd, R.nd, R.rg, R.rc, fun q hq c hc => ?_⟩
  obtain ⟨i, hi, e⟩ := List.mem_iff_getElem.mp hq
  exact R.cl i q (by omega) (by rw [List.getElem?_eq_getElem hi, e]) c hc
section
variable {P : Program} {w : World} {K : PySem.W.Frag} {mg : Str → Option Value} {base : Heap}
abbrev nRch : List Str := ["signs", "rows", "found", "known", "at", "sign", "goal"]
theorem scRch : FnScope nRch ["signs", "rows"] (defScope sRch) := ⟨rfl, rfl, rfl, by decide +kernel, rfl, by decide +kernel, by decide +kernel⟩
/-- rows as they are handed over -/
def RowsAt (H : Hp) (cs : List Nat) (a : Addr) (rows : List (List Int)) : Prop := ∃ qs : List Addr, LoT H a (qs.map .ref) ∧ Paired (RowAt H cs) qs rows
theorem RowsAt.mono {H H' : Hp} {cs : List Nat} {a : Addr} {rows : List (List Int)} (e : Same H H') (h : RowsAt H cs a rows) : RowsAt H' cs a rows := by
  obtain ⟨qs, h1, h2⟩ := h
  exact ⟨qs, h1.mono e, Paired.mono h2 fun _ _ h => e _ _ h⟩
/-- rows[q][sign] -/
theorem RowsAt.get {H : Hp} {cs : List Nat} {a : Addr} {rows : List (List Int)} {ends : List Int} {q : Int} {c : Nat} (h : RowsAt H cs a rows) (W : WfM cs rows ends) (q0 : 0 ≤ q) (q1 : q < (rows.length : Int)) (hc : c ∈ cs) :
    ∃ (xs : List V) (d : Addr), LoT H a xs ∧ atI xs q = some (.ref d) ∧ DGet H d (ltV c) (some (.int (nxt cs rows q c))) := by
  obtain ⟨qs, h1, h2⟩ := h
  obtain ⟨row, e1, e2, e3, _⟩ := W.nxt_ok q0 q1 hc
  obtain ⟨d, hd, hrow⟩ := paired_get _ h2 e1
  refine ⟨_, d, h1, atI_of q0 (by rw [List.getElem?_map, hd]; rfl), ?_⟩
  rw [e3, ← val_row e2 hc]
  exact DGet.k (k := Sum.inr (lt c)) hrow
/-- the next states, by ascending signs -/
def dlt (cs : List Nat) (rows : List (List Int)) (q : Int) : List Int := cs.map (nxt cs rows q)
theorem addNew_snoc {L gs : List Int} {g : Int} : addNew L (gs ++ [g]) = if g ∈ addNew L gs then addNew L gs else addNew L gs ++ [g] := by rw [addNew_app]; rfl
def spRch : Sp := fun vs H Q _ => ∃ (cs : List Nat) (a : Addr) (rows : List (List Int)) (ends : List Int), vs = [.str (txt cs), .ref a] ∧ Abc cs ∧ WfM cs rows ends ∧ RowsAt H cs a rows ∧
  ∀ (fd : List Int) (p : Addr) (H' : Hp), Order cs rows fd → (∃ n, BE (dlt cs rows) 0 n fd ∧ fd.length ≤ n) → H p = none → Same H H' → H' p = some (.lst (fd.map .int)) → Q (.ref p) H'
theorem ok_rch {f : Addr} {fd : FuncData} (F : Fun K "reached" "reached" sRch f fd) (B : Bl mg) : FnOk P w K mg base CX0 1 f fd ["signs", "rows"] spRch := by
  refine F.ok scRch (fun vs H Q E h => ?_) (fun cdv A outer s H vs Q E hr h => ?_)
  · obtain ⟨cs, a, rows, ends, rfl, _⟩ := h
    rfl
  · obtain ⟨cs, a, rows, ends, rfl, ha, W, hR, k⟩ := h
    have hu := hu_of hr
    refine ⟨_, pss_cons (ps_par (by rfl) scRch.nd (i := 2) (j := 3) rfl rfl (by decide) rfl rfl (pa_cons (pe_lst (pa_cons pe_int pa_nil)) (pa_cons (pe_disp (pps_cons pe_int pe_bl pps_nil) (by rfl) (by rfl) (fun z => by cases z) (by decide)) pa_nil)) (by rfl))
      (pss_cons (ps_set (i := 4) scRch.nd rfl (.inl rfl) pe_int)
      (pss_cons (ps_while PassesOwn.never (pt_cmpR op_lt (pv 4) (pe_callB call_len_seq (by rfl) B.len boot_len (pa_cons (pv 2) pa_nil)) (nomark _))
        (pss_cons (ps_for PassesOwn.never rfl (pi_str (pv 0)) (pg_name (i := 5) scRch.nd rfl (.inl rfl))
            (pss_cons (ps_set (i := 6) scRch.nd rfl (.inl rfl) (pe_dget hu (pe_ix ix_seq (pv 1) (pe_ix ix_list (pv 2) (pv 4) (fun _ _ => rfl)) (fun _ _ => rfl)) (pv 5) (fun _ _ => rfl)))
            (pss_one (ps_if (pt_cmp (pc_dnotin hu (pv 6) (pv 3)))
              (pss_cons (ps_dput hu (pv 3) (pv 6) pe_bl rfl) (pss_one (ps_expr (pe_bm PySem.F.plainAttrs_list PySem.F.slot_list_append PySem.F.type_list_append mt_append (pv 2) (pa_cons (pv 6) pa_nil))))) pss_nil))))
        (pss_one (ps_aug (i := 4) scRch.nd rfl (.inl rfl) pe_int ip_add))))
      (pss_one (ps_ret (pv 2))))), ?_⟩
    refine ⟨by show 1 ≤ sizeLine; decide, fun l hl => ?_⟩
    intro d hd
    refine ⟨upd_same, [(Sum.inl 0, .bl true)], rfl, (by show 1 ≤ 15; decide), ?_⟩
    refine ⟨_, _, rfl, ?_⟩
    have nld : l ≠ d := ne_of_none upd_same hd
    have hdH : H d = none := (same_new hl).free hd
    have s0 : Same H (upd (upd (upd H l (.lst [.int 0])) d (.dK [])) d (.dK (mergeK [] [(Sum.inl 0, .bl true)]))) := same_upd (same_upd (same_new hl) hdH) hdH
    refine while_by (fun σ H' => Same H H' ∧ ∃ (fd : List Int) (n : Nat) (a5 a6 : Option V), σ = [some (.str (txt cs)), some (.ref a), some (.ref l), some (.ref d), some (.int (n : Nat)), a5, a6] ∧ H' l = some (.lst (fd.map .int)) ∧ H' d = some (.dK (dI fd fun _ => .bl true)) ∧ Rch cs rows n 0 fd ∧ BE (dlt cs rows) 0 n fd) (muAt rows.length 4) ?_ ?_ ?_
    · refine ⟨s0, [0], 0, none, none, rfl, ?_, ?_, Rch.start W.one, .start⟩
      · rw [upd_ne nld, upd_ne nld, upd_same]; rfl
      · rw [upd_same]; rfl
    · rintro σ H1 ⟨e1, fd, n, a5, a6, rfl, h1, h2, R, be⟩
      refine ⟨_, rfl, _, rfl, l, _, rfl, .inl (SqL.of h1), _, _, rfl, rfl, _, rfl, ?_⟩
      rw [List.length_map]
      have hlen : fd.length ≤ rows.length := nodup_len _ _ R.nd R.rg
      refine ite2 (fun hlt => ?_) (fun hge => ?_)
      · have hlt : n < fd.length := by have := of_decide_eq_true hlt; omega
        obtain ⟨q, hq⟩ : ∃ q, fd[n]? = some q := ⟨_, List.getElem?_eq_getElem hlt⟩
        have hz : (txt cs).cps.size = cs.length := by simp [txt]
        obtain ⟨F0, hF0', hF0q, hF0⟩ : ∃ F0, BE (dlt cs rows) 0 n F0 ∧ F0[n]? = some q ∧ fd = addNew F0 ((cs.take 0).map (nxt cs rows q)) := ⟨fd, be, hq, rfl⟩
        refine ⟨_, rfl, _, rfl, for_it walk_str (fun j σ H' => Same H H' ∧ ∃ (fd : List Int) (a5 a6 : Option V), σ = [some (.str (txt cs)), some (.ref a), some (.ref l), some (.ref d), some (.int (n : Nat)), a5, a6] ∧ H' l = some (.lst (fd.map .int)) ∧ H' d = some (.dK (dI fd fun _ => .bl true)) ∧ Rch cs rows n j fd ∧ fd[n]? = some q ∧ fd = addNew F0 ((cs.take j).map (nxt cs rows q))) ⟨e1, fd, a5, a6, rfl, h1, h2, R, hq, hF0⟩ (fun _ _ _ _ _ => trivial) ?_ ?_⟩
        · rintro j v σ H2 H2' hj ⟨e2, fd, b5, b6, rfl, h1, h2, R, hq, hfd⟩ ⟨rfl, c, hc, rfl⟩
          have hc' : cs[j]? = some c := by simpa [txt] using hc
          have hcm := List.mem_of_getElem? hc'
          have hqm := List.mem_of_getElem? hq
          obtain ⟨q0, q1⟩ := R.rg q hqm
          obtain ⟨xs, dd, g1, g2, g3⟩ := (hR.mono e2).get W q0 q1 hcm
          refine ⟨_, rfl, _, rfl, _, rfl, l, _, _, .int q, rfl, rfl, SqL.of h1, atI_nat (by rw [List.getElem?_map, hq]; rfl), ?_⟩
          refine ix_lot g1 g2 ⟨_, rfl, dd, _, rfl, g3, ?_⟩
          refine ⟨_, rfl, _, rfl, d, _, rfl, DGet.k (k := Sum.inl (nxt cs rows q c)) h2, _, rfl, ?_⟩
          rw [val_dI]
          by_cases hm : nxt cs rows q c ∈ fd
          · rw [if_pos hm]
            refine iteF ⟨e2, fd, _, _, rfl, h1, h2, R.skip hq hc' hm, hq, ?_⟩
            rw [List.take_add_one, hc', List.map_append]
            show fd = addNew F0 (_ ++ [nxt cs rows q c])
            rw [addNew_snoc, ← hfd, if_pos hm]
          · rw [if_neg hm]
            have hlen : fd.length ≤ rows.length := nodup_len _ _ R.nd R.rg
            have h5 := W.five
            refine iteT ⟨_, rfl, _, rfl, d, _, rfl, DPut.k (k := Sum.inl (nxt cs rows q c)) h2 (by rw [len_dI, sizeLine_eq]; omega), ?_⟩
            rw [put_dI (F := fun _ => .bl true) hm]
            refine ⟨_, rfl, .inl ⟨rfl, _, SqL.of (by rw [upd_ne nld]; exact h1)⟩, _, rfl, l, _, _, rfl, rfl, (by rw [upd_ne nld]; exact h1), (by rw [List.length_map, sizeLine_eq]; omega), ?_⟩
            refine ⟨same_upd (same_upd e2 hdH) hl, fd ++ [nxt cs rows q c], _, _, rfl, ?_, ?_, R.add W hq hc' hm, ?_, ?_⟩
            · rw [upd_same, List.map_append]; rfl
            · rw [upd_ne (Ne.symm nld), upd_same]
            · rw [List.getElem?_append_left (List.getElem?_eq_some_iff.mp hq).1]; exact hq
            · rw [List.take_add_one, hc', List.map_append]
              show fd ++ _ = addNew F0 (_ ++ [nxt cs rows q c])
              rw [addNew_snoc, ← hfd, if_neg hm]
        · rintro σ H2 ⟨e2, fd, b5, b6, rfl, h1, h2, R, hq, hfd⟩
          rw [hz] at R hfd
          rw [List.take_length] at hfd
          have be' : BE (dlt cs rows) 0 (n + 1) fd := by rw [hfd]; exact .turn hF0' hF0q
          have hlt' : n < fd.length := (List.getElem?_eq_some_iff.mp hq).1
          have hlen : fd.length ≤ rows.length := nodup_len _ _ R.nd R.rg
          refine ⟨_, rfl, _, _, rfl, rfl, ⟨e2, fd, n + 1, b5, b6, ?_, h1, h2, R.next, be'⟩, ?_⟩
          · show [some (V.str (txt cs)), some (.ref a), some (.ref l), some (.ref d), some (.int ((n : Nat) + 1)), b5, b6] = _
            rfl
          · show rows.length - ((n : Int) + 1).toNat < rows.length - (n : Int).toNat
            omega
      · have hge' : fd.length ≤ n := by
          have h : ¬ ((n : Int) < (fd.length : Nat)) := fun z => hge (decide_eq_true z)
          omega
        exact ⟨_, rfl, k fd l H1 (R.done hge') ⟨n, be, hge'⟩ hl e1 h1⟩
    · intro σ H Q Q' m h
      obtain ⟨v, h1, w, h2, p, ys, h3, h4, i, j, h5, h6, b, h7, q⟩ := h
      exact ⟨v, h1, w, h2, p, ys, h3, h4, i, j, h5, h6, b, h7, m _ _ q⟩
end
end SG
set_option maxRecDepth 100000
set_option maxHeartbeats 4000000
namespace SG
open PySem L2 SR TL SS
def sig (cs : List Nat) (rows : List (List Int)) (κ : Int → Int) (q : Int) : PKey := (κ q, cs.map fun c => κ (nxt cs rows q c))
def Refn (cs : List Nat) (rows : List (List Int)) (fd : List Int) (κ κ' : Int → Int) : Prop := ∀ p ∈ fd, ∀ q ∈ fd, κ' p = κ' q ↔ sig cs rows κ p = sig cs rows κ q
def dKi (fd : List Int) (κ : Int → Int) : List (Key × V) := dI fd fun q => .int (κ q)
theorem rowK_ne_dI {cs : List Nat} {row fd : List Int} {F : Int → V} (h : fd ≠ []) : rowK cs row ≠ dI fd F := fun e => by
  cases fd with
  | nil => exact h rfl
  | cons g fd =>
    have hm : ((Sum.inl g : Key), F g) ∈ rowK cs row := by rw [e]; exact List.mem_cons_self
    obtain ⟨p, _, ep⟩ := List.mem_map.mp hm
    cases ep
theorem RowsAt.lock {H : Hp} {cs : List Nat} {a d : Addr} {rows : List (List Int)} {fd : List Int} {F : Int → V} {o : HO} (h : RowsAt H cs a rows) (hd : H d = some (.dK (dI fd F))) (hf : fd ≠ []) : RowsAt (upd H d o) cs a rows := by
  obtain ⟨qs, h1, h2⟩ := h
  have na : a ≠ d := by
    rcases h1 with z | z
    · exact ne_of z hd (by intro z; cases z)
    · exact ne_of z hd (by intro z; cases z)
  refine ⟨qs, ?_, Paired.mono h2 fun q row z => ?_⟩
  · rcases h1 with z | z
    · exact .inl (by rw [upd_ne na]; exact z)
    · exact .inr (by rw [upd_ne na]; exact z)
  · have nq : q ≠ d := fun e => by
      have z' : H q = some (.dK (rowK cs row)) := z
      rw [e, hd] at z'
      exact rowK_ne_dI hf (HO.dK.inj (Option.some.inj z')).symm
    show _ = _
    rw [upd_ne nq]
    exact z
theorem dI_congr {F G : Int → V} : ∀ {l : List Int}, (∀ q ∈ l, F q = G q) → dI l F = dI l G := fun h => List.map_congr_left fun q hq => by rw [h q hq]
theorem lookP_some {xs : List (PKey × Addr × Int)} {k : PKey} {v : Int} (hx : ∀ (j : Nat) x, xs[j]? = some x → x.2.2 = (j : Int)) (h : lookP xs k = some v) : ∃ j : Nat, v = (j : Int) ∧ ∃ b, xs[j]? = some (k, b, v) := by
  unfold lookP at h
  obtain ⟨x, h1, h2⟩ := Option.map_eq_some_iff.mp h
  have hk : x.1 = k := by simpa using List.find?_some h1
  have hm := List.mem_of_find?_eq_some h1
  obtain ⟨j, hj, e⟩ := List.mem_iff_getElem.mp hm
  have hj' : xs[j]? = some x := by rw [List.getElem?_eq_getElem hj, e]
  refine ⟨j, by rw [← h2]; exact hx j x hj', x.2.1, ?_⟩
  rw [hj', ← hk, ← h2]
theorem lookP_app {xs ys : List (PKey × Addr × Int)} {k : PKey} {v : Int} (h : lookP xs k = some v) : lookP (xs ++ ys) k = some v := by
  unfold lookP at h ⊢
  obtain ⟨x, h1, h2⟩ := Option.map_eq_some_iff.mp h
  rw [List.find?_append, h1]
  exact congrArg some h2
theorem lookP_new {xs : List (PKey × Addr × Int)} {k : PKey} {b : Addr} {v : Int} (h : lookP xs k = none) : lookP (xs ++ [(k, b, v)]) k = some v := by
  unfold lookP at h ⊢
  rw [List.find?_append, Option.map_eq_none_iff.mp h]
  simp
theorem keyT_upd {H : Hp} {k : PKey} {b p : Addr} {o o' : HO} (h : KeyT H k b) (hp : H p = some o) (n : ∀ xs, o ≠ .tup xs) : KeyT (L2.upd H p o') k b := by
  obtain ⟨c, h1, h2⟩ := h
  have n1 : b ≠ p := fun e => by rw [e, hp] at h1; exact n _ (Option.some.inj h1)
  have n2 : c ≠ p := fun e => by rw [e, hp] at h2; exact n _ (Option.some.inj h2)
  exact ⟨c, by rw [upd_ne n1]; exact h1, by rw [upd_ne n2]; exact h2⟩
theorem put_upd {fd : List Int} {κ : Int → Int} {i : Nat} {q v : Int} (nd : fd.Nodup) (hq : fd[i]? = some q) : putK (dKi (fd.take i) κ) (Sum.inl q) (.int v) = dKi (fd.take (i + 1)) (fun p => if p = q then v else κ p) ∧ ∀ p ∈ fd.take i, p ≠ q := by
  have hni : q ∉ fd.take i := fun h => by
    obtain ⟨j, hj, e⟩ := List.mem_iff_getElem.mp h
    rw [List.length_take] at hj
    have hi := (List.getElem?_eq_some_iff.mp hq).1
    have e' : fd[j]? = some q := by
      rw [List.getElem_take] at e
      rw [List.getElem?_eq_getElem (by omega), e]
    have := (List.getElem?_inj (by omega) nd).mp (e'.trans hq.symm)
    omega
  have hp : ∀ p ∈ fd.take i, p ≠ q := fun p hp e => hni (e ▸ hp)
  refine ⟨?_, hp⟩
  have e1 : dKi (fd.take i) κ = dKi (fd.take i) (fun p => if p = q then v else κ p) := dI_congr fun p h => by
    show V.int (κ p) = V.int (if p = q then v else κ p)
    rw [if_neg (hp p h)]
  rw [e1]
  have e2 : fd.take (i + 1) = fd.take i ++ [q] := by rw [List.take_add_one, hq]; rfl
  rw [e2]
  have e3 := put_dI (F := fun p => V.int (if p = q then v else κ p)) hni
  simp only [if_true] at e3
  exact e3
section
variable {P : Program} {w : World} {K : PySem.W.Frag} {mg : Str → Option Value} {base : Heap}
abbrev nRef : List Str := ["signs", "rows", "kinds", "numbers", "found", "state", "kind", "key", "sign"]
theorem scRef : FnScope nRef ["signs", "rows", "kinds"] (defScope sRef) := ⟨rfl, rfl, rfl, by decide +kernel, rfl, by decide +kernel, by decide +kernel⟩
def spRef : Sp := fun vs H Q _ => ∃ (cs : List Nat) (a d : Addr) (rows : List (List Int)) (ends fd : List Int) (κ : Int → Int), vs = [.str (txt cs), .ref a, .ref d] ∧ Abc cs ∧ WfM cs rows ends ∧ RowsAt H cs a rows ∧ Order cs rows fd ∧ H d = some (.dK (dKi fd κ)) ∧
  ∀ (κ' : Int → Int) (p : Addr) (H' : Hp), Refn cs rows fd κ κ' → H p = none → Same H H' → H' p = some (.dK (dKi fd κ')) → Q (.ref p) H'
theorem ok_ref {f : Addr} {fd : FuncData} (F : Fun K "refined" "refined" sRef f fd) (B : Bl mg) : FnOk P w K mg base CX0 1 f fd ["signs", "rows", "kinds"] spRef := by
  refine F.ok scRef (fun vs H Q E h => ?_) (fun cdv A outer s H vs Q E hr h => ?_)
  · obtain ⟨cs, a, d, rows, ends, fd, κ, rfl, _⟩ := h
    rfl
  · obtain ⟨cs, a, d, rows, ends, fd, κ, rfl, ha, W, hR, O, hd, k⟩ := h
    have hu := hu_of hr
    have hu2 := Nat.lt_of_le_of_lt (Nat.add_le_add_left (by decide : 2 ≤ 64) _) hr.units
    refine ⟨_, pss_cons (ps_par (by rfl) scRef.nd (i := 3) (j := 4) rfl rfl (by decide) rfl rfl (pa_cons pe_dnewP (pa_cons pe_dnewK pa_nil)) (by rfl))
      (pss_cons (ps_lock (ps_for PassesOwn.never rfl (pi_items (pv 2)) (pg_tup rfl (pgs_cons (pg_name (i := 5) scRef.nd rfl (.inr rfl)) (pgs_cons (pg_name (i := 6) scRef.nd rfl (.inl rfl)) pgs_nil)))
        (pss_cons (ps_set (i := 7) scRef.nd rfl (.inl rfl) (pe_tup (pa_cons (pv 6) (pa_cons (pe_callTy call_tuple_of (by rfl) B.tuple (by decide +kernel) (pa_cons (pe_lc (own := [("sign", 8)]) (g := gName 8) (tt := tYes) (te := tDGet (tVar 2) (tDGet (tOp (rIx K) (tVar 1) (tVar 5)) (tVar 8))) rfl scRef.nd (pi_str (pv 0)) (blkOk_by (by kernel_rfl))
            (fun _ _ _ _ _ => pg_name (i := 8) scRef.nd rfl (.inl rfl)) (fun _ _ _ _ _ => pts_nil) (fun _ _ _ _ _ => pe_dget hu (pv 2) (pe_dget hu (pe_ix ix_seq (pv 1) (pv 5) (fun _ _ => rfl)) (pv 8) (fun _ _ => rfl)) (fun _ _ => rfl))) pa_nil)) pa_nil))))
        (pss_one (ps_dput hu (pv 4) (pv 5) (pe_psetd hu2 (pv 3) (pv 7) (pe_callB call_lenP (by rfl) B.len boot_len (pa_cons (pv 3) pa_nil)) ⟨rfl, rfl, rfl, rfl⟩) rfl)))))
      (pss_one (ps_ret (pv 4)))), ?_⟩
    intro pn hpn pf hpf
    refine ⟨_, _, rfl, ?_⟩
    have hpfH : H pf = none := (same_new hpn).free hpf
    have nnf : pn ≠ pf := ne_of_none upd_same hpf
    have s0 : Same H (upd (upd H pn (PkO P w pn [])) pf (.dK [])) := same_upd (same_new hpn) hpfH
    have hne : fd ≠ [] := by obtain ⟨t, e⟩ := O.hd; rw [e]; simp
    have ndn : d ≠ pn := ne_of_none hd hpn
    have ndf : d ≠ pf := ne_of_none hd hpfH
    refine ⟨d, _, s0 _ _ hd, trivial, fun od => ?_⟩
    have hRd : RowsAt (upd H d (.frz od (.dK (dKi fd κ)))) cs a rows := hR.lock hd hne
    have sd : Same (upd H d (.frz od (.dK (dKi fd κ)))) (upd (upd (upd H pn (PkO P w pn [])) pf (.dK [])) d (.frz od (.dK (dKi fd κ)))) := fun b o hb => by
      by_cases e : b = d
      · subst e; rw [upd_same] at hb ⊢; exact hb
      · rw [upd_ne e] at hb ⊢; exact s0 _ _ hb
    have pnd : (upd H d (.frz od (.dK (dKi fd κ)))) pn = none := by rw [upd_ne (Ne.symm ndn)]; exact hpn
    have pfd : (upd H d (.frz od (.dK (dKi fd κ)))) pf = none := by rw [upd_ne (Ne.symm ndf)]; exact hpfH
    refine ⟨_, rfl, d, od, _, rfl, upd_same, ?_⟩
    have hfl : fd.length ≤ rows.length := nodup_len _ _ O.nd O.rg
    have h5 := W.five
    refine for_it walk_items (fun i σ H' => Same (upd H d (.frz od (.dK (dKi fd κ)))) H' ∧ ∃ (κ' : Int → Int) (xs : List (PKey × Addr × Int)) (a5 a6 a7 a8 : Option V), σ = [some (.str (txt cs)), some (.ref a), some (.ref d), some (.ref pn), some (.ref pf), a5, a6, a7, a8] ∧
      H' pn = some (PkO P w pn xs) ∧ H' pf = some (.dK (dKi (fd.take i) κ')) ∧ (∀ x ∈ xs, KeyT H' x.1 x.2.1) ∧ (∀ (j : Nat) x, xs[j]? = some x → x.2.2 = (j : Int)) ∧ xs.length ≤ i ∧ ∀ q ∈ fd.take i, lookP xs (sig cs rows κ q) = some (κ' q)) ?_ (fun i σ H' _ p => p.1 _ _ upd_same) ?_ ?_
    · refine ⟨sd, κ, [], none, none, none, none, rfl, ?_, ?_, (fun _ h => nomatch h), (fun j x h => by simp at h), Nat.le_refl _, (fun _ h => by simp at h)⟩
      · rw [upd_ne (Ne.symm ndn), upd_ne nnf, upd_same]
        rfl
      · rw [upd_ne (Ne.symm ndf), upd_same]; rfl
    · rintro i v σ H1 H1' hi ⟨e1, κ', xs, b5, b6, b7, b8, rfl, h1, h2, h3, h4, h6, h7⟩ ⟨T, x, y, rfl, hT, rfl, ex, ey⟩
      rw [show (dKi fd κ).length = fd.length from len_dI _ _] at hi
      have hq : fd[i]? = some fd[i] := List.getElem?_eq_getElem hi
      generalize fd[i] = q at hq
      have hkv : (dKi fd κ)[i]? = some (Sum.inl q, .int (κ q)) := by
        unfold dKi dI
        rw [List.getElem?_map, hq]; rfl
      dsimp only at ex ey
      rw [hkv] at ex ey
      cases ex
      cases ey
      have hqm := List.mem_of_getElem? hq
      obtain ⟨q0, q1⟩ := O.rg q hqm
      have eT : Same H1 (upd H1 T (.tup [kV (Sum.inl q), .int (κ q)])) := same_new hT
      refine ⟨T, _, rfl, SqT.of upd_same, rfl, _, _, rfl, _, _, rfl, rfl, ?_⟩
      have hz : (txt cs).cps.size = cs.length := by simp [txt]
      have h4' := ha.four
      refine ⟨_, rfl, _, rfl, _, rfl, fun D hD => lc_S walk_str hD (by rw [hz]; omega) (fun j acc _ => acc = ((cs.take j).map fun c => κ (nxt cs rows q c)).map V.int) (fun _ _ _ _ _ _ _ h => h) rfl (fun _ _ => trivial) ?_ ?_⟩
      · rintro j v H3 H3' acc Qt Qf hj e3 hd3 rfl ⟨rfl, c, hc, rfl⟩ kt kf
        have hc' : cs[j]? = some c := by simpa [txt] using hc
        have hcm := List.mem_of_getElem? hc'
        have e4 := e1.trans (eT.trans e3)
        obtain ⟨ys, dd, g1, g2, g3⟩ := (hRd.mono e4).get W q0 q1 hcm
        refine ⟨rfl, _, rfl, _, rfl, _, rfl, ix_lot g1 g2 ⟨_, rfl, dd, _, rfl, g3, d, .int (κ (nxt cs rows q c)), rfl, ?_, kt _ _ (Same.refl _) ?_⟩⟩
        · refine .inl ⟨_, Sum.inl (nxt cs rows q c), .inr ⟨od, e4 _ _ upd_same⟩, rfl, ?_⟩
          show some _ = valV (dI fd fun q => .int (κ q)) _
          rw [val_dI, if_pos (O.cl q hqm c hcm)]
        · rw [List.take_add_one, hc', List.map_append, List.map_append]
          rfl
      · rintro H3 acc e3 hd3 rfl
        rw [hz, List.take_length] at hd3
        refine ⟨D, _, rfl, .inl ⟨SqL.of hd3, fun l hl => ⟨by show 2 ≤ sizeLine; decide, fun b hb => ?_⟩⟩⟩
        have e4 := (e1.trans (eT.trans e3)).trans ((same_new (o := .tup (((cs.map fun c => κ (nxt cs rows q c))).map V.int)) hl).trans (same_new (o := .tup [.int (κ q), .ref l]) hb))
        have e5 : Same H1 _ := (eT.trans e3).trans ((same_new (o := .tup (((cs.map fun c => κ (nxt cs rows q c))).map V.int)) hl).trans (same_new (o := .tup [.int (κ q), .ref l]) hb))
        have hk : KeyT (upd (upd H3 l (.tup (((cs.map fun c => κ (nxt cs rows q c))).map V.int))) b (.tup [.int (κ q), .ref l])) (sig cs rows κ q) b := ⟨l, upd_same, (same_new hb) _ _ upd_same⟩
        generalize (upd (upd H3 l (.tup (((cs.map fun c => κ (nxt cs rows q c))).map V.int))) b (.tup [.int (κ q), .ref l])) = H4 at e4 e5 hk
        have k3 : ∀ x ∈ xs, KeyT H4 x.1 x.2.1 := fun x hx => (h3 x hx).mono e5
        have p1 := e5 _ _ h1
        have p2 := e5 _ _ h2
        have hlen : (dKi (fd.take i) κ').length < sizeLine := by rw [show (dKi (fd.take i) κ').length = (fd.take i).length from len_dI _ _, List.length_take, sizeLine_eq]; omega
        refine ⟨_, rfl, pn, xs, rfl, p1, _, rfl, _, rfl, pn, xs, rfl, p1, k3, xs, sig cs rows κ q, b, _, p1, rfl, hk, rfl, (by rw [sizeLine_eq]; omega), k3, fun v hv => ?_, fun hv => ?_⟩
        · obtain ⟨pu, pv'⟩ := put_upd (κ := κ') (v := v) O.nd hq
          refine ⟨_, rfl, _, rfl, pf, _, rfl, DPut.k (k := Sum.inl q) p2 hlen, ?_⟩
          rw [pu]
          refine ⟨same_upd e4 pfd, _, xs, _, _, _, _, rfl, ?_, upd_same, ?_, h4, by omega, ?_⟩
          · rw [upd_ne nnf]; exact p1
          · exact fun x hx => keyT_upd (k3 x hx) p2 (fun _ => nofun)
          · intro p hp
            rw [List.take_add_one, hq] at hp
            rcases List.mem_append.mp hp with z | z
            · simp only [if_neg (pv' p z)]; exact h7 p z
            · have : p = q := by simpa using z
              subst this
              simp only [if_true]; exact hv
        · obtain ⟨pu, pv'⟩ := put_upd (κ := κ') (v := (xs.length : Nat)) O.nd hq
          refine ⟨_, rfl, _, rfl, pf, _, rfl, DPut.k (k := Sum.inl q) (by rw [upd_ne (Ne.symm nnf)]; exact p2) hlen, ?_⟩
          rw [pu]
          refine ⟨same_upd (same_upd e4 pnd) pfd, _, xs ++ [(sig cs rows κ q, b, ((xs.length : Nat) : Int))], _, _, _, _, rfl, ?_, upd_same, ?_, ?_, (by simp; omega), ?_⟩
          · rw [upd_ne nnf, upd_same]
            rfl
          · intro x hx
            have p2' : (L2.upd H4 pn (PkO P w pn (xs ++ [(sig cs rows κ q, b, ((xs.length : Nat) : Int))]))) pf = some (.dK (dKi (fd.take i) κ')) := by rw [upd_ne (Ne.symm nnf)]; exact p2
            rcases List.mem_append.mp hx with z | z
            · exact keyT_upd (keyT_upd (k3 x z) p1 (fun _ => nofun)) p2' (fun _ => nofun)
            · have : x = (sig cs rows κ q, b, ((xs.length : Nat) : Int)) := by simpa using z
              subst this
              exact keyT_upd (keyT_upd hk p1 (fun _ => nofun)) p2' (fun _ => nofun)
          · intro j x hx
            by_cases hj : j < xs.length
            · rw [List.getElem?_append_left hj] at hx
              exact h4 j x hx
            · have hj' : j = xs.length := by
                have := (List.getElem?_eq_some_iff.mp hx).1
                simp at this; omega
              subst hj'
              rw [List.getElem?_append_right (Nat.le_refl _)] at hx
              simp at hx
              rw [← hx]
          · intro p hp
            rw [List.take_add_one, hq] at hp
            rcases List.mem_append.mp hp with z | z
            · simp only [if_neg (pv' p z)]; exact lookP_app (h7 p z)
            · have : p = q := by simpa using z
              subst this
              simp only [if_true]; exact lookP_new hv
    · rintro σ H1 ⟨e1, κ', xs, b5, b6, b7, b8, rfl, h1, h2, h3, h4, h6, h7⟩
      rw [show (dKi fd κ).length = fd.length from len_dI _ _, List.take_length] at h2 h7
      refine ⟨e1 _ _ upd_same, _, rfl, k κ' pf _ ?_ hpfH (lock_same hd e1) ?_⟩
      · intro p hp q hq
        have hp' := h7 p hp
        have hq' := h7 q hq
        constructor
        · intro e
          obtain ⟨j, j1, b, j2⟩ := lookP_some h4 hp'
          obtain ⟨j', j1', b', j2'⟩ := lookP_some h4 hq'
          have ej : j = j' := by omega
          subst ej
          rw [j2] at j2'
          exact congrArg (·.1) (Option.some.inj j2')
        · intro e
          rw [e, hq'] at hp'
          exact (Option.some.inj hp').symm
      · rw [upd_ne (Ne.symm ndf)]; exact h2
end
end SG
set_option maxRecDepth 100000
set_option maxHeartbeats 4000000
namespace SG
open PySem L2 SR TL SS
def Eqv (cs : List Nat) (rows : List (List Int)) (ends : List Int) (r : Nat) (p q : Int) : Prop := ∀ x : List Nat, (∀ c ∈ x, c ∈ cs) → x.length ≤ r → (run cs rows p x ∈ ends ↔ run cs rows q x ∈ ends)
section
variable {cs : List Nat} {rows : List (List Int)} {ends fd : List Int}
theorem Eqv.mono {r r' : Nat} {p q : Int} (h : Eqv cs rows ends r p q) (le : r' ≤ r) : Eqv cs rows ends r' p q := fun x hx hl => h x hx (Nat.le_trans hl le)
theorem eqv_zero {p q : Int} : Eqv cs rows ends 0 p q ↔ (p ∈ ends ↔ q ∈ ends) := by
  constructor
  · intro h
    exact h [] (fun _ h => nomatch h) (Nat.le_refl _)
  · intro h x hx hl
    have : x = [] := List.length_eq_zero_iff.mp (Nat.le_zero.mp hl)
    subst this
    exact h
theorem eqv_succ {r : Nat} {p q : Int} : Eqv cs rows ends (r + 1) p q ↔ Eqv cs rows ends r p q ∧ ∀ c ∈ cs, Eqv cs rows ends r (nxt cs rows p c) (nxt cs rows q c) := by
  constructor
  · intro h
    refine ⟨h.mono (Nat.le_succ r), fun c hc x hx hl => ?_⟩
    have := h (c :: x) (fun d hd => by
      rcases List.mem_cons.mp hd with z | z
      · rw [z]; exact hc
      · exact hx d z) (by simpa using hl)
    exact this
  · rintro ⟨h1, h2⟩ x hx hl
    cases x with
    | nil => exact h1 [] hx (Nat.zero_le _)
    | cons c x => exact h2 c (hx c List.mem_cons_self) x (fun d hd => hx d (List.mem_cons_of_mem _ hd)) (by simpa using hl)
/-- the kinds κ are told by texts of at most r signs -/
def Kn (cs : List Nat) (rows : List (List Int)) (ends fd : List Int) (r : Nat) (κ : Int → Int) : Prop := ∀ p ∈ fd, ∀ q ∈ fd, κ p = κ q ↔ Eqv cs rows ends r p q
theorem Refn.kn {κ κ' : Int → Int} {r : Nat} (R : Refn cs rows fd κ κ') (O : Order cs rows fd) (k : Kn cs rows ends fd r κ) : Kn cs rows ends fd (r + 1) κ' := fun p hp q hq => by
  rw [R p hp q hq, eqv_succ, ← k p hp q hq]
  unfold sig
  rw [Prod.mk.injEq]
  refine and_congr Iff.rfl ?_
  rw [List.map_inj_left]
  constructor
  · intro h c hc
    exact (k _ (O.cl p hp c hc) _ (O.cl q hq c hc)).mp (h c hc)
  · intro h c hc
    exact (k _ (O.cl p hp c hc) _ (O.cl q hq c hc)).mpr (h c hc)
end
end SG
set_option maxRecDepth 100000
set_option maxHeartbeats 4000000
namespace SG
open PySem L2 SR TL SS
/-- as many kinds as before: none was split -/
theorem unsplit {fd l0 l : List Int} {κ0 κ : Int → Int} (fine : ∀ p ∈ fd, ∀ q ∈ fd, κ p = κ q → κ0 p = κ0 q) (nd0 : l0.Nodup) (h0 : ∀ v, v ∈ l0 ↔ v ∈ fd.map κ0) (h : ∀ v, v ∈ l ↔ v ∈ fd.map κ) (hl : l.length ≤ l0.length) :
    ∀ p ∈ fd, ∀ q ∈ fd, κ0 p = κ0 q → κ p = κ q := by
  intro p hp q hq e
  refine Classical.byContradiction fun ne => ?_
  have hf : ∀ s ∈ fd, κ0 ((fd.find? fun t => decide (κ t = κ s)).getD 0) = κ0 s := fun s hs => by
    cases ef : fd.find? fun t => decide (κ t = κ s) with
    | none => exact absurd (List.find?_eq_none.mp ef s hs) (by simp)
    | some t =>
      have h1 : κ t = κ s := by simpa using List.find?_some ef
      exact fine t (List.mem_of_find?_eq_some ef) s hs h1
  have hpl : κ p ∈ l := (h _).mpr (List.mem_map.mpr ⟨p, hp, rfl⟩)
  have sub : ∀ x ∈ l0, x ∈ (l.erase (κ p)).map fun v => κ0 ((fd.find? fun t => decide (κ t = v)).getD 0) := fun x hx => by
    obtain ⟨s, hs, rfl⟩ := List.mem_map.mp ((h0 x).mp hx)
    by_cases es : κ s = κ p
    · refine List.mem_map.mpr ⟨κ q, (List.mem_erase_of_ne (fun z => ne z.symm)).mpr ((h _).mpr (List.mem_map.mpr ⟨q, hq, rfl⟩)), ?_⟩
      rw [hf q hq, ← e]
      exact (fine s hs p hp es).symm
    · exact List.mem_map.mpr ⟨κ s, (List.mem_erase_of_ne es).mpr ((h _).mpr (List.mem_map.mpr ⟨s, hs, rfl⟩)), hf s hs⟩
  have := len_subG _ _ nd0 sub
  rw [List.length_map, List.length_erase_of_mem hpl] at this
  have := List.length_pos_of_mem hpl
  omega
def Bis (cs : List Nat) (rows : List (List Int)) (fd : List Int) (κ : Int → Int) : Prop := ∀ p ∈ fd, ∀ q ∈ fd, κ p = κ q → ∀ c ∈ cs, κ (nxt cs rows p c) = κ (nxt cs rows q c)
def Fine (fd : List Int) (κ0 κ : Int → Int) : Prop := ∀ p ∈ fd, ∀ q ∈ fd, κ p = κ q → κ0 p = κ0 q
theorem Refn.fine {cs : List Nat} {rows : List (List Int)} {fd : List Int} {κ κ' : Int → Int} (R : Refn cs rows fd κ κ') : Fine fd κ κ' := fun p hp q hq e => congrArg (·.1) ((R p hp q hq).mp e)
theorem Refn.bis {cs : List Nat} {rows : List (List Int)} {fd l0 l : List Int} {κ κ' : Int → Int} (R : Refn cs rows fd κ κ') (O : Order cs rows fd) (nd0 : l0.Nodup) (h0 : ∀ v, v ∈ l0 ↔ v ∈ fd.map κ) (h : ∀ v, v ∈ l ↔ v ∈ fd.map κ') (hl : l.length ≤ l0.length) : Bis cs rows fd κ' := by
  intro p hp q hq e c hc
  have e1 := congrArg (·.2) ((R p hp q hq).mp e)
  have e2 : κ (nxt cs rows p c) = κ (nxt cs rows q c) := List.map_inj_left.mp e1 c hc
  exact unsplit R.fine nd0 h0 h hl _ (O.cl p hp c hc) _ (O.cl q hq c hc) e2
theorem ints_of_keys : ∀ m : List Key, (∀ k ∈ m, ∃ x : Int, k = Sum.inl x) → ∃ ts : List Int, m = ts.map Sum.inl
  | [], _ => ⟨[], rfl⟩
  | k :: m, h => by
    obtain ⟨x, rfl⟩ := h k List.mem_cons_self
    obtain ⟨ts, rfl⟩ := ints_of_keys m fun u hu => h u (List.mem_cons_of_mem _ hu)
    exact ⟨x :: ts, rfl⟩
section
variable {P : Program} {w : World} {K : PySem.W.Frag} {mg : Str → Option Value} {base : Heap}
/-- len(set(list(d.values()))) -/
def tCnt (i : Nat) : TE := fun σ H Q => ∃ (d : Addr) (kvs : List (Key × V)) (ns : List Int), σ[i]? = some (some (.ref d)) ∧ H d = some (.dK kvs) ∧ kvs.map (·.2) = ns.map V.int ∧ ns.length < 1000 ∧ ∀ (l : List Int) (H' : Hp), l.Nodup → (∀ v, v ∈ l ↔ v ∈ ns) → Same H H' → Q (.int (l.length : Nat)) H'
theorem pe_cnt {X : Cx} {x : Str} {i : Nat} {px p1 p2 p3 q1 q2 q3 ap cp : Pos} (hc : X.calm = true) (B : Bl X.mg) (he : PE X (.Name x px) (tVar i)) (g1 : Gl X "len") (g2 : Gl X "set") (g3 : Gl X "list")
    (hbase : attributeBase (.Name x px) "values" X.env (eval (.Name x px) X.env) = eval (.Name x px) X.env := by rfl) (hline : (ap.endLine == cp.line) = true := by rfl) :
    PE X (.Call (.Name "len" p1) [.Call (.Name "set" p2) [.Call (.Name "list" p3) [.Call (.Attribute (.Name x px) "values" ap) [] [] cp] [] q3] [] q2] [] q1) (tCnt i) := by
  refine ⟨fun pins s σ H Q I h => (pe_callB cr_lenK g1 B.len boot_len (pa_cons (pe_callTy (cr_setK hc) g2 B.set (by decide +kernel) (pa_cons (pe_callTy (call_list_view hc) g3 B.list (by decide +kernel) (pa_cons (pe_view he hbase hline) pa_nil)) pa_nil)) pa_nil)).run pins s σ H Q I ?_⟩
  obtain ⟨d, kvs, ns, hi, hd, hv, hn, k⟩ := h
  refine ⟨_, hi, d, kvs, rfl, hd, fun r hr => ⟨r, d, kvs, rfl, upd_same, by rw [upd_ne (ne_of_none hd hr)]; exact hd, fun l hl => ?_⟩⟩
  refine ⟨ns.map Sum.inl, .inl ⟨l, rfl, .inl (SqL.of ?_)⟩, by rw [List.length_map]; exact hn, fun p kl hp nd hm hll => ⟨p, kl, rfl, upd_same, ?_⟩⟩
  · rw [upd_same, hv, List.map_map]; rfl
  · obtain ⟨ts, rfl⟩ := ints_of_keys kl fun x hx => by
      obtain ⟨i, _, e⟩ := List.mem_map.mp ((hm x).mp hx)
      exact ⟨i, e.symm⟩
    rw [List.length_map]
    refine k ts _ ?_ ?_ (((same_new hr).trans (same_new hl)).trans (same_new hp))
    · exact (List.pairwise_map.mp nd).imp fun h e => h (congrArg Sum.inl e)
    · intro v
      have h1 := hm (Sum.inl v)
      constructor
      · intro hv'
        obtain ⟨i, hi, e⟩ := List.mem_map.mp (h1.mp (List.mem_map.mpr ⟨v, hv', rfl⟩))
        rw [← Sum.inl.inj e]; exact hi
      · intro hv'
        obtain ⟨i, hi, e⟩ := List.mem_map.mp (h1.mpr (List.mem_map.mpr ⟨v, hv', rfl⟩))
        rw [← Sum.inl.inj e]; exact hi
/-- at most m classes -/
def Cover (m : Nat) (cs : List Nat) (rows : List (List Int)) (ends fd : List Int) : Prop := ∃ rs : List Int, rs.length ≤ m ∧ (∀ s ∈ rs, s ∈ fd) ∧ ∀ p ∈ fd, ∃ s ∈ rs, ∀ n, Eqv cs rows ends n p s
theorem Cover.few {m : Nat} {cs : List Nat} {rows : List (List Int)} {ends fd l : List Int} {κ : Int → Int} {r : Nat} (c : Cover m cs rows ends fd) (k : Kn cs rows ends fd r κ) (nd : l.Nodup) (h : ∀ v, v ∈ l ↔ v ∈ fd.map κ) : l.length ≤ m := by
  obtain ⟨rs, h1, h2, h3⟩ := c
  have := len_subG l (rs.map κ) nd fun v hv => by
    obtain ⟨p, hp, rfl⟩ := List.mem_map.mp ((h v).mp hv)
    obtain ⟨s, hs, e⟩ := h3 p hp
    exact List.mem_map.mpr ⟨s, hs, ((k p hp s (h2 s hs)).mpr (e r)).symm⟩
  rw [List.length_map] at this
  omega
abbrev nLek : List Str := ["signs", "rows", "kinds", "count"]
theorem scLek : FnScope nLek ["signs", "rows", "kinds"] (defScope sLek) := ⟨rfl, rfl, rfl, by decide +kernel, rfl, by decide +kernel, by decide +kernel⟩
def spLek : Sp := fun vs H Q _ => ∃ (cs : List Nat) (a d : Addr) (rows : List (List Int)) (ends fd : List Int) (κ : Int → Int) (m : Nat), vs = [.str (txt cs), .ref a, .ref d] ∧ m ≤ 6 ∧ Abc cs ∧ WfM cs rows ends ∧ RowsAt H cs a rows ∧ Order cs rows fd ∧ H d = some (.dK (dKi fd κ)) ∧ Kn cs rows ends fd 0 κ ∧ Cover m cs rows ends fd ∧
  ∀ (κ' : Int → Int) (p : Addr) (H' : Hp) (r : Nat), Kn cs rows ends fd r κ' → r + 1 ≤ m → Bis cs rows fd κ' → Same H H' → H' p = some (.dK (dKi fd κ')) → Q (.ref p) H'
theorem ok_lek {f : Addr} {fd : FuncData} (F : Fun K "least_kinds" "least_kinds" sLek f fd) (B : Bl mg) (C : Cn mg) (Rf : Cal P w K mg base "refined" 1 ["signs", "rows", "kinds"] spRef) : FnOk P w K mg base CX0 2 f fd ["signs", "rows", "kinds"] spLek := by
  obtain ⟨tm, hmost⟩ := C.most
  refine F.ok scLek (fun vs H Q E h => ?_) (fun cdv A outer s H vs Q E hr h => ?_)
  · obtain ⟨cs, a, d, rows, ends, fd, κ, m, rfl, _⟩ := h
    rfl
  · obtain ⟨cs, a, d, rows, ends, fd, κ, m, rfl, hm6, ha, W, hR, O, hd, k0, cov, k⟩ := h
    refine ⟨_, pss_cons (ps_set (i := 3) scLek.nd rfl (.inl rfl) pe_int)
      (pss_cons (ps_while PassesOwn.never (pt_cmpR op_lt (pv 3) (pe_cnt rfl B (pv 2) (by rfl) (by rfl) (by rfl)) (nomark _))
        (pss_cons (ps_set (i := 3) scLek.nd rfl (.inl rfl) (pe_cnt rfl B (pv 2) (by rfl) (by rfl) (by rfl)))
        (pss_cons (ps_if (pt_cmpR op_gt (pv 3) (pe_glob (v := .int 6) rfl hmost ⟨tm, rfl⟩) (nomark _)) (pss_one ps_never) pss_nil)
        (pss_one (ps_set (i := 2) scLek.nd rfl (.inl rfl) (pe_cal Rf hr (pa_cons (pv 0) (pa_cons (pv 1) (pa_cons (pv 2) pa_nil)))))))))
      (pss_one (ps_ret (pv 2)))), ?_⟩
    have hfl : fd.length ≤ rows.length := nodup_len _ _ O.nd O.rg
    have h5 := W.five
    have vals : ∀ κ : Int → Int, (dKi fd κ).map (·.2) = (fd.map κ).map V.int := fun κ => by
      unfold dKi dI
      rw [List.map_map, List.map_map]; rfl
    refine while_by (fun σ H' => Same H H' ∧ ∃ (κ' : Int → Int) (dk : Addr) (n t : Nat), σ = [some (.str (txt cs)), some (.ref a), some (.ref dk), some (.int (n : Nat))] ∧ H' dk = some (.dK (dKi fd κ')) ∧ Kn cs rows ends fd t κ' ∧ n ≤ 6 ∧ t ≤ n ∧
      (n = 0 ∨ ∃ (κp : Int → Int) (l0 : List Int) (t0 : Nat), t = t0 + 1 ∧ Kn cs rows ends fd t0 κp ∧ Refn cs rows fd κp κ' ∧ l0.Nodup ∧ (∀ v, v ∈ l0 ↔ v ∈ fd.map κp) ∧ l0.length = n)) (muAt 7 3) ?_ ?_ ?_
    · exact ⟨Same.refl _, κ, d, 0, 0, rfl, hd, k0, by decide, by decide, .inl rfl⟩
    · rintro σ H1 ⟨e1, κ', dk, n, t, rfl, hk, kn, hn, htn, inv⟩
      refine ⟨_, rfl, dk, _, fd.map κ', rfl, hk, vals κ', (by rw [List.length_map]; omega), fun l H2 nd hl e2 => ⟨_, _, rfl, rfl, _, rfl, ?_⟩⟩
      have hl6 : l.length ≤ m := cov.few kn nd hl
      have e12 := e1.trans e2
      refine ite2 (fun hlt => ?_) (fun hge => ?_)
      · have hlt : n < l.length := by have := of_decide_eq_true hlt; omega
        refine ⟨dk, _, fd.map κ', rfl, e2 _ _ hk, vals κ', (by rw [List.length_map]; omega), fun l' H3 nd' hl' e3 => ?_⟩
        have hll' : l'.length = l.length := ((List.perm_ext_iff_of_nodup nd' nd).mpr fun v => (hl' v).trans (hl v).symm).length_eq
        refine ⟨_, rfl, _, _, rfl, rfl, _, rfl, ite2 (fun hgt => ?_) (fun _ => ?_)⟩
        · have := of_decide_eq_true hgt
          omega
        · refine ⟨_, rfl, _, rfl, _, rfl, cs, a, dk, rows, ends, fd, κ', rfl, ha, W, hR.mono (e12.trans e3), O, e3 _ _ (e2 _ _ hk), fun κ2 p H4 R hp e4 h4 => ⟨⟨(e12.trans e3).trans e4, κ2, p, l'.length, t + 1, rfl, h4, R.kn O kn, by omega, by omega, .inr ⟨κ', l', t, rfl, kn, R, nd', hl', rfl⟩⟩, ?_⟩⟩
          show 7 - ((l'.length : Nat) : Int).toNat < 7 - ((n : Nat) : Int).toNat
          omega
      · have hge : l.length ≤ n := by
          have h : ¬ ((n : Int) < (l.length : Nat)) := fun z => hge (decide_eq_true z)
          omega
        rcases inv with rfl | ⟨κp, l0, t0, rfl, kp, R, nd0, h0, rfl⟩
        · exfalso
          obtain ⟨t, e⟩ := O.hd
          have : κ' 0 ∈ l := (hl _).mpr (List.mem_map.mpr ⟨0, by rw [e]; exact List.mem_cons_self, rfl⟩)
          have := List.length_pos_of_mem this
          omega
        · have kn0 : Kn cs rows ends fd t0 κ' := fun p hp q hq => by
            rw [← kp p hp q hq]
            exact ⟨R.fine p hp q hq, unsplit R.fine nd0 h0 hl hge p hp q hq⟩
          exact ⟨_, rfl, k κ' dk H2 t0 kn0 (by have := cov.few kp nd0 h0; omega) (R.bis O nd0 h0 hl hge) e12 (e2 _ _ hk)⟩
    · intro σ H Q Q' m h
      obtain ⟨v, h1, d, kvs, ns, h2, h3, h4, h5, h6⟩ := h
      refine ⟨v, h1, d, kvs, ns, h2, h3, h4, h5, fun l H' a1 a2 a3 => ?_⟩
      obtain ⟨i, j, b1, b2, b, b3, q⟩ := h6 l H' a1 a2 a3
      exact ⟨i, j, b1, b2, b, b3, m _ _ q⟩
end
end SG
set_option maxRecDepth 100000
set_option maxHeartbeats 4000000
namespace SG
open PySem L2 SR TL SS
section
variable {P : Program} {w : World} {K : PySem.W.Frag} {mg : Str → Option Value} {base : Heap}
abbrev nLst : List Str := ["table", "member_list", "found", "turn", "state", "row", "goal"]
theorem scLst : FnScope nLst ["table", "member_list"] (defScope sLst) := ⟨rfl, rfl, rfl, by decide +kernel, rfl, by decide +kernel, by decide +kernel⟩
/-- the table of a machine: a tuple of rows, a tuple of member states -/
def TabAt (H : Hp) (cs : List Nat) (t m : Addr) (rows : List (List Int)) (ends : List Int) : Prop := (∃ qs : List Addr, H t = some (.tup (qs.map .ref)) ∧ Paired (RowAt H cs) qs rows) ∧ H m = some (.tup (ends.map .int))
theorem TabAt.mono {H H' : Hp} {cs : List Nat} {t m : Addr} {rows : List (List Int)} {ends : List Int} (e : Same H H') (h : TabAt H cs t m rows ends) : TabAt H' cs t m rows ends := by
  obtain ⟨⟨qs, h1, h2⟩, h3⟩ := h
  exact ⟨⟨qs, e _ _ h1, Paired.mono h2 fun _ _ h => e _ _ h⟩, e _ _ h3⟩
def spLst : Sp := fun vs H Q _ => ∃ (t m : Addr) (cs : List Nat) (rows : List (List Int)) (ends : List Int), vs = [.ref t, .ref m] ∧ Abc cs ∧ WfM cs rows ends ∧ TabAt H cs t m rows ends ∧
  ∀ (ns : List Int) (p : Addr) (H' : Hp), (∀ q, 0 ≤ q → q < (rows.length : Int) → (q ∈ ns ↔ Leads cs rows ends q)) → (∀ q ∈ ns, 0 ≤ q ∧ q < (rows.length : Int)) → ns.length ≤ 40 → ns.Pairwise (· ≤ ·) → H p = none → Same H H' → H' p = some (.tup (ns.map .int)) → Q (.ref p) H'
theorem ok_lst {f : Addr} {fd : FuncData} (F : Fun K "live_states" "live_states" sLst f fd) (B : Bl mg) : FnOk P w K mg base CX0 1 f fd ["table", "member_list"] spLst := by
  refine F.ok scLst (fun vs H Q E h => ?_) (fun cdv A outer s H vs Q E hr h => ?_)
  · obtain ⟨t, m, cs, rows, ends, rfl, _⟩ := h
    rfl
  · obtain ⟨t, m, cs, rows, ends, rfl, ha, W, ⟨⟨qs, h1, h3⟩, h4⟩, k⟩ := h
    have nd : cs.Nodup := ris_nodup ha.ris
    refine ⟨_, pss_cons (ps_set (i := 2) scLst.nd rfl (.inr rfl) (pe_callTy call_list_of (by rfl) B.list (by decide +kernel) (pa_cons (pv 1) pa_nil)))
      (pss_cons (ps_for PassesOwn.never rfl (pi_range1 (by rfl) B.range (pa_cons (pe_callB call_len_seq (by rfl) B.len boot_len (pa_cons (pv 0) pa_nil)) pa_nil)) (pg_name (i := 3) scLst.nd rfl (.inl rfl))
        (pss_one (ps_for PassesOwn.never rfl (pi_enumT (by rfl) B.enumerate (pa_cons (pv 0) pa_nil)) (pg_tup rfl (pgs_cons (pg_name (i := 4) scLst.nd rfl (.inl rfl)) (pgs_cons (pg_name (i := 5) scLst.nd rfl (.inl rfl)) pgs_nil)))
          (pss_one (ps_if (PW.pt (pw_and (pt_cmpR op_notIn_seq (pv 4) (pv 2) (by rfl)) (pw_and1 (pt_val (pe_callB (cr_any rfl) (by rfl) B.any (by decide +kernel) (pa_cons (pe_lock (pe_lc (own := [("goal", 6)]) (g := gName 6) (tt := tYes) (te := tOp (rIn K false) (tVar 6) (tVar 2)) rfl scLst.nd (pi_values (pv 5)) (blkOk_by (by kernel_rfl))
              (fun _ _ _ _ _ => pg_name (i := 6) scLst.nd rfl (.inl rfl)) (fun _ _ _ _ _ => pts_nil) (fun _ _ _ _ _ => pe_cmpR op_in_seq (pv 6) (pv 2) (by rfl)))) pa_nil))))))
            (pss_one (ps_expr (pe_bm PySem.F.plainAttrs_list PySem.F.slot_list_append PySem.F.type_list_append mt_append (pv 2) (pa_cons (pv 4) pa_nil)))) pss_nil)))))
      (pss_one (ps_ret (pe_callTy call_tuple_of (by rfl) B.tuple (by decide +kernel) (pa_cons (pe_callB cr_sorted (by rfl) B.sorted (by decide +kernel) (pa_cons (pv 2) pa_nil)) pa_nil))))), ?_⟩
    have hql : qs.length = rows.length := Paired.length h3
    have h5 := W.five
    refine ⟨_, rfl, m, _, rfl, .inr (SqT.of h4), fun pf hpf => ?_⟩
    have e0 : Same H (upd H pf (.lst (ends.map .int))) := same_new hpf
    have hcl : cs.length ≤ 1000 := by have := ha.four; omega
    refine ⟨_, rfl, t, _, rfl, .inr (SqT.of (e0 _ _ h1)), _, rfl, (by rw [List.length_map]; omega), (by rw [List.length_map]; omega), for_it (walk_range (lo := 0)) (fun i σ H' => Same H H' ∧ ∃ fd a3 a4 a5 a6, σ = [some (.ref t), some (.ref m), some (.ref pf), a3, a4, a5, a6] ∧ H' pf = some (.lst (fd.map .int)) ∧ Outer rows (Leads cs rows ends) ends i fd) ?_ (fun _ _ _ _ _ => trivial) ?_ ?_⟩
    · exact ⟨e0, ends, none, none, none, none, rfl, upd_same, ⟨W.nd, W.fin, fun q hq => ⟨[], (fun _ h => nomatch h), hq⟩, fun _ h => h⟩, .inr (Nat.zero_le _)⟩
    · rintro i v σ H1 H1' hi ⟨e1, fd, a3, a4, a5, a6, rfl, hf, O⟩ ⟨rfl, rfl⟩
      refine ⟨_, rfl, t, _, rfl, SqT.of (e1 _ _ h1), for_it (walk_enumE (xs := qs.map .ref)) (fun j σ H' => Same H H' ∧ ∃ fd' a3 a4 a5 a6, σ = [some (.ref t), some (.ref m), some (.ref pf), a3, a4, a5, a6] ∧ H' pf = some (.lst (fd'.map .int)) ∧ Inner rows (Leads cs rows ends) ends fd j fd') ?_ (fun j σ H' _ p => SqT.of (p.1 _ _ h1)) ?_ ?_⟩
      · exact ⟨e1, fd, _, _, _, _, rfl, hf, Inner.start O.snd⟩
      · rintro j v σ H2 H2' hj ⟨e2, fd', b2, b3, b4, b5, rfl, hf2, IN⟩ ⟨T, x, y, rfl, hT, rfl, ex, ey⟩
        rw [List.length_map] at hj
        cases ex
        dsimp only at ey
        rw [List.getElem?_map] at ey
        obtain ⟨q, hq, rfl⟩ := Option.map_eq_some_iff.mp ey
        have hjr : j < rows.length := by omega
        obtain ⟨q', hq', hrow⟩ := paired_get j h3 (List.getElem?_eq_getElem hjr)
        rw [hq] at hq'
        cases hq'
        have hrj := List.getElem?_eq_getElem hjr
        generalize rows[j] = row at hrow hrj
        have hl := (W.row row (List.mem_of_getElem? hrj)).1
        have e2T : Same H2 (upd H2 T (.tup [.int (j : Nat), .ref q])) := same_new hT
        have hf3 := e2T _ _ hf2
        have hd3 := e2T _ _ (e2 _ _ hrow)
        have e3 := e2.trans e2T
        refine ⟨T, _, rfl, SqT.of upd_same, rfl, _, _, rfl, _, _, rfl, rfl, ?_⟩
        refine ⟨_, rfl, _, rfl, pf, _, rfl, .inl (SqL.of hf3), rfl, flat_ints _, _, rfl, ?_⟩
        show (if (!inV (.int (j : Nat)) (fd'.map .int)) = true then _ else _)
        rw [inV_ints]
        by_cases hm : ((j : Nat) : Int) ∈ fd'
        · rw [decide_eq_true hm]
          refine ⟨e3, fd', _, _, _, _, rfl, hf3, IN.skip hrj (.inl hm)⟩
        · rw [decide_eq_false hm]
          refine vals_in (K := K) hd3 hl hcl hf3 (fun _ => rfl) (fun _ => rfl) (fun _ => rfl) rfl fun D H4 e4 hD => ?_
          refine ⟨D, _, rfl, SqL.of hD, _, rfl, ?_⟩
          by_cases hh : Hit fd' row
          · rw [(any_dec fd' row).mpr hh]
            refine ⟨_, rfl, .inl ⟨rfl, _, SqL.of (e4 _ _ hf3)⟩, _, rfl, pf, _, _, rfl, rfl, e4 _ _ hf3, ?_, ?_⟩
            · have := IN.snd.len
              rw [List.length_map, sizeLine_eq]
              omega
            · refine ⟨?_, fd' ++ [(j : Int)], _, _, _, _, rfl, ?_, IN.add (leads_back W nd) hrj hm hh⟩
              · exact same_upd (e3.trans e4) hpf
              · rw [upd_same, List.map_append]; rfl
          · have : (row.map fun g => decide (g ∈ fd')).any id = false := by
              cases hb : (row.map fun g => decide (g ∈ fd')).any id with
              | false => rfl
              | true => exact absurd ((any_dec fd' row).mp hb) hh
            rw [this]
            exact ⟨e3.trans e4, fd', _, _, _, _, rfl, e4 _ _ hf3, IN.skip hrj (.inr hh)⟩
      · rintro σ H2 ⟨e2, fd', b2, b3, b4, b5, rfl, hf2, IN⟩
        rw [List.length_map, hql] at IN
        exact ⟨e2, fd', _, _, _, _, rfl, hf2, IN.done O⟩
    · rintro σ H1 ⟨e1, fd, a2, a3, a4, a5, rfl, hf, O⟩
      have O' : Outer rows (Leads cs rows ends) ends rows.length fd := by
        rw [List.length_map, Int.toNat_natCast, hql] at O
        exact O
      have hl5 : fd.length ≤ 40 := Nat.le_trans O'.snd.len h5
      refine ⟨_, rfl, pf, fd, rfl, SqL.of hf, by omega, fun ns p pm rs hp => ⟨p, _, rfl, .inl ⟨SqL.of upd_same, fun l hl => ?_⟩⟩⟩
      refine k ns l _ (fun q q0 q1 => ?_) (fun q hq => O'.snd.bd q (pm.mem_iff.mp hq)) (by rw [pm.length_eq]; exact hl5) rs (((e1.trans (same_new hp)).free hl)) ((e1.trans (same_new hp)).trans (same_new hl)) upd_same
      exact pm.mem_iff.trans (O'.leads W q0 q1)
end
end SG
set_option maxRecDepth 100000
set_option maxHeartbeats 4000000
namespace SG
open PySem L2 SR TL SS
section
variable {cs : List Nat} {rows : List (List Int)} {ends fd : List Int}
/-- a class for each state: the ones that no text tells apart -/
theorem Kn.all {κ : Int → Int} {r : Nat} (k : Kn cs rows ends fd r κ) (O : Order cs rows fd) (b : Bis cs rows fd κ) : ∀ p ∈ fd, ∀ q ∈ fd, κ p = κ q → ∀ n, Eqv cs rows ends n p q := by
  intro p hp q hq e n
  have key : ∀ (x : List Nat) (p q : Int), p ∈ fd → q ∈ fd → κ p = κ q → (∀ c ∈ x, c ∈ cs) → (run cs rows p x ∈ ends ↔ run cs rows q x ∈ ends) := by
    intro x
    induction x with
    | nil =>
      intro p q hp hq e _
      exact (k p hp q hq).mp e [] (fun _ h => nomatch h) (Nat.zero_le _)
    | cons c x ih =>
      intro p q hp hq e hx
      have hc := hx c List.mem_cons_self
      exact ih _ _ (O.cl p hp c hc) (O.cl q hq c hc) (b p hp q hq e c hc) fun d hd => hx d (List.mem_cons_of_mem _ hd)
  exact fun x hx _ => key x p q hp hq e hx
end
end SG
set_option maxRecDepth 100000
set_option maxHeartbeats 4000000
namespace SG
open PySem L2 SR TL SS
def rep (fd : List Int) (κ : Int → Int) (k : Int) : Int := (fd.find? fun s => decide (κ s = k)).getD 0
structure Fst (fd : List Int) (κ : Int → Int) (i : Nat) (ks : List Int) : Prop where
  nd : ks.Nodup
  mem : ∀ k, k ∈ ks ↔ ∃ s ∈ fd.take i, κ s = k
  hd : i ≠ 0 → ks[0]? = some (κ 0)
  eq : ks = addNew [] ((fd.take i).map κ)
theorem rep_first {fd : List Int} {κ : Int → Int} {i : Nat} {s : Int} (hs : fd[i]? = some s) (h : ∀ t ∈ fd.take i, κ t ≠ κ s) : rep fd κ (κ s) = s := by
  unfold rep
  have hi := (List.getElem?_eq_some_iff.mp hs)
  have e : fd = fd.take i ++ s :: fd.drop (i + 1) := by
    rw [← hi.2, ← List.drop_eq_getElem_cons hi.1, List.take_append_drop]
  rw [e, List.find?_append]
  have : (fd.take i).find? (fun t => decide (κ t = κ s)) = none := List.find?_eq_none.mpr fun t ht => by simpa using h t ht
  rw [this]
  simp
theorem rep_mem {fd : List Int} {κ : Int → Int} {s : Int} (hs : s ∈ fd) : rep fd κ (κ s) ∈ fd ∧ κ (rep fd κ (κ s)) = κ s := by
  unfold rep
  cases ef : fd.find? fun t => decide (κ t = κ s) with
  | none => exact absurd (List.find?_eq_none.mp ef s hs) (by simp)
  | some t => exact ⟨List.mem_of_find?_eq_some ef, by simpa using List.find?_some ef⟩
theorem Fst.start {fd : List Int} {κ : Int → Int} : Fst fd κ 0 [] := ⟨List.nodup_nil, fun k => by simp, fun h => absurd rfl h, rfl⟩
theorem Fst.skip {fd : List Int} {κ : Int → Int} {i : Nat} {ks : List Int} {s : Int} (f : Fst fd κ i ks) (hs : fd[i]? = some s) (h : κ s ∈ ks) : Fst fd κ (i + 1) ks := by
  refine ⟨f.nd, fun k => ?_, fun _ => ?_, ?_⟩
  · rw [List.take_add_one, hs, f.mem]
    constructor
    · rintro ⟨t, ht, e⟩
      exact ⟨t, List.mem_append_left _ ht, e⟩
    · rintro ⟨t, ht, e⟩
      rcases List.mem_append.mp ht with z | z
      · exact ⟨t, z, e⟩
      · have : t = s := by simpa using z
        subst this
        rw [← e]
        exact (f.mem _).mp h
  · refine f.hd fun z => ?_
    subst z
    obtain ⟨t, ht, _⟩ := (f.mem _).mp h
    simp at ht
  · rw [List.take_add_one, hs, List.map_append]
    show ks = addNew [] (_ ++ [κ s])
    rw [addNew_snoc, ← f.eq, if_pos h]
theorem Fst.add {fd : List Int} {κ : Int → Int} {i : Nat} {ks : List Int} {s : Int} (f : Fst fd κ i ks) (h0 : fd[0]? = some 0) (hs : fd[i]? = some s) (h : κ s ∉ ks) : Fst fd κ (i + 1) (ks ++ [κ s]) ∧ rep fd κ (κ s) = s := by
  refine ⟨⟨?_, fun k => ?_, fun _ => ?_, ?_⟩, ?_⟩
  · rw [List.nodup_append]
    refine ⟨f.nd, by simp, fun a ha b hb e => ?_⟩
    rw [List.mem_singleton] at hb
    rw [e, hb] at ha
    exact h ha
  · rw [List.take_add_one, hs, List.mem_append, f.mem]
    constructor
    · rintro (⟨t, ht, e⟩ | z)
      · exact ⟨t, List.mem_append_left _ ht, e⟩
      · exact ⟨s, List.mem_append_right _ (by simp), (List.mem_singleton.mp z).symm⟩
    · rintro ⟨t, ht, e⟩
      rcases List.mem_append.mp ht with z | z
      · exact .inl ⟨t, z, e⟩
      · have : t = s := by simpa using z
        subst this
        exact .inr (by simp [e])
  · by_cases hi : i = 0
    · subst hi
      have e : ks = [] := by
        cases ks with
        | nil => rfl
        | cons k ks =>
          obtain ⟨t, ht, _⟩ := (f.mem k).mp List.mem_cons_self
          simp at ht
      subst e
      rw [h0] at hs
      cases hs
      rfl
    · have := f.hd hi
      rw [List.getElem?_append_left (List.getElem?_eq_some_iff.mp this).1]
      exact this
  · rw [List.take_add_one, hs, List.map_append]
    show ks ++ _ = addNew [] (_ ++ [κ s])
    rw [addNew_snoc, ← f.eq, if_neg h]
  · exact rep_first hs fun t ht e => h ((f.mem _).mpr ⟨t, ht, e⟩)
/-- the number of a kind -/
def num (ks : List Int) (k : Int) : Int := ((ks.idxOf k : Nat) : Int)
def rows' (cs : List Nat) (rows : List (List Int)) (fd : List Int) (κ : Int → Int) (ks : List Int) : List (List Int) := ks.map fun k => cs.map fun c => num ks (κ (nxt cs rows (rep fd κ k) c))
def ends' (ends fd : List Int) (κ : Int → Int) (ks : List Int) : List Int := (ks.filter fun k => decide (rep fd κ k ∈ ends)).map (num ks)
/-- the same texts -/
def Alike (cs : List Nat) (rows : List (List Int)) (ends : List Int) (rw' : List (List Int)) (en' : List Int) : Prop :=
  (∀ x : List Nat, (∀ c ∈ x, c ∈ cs) → (run cs rw' 0 x ∈ en' ↔ run cs rows 0 x ∈ ends)) ∧ ∀ q, 0 ≤ q → q < (rw'.length : Int) → ∃ x : List Nat, (∀ c ∈ x, c ∈ cs) ∧ run cs rw' 0 x = q
/-- the next kinds of a kind -/
def dltK (cs : List Nat) (rows : List (List Int)) (fd : List Int) (κ : Int → Int) (k : Int) : List Int := cs.map fun c => κ (nxt cs rows (rep fd κ k) c)
/-- how the least machine was made -/
def Least (m : Nat) (cs : List Nat) (rows : List (List Int)) (ends : List Int) (rw' : List (List Int)) (en' : List Int) : Prop := ∃ (fd : List Int) (κ : Int → Int) (r : Nat) (ks : List Int), Order cs rows fd ∧ Kn cs rows ends fd r κ ∧ r + 1 ≤ m ∧ Bis cs rows fd κ ∧ Fst fd κ fd.length ks ∧
  (∃ n, BE (dltK cs rows fd κ) (κ 0) n ks ∧ ks.length ≤ n) ∧ rw' = rows' cs rows fd κ ks ∧ en' = ends' ends fd κ ks
section
variable {cs : List Nat} {rows : List (List Int)} {ends fd : List Int} {κ : Int → Int} {ks : List Int}
theorem least_be {n : Nat} (be : BE (dlt cs rows) 0 n fd) (hn : fd.length ≤ n) (bi : Bis cs rows fd κ) (f : Fst fd κ fd.length ks) : ∃ m, BE (dltK cs rows fd κ) (κ 0) m ks ∧ ks.length ≤ m := by
  have e := f.eq
  rw [List.take_length] at e
  rw [e]
  refine be.quotDone (fun s hs => ?_) hn
  unfold dlt dltK
  rw [List.map_map]
  refine List.map_congr_left fun c hc => ?_
  obtain ⟨r1, r2⟩ := rep_mem (κ := κ) hs
  exact bi s hs _ r1 r2.symm c hc
theorem num_get {j : Nat} {k : Int} (nd : ks.Nodup) (h : ks[j]? = some k) : num ks k = (j : Int) := by
  obtain ⟨hj, e⟩ := List.getElem?_eq_some_iff.mp h
  unfold num
  rw [← e, List.Nodup.idxOf_getElem nd j hj]
theorem num_lt {k : Int} (h : k ∈ ks) : 0 ≤ num ks k ∧ num ks k < (ks.length : Int) := by
  have := List.idxOf_lt_length_of_mem h
  unfold num
  omega
theorem get_num {k : Int} (h : k ∈ ks) : ks[(num ks k).toNat]? = some k := by
  have hl := List.idxOf_lt_length_of_mem h
  unfold num
  rw [Int.toNat_natCast, List.getElem?_eq_getElem hl, List.getElem_idxOf]
theorem num_inj {k k' : Int} (h : k ∈ ks) (h' : k' ∈ ks) (e : num ks k = num ks k') : k = k' := by
  have h1 := get_num h
  rw [e, get_num h'] at h1
  exact (Option.some.inj h1).symm
theorem nxt_rows' (nd : cs.Nodup) (O : Order cs rows fd) (bi : Bis cs rows fd κ) (f : Fst fd κ fd.length ks) {s : Int} {c : Nat} (hs : s ∈ fd) (hc : c ∈ cs) : nxt cs (rows' cs rows fd κ ks) (num ks (κ s)) c = num ks (κ (nxt cs rows s c)) := by
  have hk : κ s ∈ ks := (f.mem _).mpr ⟨s, by rw [List.take_length]; exact hs, rfl⟩
  have e1 : (rows' cs rows fd κ ks).getD (num ks (κ s)).toNat [] = cs.map fun c => num ks (κ (nxt cs rows (rep fd κ (κ s)) c)) := by
    unfold rows'
    rw [List.getD_eq_getElem?_getD, List.getElem?_map, get_num hk]
    rfl
  show ((rows' cs rows fd κ ks).getD (num ks (κ s)).toNat []).getD (cs.idxOf c) 0 = _
  rw [e1]
  have hi := List.idxOf_lt_length_of_mem hc
  rw [List.getD_eq_getElem?_getD, List.getElem?_map, List.getElem?_eq_getElem hi, List.getElem_idxOf]
  show num ks (κ (nxt cs rows (rep fd κ (κ s)) c)) = _
  obtain ⟨r1, r2⟩ := rep_mem (κ := κ) hs
  rw [bi _ r1 s hs r2 c hc]
theorem run_rows' (nd : cs.Nodup) (O : Order cs rows fd) (bi : Bis cs rows fd κ) (f : Fst fd κ fd.length ks) : ∀ (x : List Nat) (s : Int), s ∈ fd → (∀ c ∈ x, c ∈ cs) → run cs (rows' cs rows fd κ ks) (num ks (κ s)) x = num ks (κ (run cs rows s x)) ∧ run cs rows s x ∈ fd
  | [], s, hs, _ => ⟨rfl, hs⟩
  | c :: x, s, hs, hx => by
    have hc := hx c List.mem_cons_self
    have h := run_rows' nd O bi f x (nxt cs rows s c) (O.cl s hs c hc) fun d hd => hx d (List.mem_cons_of_mem _ hd)
    refine ⟨?_, h.2⟩
    show run cs (rows' cs rows fd κ ks) (nxt cs (rows' cs rows fd κ ks) (num ks (κ s)) c) x = _
    rw [nxt_rows' nd O bi f hs hc]
    exact h.1
theorem least_ok (nd : cs.Nodup) (W : WfM cs rows ends) (O : Order cs rows fd) (bi : Bis cs rows fd κ) (fi : ∀ p ∈ fd, ∀ q ∈ fd, κ p = κ q → (p ∈ ends ↔ q ∈ ends)) (f : Fst fd κ fd.length ks) :
    WfM cs (rows' cs rows fd κ ks) (ends' ends fd κ ks) ∧ Alike cs rows ends (rows' cs rows fd κ ks) (ends' ends fd κ ks) := by
  obtain ⟨t, ht⟩ := O.hd
  have h0 : (0 : Int) ∈ fd := by rw [ht]; exact List.mem_cons_self
  have hmem : ∀ k, k ∈ ks ↔ ∃ s ∈ fd, κ s = k := fun k => by rw [f.mem, List.take_length]
  have hne : fd.length ≠ 0 := by rw [ht]; simp
  have hk0 := f.hd hne
  have n0 : num ks (κ 0) = 0 := num_get f.nd hk0
  have hfl : fd.length ≤ rows.length := nodup_len _ _ O.nd O.rg
  have hkl : ks.length ≤ fd.length := by
    have := len_subG ks (fd.map κ) f.nd fun k hk => by
      obtain ⟨s, hs, e⟩ := (hmem k).mp hk
      exact List.mem_map.mpr ⟨s, hs, e⟩
    rwa [List.length_map] at this
  have hk1 : 0 < ks.length := (List.getElem?_eq_some_iff.mp hk0).1
  have hrl : (rows' cs rows fd κ ks).length = ks.length := by simp [rows']
  have hends : ∀ s ∈ fd, num ks (κ s) ∈ ends' ends fd κ ks ↔ s ∈ ends := fun s hs => by
    have hk : κ s ∈ ks := (hmem _).mpr ⟨s, hs, rfl⟩
    obtain ⟨r1, r2⟩ := rep_mem (κ := κ) hs
    constructor
    · intro h
      obtain ⟨k, hk', e⟩ := List.mem_map.mp h
      obtain ⟨k1, k2⟩ := List.mem_filter.mp hk'
      have := num_inj k1 hk e
      subst this
      exact (fi _ r1 s hs r2).mp (of_decide_eq_true k2)
    · intro h
      exact List.mem_map.mpr ⟨κ s, List.mem_filter.mpr ⟨hk, decide_eq_true ((fi _ r1 s hs r2).mpr h)⟩, rfl⟩
  refine ⟨⟨by omega, by have := W.five; omega, fun row hrow => ?_, ?_, fun e he => ?_⟩, fun x hx => ?_, fun q q0 q1 => ?_⟩
  · obtain ⟨k, hk, rfl⟩ := List.mem_map.mp hrow
    refine ⟨by simp, fun g hg => ?_⟩
    obtain ⟨c, hc, rfl⟩ := List.mem_map.mp hg
    obtain ⟨s, hs, rfl⟩ := (hmem k).mp hk
    rw [hrl]
    exact num_lt ((hmem _).mpr ⟨_, O.cl _ (rep_mem hs).1 c hc, rfl⟩)
  · unfold ends'
    refine List.pairwise_map.mpr ?_
    have : (ks.filter fun k => decide (rep fd κ k ∈ ends)).Nodup := f.nd.filter _
    refine List.Pairwise.imp_of_mem (fun {a b} ha hb h e => ?_) this
    exact h (num_inj (List.mem_filter.mp ha).1 (List.mem_filter.mp hb).1 e)
  · obtain ⟨k, hk, rfl⟩ := List.mem_map.mp he
    rw [hrl]
    exact num_lt (List.mem_filter.mp hk).1
  · have h := run_rows' nd O bi f x 0 h0 hx
    rw [n0] at h
    rw [h.1]
    exact hends _ h.2
  · rw [hrl] at q1
    have hq : q.toNat < ks.length := by omega
    have hk := List.getElem?_eq_getElem hq
    obtain ⟨s, hs, e⟩ := (hmem ks[q.toNat]).mp (List.getElem_mem hq)
    obtain ⟨x, hx, ex⟩ := O.rc s hs
    refine ⟨x, hx, ?_⟩
    have h := run_rows' nd O bi f x 0 h0 hx
    rw [n0, ex, e, num_get f.nd hk] at h
    rw [h.1]
    omega
end
end SG
set_option maxRecDepth 100000
set_option maxHeartbeats 4000000
namespace SG
open PySem L2 SR TL SS
/-- a dict comprehension that changes nothing but its own dict D -/
theorem dc_S {J : It} {n : Nat} {G : Hp → Prop} {Y : Nat → Hp → V → Hp → Prop} (w : Walk J n G Y) {g : TG} {tt : TT} {tk tv : TE} {vs : List Nat} {σ : L2.St} {H1 : Hp} {D : Addr} {Qd : Hp → Prop} (hD : H1 D = none) (hn : n ≤ 1000000)
    (S : Nat → List (Key × V) → Hp → Prop) (hS : ∀ i acc acc' H H', H D = some (.dK acc') → SameB D H H' → S i acc H → S i acc H') (h0 : S 0 [] (upd H1 D (.dK []))) (hG : ∀ H, Same H1 H → G H)
    (hs : ∀ i x H H' acc (Qt : V → V → Hp → Prop) (Qf : Hp → Prop), i < n → Same H1 H → H D = some (.dK acc) → S i acc H → Y i H x H' → (∀ k z H5, Same H H5 → S (i + 1) (putK acc k z) H5 → Qt (kV k) z H5) → (∀ H3, Same H H3 → S (i + 1) acc H3 → Qf H3) →
      g x (wipe σ vs) H' fun σ2 H2 => wipe σ2 vs = wipe σ vs ∧ tt σ2 H2 fun b H3 => if b = true then tk σ2 H3 fun y H4 => tv σ2 H4 fun z H5 => Qt y z H5 else Qf H3)
    (hd : ∀ H acc, Same H1 H → H D = some (.dK acc) → S n acc H → Qd H) :
    ∃ W : Nat → Nat → Hp → Prop, (∃ m, W 0 m (upd H1 D (.dK []))) ∧ ∀ i m H, W i m H →
      (J.stop i H ∧ Qd H) ∨ (J.go i H ∧ ∃ Nx : Hp → Prop, (∀ H', Nx H' → ∃ m', m' < m ∧ W (i + 1) m' H') ∧ ∀ x H', J.yld i H x H' → g x (wipe σ vs) H' fun σ2 H2 => wipe σ2 vs = wipe σ vs ∧ tt σ2 H2 fun b H3 =>
        if b = true then tk σ2 H3 fun y H4 => tv σ2 H4 fun z H5 => ∃ kvs k, y = kV k ∧ H5 D = some (.dK kvs) ∧ kvs.length < sizeLine ∧ Nx (upd H5 D (.dK (putK kvs k z))) else Nx H3) := by
  refine ⟨fun i m H => m = n - i ∧ i ≤ n ∧ Same H1 H ∧ ∃ acc, H D = some (.dK acc) ∧ acc.length ≤ i ∧ S i acc H, ⟨n, by simp, Nat.zero_le _, same_new hD, [], upd_same, Nat.le_refl _, h0⟩, ?_⟩
  rintro i m H ⟨rfl, hi, e, acc, hd', hl, s⟩
  have q := hG H e
  by_cases hlt : i < n
  · refine .inr ⟨w.goes i H hlt q, fun H' => Same H1 H' ∧ ∃ acc, H' D = some (.dK acc) ∧ acc.length ≤ i + 1 ∧ S (i + 1) acc H', fun H' p' => ⟨n - (i + 1), by omega, rfl, hlt, p'⟩, fun x H' y => ?_⟩
    refine hs i x H H' acc _ _ hlt e hd' s (w.yields i H x H' hlt q y) (fun k z H5 e5 s5 => ⟨acc, k, rfl, e5 _ _ hd', by rw [sizeLine_eq]; omega, same_upd (e.trans e5) hD, _, upd_same, ?_, ?_⟩) (fun H3 e3 s3 => ⟨e.trans e3, acc, e3 _ _ hd', Nat.le_succ_of_le hl, s3⟩)
    · have := length_putK acc k z
      omega
    · exact hS _ _ _ _ _ (e5 _ _ hd') SameB.upd s5
  · have ei : i = n := by omega
    subst ei
    exact .inl ⟨w.stops H q, hd H acc e hd' s⟩
theorem not_before {l : List Int} {i : Nat} {q : Int} (nd : l.Nodup) (hq : l[i]? = some q) : q ∉ l.take i := fun h => (put_upd (κ := id) (v := 0) nd hq).2 q h rfl
theorem put_take {l : List Int} {F : Int → V} {i : Nat} {q : Int} {v : V} (nd : l.Nodup) (hq : l[i]? = some q) (hv : v = F q) : putK (dI (l.take i) F) (Sum.inl q) v = dI (l.take (i + 1)) F := by
  subst hv
  rw [put_dI (not_before nd hq), List.take_add_one, hq]
  rfl
theorem row_snoc {cs : List Nat} {f : Nat → Int} {j c : Nat} (nd : cs.Nodup) (hc : cs[j]? = some c) : putK (rowK (cs.take j) ((cs.take j).map f)) (Sum.inr (lt c)) (.int (f c)) = rowK (cs.take (j + 1)) ((cs.take (j + 1)).map f) := by
  have hni : c ∉ cs.take j := fun h => by
    obtain ⟨i, hi, e⟩ := List.mem_iff_getElem.mp h
    rw [List.length_take] at hi
    have hj := (List.getElem?_eq_some_iff.mp hc).1
    have e' : cs[i]? = some c := by
      rw [List.getElem_take] at e
      rw [List.getElem?_eq_getElem (by omega), e]
    have := (List.getElem?_inj (by omega) nd).mp (e'.trans hc.symm)
    omega
  have hv : valV (rowK (cs.take j) ((cs.take j).map f)) (Sum.inr (lt c)) = none := by
    unfold valV
    rw [Option.map_eq_none_iff, List.find?_eq_none]
    intro p hp hk
    obtain ⟨x, hx, rfl⟩ := List.mem_map.mp hp
    have e : lt x.1 = lt c := by simpa using hk
    exact hni ((lt_inj e) ▸ (List.of_mem_zip hx).1)
  rw [putK_new _ hv, List.take_add_one, hc]
  show _ = rowK (cs.take j ++ [c]) ((cs.take j ++ [c]).map f)
  unfold rowK
  rw [List.map_append, List.zip_append (by simp), List.map_append]
  rfl
section
variable {P : Program} {w : World} {K : PySem.W.Frag} {mg : Str → Option Value} {base : Heap}
abbrev nLma : List Str := ["signs", "rows", "member_states", "belongs", "order", "kinds", "firsts", "state", "numbers", "table", "number", "kind", "sign"]
theorem scLma : FnScope nLma ["signs", "rows", "member_states"] (defScope sLma) := ⟨rfl, rfl, rfl, by decide +kernel, rfl, by decide +kernel, by decide +kernel⟩
def spLma : Sp := fun vs H Q _ => ∃ (cs : List Nat) (a e : Addr) (rows : List (List Int)) (ends : List Int) (m : Nat), vs = [.str (txt cs), .ref a, .ref e] ∧ m ≤ 6 ∧ Abc cs ∧ WfM cs rows ends ∧ (∀ fd, Order cs rows fd → Cover m cs rows ends fd) ∧ Given H cs a e rows ends ∧
  ∀ (rows' : List (List Int)) (ends' : List Int) (t pt pm : Addr) (H' : Hp), WfM cs rows' ends' → Alike cs rows ends rows' ends' → Least m cs rows ends rows' ends' → Same H H' → H' t = some (.tup [.ref pt, .ref pm]) → (∀ H'' : Hp, (∀ b o, H b = none → H' b = some o → H'' b = some o) → TabAt H'' cs pt pm rows' ends') → Q (.ref t) H'
theorem ok_lma {f : Addr} {fd : FuncData} (F : Fun K "least_machine" "least_machine" sLma f fd) (B : Bl mg) (Rc : Cal P w K mg base "reached" 1 ["signs", "rows"] spRch) (Lk : Cal P w K mg base "least_kinds" 2 ["signs", "rows", "kinds"] spLek) :
    FnOk P w K mg base CX0 3 f fd ["signs", "rows", "member_states"] spLma := by
  refine F.ok scLma (fun vs H Q E h => ?_) (fun cdv A outer s H vs Q E hr h => ?_)
  · obtain ⟨cs, a, e, rows, ends, m, rfl, _⟩ := h
    rfl
  · obtain ⟨cs, a, e, rows, ends, m, rfl, hm6, ha, W, cov, G, k⟩ := h
    have hu := hu_of hr
    refine ⟨_, pss_cons (ps_set (i := 3) scLma.nd rfl (.inr rfl) (pe_dc (own := [("state", 7)]) (g := gName 7) (tt := tYes) (tk := tVar 7) (tv := tC (.bl true)) rfl scLma.nd (pi_lot (pv 2)) (blkOk_by (by kernel_rfl))
          (fun _ _ _ _ _ => pg_name (i := 7) scLma.nd rfl (.inl rfl)) (fun _ _ _ _ _ => pts_nil) (fun _ _ _ _ _ => pv 7) (fun _ _ _ _ _ => pe_bl)))
      (pss_cons (ps_set (i := 4) scLma.nd rfl (.inl rfl) (pe_cal Rc (hr.mono (by decide)) (pa_cons (pv 0) (pa_cons (pv 1) pa_nil))))
      (pss_cons (ps_set (i := 5) scLma.nd rfl (.inr rfl) (pe_cal Lk hr (pa_cons (pv 0) (pa_cons (pv 1) (pa_cons (pe_dc (own := [("state", 7)]) (g := gName 7) (tt := tYes) (tk := tVar 7) (tv := tCB (fun xs H Q => (∃ i, xs = [.int i] ∧ Q (.int i) H) ∨ ∃ k, xs = [.bl k] ∧ Q (.int (if k then 1 else 0)) H) (tCons (tDIn (tVar 7) (tVar 3)) tNil)) rfl scLma.nd (pi_list (pv 4)) (blkOk_by (by kernel_rfl))
          (fun _ _ _ _ _ => pg_name (i := 7) scLma.nd rfl (.inl rfl)) (fun _ _ _ _ _ => pts_nil) (fun _ _ _ _ _ => pv 7) (fun _ _ _ _ _ => pe_callTy call_int1 (by rfl) B.int (by decide +kernel) (pa_cons (pe_cmp (pc_din hu (pv 7) (pv 3)) rfl) pa_nil))) pa_nil)))))
      (pss_cons (ps_set (i := 6) scLma.nd rfl (.inl rfl) pe_dnewK)
      (pss_cons (ps_for PassesOwn.never rfl (pi_list (pv 4)) (pg_name (i := 7) scLma.nd rfl (.inl rfl)) (pss_one (ps_expr (pe_dsetd (pv 6) (pe_dget hu (pv 5) (pv 7) (fun _ _ => rfl)) (pv 7) ⟨rfl, rfl, rfl, rfl⟩))))
      (pss_cons (ps_set (i := 8) scLma.nd rfl (.inr rfl) (pe_lock (pe_dc (own := [("number", 10), ("kind", 11)]) (g := gTup K 2 (gCons (gName 10) (gCons (gName 11) gNil))) (tt := tYes) (tk := tVar 11) (tv := tVar 10) rfl scLma.nd (pi_enumK (by rfl) B.enumerate (pa_cons (pv 6) pa_nil)) (blkOk_by (by kernel_rfl))
          (fun _ _ _ _ _ => pg_tup rfl (pgs_cons (pg_name (i := 10) scLma.nd rfl (.inl rfl)) (pgs_cons (pg_name (i := 11) scLma.nd rfl (.inl rfl)) pgs_nil))) (fun _ _ _ _ _ => pts_nil) (fun _ _ _ _ _ => pv 11) (fun _ _ _ _ _ => pv 10))))
      (pss_cons (ps_set (i := 9) scLma.nd rfl (.inl rfl) (pe_callTy call_tuple_of (by rfl) B.tuple (by decide +kernel) (pa_cons (pe_lock (pe_lc (own := [("state", 7)]) (g := gName 7) (tt := tYes) (te := tDc (iStr (tVar 0)) (gName 12) tYes (tVar 12) (tDGet (tVar 8) (tDGet (tVar 5) (tDGet (tOp (rIx K) (tVar 1) (tVar 7)) (tVar 12)))) [12]) rfl scLma.nd (pi_values (pv 6)) (blkOk_by (by kernel_rfl))
          (fun _ _ _ _ _ => pg_name (i := 7) scLma.nd rfl (.inr rfl)) (fun _ _ _ _ _ => pts_nil)
          (fun _ _ _ _ _ => pe_dc (own := [("sign", 12)]) (g := gName 12) (tt := tYes) (tk := tVar 12) (tv := tDGet (tVar 8) (tDGet (tVar 5) (tDGet (tOp (rIx K) (tVar 1) (tVar 7)) (tVar 12)))) rfl scLma.nd (pi_str (pv 0)) (blkOk_by (by kernel_rfl))
            (fun _ _ _ _ _ => pg_name (i := 12) scLma.nd rfl (.inl rfl)) (fun _ _ _ _ _ => pts_nil) (fun _ _ _ _ _ => pv 12) (fun _ _ _ _ _ => pe_dget hu (pv 8) (pe_dget hu (pv 5) (pe_dget hu (pe_ix ix_seq (pv 1) (pv 7) (fun _ _ => rfl)) (pv 12) (fun _ _ => rfl)) (fun _ _ => rfl)) (fun _ _ => rfl))))) pa_nil)))
      (pss_one (ps_ret (pe_tup (pa_cons (pv 9) (pa_cons (pe_callTy call_tuple_of (by rfl) B.tuple (by decide +kernel) (pa_cons (pe_lock (pe_lc (own := [("kind", 11), ("state", 7)]) (g := gTup K 2 (gCons (gName 11) (gCons (gName 7) gNil))) (tt := tB (tDIn (tVar 7) (tVar 3))) (te := tDGet (tVar 8) (tVar 11)) rfl scLma.nd (pi_items (pv 6)) (blkOk_by (by kernel_rfl))
          (fun _ _ _ _ _ => pg_tup rfl (pgs_cons (pg_name (i := 11) scLma.nd rfl (.inl rfl)) (pgs_cons (pg_name (i := 7) scLma.nd rfl (.inl rfl)) pgs_nil))) (fun _ _ _ _ _ => pts_one (pt_cmp (pc_din hu (pv 7) (pv 3)))) (fun _ _ _ _ _ => pe_dget hu (pv 8) (pv 11) (fun _ _ => rfl)))) pa_nil)) pa_nil))))))))))), ?_⟩
    have nd : cs.Nodup := ris_nodup ha.ris
    have h5 := W.five
    have hel : ends.length ≤ rows.length := nodup_len _ _ W.nd W.fin
    obtain ⟨⟨qs0, g1, g2⟩, g3⟩ := G
    have hRA : RowsAt H cs a rows := ⟨qs0, g1, g2⟩
    refine ⟨_, rfl, e, _, rfl, g3, fun J Gd wk hG pb hpb => dc_S wk hpb (by rw [List.length_map]; omega) (fun i acc _ => acc = dI (ends.take i) (fun _ => .bl true)) (fun _ _ _ _ _ _ _ h => h) rfl hG ?_ ?_⟩
    · rintro i v H3 H3' acc Qt Qf hi e3 hd rfl ⟨rfl, hv⟩ kt kf
      rw [List.getElem?_map] at hv
      obtain ⟨g, hg, rfl⟩ := Option.map_eq_some_iff.mp hv
      exact ⟨rfl, _, rfl, kt (Sum.inl g) (.bl true) _ (Same.refl _) (put_take W.nd hg rfl)⟩
    rintro H1 acc e1 hB rfl
    rw [List.length_map, List.take_length] at hB
    refine ⟨_, rfl, _, rfl, cs, a, rows, ends, rfl, ha, W, hRA.mono e1, fun fd po H2 O hbe hpo e2 h2 => ?_⟩
    have hfl : fd.length ≤ rows.length := nodup_len _ _ O.nd O.rg
    refine ⟨_, rfl, _, rfl, _, rfl, po, rfl, ⟨_, SqL.of h2⟩, fun pd hpd => dc_S (walk_list (K := K) (a := po) (xs := fd.map .int)) hpd (by rw [List.length_map]; omega) (fun i acc _ => acc = dKi (fd.take i) (fun q => if q ∈ ends then 1 else 0)) (fun _ _ _ _ _ _ _ h => h) rfl (fun H' e' => e'.seq (SqL.of h2)) ?_ ?_⟩
    · rintro i v H3 H3' acc Qt Qf hi e3 hd rfl ⟨rfl, hv⟩ kt kf
      rw [List.getElem?_map] at hv
      obtain ⟨g, hg, rfl⟩ := Option.map_eq_some_iff.mp hv
      refine ⟨rfl, _, rfl, _, rfl, _, rfl, pb, _, rfl, DGet.k (k := Sum.inl g) (e3 _ _ (e2 _ _ hB)), .inr ⟨_, rfl, kt (Sum.inl g) _ _ (Same.refl _) (put_take O.nd hg ?_)⟩⟩
      rw [val_dI]
      by_cases hm : g ∈ ends
      · simp [hm]
      · simp [hm]
    rintro H3 acc e3 h3 rfl
    rw [List.length_map, List.take_length] at h3
    refine ⟨cs, a, pd, rows, ends, fd, _, m, rfl, hm6, ha, W, hRA.mono ((e1.trans e2).trans e3), O, h3, ?_, cov fd O, fun κ pk H4 r kn hr5 bi e4 h4 => ?_⟩
    · intro p hp q hq
      rw [eqv_zero]
      by_cases z1 : p ∈ ends <;> by_cases z2 : q ∈ ends <;> simp [z1, z2]
    have hB4 := e4 _ _ (e3 _ _ (e2 _ _ hB))
    have hO4 := e4 _ _ (e3 _ _ h2)
    have e04 := ((e1.trans e2).trans e3).trans e4
    have hR4 := hRA.mono e04
    have fi' : ∀ p ∈ fd, ∀ q ∈ fd, κ p = κ q → (p ∈ ends ↔ q ∈ ends) := fun p hp q hq ee => (kn p hp q hq).mp ee [] (fun _ h => nomatch h) (Nat.zero_le _)
    clear g1 g2 g3 hB h2 h3 e1 e2 e3 e4 hRA
    intro pf hpf
    refine ⟨_, rfl, po, rfl, ⟨_, SqL.of ((same_new hpf) _ _ hO4)⟩, for_it (walk_list (K := K) (a := po) (xs := fd.map .int)) (fun i σ H' => Same H4 H' ∧ ∃ ks a7, σ = [some (.str (txt cs)), some (.ref a), some (.ref e), some (.ref pb), some (.ref po), some (.ref pk), some (.ref pf), a7, none, none, none, none, none] ∧ H' pf = some (.dK (dI ks fun k => .int (rep fd κ k))) ∧ Fst fd κ i ks) ?_ (fun i σ H' _ p => p.1.seq (SqL.of hO4)) ?_ ?_⟩
    · exact ⟨same_new hpf, [], none, rfl, upd_same, Fst.start⟩
    · rintro i v σ H5 H5' hi ⟨e5, ks, a7, rfl, hf, fs⟩ ⟨rfl, hv⟩
      rw [List.getElem?_map] at hv
      obtain ⟨s1, hs, rfl⟩ := Option.map_eq_some_iff.mp hv
      have hsm := List.mem_of_getElem? hs
      have hkl : ks.length ≤ 40 := by
        have := len_subG ks ((fd.take i).map κ) fs.nd fun k hk => by
          obtain ⟨t, ht, ee⟩ := (fs.mem k).mp hk
          exact List.mem_map.mpr ⟨t, ht, ee⟩
        rw [List.length_map, List.length_take] at this
        omega
      have dk : DGet H5' pk (.int s1) (some (.int (κ s1))) := by
        have := DGet.k (k := Sum.inl s1) (e5 _ _ h4)
        rw [show valV (dKi fd κ) (Sum.inl s1) = some (.int (κ s1)) by rw [dKi, val_dI, if_pos hsm]] at this
        exact this
      refine ⟨_, rfl, pf, rfl, .inl ⟨_, .inl hf⟩, _, rfl, _, rfl, pk, _, rfl, dk, _, rfl, _, Sum.inl (κ s1), hf, rfl, (by rw [len_dI, sizeLine_eq]; omega), fun v hv => ?_, fun hv => ?_⟩
      · rw [val_dI] at hv
        have hm : κ s1 ∈ ks := Classical.byContradiction fun hn => by rw [if_neg hn] at hv; cases hv
        exact ⟨e5, ks, _, rfl, hf, fs.skip hs hm⟩
      · rw [val_dI] at hv
        have hm : κ s1 ∉ ks := fun hn => by rw [if_pos hn] at hv; cases hv
        obtain ⟨t0, ht0⟩ := O.hd
        obtain ⟨f1, f2⟩ := fs.add (by rw [ht0]; rfl) hs hm
        refine ⟨same_upd e5 hpf, ks ++ [κ s1], _, rfl, ?_, f1⟩
        rw [upd_same]
        have := put_dI (F := fun k => V.int (rep fd κ k)) hm
        rw [f2] at this
        rw [this]
    rintro σ H5 ⟨e5, ks, a7, rfl, hf, fs⟩
    rw [List.length_map] at fs
    have hmem : ∀ k, k ∈ ks ↔ ∃ s ∈ fd, κ s = k := fun k => by rw [fs.mem, List.take_length]
    obtain ⟨W', A'⟩ := least_ok nd W O bi fi' fs
    obtain ⟨nbe, hbe1, hbe2⟩ := hbe
    have Le : Least m cs rows ends (rows' cs rows fd κ ks) (ends' ends fd κ ks) := ⟨fd, κ, r, ks, O, kn, hr5, bi, fs, least_be hbe1 hbe2 bi fs, rfl, rfl⟩
    have hkl : ks.length ≤ 40 := by
      have := W'.five
      simpa [rows'] using this
    refine ⟨pf, _, hf, trivial, fun od => ?_⟩
    have e5l : Same H4 (upd H5 pf (.frz od (.dK (dI ks fun k => .int (rep fd κ k))))) := same_upd e5 hpf
    have hcl : cs.length ≤ 4 := ha.four
    refine ⟨_, rfl, pf, od, _, rfl, upd_same, fun pn hpn => dc_S walk_enumE hpn (by rw [List.length_map, len_dI]; omega) (fun i acc _ => acc = dI (ks.take i) (fun k => .int (num ks k))) (fun _ _ _ _ _ _ _ h => h) rfl (fun H' e' => e' _ _ upd_same) ?_ ?_⟩
    · rintro i v H6 H6' acc Qt Qf hi e6 hd rfl ⟨T, x, y, rfl, hT, rfl, ex, ey⟩ kt kf
      cases ex
      dsimp only at ey
      obtain ⟨k1, hk⟩ : ∃ k1, ks[i]? = some k1 := ⟨_, List.getElem?_eq_getElem (show i < ks.length by simpa [len_dI] using hi)⟩
      have ey' : y = .int k1 := by
        rw [List.getElem?_map] at ey
        unfold dI at ey
        rw [List.getElem?_map, hk] at ey
        exact (Option.some.inj ey).symm
      subst ey'
      refine ⟨T, _, rfl, SqT.of upd_same, rfl, _, _, rfl, _, _, rfl, rfl, rfl, _, rfl, _, rfl, kt (Sum.inl k1) (.int (i : Nat)) _ (same_new hT) (put_take fs.nd hk ?_)⟩
      rw [num_get fs.nd hk]
    rintro H6 acc e6 hn rfl
    rw [List.length_map, len_dI, List.take_length] at hn
    have hf6 : H6 pf = some (.frz od (.dK (dI ks fun k => .int (rep fd κ k)))) := e6 _ _ upd_same
    refine ⟨hf6, ?_⟩
    have npf : pn ≠ pf := ne_of hn hf6 (by intro z; cases z)
    have e46 : Same H4 (upd H6 pf (.dK (dI ks fun k => .int (rep fd κ k)))) := same_upd (e5l.trans e6) hpf
    have hn7 : (upd H6 pf (.dK (dI ks fun k => .int (rep fd κ k)))) pn = some (.dK (dI ks fun k => .int (num ks k))) := by rw [upd_ne npf]; exact hn
    have hf7 : (upd H6 pf (.dK (dI ks fun k => .int (rep fd κ k)))) pf = some (.dK (dI ks fun k => .int (rep fd κ k))) := upd_same
    generalize (upd H6 pf (.dK (dI ks fun k => .int (rep fd κ k)))) = H7 at e46 hn7 hf7
    clear hf6 hn e6 e5l hf e5 hpn
    refine ⟨pf, _, hf7, trivial, fun od2 => ?_⟩
    have e47 : Same H4 (upd H7 pf (.frz od2 (.dK (dI ks fun k => .int (rep fd κ k))))) := same_upd e46 hpf
    have hn7l : (upd H7 pf (.frz od2 (.dK (dI ks fun k => .int (rep fd κ k))))) pn = some (.dK (dI ks fun k => .int (num ks k))) := by rw [upd_ne npf]; exact hn7
    refine ⟨_, rfl, pf, od2, _, rfl, upd_same, fun pl hpl => lc_S walk_values hpl (by rw [len_dI]; omega) (fun i acc H' => ∃ qs : List Addr, acc = qs.map .ref ∧ Paired (fun q row => RowAt H' cs q row ∧ H4 q = none) qs ((ks.take i).map fun k => cs.map fun c => num ks (κ (nxt cs rows (rep fd κ k) c)))) ?_ ⟨[], rfl, .nil⟩ (fun H' e' => e' _ _ upd_same) ?_ ?_⟩
    · rintro i acc acc' H8 H9 hd ee ⟨qs, q1, q2⟩
      exact ⟨qs, q1, Paired.mono q2 fun a b h => ⟨ee _ _ (ne_lst hd h.1 fun _ => nofun) h.1, h.2⟩⟩
    · rintro i x H8 H8' acc Qt Qf hi e8 hd ⟨qs, rfl, hq⟩ ⟨rfl, kk, hkk⟩ kt kf
      obtain ⟨k1, hk⟩ : ∃ k1, ks[i]? = some k1 := ⟨_, List.getElem?_eq_getElem (show i < ks.length by simpa [len_dI] using hi)⟩
      have hx : x = .int (rep fd κ k1) := by
        unfold dI at hkk
        rw [List.getElem?_map, hk] at hkk
        exact (congrArg (·.2) (Option.some.inj hkk)).symm
      subst hx
      obtain ⟨s1, hs1, es1⟩ := (hmem k1).mp (List.mem_of_getElem? hk)
      have hrep : rep fd κ k1 ∈ fd := by rw [← es1]; exact (rep_mem hs1).1
      obtain ⟨r0, r1⟩ := O.rg _ hrep
      have hz : (txt cs).cps.size = cs.length := by simp [txt]
      refine ⟨rfl, _, rfl, _, rfl, fun pr hpr => dc_S walk_str hpr (by rw [hz]; omega) (fun j acc _ => acc = rowK (cs.take j) ((cs.take j).map fun c => num ks (κ (nxt cs rows (rep fd κ k1) c)))) (fun _ _ _ _ _ _ _ h => h) rfl (fun _ _ => trivial) ?_ ?_⟩
      · rintro j v H9 H9' acc Qt9 Qf9 hj e9 hd9 rfl ⟨rfl, c, hc, rfl⟩ kt9 kf9
        have hc' : cs[j]? = some c := by simpa [txt] using hc
        have hcm := List.mem_of_getElem? hc'
        have e49 := (e47.trans e8).trans e9
        have hnm := O.cl _ hrep c hcm
        obtain ⟨ys, dd, g1, g2, g3⟩ := (hR4.mono e49).get W r0 r1 hcm
        have dk : DGet H9' pk (.int (nxt cs rows (rep fd κ k1) c)) (some (.int (κ (nxt cs rows (rep fd κ k1) c)))) := by
          have := DGet.k (k := Sum.inl (nxt cs rows (rep fd κ k1) c)) (e49 _ _ h4)
          rw [show valV (dKi fd κ) (Sum.inl (nxt cs rows (rep fd κ k1) c)) = some (.int (κ (nxt cs rows (rep fd κ k1) c))) by rw [dKi, val_dI, if_pos hnm]] at this
          exact this
        have dn : DGet H9' pn (.int (κ (nxt cs rows (rep fd κ k1) c))) (some (.int (num ks (κ (nxt cs rows (rep fd κ k1) c))))) := by
          have := DGet.k (k := Sum.inl (κ (nxt cs rows (rep fd κ k1) c))) (e9 _ _ (e8 _ _ hn7l))
          rw [val_dI, if_pos ((hmem _).mpr ⟨_, hnm, rfl⟩)] at this
          exact this
        refine ⟨rfl, _, rfl, _, rfl, _, rfl, _, rfl, _, rfl, ix_lot g1 g2 ⟨_, rfl, dd, _, rfl, g3, pk, _, rfl, dk, pn, _, rfl, dn, kt9 (Sum.inr (lt c)) _ _ (Same.refl _) ?_⟩⟩
        exact row_snoc (f := fun c => num ks (κ (nxt cs rows (rep fd κ k1) c))) nd hc'
      · rintro H9 acc e9 hd9 rfl
        rw [hz, List.take_length] at hd9
        refine kt _ _ e9 ⟨qs ++ [pr], by simp, ?_⟩
        rw [List.take_add_one, hk, List.map_append]
        exact paired_snoc (Paired.mono hq fun a b h => ⟨e9 _ _ h.1, h.2⟩) ⟨hd9, (e47.trans e8).free hpr⟩
    rintro H8 acc e8 hl8 ⟨qs, rfl, hq⟩
    rw [len_dI, List.take_length] at hq
    have hf8 : H8 pf = some (.frz od2 (.dK (dI ks fun k => .int (rep fd κ k)))) := e8 _ _ upd_same
    refine ⟨hf8, ?_⟩
    have nlf : pl ≠ pf := ne_of hl8 hf8 (by intro z; cases z)
    refine ⟨pl, _, rfl, .inl ⟨SqL.of (by rw [upd_ne nlf]; exact hl8), fun pt hpt => ?_⟩⟩
    have e78 := lock_same hf7 e8
    have e79 := e78.trans (same_new (o := .tup (qs.map .ref)) hpt)
    have hq9 : Paired (fun q row => RowAt (upd (upd H8 pf (.dK (dI ks fun k => .int (rep fd κ k)))) pt (.tup (qs.map .ref))) cs q row ∧ H4 q = none) qs (rows' cs rows fd κ ks) := Paired.mono hq fun p row h => by
      have np : p ≠ pf := ne_of h.1 hf8 (by intro z; cases z)
      exact ⟨(same_new hpt) _ _ (by rw [upd_ne np]; exact h.1), h.2⟩
    have ptf : H pt = none := ((e04.trans e46).trans e78).free hpt
    have ht9 : (upd (upd H8 pf (.dK (dI ks fun k => .int (rep fd κ k)))) pt (.tup (qs.map .ref))) pt = some (.tup (qs.map .ref)) := upd_same
    generalize (upd (upd H8 pf (.dK (dI ks fun k => .int (rep fd κ k)))) pt (.tup (qs.map .ref))) = H9 at e79 hq9 ht9
    have hf9 := e79 _ _ hf7
    have hn9 := e79 _ _ hn7
    have e49 := e46.trans e79
    clear hq hl8 hf8 e8 e78 hpl hpt hn7l e47
    refine ⟨_, rfl, pf, _, hf9, trivial, fun od3 => ?_⟩
    have e49l : Same H4 (upd H9 pf (.frz od3 (.dK (dI ks fun k => .int (rep fd κ k))))) := same_upd e49 hpf
    have hn9l : (upd H9 pf (.frz od3 (.dK (dI ks fun k => .int (rep fd κ k))))) pn = some (.dK (dI ks fun k => .int (num ks k))) := by rw [upd_ne npf]; exact hn9
    refine ⟨_, rfl, pf, od3, _, rfl, upd_same, fun pm hpm => lc_S walk_items hpm (by rw [len_dI]; omega) (fun i acc _ => acc = (((ks.take i).filter fun k => decide (rep fd κ k ∈ ends)).map (num ks)).map .int) (fun _ _ _ _ _ _ _ h => h) rfl (fun H' e' => e' _ _ upd_same) ?_ ?_⟩
    · rintro i v HA HA' acc Qt Qf hi eA hd rfl ⟨T, x, y, rfl, hT, rfl, ex, ey⟩ kt kf
      obtain ⟨k1, hk⟩ : ∃ k1, ks[i]? = some k1 := ⟨_, List.getElem?_eq_getElem (show i < ks.length by simpa [len_dI] using hi)⟩
      have hkv : (dI ks fun k => V.int (rep fd κ k))[i]? = some (Sum.inl k1, .int (rep fd κ k1)) := by
        unfold dI
        rw [List.getElem?_map, hk]; rfl
      dsimp only at ex ey
      rw [hkv] at ex ey
      cases ex
      cases ey
      have eT : Same HA (upd HA T (.tup [kV (Sum.inl k1), .int (rep fd κ k1)])) := same_new hT
      have et : ks.take (i + 1) = ks.take i ++ [k1] := by rw [List.take_add_one, hk]; rfl
      refine ⟨T, _, rfl, SqT.of upd_same, rfl, _, _, rfl, _, _, rfl, rfl, rfl, _, rfl, _, rfl, pb, _, rfl, DGet.k (k := Sum.inl (rep fd κ k1)) (eT _ _ (eA _ _ (e49l _ _ hB4))), _, rfl, ?_⟩
      rw [val_dI]
      by_cases hm : rep fd κ k1 ∈ ends
      · rw [if_pos hm]
        have dn : DGet (upd HA T (.tup [kV (Sum.inl k1), .int (rep fd κ k1)])) pn (.int k1) (some (.int (num ks k1))) := by
          have := DGet.k (k := Sum.inl k1) (eT _ _ (eA _ _ hn9l))
          rw [val_dI, if_pos (List.mem_of_getElem? hk)] at this
          exact this
        refine iteT ⟨_, rfl, _, rfl, pn, _, rfl, dn, kt _ _ eT ?_⟩
        rw [et, List.filter_append, List.map_append, List.map_append]
        simp [hm]
      · rw [if_neg hm]
        refine iteF (kf _ eT ?_)
        rw [et, List.filter_append, List.map_append, List.map_append]
        simp [hm]
    rintro HA acc eA hm rfl
    rw [len_dI, List.take_length] at hm
    have hfA : HA pf = some (.frz od3 (.dK (dI ks fun k => .int (rep fd κ k)))) := eA _ _ upd_same
    refine ⟨hfA, ?_⟩
    have nmf : pm ≠ pf := ne_of hm hfA (by intro z; cases z)
    have e9A := lock_same hf9 eA
    refine ⟨pm, _, rfl, .inl ⟨SqL.of (by rw [upd_ne nmf]; exact hm), fun pe hpe => ⟨by show 2 ≤ sizeLine; decide, fun t ht => ?_⟩⟩⟩
    have e9B := (e9A.trans (same_new (o := .tup ((ends' ends fd κ ks).map .int)) hpe)).trans (same_new (o := .tup [.ref pt, .ref pe]) ht)
    refine k (rows' cs rows fd κ ks) (ends' ends fd κ ks) t pt pe _ W' A' Le ((e04.trans e49).trans e9B) upd_same fun H'' ext => ⟨⟨qs, ext _ _ ptf (e9B _ _ ht9), Paired.mono hq9 fun p row h => ext _ _ (e04.free h.2) (e9B _ _ h.1)⟩, ext _ _ (((e04.trans e49).trans e9A).free hpe) ((same_new ht) _ _ upd_same)⟩
end
end SG
set_option maxRecDepth 100000
set_option maxHeartbeats 4000000
namespace SR
open PySem PySem.Spec PyProof.Rows L2
/-- o.f as a target among others -/
def gFld (K : PySem.W.Frag) (ta : TE) (f : Str) : TG := fun v σ H Q => ta σ H fun x H1 => ∃ a C dx fs, x = .ref a ∧ H1 a = some (.ins C dx fs) ∧ Cls K C ∧ NoAttr K C f ∧ fs.length < 1000 ∧ Q σ (upd H1 a (.ins C dx (putF f v fs)))
theorem pg_fld {X : Cx} {o : Expr} {ta : TE} {f : Str} {pos : Pos} (ho : PE X o ta) : PG X (.Attribute o f pos) (gFld X.K ta f) := by
  refine ⟨fun pins s σ H v u Q I r h => ?_⟩
  rw [assign_Attribute]
  refine wpAny_bind (wpAny_holding (thn (ho.run pins s σ H _ I h) fun ov s1 ⟨x, H1, I1, r1, a, C, dx, fs, ex, ea, c, n, l, q⟩ => ?_))
  subst ex
  obtain rfl : ov = Value.ref a := r1
  refine wpAny_bind (wpAny_standAt (wpAny_bind (wpAny_holding ?_)))
  exact setattr_ok I1 ea c n l r fun s3 I3 => wpAny_release ⟨σ, _, I3, q⟩
end SR
namespace SG
open PySem L2 SR TL SS
/-- what the walk asks of the class -/
structure LTx (K : PySem.W.Frag) (mg : Str → Option Value) (C : Addr) : Prop where
  cl : Cls K C
  nS : NoAttr K C "own_signs"
  nG : NoAttr K C "goals"
  nM : NoAttr K C "member_list"
  nL : NoAttr K C "live_list"
  mgC : mg "Language" = some (.ref C)
/-- a language as it lies: its least machine, its live states -/
structure LangR (C : Addr) (H : Hp) (x : Addr) (cs : List Nat) (rw' : List (List Int)) (en' ns : List Int) : Prop where
  ex : ∃ (dx pt pm pl : Addr) (fs : List (Str × V)), H x = some (.ins C dx fs) ∧ fs.lookup ("own_signs" : Str) = some (.str (txt cs)) ∧ fs.lookup ("goals" : Str) = some (.ref pt) ∧ fs.lookup ("member_list" : Str) = some (.ref pm) ∧ fs.lookup ("live_list" : Str) = some (.ref pl) ∧
    (∀ n : Str, ¬ n = "own_signs" → ¬ n = "goals" → ¬ n = "member_list" → ¬ n = "live_list" → fs.lookup n = none) ∧ TabAt H cs pt pm rw' en' ∧ H pl = some (.tup (ns.map .int)) ∧ ns.length ≤ 40
theorem LangR.mono {C : Addr} {H H' : Hp} {x : Addr} {cs : List Nat} {rw' : List (List Int)} {en' ns : List Int} (e : Same H H') (h : LangR C H x cs rw' en' ns) : LangR C H' x cs rw' en' ns := by
  obtain ⟨dx, pt, pm, pl, fs, h1, h2, h3, h4, h5, h6, h7, h8, h9⟩ := h.ex
  exact ⟨dx, pt, pm, pl, fs, e _ _ h1, h2, h3, h4, h5, h6, h7.mono e, e _ _ h8, h9⟩
structure LangAt (m : Nat) (C : Addr) (H : Hp) (x : Addr) (cs : List Nat) (rows : List (List Int)) (ends : List Int) : Prop where
  ex : ∃ (rw' : List (List Int)) (en' ns : List Int), LangR C H x cs rw' en' ns ∧ WfM cs rw' en' ∧ Alike cs rows ends rw' en' ∧ Least m cs rows ends rw' en' ∧ (∀ q, 0 ≤ q → q < (rw'.length : Int) → (q ∈ ns ↔ Leads cs rw' en' q)) ∧ ∀ q ∈ ns, 0 ≤ q ∧ q < (rw'.length : Int)
theorem LangAt.mono {m : Nat} {C : Addr} {H H' : Hp} {x : Addr} {cs : List Nat} {rows : List (List Int)} {ends : List Int} (e : Same H H') (h : LangAt m C H x cs rows ends) : LangAt m C H' x cs rows ends := by
  obtain ⟨rw', en', ns, h1, h2⟩ := h.ex
  exact ⟨rw', en', ns, h1.mono e, h2⟩
theorem Given.b {H H' : Hp} {cs : List Nat} {a b x C dx : Addr} {fs : List (Str × V)} {rows : List (List Int)} {ends : List Int} (hx : H x = some (.ins C dx fs)) (e : SameB x H H') (g : Given H cs a b rows ends) : Given H' cs a b rows ends := by
  obtain ⟨qs, h1, h2⟩ := g.ex
  have lot : ∀ {p : Addr} {xs : List V}, LoT H p xs → LoT H' p xs := fun {p xs} h => by
    rcases h with z | z
    · exact .inl (e _ _ (ne_of z hx (by intro z; cases z)) z)
    · exact .inr (e _ _ (ne_of z hx (by intro z; cases z)) z)
  exact ⟨⟨qs, lot h1, Paired.mono h2 fun p row h => e _ _ (ne_of h hx (by intro z; cases z)) h⟩, lot g.mem⟩
theorem TabAt.b {H H' : Hp} {cs : List Nat} {t m x C dx : Addr} {fs : List (Str × V)} {rows : List (List Int)} {ends : List Int} (hx : H x = some (.ins C dx fs)) (e : SameB x H H') (g : TabAt H cs t m rows ends) : TabAt H' cs t m rows ends := by
  obtain ⟨⟨qs, h1, h2⟩, h3⟩ := g
  exact ⟨⟨qs, e _ _ (ne_of h1 hx (by intro z; cases z)) h1, Paired.mono h2 fun p row h => e _ _ (ne_of h hx (by intro z; cases z)) h⟩, e _ _ (ne_of h3 hx (by intro z; cases z)) h3⟩
section
variable {P : Program} {w : World} {K : PySem.W.Frag} {mg : Str → Option Value} {base : Heap}
abbrev psI : List Str := ["self", "signs", "states", "member_states"]
theorem scInit : FnScope psI psI (defScope sInit) := ⟨rfl, rfl, rfl, by decide +kernel, rfl, by decide +kernel, by decide +kernel⟩
def spInit (C : Addr) : Sp := fun vs H Q _ => ∃ (x dx : Addr) (cs : List Nat) (a e : Addr) (rows : List (List Int)) (ends : List Int) (m : Nat), vs = [.ref x, .str (txt cs), .ref a, .ref e] ∧ m ≤ 6 ∧ H x = some (.ins C dx []) ∧ Abc cs ∧ WfM cs rows ends ∧ (∀ fd, Order cs rows fd → Cover m cs rows ends fd) ∧ Given H cs a e rows ends ∧
  ∀ H', (∀ H'' : Hp, (∀ b o, (H b = none ∨ b = x) → H' b = some o → H'' b = some o) → LangAt m C H'' x cs rows ends) → SameB x H H' → Q .non H'
theorem ok_init {f C : Addr} {fd : FuncData} (F : Fun K "__init__" "Language.__init__" sInit f fd) (T : LTx K mg C) (Ck : Cal P w K mg base "check_machine" 3 ["signs", "states", "member_states"] spChk) (Lm : Cal P w K mg base "least_machine" 3 ["signs", "rows", "member_states"] spLma) (Ls : Cal P w K mg base "live_states" 1 ["table", "member_list"] spLst) :
    FnOk P w K mg base CX0 4 f fd psI (spInit C) := by
  refine F.ok scInit (fun vs H Q E h => ?_) (fun cdv A outer s H vs Q E hr h => ?_)
  · obtain ⟨x, dx, cs, a, e, rows, ends, m, rfl, _⟩ := h
    rfl
  · obtain ⟨x, dx, cs, a, e, rows, ends, m, rfl, hm6, hx, ha, W, cov, G, k⟩ := h
    refine ⟨_, pss_cons (ps_expr (pe_cal Ck hr (pa_cons (pv 1) (pa_cons (pv 2) (pa_cons (pv 3) pa_nil)))))
      (pss_cons (ps_fld (pv 0) (pv 1) rfl)
      (pss_cons (ps_asg (pe_cal Lm hr (pa_cons (pv 1) (pa_cons (pv 2) (pa_cons (pv 3) pa_nil)))) (pg_tup rfl (pgs_cons (pg_fld (pv 0)) (pgs_cons (pg_fld (pv 0)) pgs_nil))))
      (pss_one (ps_fld (pv 0) (pe_cal Ls (hr.mono (by decide)) (pa_cons (pe_fld (pv 0) rfl) (pa_cons (pe_fld (pv 0) rfl) pa_nil))) rfl)))), ?_⟩
    refine ⟨_, rfl, _, rfl, _, rfl, cs, a, e, rows, ends, rfl, ha, W, G, fun H1 e1 => ?_⟩
    have hx1 := e1 _ _ hx
    refine ⟨_, rfl, _, rfl, x, C, dx, _, rfl, hx1, T.cl, T.nS, (by show 0 < 1000; decide), ?_⟩
    have G2 := (G.mono e1).b hx1 (SameB.upd (o := .ins C dx (putF "own_signs" (.str (txt cs)) [])))
    have hx2 : (upd H1 x (.ins C dx (putF "own_signs" (.str (txt cs)) []))) x = some (.ins C dx (putF "own_signs" (.str (txt cs)) [])) := upd_same
    have b2 : SameB x H (upd H1 x (.ins C dx (putF "own_signs" (.str (txt cs)) []))) := (Same.b e1).trans SameB.upd
    generalize (upd H1 x (.ins C dx (putF "own_signs" (.str (txt cs)) []))) = H2 at G2 hx2 b2
    refine ⟨_, rfl, _, rfl, _, rfl, cs, a, e, rows, ends, m, rfl, hm6, ha, W, cov, G2, fun rw' en' t pt pm H3 W' A' Le e3 h3 tab => ?_⟩
    have hx3 := e3 _ _ hx2
    refine ⟨t, _, rfl, SqT.of h3, rfl, _, _, rfl, _, rfl, x, C, dx, _, rfl, hx3, T.cl, T.nG, (by show 1 < 1000; decide), _, _, rfl, _, rfl, x, C, dx, _, rfl, upd_same, T.cl, T.nM, (by show 2 < 1000; decide), rfl, ?_⟩
    have nx2 : ∀ b, H2 b = none → b ≠ x := fun b hb ee => by rw [ee, hx2] at hb; cases hb
    have tabX : ∀ H'' : Hp, (∀ b o, H2 b = none → (upd (upd H3 x (.ins C dx (putF "goals" (.ref pt) (putF "own_signs" (.str (txt cs)) [])))) x (.ins C dx (putF "member_list" (.ref pm) (putF "goals" (.ref pt) (putF "own_signs" (.str (txt cs)) []))))) b = some o → H'' b = some o) → TabAt H'' cs pt pm rw' en' := fun H'' ext => tab H'' fun b o hb ho => ext b o hb (by rw [upd_ne (nx2 b hb), upd_ne (nx2 b hb)]; exact ho)
    have hx4 : (upd (upd H3 x (.ins C dx (putF "goals" (.ref pt) (putF "own_signs" (.str (txt cs)) [])))) x (.ins C dx (putF "member_list" (.ref pm) (putF "goals" (.ref pt) (putF "own_signs" (.str (txt cs)) []))))) x = some (.ins C dx (putF "member_list" (.ref pm) (putF "goals" (.ref pt) (putF "own_signs" (.str (txt cs)) [])))) := upd_same
    have b4 : SameB x H (upd (upd H3 x (.ins C dx (putF "goals" (.ref pt) (putF "own_signs" (.str (txt cs)) [])))) x (.ins C dx (putF "member_list" (.ref pm) (putF "goals" (.ref pt) (putF "own_signs" (.str (txt cs)) []))))) := ((b2.trans (Same.b e3)).trans SameB.upd).trans SameB.upd
    generalize (upd (upd H3 x (.ins C dx (putF "goals" (.ref pt) (putF "own_signs" (.str (txt cs)) [])))) x (.ins C dx (putF "member_list" (.ref pm) (putF "goals" (.ref pt) (putF "own_signs" (.str (txt cs)) []))))) = H4 at tabX hx4 b4 ⊢
    have tab4 : TabAt H4 cs pt pm rw' en' := tabX H4 fun _ _ _ h => h
    have l1 : (putF "member_list" (.ref pm) (putF "goals" (.ref pt) (putF "own_signs" (.str (txt cs)) []))).lookup ("goals" : Str) = some (.ref pt) := by rw [lk_ne (by decide +kernel), lk_eq]
    refine ⟨_, rfl, x, C, dx, _, _, rfl, hx4, T.cl, T.nG, l1, _, rfl, x, C, dx, _, _, rfl, hx4, T.cl, T.nM, lk_eq, pt, pm, cs, rw', en', rfl, ha, W', tab4, fun ns p H5 hns hrg hl5 rs hp e5 h5 => ?_⟩
    have hx5 := e5 _ _ hx4
    have npx : p ≠ x := ne_of h5 hx5 (by intro z; cases z)
    have pfr : H p = none := freeB b4 npx hp
    refine ⟨_, rfl, x, C, dx, _, rfl, hx5, T.cl, T.nL, (by show 3 < 1000; decide), k _ (fun H'' ext => ⟨rw', en', ns, ⟨dx, pt, pm, p, _, ext x _ (.inr rfl) upd_same, ?_, ?_, ?_, lk_eq, fun n n1 n2 n3 n4 => by rw [lk_ne n4, lk_ne n3, lk_ne n2, lk_ne n1]; rfl, tabX H'' fun b o hb ho => ext b o (.inl (freeB b2 (nx2 b hb) hb)) (by rw [upd_ne (nx2 b hb)]; exact e5 _ _ ho), ext p _ (.inl pfr) (by rw [upd_ne npx]; exact h5), hl5⟩, W', A', Le, hns, hrg⟩) ((b4.trans (Same.b e5)).trans SameB.upd)⟩
    · rw [lk_ne (by decide +kernel), lk_ne (by decide +kernel), lk_ne (by decide +kernel), lk_eq]
    · rw [lk_ne (by decide +kernel)]; exact l1
    · rw [lk_ne (by decide +kernel), lk_eq]
end
end SG
set_option maxRecDepth 100000
set_option maxHeartbeats 4000000
namespace SG
open PySem L2 SR TL SS
/-- more of the class -/
structure LTy (K : PySem.W.Frag) (C : Addr) : Prop where
  cls : PySem.W.findIn K (.ref C) "__class__" = some (some (.builtin "object.__class__"))
  getc : PySem.W.specialIn K (.builtin "object.__class__") "__get__" = some (some (.builtin "getset_descriptor.__get__"))
  tak : PySem.W.takesIn K (.builtin "object.__class__") = some true
  mro : PySem.W.mroIn K C (.type "object") = some true
  kit : PySem.W.kitOne K (.ref C) (.ref C) = some true
  ne : PySem.W.findIn K (.ref C) "__ne__" = some (some (.builtin "object.__ne__"))
  sub : PySem.W.subIn K (.ref C) (.type "object") = some true
def endsD (ends : List Int) : PyData := .tuple (ends.map .int)
end SG
set_option maxRecDepth 100000
set_option maxHeartbeats 4000000
namespace SR
open PySem PySem.Spec PyProof.Rows L2
end SR
namespace SG
open PySem PySem.Spec PyProof.Rows L2 SR TL SS
theorem row_map {cs : List Nat} {row : List Int} (nd : cs.Nodup) (hl : row.length = cs.length) : row = cs.map fun c => row.getD (cs.idxOf c) 0 := by
  refine List.ext_getElem? fun i => ?_
  rw [List.getElem?_map]
  by_cases hi : i < cs.length
  · rw [List.getElem?_eq_getElem hi, List.getElem?_eq_getElem (by omega)]
    show _ = some (row.getD (cs.idxOf cs[i]) 0)
    rw [List.Nodup.idxOf_getElem nd i hi, List.getD_eq_getElem?_getD, List.getElem?_eq_getElem (by omega)]
    rfl
  · rw [List.getElem?_eq_none (by omega), List.getElem?_eq_none (by omega)]
    rfl
section
variable {X : Cx} {pins : List (Addr × Obj)} {σ : L2.St} {H : Hp} {s : Shared}
/-- two rows: equal or not -/
theorem eq_rowIn (I : Inv X pins σ H s) {A : Around} (hu : A.units + 1 < cLine) {cs : List Nat} {p q : Addr} {r1 r2 : List Int} (nd : cs.Nodup) (l1 : r1.length = cs.length) (l2 : r2.length = cs.length) (h1 : RowAt H cs p r1) (h2 : RowAt H cs q r2) :
    SeqAt.EqIn X.prog X.w A s (.ref p) (.ref q) (decide (r1 = r2)) := by
  by_cases e : p = q
  · subst e
    have e2 : rowK cs r1 = rowK cs r2 := by
      have := h1.symm.trans h2
      exact HO.dK.inj (Option.some.inj this)
    have e3 : r1 = r2 := by
      rw [row_map nd l1, row_map nd l2]
      refine List.map_congr_left fun c hc => ?_
      have v1 := val_row l1 hc
      have v2 := val_row l2 hc
      rw [e2, v2] at v1
      exact (V.int.inj (Option.some.inj v1)).symm
    rw [decide_eq_true e3]
    exact (SeqAt.EqAt.same _).inModel X.prog X.w
  · refine SeqAt.EqIn.of_refs e fun E Q hq => ?_
    obtain ⟨_, ya, va, ra, da⟩ := (show ObjOk X.prog X.w H s.heap p (.dK (rowK cs r1)) from I.hok p _ h1)
    obtain ⟨_, yb, vb, rb, db⟩ := (show ObjOk X.prog X.w H s.heap q (.dK (rowK cs r2)) from I.hok q _ h2)
    have mem1 : ∀ c ∈ cs, ∃ v, ((Sum.inr (lt c) : Key), v) ∈ va ∧ RelV (.int (r1.getD (cs.idxOf c) 0)) v := by
      intro c hc
      have rr : RelO (some (.int (r1.getD (cs.idxOf c) 0))) (valueAt va (Sum.inr (lt c))) := by rw [← val_row l1 hc]; exact ra.val _
      obtain ⟨y, hy, ry⟩ := rr.some_of
      refine ⟨y, ?_, ry⟩
      unfold valueAt at hy
      obtain ⟨kv, hkv, ekv⟩ := Option.map_eq_some_iff.mp hy
      have h1 := List.find?_some hkv
      have h2 := List.mem_of_find?_eq_some hkv
      have h3 : kv.1 = Sum.inr (lt c) := by simpa using h1
      rw [← h3, ← ekv]
      exact h2
    have zipv : ∀ c i, (c, i) ∈ cs.zip r1 → c ∈ cs ∧ i = r1.getD (cs.idxOf c) 0 := by
      intro c i h
      obtain ⟨j, hj⟩ := List.mem_iff_getElem?.mp h
      obtain ⟨h1, h2⟩ := List.getElem?_zip_eq_some.mp hj
      obtain ⟨hj1, e1⟩ := List.getElem?_eq_some_iff.mp h1
      refine ⟨List.mem_of_getElem? h1, ?_⟩
      have e1' : cs[j] = c := e1
      have h2' : r1[j]? = some i := h2
      rw [← e1', List.Nodup.idxOf_getElem nd j hj1, List.getD_eq_getElem?_getD, h2']
      rfl
    have of1 : ∀ k v, (k, v) ∈ va → ∃ c ∈ cs, k = Sum.inr (lt c) ∧ RelV (.int (r1.getD (cs.idxOf c) 0)) v := by
      intro k v hkv
      have : ∀ {l : List (Key × V)} {m : List (Key × Value)}, KV l m → ∀ k v, (k, v) ∈ m → ∃ p ∈ l, p.1 = k ∧ RelV p.2 v := by
        intro l m r
        unfold KV at r
        induction r with
        | nil => intro k v h; cases h
        | @cons a b _ _ h _ ih =>
          intro k v hm
          rcases List.mem_cons.mp hm with z | z
          · refine ⟨a, List.mem_cons_self, ?_, ?_⟩
            · rw [h.1, ← z]
            · have := h.2
              rw [← z] at this
              exact this
          · obtain ⟨p, h1, h2⟩ := ih k v z
            exact ⟨p, List.mem_cons_of_mem _ h1, h2⟩
      obtain ⟨p, hp, e1, e2⟩ := this ra k v hkv
      obtain ⟨⟨c, i⟩, hc, rfl⟩ := List.mem_map.mp hp
      obtain ⟨hcs, ei⟩ := zipv c i hc
      refine ⟨c, hcs, e1.symm, ?_⟩
      rw [← ei]
      exact e2
    have val2 : ∀ c ∈ cs, ∃ y, valueAt vb (Sum.inr (lt c)) = some y ∧ RelV (.int (r2.getD (cs.idxOf c) 0)) y := by
      intro c hc
      have rr : RelO (some (.int (r2.getD (cs.idxOf c) 0))) (valueAt vb (Sum.inr (lt c))) := by rw [← val_row l2 hc]; exact rb.val _
      exact rr.some_of
    have la : va.length = cs.length := by
      rw [← ra.length]
      unfold rowK
      rw [List.length_map, List.length_zip, l1, Nat.min_self]
    have lb : vb.length = cs.length := by
      rw [← rb.length]
      unfold rowK
      rw [List.length_map, List.length_zip, l2, Nat.min_self]
    have fin : (va.length == vb.length && va.all fun p => (valueAt vb p.1).isSome && decide (valV (rowK cs r1) p.1 = valV (rowK cs r2) p.1)) = decide (r1 = r2) := by
      rw [la, lb, beq_self_eq_true, Bool.true_and, Bool.eq_iff_iff, List.all_eq_true, decide_eq_true_iff]
      constructor
      · intro h
        rw [row_map nd l1, row_map nd l2]
        refine List.map_congr_left fun c hc => ?_
        obtain ⟨v, hv, _⟩ := mem1 c hc
        have := h _ hv
        rw [Bool.and_eq_true] at this
        have h2 := of_decide_eq_true this.2
        rw [val_row l1 hc, val_row l2 hc] at h2
        exact V.int.inj (Option.some.inj h2)
      · rintro rfl p hp
        obtain ⟨c, hc, ek, _⟩ := of1 p.1 p.2 hp
        obtain ⟨y, hy, _⟩ := val2 c hc
        rw [ek, hy]
        simp
    refine PySem.W.keq_eqIn (knd := mixKind X.prog X.w) ya yb da db (by omega) (fun _ => PySem.W.KeqHitsIn.of (e := fun k => decide (valV (rowK cs r1) k = valV (rowK cs r2) k)) _ fun k v y hm hv => ?_) (by rw [fin]; exact hq)
    obtain ⟨c, hc, rfl, rv⟩ := of1 k v hm
    obtain ⟨y', hy', ry⟩ := val2 c hc
    rw [hv] at hy'
    cases hy'
    obtain ⟨t1, rfl⟩ := rv
    obtain ⟨t2, rfl⟩ := ry
    have e4 : decide (valV (rowK cs r1) (Sum.inr (lt c)) = valV (rowK cs r2) (Sum.inr (lt c))) = (r1.getD (cs.idxOf c) 0 == r2.getD (cs.idxOf c) 0) := by
      rw [val_row l1 hc, val_row l2 hc, Bool.eq_iff_iff, decide_eq_true_iff, beq_iff_eq]
      exact ⟨fun z => V.int.inj (Option.some.inj z), fun z => by rw [z]⟩
    rw [e4]
    exact (SeqAt.EqAt.int_int _ t1 _ t2).inModel X.prog X.w
/-- two tuples of rows over the same signs -/
def rEqRows (K : PySem.W.Frag) (cs : List Nat) : R2 := fun x y H Q => ∃ (p q : Addr) (ps qs : List Addr) (r1 r2 : List (List Int)), x = .ref p ∧ y = .ref q ∧ SqT K H p (ps.map .ref) ∧ SqT K H q (qs.map .ref) ∧ Paired (RowAt H cs) ps r1 ∧ Paired (RowAt H cs) qs r2 ∧
  (∀ row ∈ r1, row.length = cs.length) ∧ (∀ row ∈ r2, row.length = cs.length) ∧ Q (.bl (decide (r1 = r2))) H
theorem op_eqRows {X : Cx} {cs : List Nat} (nd : cs.Nodup) (hu : X.A.units + 64 < cLine) : OpR X (compareOp .Eq) (rEqRows X.K cs) := by
  intro pins s σ H x y v u Q I rx ry h
  obtain ⟨p, q, ps, qs, r1, r2, rfl, rfl, h1, h2, p1, p2, w1, w2, k⟩ := h
  cases rx
  cases ry
  obtain ⟨us, v1, t1, _⟩ := I.tuple h1
  obtain ⟨ws, v2, t2, _⟩ := I.tuple h2
  have refs : ∀ (as : List Addr) (us : List Value), Vals (as.map V.ref) us → us = as.map Value.ref := by
    intro as
    induction as with
    | nil => intro us r; cases r; rfl
    | cons a as ih =>
      intro us r
      cases r with
      | cons h t => rw [ih _ t]; cases (show _ = Value.ref a from h); rfl
  have e1 := refs _ _ v1
  have e2 := refs _ _ v2
  subst e1
  subst e2
  have n1 := Paired.length p1
  have n2 := Paired.length p2
  refine SeqAt.rcIn_tuples (e := fun j => decide (r1.getD j [] = r2.getD j [])) t1 t2 (by omega) (fun j j1 j2 => ?_) ?_
  · have k1 : j < ps.length := by simpa using j1
    have k2 : j < qs.length := by simpa using j2
    have k1' : j < r1.length := by omega
    have k2' : j < r2.length := by omega
    obtain ⟨a, ha, ra⟩ := paired_get j p1 (List.getElem?_eq_getElem k1')
    obtain ⟨b, hb, rb⟩ := paired_get j p2 (List.getElem?_eq_getElem k2')
    have q1 : (ps.map Value.ref).toArray[j] = Value.ref a := by
      have : ps[j] = a := (List.getElem?_eq_some_iff.mp ha).2
      simp [this]
    have q2 : (qs.map Value.ref).toArray[j] = Value.ref b := by
      have : qs[j] = b := (List.getElem?_eq_some_iff.mp hb).2
      simp [this]
    have g1 : r1.getD j [] = r1[j] := by rw [List.getD_eq_getElem?_getD, List.getElem?_eq_getElem k1']; rfl
    have g2 : r2.getD j [] = r2[j] := by rw [List.getD_eq_getElem?_getD, List.getElem?_eq_getElem k2']; rfl
    show SeqAt.EqIn X.prog X.w X.A.in1 s _ _ (decide (r1.getD j [] = r2.getD j []))
    rw [q1, q2, g1, g2]
    exact eq_rowIn I (by show X.A.units + 1 + 1 < cLine; omega) nd (w1 _ (List.getElem_mem k1')) (w2 _ (List.getElem_mem k2')) ra rb
  · have fin : ((List.range (min (ps.map Value.ref).toArray.size (qs.map Value.ref).toArray.size)).all (fun j => decide (r1.getD j [] = r2.getD j [])) && (ps.map Value.ref).toArray.size == (qs.map Value.ref).toArray.size) = decide (r1 = r2) := by
      have s1 : (ps.map Value.ref).toArray.size = r1.length := by simp [n1]
      have s2 : (qs.map Value.ref).toArray.size = r2.length := by simp [n2]
      rw [s1, s2, Bool.eq_iff_iff, Bool.and_eq_true, List.all_eq_true, beq_iff_eq, decide_eq_true_iff]
      constructor
      · rintro ⟨h, hl⟩
        refine List.ext_getElem hl fun j j1 j2 => ?_
        have := of_decide_eq_true (h j (List.mem_range.mpr (by omega)))
        rw [List.getD_eq_getElem?_getD, List.getElem?_eq_getElem j1, List.getD_eq_getElem?_getD, List.getElem?_eq_getElem j2] at this
        exact this
      · rintro rfl
        exact ⟨fun j _ => decide_eq_true rfl, rfl⟩
    rw [fin]
    exact ⟨.bl _, H, I, rfl, k⟩
end
end SG
set_option maxRecDepth 100000
set_option maxHeartbeats 4000000
namespace SY
open PySem PySem.Spec PyProof.Rows L2
end SY
namespace SG
open PySem L2 SR TL SS
theorem eqv_ints : ∀ (a b : List Int), PyData.eqvAll (a.map .int) (b.map .int) = decide (a = b)
  | [], [] => by simp [PyData.eqvAll]
  | [], _ :: _ => by simp [PyData.eqvAll]
  | _ :: _, [] => by simp [PyData.eqvAll]
  | x :: a, y :: b => by
    rw [List.map_cons, List.map_cons, PyData.eqvAll, eqv_ints a b]
    have : PyData.eqv (.int x) (.int y) = decide (x = y) := by
      rw [Bool.eq_iff_iff]
      simp [PyData.eqv]
    rw [this, ← Bool.decide_and, decide_eq_decide]
    exact ⟨fun h => by rw [h.1, h.2], fun h => by injection h with h1 h2; exact ⟨h1, h2⟩⟩
theorem eqv_ends (a b : List Int) : PyData.eqv (endsD a) (endsD b) = decide (a = b) := by
  unfold endsD
  rw [PyData.eqv]
  exact eqv_ints a b
theorem leaf_ends (en : List Int) : SeqAt.shaped (endsD en) = true := leaf_tuple fun d hd => by
  obtain ⟨i, _, rfl⟩ := List.mem_map.mp hd
  exact leaf_int i
section
variable {P : Program} {w : World} {K : PySem.W.Frag} {mg : Str → Option Value} {base : Heap}
theorem scEql : FnScope ["self", "other"] ["self", "other"] (defScope sEql) := ⟨rfl, rfl, rfl, by decide +kernel, rfl, by decide +kernel, by decide +kernel⟩
def spEqA (C : Addr) : Sp := fun vs H Q _ => ∃ (x : Addr) (v : V) (cs : List Nat) (r : List (List Int)) (en ns : List Int), vs = [.ref x, v] ∧ Abc cs ∧ LangR C H x cs r en ns ∧ WfM cs r en ∧
  ((∃ T, SR.Odd H v T ∧ ∀ H', Same H H' → Q (.bl false) H') ∨ ∃ (y : Addr) (cs2 : List Nat) (r2 : List (List Int)) (en2 ns2 : List Int), v = .ref y ∧ LangR C H y cs2 r2 en2 ns2 ∧ WfM cs2 r2 en2 ∧ ∀ H', Same H H' → Q (.bl (decide (cs = cs2 ∧ en = en2 ∧ r = r2))) H')
theorem ok_eqA {f C : Addr} {fd : FuncData} (F : Fun K "__eq__" "Language.__eq__" sEql f fd) (B : Bl mg) (T : LTx K mg C) (Y : LTy K C) (O : OddC K C) : FnOk P w K mg base CX0 2 f fd ["self", "other"] (spEqA C) := by
  refine F.ok scEql (fun vs H Q E h => ?_) (fun cdv A outer s H vs Q E hr h => ?_)
  · obtain ⟨x, v, cs, r, en, ns, rfl, _⟩ := h
    rfl
  · obtain ⟨x, v, cs, r, en, ns, rfl, ha, L, W, h⟩ := h
    have nd : cs.Nodup := ris_nodup ha.ris
    obtain ⟨dx, pt, pm, pl, fs, h1, h2, h3, h4, h5, h6, ⟨⟨qs, t1, t2⟩, t3⟩, h8, h9⟩ := L.ex
    refine ⟨_, pss_cons (ps_if (pt_not (pt_val (pe_callB call_isi (by rfl) B.isinstance (by decide +kernel) (pa_cons (pv 1) (pa_cons (pe_glob (v := .ref C) rfl T.mgC rfl) pa_nil))))) (pss_one (ps_ret pe_bl)) pss_nil)
      (pss_cons (ps_if (PW.pt (pw_or (pt_cmpR op_ne (pe_fld (pv 0) rfl) (pe_fld (pv 1) rfl) (nomark _)) (pw_or1 (pt_cmpR (op_neD hr.units) (pe_fld (pv 0) rfl) (pe_fld (pv 1) rfl) (nomark _))))) (pss_one (ps_ret pe_bl)) pss_nil)
      (pss_one (ps_ret (pe_cmpR (op_eqRows nd hr.units) (pe_fld (pv 0) rfl) (pe_fld (pv 1) rfl) (nomark _))))), ?_⟩
    rcases h with ⟨T', o, k⟩ | ⟨y, cs2, r2, en2, ns2, rfl, L2', W2, k⟩
    · exact ⟨_, rfl, _, _, _, _, false, rfl, .own C, o.tyx, O.kit o.mem, _, rfl, iteT (k _ (Same.refl _))⟩
    · obtain ⟨dy, pt', pm', pl', fs', g1, g2, g3, g4, g5, g6, ⟨⟨qs', u1, u2⟩, u3⟩, g8, g9⟩ := L2'.ex
      refine ⟨_, rfl, _, _, _, _, true, rfl, .own C, .base (.ins g1 T.cl Y.cls Y.getc Y.tak Y.mro), Y.kit, _, rfl, iteF ?_⟩
      refine ⟨_, rfl, x, C, dx, _, _, rfl, h1, T.cl, T.nS, h2, _, rfl, y, C, dy, _, _, rfl, g1, T.cl, T.nS, g2, rfl, _, rfl, ?_⟩
      by_cases hcs : cs = cs2
      · subst hcs
        rw [show decide (V.str (txt cs) = V.str (txt cs)) = true from decide_eq_true rfl]
        refine ⟨_, rfl, x, C, dx, _, _, rfl, h1, T.cl, T.nM, h4, _, rfl, y, C, dy, _, _, rfl, g1, T.cl, T.nM, g4, endsD en, endsD en2, .tup (SqT.of t3) (dp_map (fun i => .int i) en), .tup (SqT.of u3) (dp_map (fun i => .int i) en2), leaf_ends en, leaf_ends en2, _, rfl, ?_⟩
        rw [eqv_ends]
        by_cases he : en = en2
        · subst he
          rw [decide_eq_true rfl]
          refine iteF ?_
          refine ⟨_, rfl, x, C, dx, _, _, rfl, h1, T.cl, T.nG, h3, _, rfl, y, C, dy, _, _, rfl, g1, T.cl, T.nG, g3, pt, pt', qs, qs', r, r2, rfl, rfl, SqT.of t1, SqT.of u1, t2, u2, fun row hr => (W.row row hr).1, fun row hr => (W2.row row hr).1, ?_⟩
          have := k _ (Same.refl _)
          rwa [show decide (cs = cs ∧ en = en ∧ r = r2) = decide (r = r2) by simp] at this
        · rw [decide_eq_false he]
          refine iteT ?_
          have := k _ (Same.refl _)
          rwa [show decide (cs = cs ∧ en = en2 ∧ r = r2) = false from decide_eq_false fun h => he h.2.1] at this
      · rw [show decide (V.str (txt cs) = V.str (txt cs2)) = false from decide_eq_false fun z => hcs (txt_inj (V.str.inj z))]
        refine iteT ?_
        have := k _ (Same.refl _)
        rwa [show decide (cs = cs2 ∧ en = en2 ∧ r = r2) = false from decide_eq_false fun h => hcs h.1] at this
end
end SG
set_option maxRecDepth 100000
set_option maxHeartbeats 4000000
namespace SS
open PySem L2 SR TL ZA
end SS
set_option maxRecDepth 100000
set_option maxHeartbeats 4000000
namespace SS
open PySem L2 SR TL ZA
end SS
set_option maxRecDepth 100000
set_option maxHeartbeats 4000000
namespace SR
open PySem PySem.Spec PyProof.Rows L2
open PySem.SeqAt
end SR
set_option maxRecDepth 100000
set_option maxHeartbeats 4000000
namespace SS
open PySem L2 SR TL ZA
end SS
set_option maxRecDepth 100000
set_option maxHeartbeats 4000000
namespace SS
open PySem L2 SR TL ZA
theorem cover_small {m : Nat} {cs : List Nat} {rows : List (List Int)} {ends fd : List Int} (h : rows.length ≤ m) (O : SG.Order cs rows fd) : SG.Cover m cs rows ends fd :=
  ⟨fd, Nat.le_trans (nodup_len _ _ O.nd O.rg) h, fun s hs => hs, fun p hp => ⟨p, hp, fun n x _ _ => Iff.rfl⟩⟩
theorem lang_mk {L y dx a e : Addr} {H : Hp} {Q : Hp → Prop} {cs : List Nat} {rows : List (List Int)} {ends : List Int} (nx : H y = none) (ndx : H dx = none) (ha : Abc cs) (W : SG.WfM cs rows ends) (h6 : rows.length ≤ 6) (G : SG.Given H cs a e rows ends)
    (k : ∀ H', SG.LangAt rows.length L H' y cs rows ends → Same H H' → Q H') : SG.spInit L [.ref y, .str (txt cs), .ref a, .ref e] (upd (upd H dx (.own y)) y (.ins L dx [])) (fun v H3 => v = .non ∧ Q H3) E0 := by
  have en : Same H (upd (upd H dx (.own y)) y (.ins L dx [])) := same_upd (same_new ndx) nx
  exact ⟨y, dx, cs, a, e, rows, ends, rows.length, rfl, h6, upd_same, ha, W, fun fd O => cover_small (Nat.le_refl _) O, G.mono en, fun H6 LA sb => ⟨rfl, k H6 (LA H6 fun _ _ _ h => h) fun b o hb => sb b o (ne_of_none hb nx) (en b o hb)⟩⟩
theorem LangR_nl {L : Addr} {H H' : Hp} {x : Addr} {cs : List Nat} {rw' : List (List Int)} {en' ns : List Int} (e : ∀ b o, H b = some o → (∀ xs, o ≠ HO.lst xs) → H' b = some o) (h : SG.LangR L H x cs rw' en' ns) : SG.LangR L H' x cs rw' en' ns := by
  obtain ⟨dx, pt, pm, pl, fs, h1, h2, h3, h4, h5, h6, ⟨⟨qs, t1, t2⟩, t3⟩, h8, h9⟩ := h.ex
  exact ⟨dx, pt, pm, pl, fs, e _ _ h1 nofun, h2, h3, h4, h5, h6, ⟨⟨qs, e _ _ t1 nofun, Paired.mono t2 fun p row g => e _ _ g nofun⟩, e _ _ t3 nofun⟩, e _ _ h8 nofun, h9⟩
theorem LangAt_nl {m : Nat} {L : Addr} {H H' : Hp} {x : Addr} {cs : List Nat} {rows : List (List Int)} {ends : List Int} (e : ∀ b o, H b = some o → (∀ xs, o ≠ HO.lst xs) → H' b = some o) (h : SG.LangAt m L H x cs rows ends) : SG.LangAt m L H' x cs rows ends := by
  obtain ⟨rw', en', ns, h1, h2⟩ := h.ex
  exact ⟨rw', en', ns, LangR_nl e h1, h2⟩
end SS
set_option maxRecDepth 100000
set_option maxHeartbeats 4000000
namespace SS
open PySem L2 SR TL ZA
def ss (v w : List Nat) : Prop := sl v w ∧ v ≠ w
abbrev Pq := Int × List Int
noncomputable def prδ (rows : List Rw) (cs : List Nat) (rM : List (List Int)) (lv : List Int) (e : Pq) (c : Nat) : Option Pq := if c ∈ cs ∧ SG.nxt cs rM e.1 c ∈ lv then some (SG.nxt cs rM e.1 c, stpL rows e.2 [c]) else none
noncomputable def pr0 (rows : List Rw) (q : Int) : Pq := (0, silL rows [q])
/-- what is looked for: a word of the language that cannot be written -/
def Lk (rows : List Rw) (q : Int) (A : List Int) (cs : List Nat) (rM : List (List Int)) (eM : List Int) (w : List Nat) : Prop :=
  (∀ c ∈ w, c ∈ cs) ∧ SG.run cs rM 0 w ∈ eM ∧ ¬ ∃ s ∈ lastL rows q (w.map fun c => [c]), s ∈ A
section
variable {rows : List Rw} {q : Int} {A : List Int} {cs : List Nat} {rM : List (List Int)} {eM lv : List Int}
def base (n : Nat) : List Int := (List.range n).map fun k : Nat => (k : Int)
end
section
variable (rows : List Rw) (q : Int) (cs : List Nat) (rM : List (List Int)) (lv : List Int)
def Rd (v : List Nat) (b : Pq) : Prop := (0 : Int) ∈ lv ∧ goW (prδ rows cs rM lv) (pr0 rows q) v = some b
/-- the next: it leads there, all words that lead elsewhere than what was handed out stand behind it -/
def Nx (vis : List (List Nat × Pq)) (e : List Nat × Pq) : Prop := Rd rows q cs rM lv e.1 e.2 ∧ (∀ v b, Rd rows q cs rM lv v b → (∃ f ∈ vis, f.2 = b ∧ sl f.1 v) ∨ sl e.1 v) ∧ e.2 ∉ vis.map (·.2)
end
end SS
set_option maxRecDepth 100000
set_option maxHeartbeats 4000000
namespace SS
open PySem L2 SR TL ZA
end SS
set_option maxRecDepth 100000
set_option maxHeartbeats 4000000
namespace SR
open PySem PySem.Spec PyProof.Rows L2
end SR
set_option maxRecDepth 100000
set_option maxHeartbeats 1000000
namespace GenX
open PySem PySem.Spec PyProof.Rows GenW
open Sem (wp)
section
variable {M : Model}
/-- a state whose table is b -/
abbrev wG (s : Shared) (b : Array GenState) : Shared := { s with gens := b }
end
end GenX
set_option maxRecDepth 100000
set_option maxHeartbeats 1000000
namespace GenX
open PySem PySem.Spec PyProof.Rows GenW L2
end GenX
set_option maxRecDepth 100000
set_option maxHeartbeats 1000000
namespace GenX
open PySem PySem.Spec PyProof.Rows GenW L2
end GenX
set_option maxRecDepth 100000
set_option maxHeartbeats 1000000
namespace GenX
open PySem PySem.Spec PyProof.Rows GenW L2
theorem _root_.L2.Inv.gens {X : Cx} {pins : List (Addr × Obj)} {σ : L2.St} {H : Hp} {s : Shared} (I : Inv X pins σ H s) {b : Array GenState} (h : AllBare b) : Inv X pins σ H (wG s b) :=
  I.call' (ch := []) rfl (Un.kept fun _ _ e => e) (I.hok.kept fun _ _ e => e) h fun b z => by simp at z
end GenX
set_option maxRecDepth 100000
set_option maxHeartbeats 4000000
namespace SS
open PySem L2 SR TL ZA GenX
end SS
set_option maxRecDepth 100000
set_option maxHeartbeats 4000000
namespace SS
open PySem L2 SR TL ZA
/-- with these behind, the door is wide -/
def Wd (rows : List Rw) (q : Int) (cs : List Nat) (rM : List (List Int)) (eM : List Int) (S : List Int) : Prop := ∀ w : List Nat, (∀ c ∈ w, c ∈ cs) → SG.run cs rM 0 w ∈ eM → ∃ s ∈ S, s ∈ lastL rows q (w.map fun c => [c])
end SS
set_option maxRecDepth 100000
set_option maxHeartbeats 4000000
namespace SS
open PySem L2 SR TL ZA
end SS
set_option maxRecDepth 100000
set_option maxHeartbeats 4000000
namespace SS
open PySem L2 SR TL ZA
/-- a move of a piece: its letter, what it tells -/
abbrev Mo := Nat × Option (List Nat)
inductive Pt where
  | pc (ms : List Mo)
  | sd (ks : List (List Nat))
  | sl (nm cs : List Nat) (rM : List (List Int)) (eM : List Int)
def MoAt (H : Hp) (p : Addr) (m : Mo) : Prop := H p = some (.tup [txtV [m.1], tellV m.2])
/-- what stands behind the name of a slot -/
abbrev Thd := Hp → Addr → List Nat → List (List Int) → List Int → Prop
def PtAt (T : Thd) (H : Hp) (t : Addr) : Pt → Prop
  | .pc ms => ∃ (p : Addr) (qs : List Addr), H t = some (.tup [.str "piece", .ref p]) ∧ H p = some (.tup (qs.map .ref)) ∧ Paired (MoAt H) qs ms
  | .sd ks => ∃ p : Addr, H t = some (.tup [.str "said", .ref p]) ∧ H p = some (.tup (ks.map txtV))
  | .sl nm cs rM eM => ∃ l : Addr, H t = some (.tup [.str "slot", txtV nm, .ref l]) ∧ T H l cs rM eM
def LanT (L : Addr) : Thd := fun H l cs rM eM => SG.LangAt rM.length L H l cs rM eM
def ThdM (T : Thd) : Prop := ∀ (H H' : Hp) (l : Addr) (cs : List Nat) (rM : List (List Int)) (eM : List Int), Same H H' → T H l cs rM eM → T H' l cs rM eM
theorem lanM (L : Addr) : ThdM (LanT L) := fun _ _ _ _ _ _ e h => SG.LangAt.mono e h
theorem PtAt.mono {T : Thd} (hT : ThdM T) {H H' : Hp} {t : Addr} {p : Pt} (e : Same H H') (h : PtAt T H t p) : PtAt T H' t p := by
  cases p with
  | pc ms =>
    obtain ⟨p, qs, h1, h2, h3⟩ := h
    exact ⟨p, qs, e _ _ h1, e _ _ h2, Paired.mono h3 fun a b g => e _ _ g⟩
  | sd ks =>
    obtain ⟨p, h1, h2⟩ := h
    exact ⟨p, e _ _ h1, e _ _ h2⟩
  | sl nm cs rM eM =>
    obtain ⟨l, h1, h2⟩ := h
    exact ⟨l, e _ _ h1, hT _ _ _ _ _ _ e h2⟩
def kindOf : Pt → Str
  | .pc _ => "piece"
  | .sd _ => "said"
  | .sl .. => "slot"
def isSl : Pt → Bool
  | .sl .. => true
  | _ => false
def nmOf : Pt → List Nat
  | .sl nm .. => nm
  | _ => []
/-- what lies in a part -/
theorem PtAt.tup {T : Thd} {H : Hp} {t : Addr} {p : Pt} (h : PtAt T H t p) : ∃ x xs, H t = some (.tup (.str (kindOf p) :: x :: xs)) := by
  cases p with
  | pc ms => obtain ⟨p, qs, h1, _⟩ := h; exact ⟨_, _, h1⟩
  | sd ks => obtain ⟨p, h1, _⟩ := h; exact ⟨_, _, h1⟩
  | sl nm cs rM eM => obtain ⟨l, h1, _⟩ := h; exact ⟨_, _, h1⟩
def mksOf : Pt → List (List Nat)
  | .pc ms => ms.filterMap (·.2)
  | .sd ks => ks
  | .sl .. => []
def Mrk (x : List Nat) : Prop := Lets x ∧ 2 ≤ x.length ∧ x.length ≤ 8
def MoOk (m : Mo) : Prop := (97 ≤ m.1 ∧ m.1 < 123) ∧ ∀ x, m.2 = some x → Mrk x
def PtOk : Pt → Prop
  | .pc ms => ms.length ≤ 12 ∧ ∀ m ∈ ms, MoOk m
  | .sd ks => ks.length ≤ 6 ∧ ∀ k ∈ ks, Mrk k
  | .sl nm cs rM eM => Name nm ∧ Abc cs ∧ SG.WfM cs rM eM ∧ rM.length ≤ 3 ∧ SG.Leads cs rM eM 0
/-- no slot stands behind another one without a mark between -/
def sepB : Bool → List Pt → Bool
  | _, [] => true
  | m, p :: ps => if isSl p then m && sepB false ps else sepB (m || decide (mksOf p ≠ [])) ps
structure Tmp (ps : List Pt) : Prop where
  one : 1 ≤ ps.length
  most : ps.length ≤ 12
  ok : ∀ p ∈ ps, PtOk p
  few : (ps.filter isSl).length ≤ 4
  nms : ((ps.filter isSl).map nmOf).Nodup
  sep : sepB true ps = true
end SS
set_option maxRecDepth 100000
set_option maxHeartbeats 4000000
namespace SS
open PySem L2 SR TL ZA
section
variable {P : Program} {w : World} {K : PySem.W.Frag} {mg : Str → Option Value} {base : Heap}
abbrev psIsl : List Str := ["part"]
theorem scIsl : FnScope psIsl psIsl (defScope sIsl) := ⟨rfl, rfl, rfl, by decide +kernel, rfl, by decide +kernel, by decide +kernel⟩
theorem ks00 : decide (V.str "slot" = V.str "slot") = true := by decide +kernel
theorem ks01 : decide (V.str "piece" = V.str "slot") = false := by decide +kernel
theorem ks02 : decide (V.str "said" = V.str "slot") = false := by decide +kernel
theorem ks10 : decide (V.str "slot" = V.str "said") = false := by decide +kernel
theorem ks12 : decide (V.str "said" = V.str "said") = true := by decide +kernel
theorem ks20 : decide (V.str "slot" = V.str "piece") = false := by decide +kernel
theorem ks21 : decide (V.str "piece" = V.str "piece") = true := by decide +kernel
theorem ks22 : decide (V.str "said" = V.str "piece") = false := by decide +kernel
theorem kind_slot (p : Pt) : decide (V.str (kindOf p) = V.str "slot") = isSl p := by
  cases p with
  | pc _ => exact ks01
  | sd _ => exact ks02
  | sl _ _ _ _ => exact ks00
def spIsl (T : Thd) : Sp := fun vs H Q _ => ∃ (t : Addr) (p : Pt), vs = [.ref t] ∧ PtAt T H t p ∧ Q (.bl (isSl p)) H
theorem ok_isl {f : Addr} {fd : FuncData} {T : Thd} (F : Fun K "is_slot" "is_slot" sIsl f fd) : FnOk P w K mg base CX0 1 f fd psIsl (spIsl T) := by
  refine F.ok scIsl (fun vs H Q E h => ?_) (fun cdv A outer s H vs Q E hr h => ?_)
  · obtain ⟨t, p, rfl, _⟩ := h
    rfl
  · obtain ⟨t, p, rfl, h, k⟩ := h
    refine ⟨_, pss_one (ps_ret (pe_cmpR op_eq (pe_ix ix_tup (pv 0) pe_int (fun _ _ => rfl)) pe_str (nomark _))), ?_⟩
    obtain ⟨x, xs, h1⟩ := h.tup
    refine ⟨_, rfl, t, _, _, .str (kindOf p), rfl, rfl, SqT.of h1, atI_of (by decide) rfl, ?_⟩
    refine ⟨rfl, ?_⟩
    rw [kind_slot]
    exact k
end
end SS
set_option maxRecDepth 100000
set_option maxHeartbeats 4000000
namespace SS
open PySem L2 SR TL ZA
section
variable {P : Program} {w : World} {K : PySem.W.Frag} {mg : Str → Option Value} {base : Heap}
structure TTx (K : PySem.W.Frag) (mg : Str → Option Value) (D : Addr) : Prop where
  cl : Cls K D
  nR : NoAttr K D "own_reader"
  nP : NoAttr K D "part_list"
  mgC : mg "Template" = some (.ref D)
end
end SS
set_option maxRecDepth 100000
set_option maxHeartbeats 4000000
namespace SS
open PySem L2 SR TL ZA
/-- the numbers of templates.py -/
structure Cm (mg : Str → Option Value) : Prop where
  parts : ∃ t, mg "MOST_PARTS" = some (.int 12 t)
  slots : ∃ t, mg "MOST_SLOTS" = some (.int 4 t)
  moves : ∃ t, mg "MOST_MOVES" = some (.int 12 t)
  marks : ∃ t, mg "MOST_MARKS_templates" = some (.int 6 t)
theorem leaf_txtL {y : List Nat} (h : Lets y) : Leaf (.str (txt y)) := ⟨by
    show PyData.strOk (txt y) = true
    unfold PyData.strOk
    rw [← Array.all_toList, List.all_eq_true]
    intro c hc
    have hm := h c (by simpa [txt] using hc)
    exact decide_eq_true (by omega), by simp [PyData.depth]⟩
def mkD (ks : List (List Nat)) : PyData := .list (ks.map fun x => .str (txt x))
theorem mkD_ok {ks : List (List Nat)} (h : ∀ x ∈ ks, Lets x) : SeqAt.shaped (mkD ks) = true := leaf_list fun d hd => by
  obtain ⟨x, hx, rfl⟩ := List.mem_map.mp hd
  exact leaf_txtL (h x hx)
theorem mkD_eqv (ks : List (List Nat)) : PyData.eqv (mkD ks) (mkD []) = decide (ks = []) := by
  cases ks with
  | nil => simp [mkD, PyData.eqv, PyData.eqvAll]
  | cons n ns => simp [mkD, PyData.eqv, PyData.eqvAll]
theorem dp_mks {K : PySem.W.Frag} {H : Hp} {y : Addr} {ks : List (List Nat)} (h : SqL K H y (ks.map txtV)) : Dp K H (.ref y) (mkD ks) := .lst h (dp_map (fun x => .str (txt x)) ks)
theorem mksOf_ok {p : Pt} (h : PtOk p) : ∀ x ∈ mksOf p, Mrk x := by
  cases p with
  | pc ms =>
    intro x hx
    obtain ⟨m, hm, e⟩ := List.mem_filterMap.mp hx
    exact (h.2 m hm).2 x e
  | sd ks => exact h.2
  | sl nm cs rM eM => intro x hx; cases hx
section
variable {P : Program} {w : World} {K : PySem.W.Frag} {mg : Str → Option Value} {base : Heap}
theorem scEmp : FnScope ["self"] ["self"] (defScope sEmp) := ⟨rfl, rfl, rfl, by decide +kernel, rfl, by decide +kernel, by decide +kernel⟩
def spEmp (C : Addr) : Sp := fun vs H Q _ => ∃ (x : Addr) (cs : List Nat) (r : List (List Int)) (en ns : List Int), vs = [.ref x] ∧ SG.LangR C H x cs r en ns ∧ ∀ H', Same H H' → Q (.bl (decide (ns = []))) H'
theorem eqv_nil (ns : List Int) : PyData.eqv (.tuple (ns.map .int)) (.tuple []) = decide (ns = []) := by
  cases ns with
  | nil => simp [PyData.eqv, PyData.eqvAll]
  | cons n ns => simp [PyData.eqv, PyData.eqvAll]
theorem ok_emp {f C : Addr} {fd : FuncData} (F : Fun K "is_empty" "Language.is_empty" sEmp f fd) (T : SG.LTx K mg C) : FnOk P w K mg base CX0 1 f fd ["self"] (spEmp C) := by
  refine F.ok scEmp (fun vs H Q E h => ?_) (fun cdv A outer s H vs Q E hr h => ?_)
  · obtain ⟨x, cs, r, en, ns, rfl, _⟩ := h
    rfl
  · obtain ⟨x, cs, r, en, ns, rfl, L, k⟩ := h
    obtain ⟨dx, pt, pm, pl, fs, h1, h2, h3, h4, h5, h6, h7, h8, h9⟩ := L.ex
    refine ⟨_, pss_one (ps_ret (pe_cmpR (op_eqD hr.units) (pe_fld (pv 0) rfl) (pe_tup pa_nil) (nomark _))), ?_⟩
    refine ⟨_, rfl, x, C, dx, _, _, rfl, h1, T.cl, T.nL, h5, by show 0 ≤ sizeLine; decide, fun t ht => ?_⟩
    refine ⟨.tuple (ns.map .int), .tuple [], .tup (SqT.of ((same_new ht) _ _ h8)) (dp_map (fun i => .int i) ns), .tup (SqT.of upd_same) .nil, leaf_tuple ?_, leaf_tuple (fun _ h => nomatch h), ?_⟩
    · rintro d hd
      obtain ⟨i, hi, rfl⟩ := List.mem_map.mp hd
      exact leaf_int i
    · rw [eqv_nil]
      exact k _ (same_new ht)
abbrev psVal : List Str := ["value"]
theorem scPmv : FnScope psVal psVal (defScope sPmv) := ⟨rfl, rfl, rfl, by decide +kernel, rfl, by decide +kernel, by decide +kernel⟩
def spPmv : Sp := fun vs H Q _ => ∃ (p : Addr) (m : Mo), vs = [.ref p] ∧ MoAt H p m ∧ MoOk m ∧ ∀ H', Same H H' → Q (.bl true) H'
theorem mrk_dec {x : List Nat} (h : Mrk x) : decide (1 < x.length ∧ x.length ≤ 8) = true := decide_eq_true ⟨h.2.1, h.2.2⟩
theorem ok_pmv {f : Addr} {fd : FuncData} (F : Fun K "is_piece_move" "is_piece_move" sPmv f fd) (B : Bl mg) (Sg : Cal P w K mg base "is_sign" 2 ["value"] spSign) (Mk : Cal P w K mg base "is_mark" 2 ["value"] spMark) : FnOk P w K mg base CX0 3 f fd psVal spPmv := by
  refine F.ok scPmv (fun vs H Q E h => ?_) (fun cdv A outer s H vs Q E hr h => ?_)
  · obtain ⟨p, m, rfl, _⟩ := h
    rfl
  · obtain ⟨p, m, rfl, hp, ⟨hc, hx⟩, k⟩ := h
    refine ⟨_, pss_cons (ps_if (PW.pt (pw_or (pt_not (pt_val (pe_callB call_isi (by rfl) B.isinstance (by decide +kernel) (pa_cons (pv 0) (pa_cons (pe_bltn (v := .ty "tuple") (by rfl) B.tuple (by decide +kernel) rfl) pa_nil))))) (pw_or (pt_cmpR op_ne (pe_callB call_len_seq (by rfl) B.len boot_len (pa_cons (pv 0) pa_nil)) pe_int (nomark _)) (pw_or1 (pt_not (pt_val (pe_cal Sg hr (pa_cons (pe_ix ix_tup (pv 0) pe_int (fun _ _ => rfl)) pa_nil))))))))
        (pss_one (ps_ret pe_bl)) pss_nil)
      (pss_one (ps_ret (pe_or (pe_cmpR op_isN (pe_ix ix_tup (pv 0) pe_int (fun _ _ => rfl)) pe_non (nomark _)) (pe_one (pe_cal Mk hr (pa_cons (pe_ix ix_tup (pv 0) pe_int (fun _ _ => rfl)) pa_nil)))))), ?_⟩
    have sp := SqT.of (K := K) hp
    refine ⟨_, rfl, _, _, _, _, true, rfl, .ty "tuple", .base (.tup hp), kit_ty (by decide +kernel), _, rfl, ?_⟩
    refine ⟨_, rfl, p, _, rfl, .inr sp, rfl, _, rfl, ?_⟩
    refine ite2 (fun h => absurd h (by simp)) (fun _ => ?_)
    refine ⟨_, rfl, p, _, _, _, rfl, rfl, sp, rfl, [m.1], rfl, fun c hcm => by rw [List.mem_singleton.mp hcm]; exact hc, by show 1 ≤ 1000; decide, fun H1 e1 => ⟨_, rfl, iteF ?_⟩⟩
    have sp1 := SqT.of (K := K) (e1 _ _ hp)
    refine ⟨_, rfl, p, _, _, _, rfl, rfl, sp1, rfl, rfl, _, rfl, ?_⟩
    rw [tell_non]
    cases ho : m.2 with
    | none => exact iteT (k _ e1)
    | some x =>
      have hm := hx x ho
      refine iteF ⟨_, rfl, p, _, _, _, rfl, rfl, sp1, rfl, x, by rw [ho]; rfl, hm.1, by have := hm.2.2; omega, fun H' e => ?_⟩
      rw [mrk_dec hm]
      exact k _ (e1.trans e)
abbrev nAmv : List Str := ["value", "one"]
theorem scAmv : FnScope nAmv psVal (defScope sAmv) := ⟨rfl, rfl, rfl, by decide +kernel, rfl, by decide +kernel, by decide +kernel⟩
def spAmv : Sp := fun vs H Q _ => ∃ (t : Addr) (qs : List Addr) (ms : List Mo), vs = [.ref t] ∧ H t = some (.tup (qs.map .ref)) ∧ Paired (MoAt H) qs ms ∧ ms.length ≤ 12 ∧ (∀ m ∈ ms, MoOk m) ∧ ∀ H', Same H H' → Q (.bl true) H'
theorem ok_amv {f : Addr} {fd : FuncData} (F : Fun K "are_moves" "are_moves" sAmv f fd) (B : Bl mg) (C : Cm mg) (Pm : Cal P w K mg base "is_piece_move" 3 psVal spPmv) : FnOk P w K mg base CX0 4 f fd psVal spAmv := by
  obtain ⟨tm, hm⟩ := C.moves
  refine F.ok scAmv (fun vs H Q E h => ?_) (fun cdv A outer s H vs Q E hr h => ?_)
  · obtain ⟨t, qs, ms, rfl, _⟩ := h
    rfl
  · obtain ⟨t, qs, ms, rfl, ht, hms, hl, ok, k⟩ := h
    have hql : qs.length = ms.length := Paired.length hms
    refine ⟨_, pss_one (ps_ret (pe_and (pe_callB call_isi (by rfl) B.isinstance (by decide +kernel) (pa_cons (pv 0) (pa_cons (pe_bltn (v := .ty "tuple") (by rfl) B.tuple (by decide +kernel) rfl) pa_nil))) (pe_and (pe_cmpR op_le (pe_callB call_len_seq (by rfl) B.len boot_len (pa_cons (pv 0) pa_nil)) (pe_glob (v := .int 12) rfl hm ⟨tm, rfl⟩) (nomark _)) (pe_one (pe_callB (cr_all rfl) (by rfl) B.all (by decide +kernel) (pa_cons (pe_lc (own := [("one", 1)]) (g := gName 1) (tt := tYes) (te := tCall spPmv [] E0 (tCons (tVar 1) tNil)) rfl scAmv.nd (pi_tup (pv 0)) (blkOk_by (by kernel_rfl)) (fun _ _ _ _ _ => pg_name (i := 1) scAmv.nd rfl (.inl rfl)) (fun _ _ _ _ _ => pts_nil) (fun _ _ _ _ _ => pe_cal Pm hr (pa_cons (pv 1) pa_nil))) pa_nil)))))), ?_⟩
    refine ⟨_, rfl, _, _, _, _, true, rfl, .ty "tuple", .base (.tup ht), kit_ty (by decide +kernel), true, rfl, ?_⟩
    refine ⟨_, rfl, t, _, rfl, .inr (SqT.of ht), ?_⟩
    refine ⟨_, _, rfl, rfl, _, rfl, ?_⟩
    rw [show decide ((((qs.map V.ref).length : Nat) : Int) ≤ 12) = true from decide_eq_true (by rw [List.length_map]; omega)]
    refine iteT ⟨_, rfl, t, rfl, ⟨_, SqT.of ht⟩, fun D hD => lc_S (walk_tup (K := K) (a := t) (xs := qs.map V.ref)) hD (by rw [List.length_map]; omega) (fun i acc _ => acc = (List.replicate i true).map V.bl) (fun _ _ _ _ _ _ _ h => h) rfl (fun H' e' => SqT.of (e' _ _ ht)) ?_ ?_⟩
    · rintro i v H3 H3' acc Qt Qf hi e3 hd rfl ⟨rfl, hv⟩ kt kf
      rw [List.getElem?_map] at hv
      obtain ⟨q, hq, rfl⟩ := Option.map_eq_some_iff.mp hv
      obtain ⟨m, hmi, hmo⟩ := paired_getL _ hms hq
      refine ⟨rfl, _, rfl, q, m, rfl, e3 _ _ hmo, ok m (List.mem_of_getElem? hmi), fun H4 e4 => kt _ _ e4 ?_⟩
      rw [List.replicate_succ', List.map_append]
      rfl
    · rintro H1 acc e1 hd rfl
      refine ⟨D, _, rfl, SqL.of hd, ?_⟩
      rw [all_true]
      exact k _ e1
theorem scAmk : FnScope nAmv psVal (defScope sAmk) := ⟨rfl, rfl, rfl, by decide +kernel, rfl, by decide +kernel, by decide +kernel⟩
def spAmk : Sp := fun vs H Q _ => ∃ (t : Addr) (ks : List (List Nat)), vs = [.ref t] ∧ H t = some (.tup (ks.map txtV)) ∧ ks.length ≤ 6 ∧ (∀ k ∈ ks, Mrk k) ∧ ∀ H', Same H H' → Q (.bl true) H'
theorem ok_amk {f : Addr} {fd : FuncData} (F : Fun K "are_marks" "are_marks" sAmk f fd) (B : Bl mg) (C : Cm mg) (Mk : Cal P w K mg base "is_mark" 2 ["value"] spMark) : FnOk P w K mg base CX0 3 f fd psVal spAmk := by
  obtain ⟨tm, hm⟩ := C.marks
  refine F.ok scAmk (fun vs H Q E h => ?_) (fun cdv A outer s H vs Q E hr h => ?_)
  · obtain ⟨t, ks, rfl, _⟩ := h
    rfl
  · obtain ⟨t, ks, rfl, ht, hl, ok, k⟩ := h
    refine ⟨_, pss_one (ps_ret (pe_and (pe_callB call_isi (by rfl) B.isinstance (by decide +kernel) (pa_cons (pv 0) (pa_cons (pe_bltn (v := .ty "tuple") (by rfl) B.tuple (by decide +kernel) rfl) pa_nil))) (pe_and (pe_cmpR op_le (pe_callB call_len_seq (by rfl) B.len boot_len (pa_cons (pv 0) pa_nil)) (pe_glob (v := .int 6) rfl hm ⟨tm, rfl⟩) (nomark _)) (pe_one (pe_callB (cr_all rfl) (by rfl) B.all (by decide +kernel) (pa_cons (pe_lc (own := [("one", 1)]) (g := gName 1) (tt := tYes) (te := tCall spMark [] E0 (tCons (tVar 1) tNil)) rfl scAmk.nd (pi_tup (pv 0)) (blkOk_by (by kernel_rfl)) (fun _ _ _ _ _ => pg_name (i := 1) scAmk.nd rfl (.inl rfl)) (fun _ _ _ _ _ => pts_nil) (fun _ _ _ _ _ => pe_cal Mk hr (pa_cons (pv 1) pa_nil))) pa_nil)))))), ?_⟩
    refine ⟨_, rfl, _, _, _, _, true, rfl, .ty "tuple", .base (.tup ht), kit_ty (by decide +kernel), true, rfl, ?_⟩
    refine ⟨_, rfl, t, _, rfl, .inr (SqT.of ht), ?_⟩
    refine ⟨_, _, rfl, rfl, _, rfl, ?_⟩
    rw [show decide ((((ks.map txtV).length : Nat) : Int) ≤ 6) = true from decide_eq_true (by rw [List.length_map]; omega)]
    refine iteT ⟨_, rfl, t, rfl, ⟨_, SqT.of ht⟩, fun D hD => lc_S (walk_tup (K := K) (a := t) (xs := ks.map txtV)) hD (by rw [List.length_map]; omega) (fun i acc _ => acc = (List.replicate i true).map V.bl) (fun _ _ _ _ _ _ _ h => h) rfl (fun H' e' => SqT.of (e' _ _ ht)) ?_ ?_⟩
    · rintro i v H3 H3' acc Qt Qf hi e3 hd rfl ⟨rfl, hv⟩ kt kf
      rw [List.getElem?_map] at hv
      obtain ⟨m, hq, rfl⟩ := Option.map_eq_some_iff.mp hv
      have hmk := ok m (List.mem_of_getElem? hq)
      refine ⟨rfl, _, rfl, m, rfl, hmk.1, by have := hmk.2.2; omega, fun H4 e4 => ?_⟩
      rw [mrk_dec hmk]
      refine kt _ _ e4 ?_
      rw [List.replicate_succ', List.map_append]
      rfl
    · rintro H1 acc e1 hd rfl
      refine ⟨D, _, rfl, SqL.of hd, ?_⟩
      rw [all_true]
      exact k _ e1
theorem scPrt : FnScope psVal psVal (defScope sPrt) := ⟨rfl, rfl, rfl, by decide +kernel, rfl, by decide +kernel, by decide +kernel⟩
def spPrt (L : Addr) : Sp := fun vs H Q _ => ∃ (t : Addr) (p : Pt), vs = [.ref t] ∧ PtAt (LanT L) H t p ∧ PtOk p ∧ ∀ H', Same H H' → Q (.bl true) H'
theorem ok_prt {f L : Addr} {fd : FuncData} (F : Fun K "is_part" "is_part" sPrt f fd) (B : Bl mg) (TL : SG.LTx K mg L) (Y : SG.LTy K L) (Sg : Cal P w K mg base "is_sign" 2 ["value"] spSign) (Mk : Cal P w K mg base "is_mark" 2 ["value"] spMark) (Am : Cal P w K mg base "are_moves" 4 psVal spAmv) (Ak : Cal P w K mg base "are_marks" 3 psVal spAmk) : FnOk P w K mg base CX0 5 f fd psVal (spPrt L) := by
  refine F.ok scPrt (fun vs H Q E h => ?_) (fun cdv A outer s H vs Q E hr h => ?_)
  · obtain ⟨t, p, rfl, _⟩ := h
    rfl
  · obtain ⟨t, p, rfl, hp, ok, k⟩ := h
    have hr2 := hr.mono (by decide : 2 ≤ 4)
    have hr3 := hr.mono (by decide : 3 ≤ 4)
    refine ⟨_, pss_cons (ps_if (PW.pt (pw_or (pt_not (pt_val (pe_callB call_isi (by rfl) B.isinstance (by decide +kernel) (pa_cons (pv 0) (pa_cons (pe_bltn (v := .ty "tuple") (by rfl) B.tuple (by decide +kernel) rfl) pa_nil))))) (pw_or (pt_cmpR op_notIn_seq (pe_callB call_len_seq (by rfl) B.len boot_len (pa_cons (pv 0) pa_nil)) (pe_tup (pa_cons pe_int (pa_cons pe_int pa_nil))) (by rfl)) (pw_or1 (pt_not (pt_val (pe_callB call_isi (by rfl) B.isinstance (by decide +kernel) (pa_cons (pe_ix ix_tup (pv 0) pe_int (fun _ _ => rfl)) (pa_cons (pe_bltn (v := .ty "str") (by rfl) B.str (by decide +kernel) rfl) pa_nil)))))))))
        (pss_one (ps_ret pe_bl)) pss_nil)
      (pss_cons (ps_if (pt_cmpR op_eq (pe_callB call_len_seq (by rfl) B.len boot_len (pa_cons (pv 0) pa_nil)) pe_int (nomark _))
        (pss_one (ps_ret (pe_and (pe_cmpR op_eq (pe_ix ix_tup (pv 0) pe_int (fun _ _ => rfl)) pe_str (nomark _)) (pe_and (pe_or (pe_cal Sg hr2 (pa_cons (pe_ix ix_tup (pv 0) pe_int (fun _ _ => rfl)) pa_nil)) (pe_one (pe_cal Mk hr2 (pa_cons (pe_ix ix_tup (pv 0) pe_int (fun _ _ => rfl)) pa_nil)))) (pe_one (pe_callB call_isi (by rfl) B.isinstance (by decide +kernel) (pa_cons (pe_ix ix_tup (pv 0) pe_int (fun _ _ => rfl)) (pa_cons (pe_glob (v := .ref L) rfl TL.mgC rfl) pa_nil)))))))) pss_nil)
      (pss_one (ps_ret (pe_or (pe_and (pe_cmpR op_eq (pe_ix ix_tup (pv 0) pe_int (fun _ _ => rfl)) pe_str (nomark _)) (pe_one (pe_cal Am hr (pa_cons (pe_ix ix_tup (pv 0) pe_int (fun _ _ => rfl)) pa_nil)))) (pe_one (pe_and (pe_cmpR op_eq (pe_ix ix_tup (pv 0) pe_int (fun _ _ => rfl)) pe_str (nomark _)) (pe_one (pe_cal Ak hr3 (pa_cons (pe_ix ix_tup (pv 0) pe_int (fun _ _ => rfl)) pa_nil))))))))), ?_⟩
    cases p with
    | sd ks =>
      obtain ⟨b, h1, h2⟩ := hp
      refine ⟨_, rfl, _, _, _, _, true, rfl, .ty "tuple", .base (.tup h1), kit_ty (by decide +kernel), _, rfl, ?_⟩
      refine ⟨_, rfl, t, _, rfl, .inr (SqT.of h1), (by show 2 ≤ sizeLine; decide), fun T hT => ?_⟩
      have eT := same_new (o := .tup [.int 2, .int 3]) hT
      have sp := SqT.of (K := K) (eT _ _ h1)
      refine ⟨T, _, rfl, .inr (SqT.of upd_same), rfl, rfl, _, rfl, ?_⟩
      refine iteF ?_
      refine ⟨_, rfl, t, _, _, _, rfl, rfl, sp, rfl, _, _, _, _, true, rfl, .ty "str", .base (.str _), kit_ty (by decide +kernel), _, rfl, ?_⟩
      refine iteF ⟨_, rfl, t, _, rfl, .inr sp, rfl, _, rfl, ?_⟩
      refine iteF ⟨_, rfl, t, _, _, _, rfl, rfl, sp, rfl, rfl, _, rfl, ?_⟩
      rw [ks22]
      refine iteF ⟨_, rfl, iteF ⟨_, rfl, t, _, _, _, rfl, rfl, sp, rfl, rfl, _, rfl, ?_⟩⟩
      rw [ks12]
      refine iteT ⟨_, rfl, t, _, _, _, rfl, rfl, sp, rfl, b, ks, rfl, eT _ _ h2, ok.1, ok.2, fun H1 e1 => k _ (eT.trans e1)⟩
    | pc ms =>
      obtain ⟨b, qs, h1, h2, h3⟩ := hp
      refine ⟨_, rfl, _, _, _, _, true, rfl, .ty "tuple", .base (.tup h1), kit_ty (by decide +kernel), _, rfl, ?_⟩
      refine ⟨_, rfl, t, _, rfl, .inr (SqT.of h1), (by show 2 ≤ sizeLine; decide), fun T hT => ?_⟩
      have eT := same_new (o := .tup [.int 2, .int 3]) hT
      have sp := SqT.of (K := K) (eT _ _ h1)
      refine ⟨T, _, rfl, .inr (SqT.of upd_same), rfl, rfl, _, rfl, ?_⟩
      refine iteF ?_
      refine ⟨_, rfl, t, _, _, _, rfl, rfl, sp, rfl, _, _, _, _, true, rfl, .ty "str", .base (.str _), kit_ty (by decide +kernel), _, rfl, ?_⟩
      refine iteF ⟨_, rfl, t, _, rfl, .inr sp, rfl, _, rfl, ?_⟩
      refine iteF ⟨_, rfl, t, _, _, _, rfl, rfl, sp, rfl, rfl, _, rfl, ?_⟩
      rw [ks21]
      refine iteT ⟨_, rfl, t, _, _, _, rfl, rfl, sp, rfl, b, qs, ms, rfl, eT _ _ h2, Paired.mono h3 fun a b g => eT _ _ g, ok.1, ok.2, fun H1 e1 => ⟨_, rfl, iteT (k _ (eT.trans e1))⟩⟩
    | sl nm cs rM eM =>
      obtain ⟨l, h1, h2⟩ := hp
      obtain ⟨⟨n1, n2, n3⟩, _⟩ := ok
      refine ⟨_, rfl, _, _, _, _, true, rfl, .ty "tuple", .base (.tup h1), kit_ty (by decide +kernel), _, rfl, ?_⟩
      refine ⟨_, rfl, t, _, rfl, .inr (SqT.of h1), (by show 2 ≤ sizeLine; decide), fun T hT => ?_⟩
      have eT := same_new (o := .tup [.int 2, .int 3]) hT
      have sp := SqT.of (K := K) (eT _ _ h1)
      refine ⟨T, _, rfl, .inr (SqT.of upd_same), rfl, rfl, _, rfl, ?_⟩
      refine iteF ?_
      refine ⟨_, rfl, t, _, _, _, rfl, rfl, sp, rfl, _, _, _, _, true, rfl, .ty "str", .base (.str _), kit_ty (by decide +kernel), _, rfl, ?_⟩
      refine iteF ⟨_, rfl, t, _, rfl, .inr sp, rfl, _, rfl, ?_⟩
      refine iteT ⟨_, rfl, t, _, _, _, rfl, rfl, sp, rfl, rfl, _, rfl, ?_⟩
      rw [ks00]
      have fin : ∀ (H1 : Hp) (Q' : VK), Same (upd H T (.tup [.int 2, .int 3])) H1 → (∀ H', Same H H' → Q' (.bl true) H') → tCB (rIsi K) (tCons (tOp (rIxT K) (tVar 0) (tC (.int 2))) (tCons (tC (.ref L)) tNil)) (L2.start psVal [V.ref t]) H1 Q' := fun H1 Q' e1 k' => by
        obtain ⟨rw', en', ns, LR, _⟩ := SG.LangAt.ex (SG.LangAt.mono (eT.trans e1) h2)
        obtain ⟨dx, pt, pm, pl, fs, g1, _⟩ := LR.ex
        exact ⟨_, rfl, t, _, _, .ref l, rfl, rfl, SqT.of (e1 _ _ (eT _ _ h1)), rfl, _, _, _, _, true, rfl, .own L, .base (.ins g1 TL.cl Y.cls Y.getc Y.tak Y.mro), Y.kit, k' _ (eT.trans e1)⟩
      refine iteT ⟨_, rfl, t, _, _, _, rfl, rfl, sp, rfl, nm, rfl, n1, by omega, fun H1 e1 => ⟨_, rfl, ?_⟩⟩
      by_cases hn : nm.length = 1
      · rw [decide_eq_true hn]
        refine iteT ⟨_, rfl, iteT ?_⟩
        exact fin H1 _ e1 k
      · rw [decide_eq_false hn]
        refine iteF ⟨_, rfl, t, _, _, _, rfl, rfl, SqT.of (e1 _ _ (eT _ _ h1)), rfl, nm, rfl, n1, by omega, fun H2 e2 => ?_⟩
        rw [show decide (1 < nm.length ∧ nm.length ≤ 8) = true from decide_eq_true (by omega)]
        refine ⟨_, rfl, iteT ?_⟩
        exact fin H2 _ (e1.trans e2) k
abbrev nMof : List Str := ["part", "told", "sign"]
theorem scMof : FnScope nMof psIsl (defScope sMof) := ⟨rfl, rfl, rfl, by decide +kernel, rfl, by decide +kernel, by decide +kernel⟩
def spMof (T : Thd) : Sp := fun vs H Q _ => ∃ (t : Addr) (p : Pt), vs = [.ref t] ∧ PtAt T H t p ∧ PtOk p ∧ ∀ (y : Addr) (H' : Hp), H y = none → Same H H' → H' y = some (.lst ((mksOf p).map txtV)) → Q (.ref y) H'
theorem ok_mof {f : Addr} {fd : FuncData} {T : Thd} (F : Fun K "marks_of" "marks_of" sMof f fd) (B : Bl mg) : FnOk P w K mg base CX0 1 f fd psIsl (spMof T) := by
  refine F.ok scMof (fun vs H Q E h => ?_) (fun cdv A outer s H vs Q E hr h => ?_)
  · obtain ⟨t, p, rfl, _⟩ := h
    rfl
  · obtain ⟨t, p, rfl, hp, ok, k⟩ := h
    refine ⟨_, pss_cons (ps_if (pt_cmpR op_eq (pe_ix ix_tup (pv 0) pe_int (fun _ _ => rfl)) pe_str (nomark _))
        (pss_one (ps_ret (pe_lc (own := [("sign", 2), ("told", 1)]) (g := gTup K 2 (gCons (gName 2) (gCons (gName 1) gNil))) (tt := tTest (tOp rNotN (tVar 1) (tC .non))) (te := tVar 1) rfl scMof.nd (pi_tup (pe_ix ix_tup (pv 0) pe_int (fun _ _ => rfl))) (blkOk_by (by kernel_rfl)) (fun _ _ _ _ _ => pg_tup rfl (pgs_cons (pg_name (i := 2) scMof.nd rfl (.inl rfl)) (pgs_cons (pg_name (i := 1) scMof.nd rfl (.inl rfl)) pgs_nil))) (fun _ _ _ _ _ => pts_one (pt_cmpR op_notN1 (pv 1) pe_non (nomark _))) (fun _ _ _ _ _ => pv 1)))) pss_nil)
      (pss_one (ps_ret (pe_ifExp (pt_cmpR op_eq (pe_ix ix_tup (pv 0) pe_int (fun _ _ => rfl)) pe_str (nomark _)) (pe_callTy call_list_of (by rfl) B.list (by decide +kernel) (pa_cons (pe_ix ix_tup (pv 0) pe_int (fun _ _ => rfl)) pa_nil)) (pe_lst pa_nil)))), ?_⟩
    cases p with
    | pc ms =>
      obtain ⟨b, qs, h1, h2, h3⟩ := hp
      have hql : qs.length = ms.length := Paired.length h3
      have hl := ok.1
      refine ⟨_, rfl, t, _, _, _, rfl, rfl, SqT.of h1, rfl, rfl, _, rfl, ?_⟩
      rw [ks21]
      refine iteT ⟨_, rfl, t, _, _, _, rfl, rfl, SqT.of h1, rfl, b, rfl, ⟨_, SqT.of h2⟩, fun D hD => lc_S (walk_tup (K := K) (a := b) (xs := qs.map V.ref)) hD (by rw [List.length_map]; omega) (fun i acc _ => acc = ((ms.take i).filterMap (·.2)).map txtV) (fun _ _ _ _ _ _ _ h => h) rfl (fun H' e' => SqT.of (e' _ _ h2)) ?_ ?_⟩
      · rintro i v H3 H3' acc Qt Qf hi e3 hd rfl ⟨rfl, hv⟩ kt kf
        rw [List.getElem?_map] at hv
        obtain ⟨q, hq, rfl⟩ := Option.map_eq_some_iff.mp hv
        obtain ⟨m, hmi, hmo⟩ := paired_getL _ h3 hq
        refine ⟨q, _, rfl, SqT.of (e3 _ _ hmo), rfl, _, _, rfl, _, _, rfl, rfl, rfl, _, rfl, rfl, ?_⟩
        have hcut : (ms.take (i + 1)).filterMap (·.2) = (ms.take i).filterMap (·.2) ++ m.2.toList := by
          rw [List.take_add_one, hmi, List.filterMap_append]
          cases m with
          | mk c o => cases o <;> rfl
        cases ho : m.2 with
        | none =>
          refine ⟨_, rfl, iteF (kf _ (Same.refl _) ?_)⟩
          rw [hcut, ho]
          simp
        | some x =>
          refine ⟨_, rfl, iteT ⟨_, rfl, kt _ _ (Same.refl _) ?_⟩⟩
          rw [hcut, ho, List.map_append]
          rfl
      · rintro H1 acc e1 hd rfl
        rw [List.length_map, hql, List.take_length] at hd
        exact k D H1 hD e1 hd
    | sd ks =>
      obtain ⟨b, h1, h2⟩ := hp
      refine ⟨_, rfl, t, _, _, _, rfl, rfl, SqT.of h1, rfl, rfl, _, rfl, ?_⟩
      rw [ks22]
      refine iteF ⟨_, rfl, t, _, _, _, rfl, rfl, SqT.of h1, rfl, rfl, _, rfl, ?_⟩
      rw [ks12]
      refine iteT ⟨_, rfl, t, _, _, _, rfl, rfl, SqT.of h1, rfl, b, _, rfl, .inr (SqT.of h2), fun y hy => k y _ hy (same_new hy) upd_same⟩
    | sl nm cs rM eM =>
      obtain ⟨l, h1, h2⟩ := hp
      refine ⟨_, rfl, t, _, _, _, rfl, rfl, SqT.of h1, rfl, rfl, _, rfl, ?_⟩
      rw [ks20]
      refine iteF ⟨_, rfl, t, _, _, _, rfl, rfl, SqT.of h1, rfl, rfl, _, rfl, ?_⟩
      rw [ks10]
      refine iteF ⟨by show 0 ≤ sizeLine; decide, fun y hy => k y _ hy (same_new hy) upd_same⟩
abbrev nFnp : List Str := ["parts", "index", "part"]
abbrev psPts : List Str := ["parts"]
theorem scFnp : FnScope nFnp psPts (defScope sFnp) := ⟨rfl, rfl, rfl, by decide +kernel, rfl, by decide +kernel, by decide +kernel⟩
/-- parts in a list -/
def PtsL (L : Addr) (H : Hp) (a : Addr) (ps : List Pt) : Prop := ∃ ts : List Addr, H a = some (.lst (ts.map .ref)) ∧ Paired (PtAt (LanT L) H) ts ps
theorem PtsL.mono {L : Addr} {H H' : Hp} {a : Addr} {ps : List Pt} (e : Same H H') (h : PtsL L H a ps) : PtsL L H' a ps := by
  obtain ⟨ts, h1, h2⟩ := h
  exact ⟨ts, e _ _ h1, Paired.mono h2 fun a b g => g.mono (lanM L) e⟩
def spFnp (L : Addr) : Sp := fun vs H Q _ => ∃ (a : Addr) (ps : List Pt), vs = [.ref a] ∧ PtsL L H a ps ∧ ps.length ≤ 12 ∧ (∀ p ∈ ps, PtOk p) ∧ ∀ H', Same H H' → Q .non H'
theorem ok_fnp {f L : Addr} {fd : FuncData} (F : Fun K "first_not_part" "first_not_part" sFnp f fd) (B : Bl mg) (Ip : Cal P w K mg base "is_part" 5 psVal (spPrt L)) : FnOk P w K mg base CX0 6 f fd psPts (spFnp L) := by
  refine F.ok scFnp (fun vs H Q E h => ?_) (fun cdv A outer s H vs Q E hr h => ?_)
  · obtain ⟨a, ps, rfl, _⟩ := h
    rfl
  · obtain ⟨a, ps, rfl, ⟨ts, h1, h2⟩, hl, ok, k⟩ := h
    have htl : ts.length = ps.length := Paired.length h2
    refine ⟨_, pss_cons (ps_for PassesOwn.never rfl (pi_enum (by rfl) B.enumerate (pa_cons (pv 0) pa_nil)) (pg_tup rfl (pgs_cons (pg_name (i := 1) scFnp.nd rfl (.inl rfl)) (pgs_cons (pg_name (i := 2) scFnp.nd rfl (.inl rfl)) pgs_nil)))
        (pss_one (ps_if (pt_not (pt_val (pe_cal Ip hr (pa_cons (pv 2) pa_nil)))) (pss_one (ps_ret (pv 1))) pss_nil)))
      (pss_one (ps_ret pe_non)), ?_⟩
    refine ⟨_, rfl, a, _, rfl, SqL.of h1, for_it (walk_enum (K := K) (a := a) (xs := ts.map V.ref)) (fun i σ H' => Same H H' ∧ ∃ (a1 a2 : Option V), σ = [some (.ref a), a1, a2]) ⟨Same.refl _, none, none, rfl⟩ (fun i σ H' _ q => SqL.of (q.1 _ _ h1)) ?_ ?_⟩
    · rintro i v σ H2 H2' hi ⟨e1, a1, a2, rfl⟩ ⟨T, x, y, rfl, hT, rfl, hx, hy⟩
      cases hx
      dsimp only at hy
      rw [List.getElem?_map] at hy
      obtain ⟨t, ht, rfl⟩ := Option.map_eq_some_iff.mp hy
      obtain ⟨p, hp, hpt⟩ := paired_getL _ h2 ht
      have eT := same_new (o := .tup [.int (i : Nat), .ref t]) hT
      refine ⟨T, _, rfl, SqT.of upd_same, rfl, _, _, rfl, _, _, rfl, rfl, ?_⟩
      refine ⟨_, rfl, t, p, rfl, hpt.mono (lanM L) (e1.trans eT), ok p (List.mem_of_getElem? hp), fun H3 e3 => ⟨_, rfl, iteF ⟨(e1.trans eT).trans e3, _, _, rfl⟩⟩⟩
    · rintro σ H2 ⟨e1, a1, a2, rfl⟩
      exact k _ e1
abbrev nFum : List Str := ["parts", "is_marked", "index", "part"]
theorem scFum : FnScope nFum psPts (defScope sFum) := ⟨rfl, rfl, rfl, by decide +kernel, rfl, by decide +kernel, by decide +kernel⟩
def spFum (L : Addr) : Sp := fun vs H Q _ => ∃ (a : Addr) (ps : List Pt), vs = [.ref a] ∧ PtsL L H a ps ∧ ps.length ≤ 12 ∧ (∀ p ∈ ps, PtOk p) ∧ sepB true ps = true ∧ ∀ H', Same H H' → Q .non H'
theorem ok_fum {f L : Addr} {fd : FuncData} (F : Fun K "first_unmarked" "first_unmarked" sFum f fd) (B : Bl mg) (Is : Cal P w K mg base "is_slot" 1 psIsl (spIsl (LanT L))) (Mo : Cal P w K mg base "marks_of" 1 psIsl (spMof (LanT L))) : FnOk P w K mg base CX0 2 f fd psPts (spFum L) := by
  refine F.ok scFum (fun vs H Q E h => ?_) (fun cdv A outer s H vs Q E hr h => ?_)
  · obtain ⟨a, ps, rfl, _⟩ := h
    rfl
  · obtain ⟨a, ps, rfl, ⟨ts, h1, h2⟩, hl, ok, hsep, k⟩ := h
    have htl : ts.length = ps.length := Paired.length h2
    refine ⟨_, pss_cons (ps_set (i := 1) scFum.nd rfl (.inl rfl) pe_bl)
      (pss_cons (ps_for PassesOwn.never rfl (pi_enum (by rfl) B.enumerate (pa_cons (pv 0) pa_nil)) (pg_tup rfl (pgs_cons (pg_name (i := 2) scFum.nd rfl (.inl rfl)) (pgs_cons (pg_name (i := 3) scFum.nd rfl (.inl rfl)) pgs_nil)))
        (pss_one (ps_if (pt_val (pe_cal Is hr (pa_cons (pv 3) pa_nil)))
          (pss_cons (ps_if (pt_not (pt_val (pv 1))) (pss_one (ps_ret (pv 2))) pss_nil)
          (pss_one (ps_set (i := 1) scFum.nd rfl (.inl rfl) pe_bl)))
          (pss_one (ps_if (pt_cmpR (op_neD hr.units) (pe_cal Mo hr (pa_cons (pv 3) pa_nil)) (pe_lst pa_nil) (nomark _)) (pss_one (ps_set (i := 1) scFum.nd rfl (.inl rfl) pe_bl)) pss_nil)))))
      (pss_one (ps_ret pe_non))), ?_⟩
    refine ⟨_, rfl, a, _, rfl, SqL.of h1, for_it (walk_enum (K := K) (a := a) (xs := ts.map V.ref)) (fun i σ H' => Same H H' ∧ ∃ (m : Bool) (a1 a2 : Option V), σ = [some (.ref a), some (.bl m), a1, a2] ∧ sepB m (ps.drop i) = true) ⟨Same.refl _, true, none, none, rfl, hsep⟩ (fun i σ H' _ q => SqL.of (q.1 _ _ h1)) ?_ ?_⟩
    · rintro i v σ H2 H2' hi ⟨e1, m, a1, a2, rfl, hs⟩ ⟨T, x, y, rfl, hT, rfl, hx, hy⟩
      cases hx
      dsimp only at hy
      rw [List.getElem?_map] at hy
      obtain ⟨t, ht, rfl⟩ := Option.map_eq_some_iff.mp hy
      obtain ⟨p, hp, hpt⟩ := paired_getL _ h2 ht
      have okp := ok p (List.mem_of_getElem? hp)
      have eT := same_new (o := .tup [.int (i : Nat), .ref t]) hT
      have hpt' := hpt.mono (lanM L) (e1.trans eT)
      obtain ⟨hip, hpi⟩ := List.getElem?_eq_some_iff.mp hp
      have hdrop : ps.drop i = p :: ps.drop (i + 1) := by rw [List.drop_eq_getElem_cons hip, hpi]
      rw [hdrop, sepB] at hs
      refine ⟨T, _, rfl, SqT.of upd_same, rfl, _, _, rfl, _, _, rfl, rfl, ?_⟩
      refine ⟨_, rfl, t, p, rfl, hpt', _, rfl, ?_⟩
      cases hsl : isSl p with
      | true =>
        rw [hsl, if_pos rfl, Bool.and_eq_true] at hs
        obtain ⟨rfl, hs2⟩ := hs
        refine iteT ⟨_, rfl, _, rfl, ?_⟩
        refine iteF ⟨e1.trans eT, false, _, _, rfl, hs2⟩
      | false =>
        rw [hsl, if_neg (by decide)] at hs
        refine iteF ⟨_, rfl, t, p, rfl, hpt', okp, fun y H3 hy3 e3 h3 => ?_⟩
        refine ⟨by show 0 ≤ sizeLine; decide, fun z hz => ?_⟩
        have e4 := same_new (o := .lst []) hz
        refine ⟨mkD (mksOf p), mkD [], dp_mks (SqL.of (e4 _ _ h3)), dp_mks (SqL.of upd_same), mkD_ok fun x hx => (mksOf_ok okp x hx).1, mkD_ok fun x hx => (nomatch hx), _, rfl, ?_⟩
        rw [mkD_eqv]
        cases hm : decide (mksOf p = []) with
        | true =>
          refine iteF ⟨((e1.trans eT).trans e3).trans e4, m, _, _, rfl, ?_⟩
          rwa [show decide (mksOf p ≠ []) = false from decide_eq_false fun z => z (of_decide_eq_true hm), Bool.or_false] at hs
        | false =>
          refine iteT ⟨((e1.trans eT).trans e3).trans e4, true, _, _, rfl, ?_⟩
          rwa [show decide (mksOf p ≠ []) = true from decide_eq_true (of_decide_eq_false hm), Bool.or_true] at hs
    · rintro σ H2 ⟨e1, m, a1, a2, rfl, hs⟩
      exact k _ e1
abbrev nSpr : List Str := ["parts", "names", "unmarked", "index", "part"]
theorem scSpr : FnScope nSpr psPts (defScope sSpr) := ⟨rfl, rfl, rfl, by decide +kernel, rfl, by decide +kernel, by decide +kernel⟩
def spSpr (L : Addr) : Sp := fun vs H Q _ => ∃ (a : Addr) (ps : List Pt), vs = [.ref a] ∧ PtsL L H a ps ∧ Tmp ps ∧ ∀ H', Same H H' → Q .non H'
theorem ok_spr {f L : Addr} {fd : FuncData} (F : Fun K "slot_problem" "slot_problem" sSpr f fd) (B : Bl mg) (TL : SG.LTx K mg L) (Is : Cal P w K mg base "is_slot" 1 psIsl (spIsl (LanT L))) (Fu : Cal P w K mg base "first_unmarked" 2 psPts (spFum L)) (Em : ∃ p f fd, FnOk P w K mg base CX0 1 f fd ["self"] (spEmp L) ∧ PropOf K L "is_empty" p f ∧ Binds K fd ["self"] []) : FnOk P w K mg base CX0 3 f fd psPts (spSpr L) := by
  obtain ⟨pE, fE, dE, GE, mE, bE⟩ := Em
  refine F.ok scSpr (fun vs H Q E h => ?_) (fun cdv A outer s H vs Q E hr h => ?_)
  · obtain ⟨a, ps, rfl, _⟩ := h
    rfl
  · obtain ⟨a, ps, rfl, hpts, hT, k⟩ := h
    obtain ⟨ts, h1, h2⟩ := id hpts
    have htl : ts.length = ps.length := Paired.length h2
    have hr1 := hr.mono (by decide : 1 ≤ 2)
    refine ⟨_, pss_cons (ps_set (i := 1) scSpr.nd rfl (.inl rfl) (pe_lst pa_nil))
      (pss_cons (ps_set (i := 2) scSpr.nd rfl (.inl rfl) (pe_cal Fu hr (pa_cons (pv 0) pa_nil)))
      (pss_cons (ps_for PassesOwn.never rfl (pi_enum (by rfl) B.enumerate (pa_cons (pv 0) pa_nil)) (pg_tup rfl (pgs_cons (pg_name (i := 3) scSpr.nd rfl (.inl rfl)) (pgs_cons (pg_name (i := 4) scSpr.nd rfl (.inl rfl)) pgs_nil)))
        (pss_one (ps_if (pt_val (pe_cal Is hr1 (pa_cons (pv 4) pa_nil)))
          (pss_cons (ps_if (pt_cmpR op_in_seq (pe_ix ix_tup (pv 4) pe_int (fun _ _ => rfl)) (pv 1) (by rfl)) (pss_one (ps_ret (pe_tup (pa_cons pe_str (pa_cons (pv 3) pa_nil))))) pss_nil)
          (pss_cons (ps_if (pt_val (pe_prop (pe_ix ix_tup (pv 4) pe_int (fun _ _ => rfl)) TL.cl mE GE hr bE .nil pass0 (by rfl))) (pss_one (ps_ret (pe_tup (pa_cons pe_str (pa_cons (pv 3) pa_nil))))) pss_nil)
          (pss_cons (ps_if (pt_cmpR op_eq (pv 3) (pv 2) (nomark _)) (pss_one (ps_ret (pe_tup (pa_cons pe_str (pa_cons (pv 3) pa_nil))))) pss_nil)
          (pss_one (ps_expr (pe_bm PySem.F.plainAttrs_list PySem.F.slot_list_append PySem.F.type_list_append mt_append (pv 1) (pa_cons (pe_ix ix_tup (pv 4) pe_int (fun _ _ => rfl)) pa_nil)))))))
          pss_nil)))
      (pss_one (ps_ret pe_non)))), ?_⟩
    refine ⟨by show 0 ≤ sizeLine; decide, fun l hl => ?_⟩
    have e0 : Same H (upd H l (.lst [])) := same_new hl
    have h0 := upd_same (H := H) (a := l) (o := .lst [])
    generalize (upd H l (.lst [])) = H1 at e0 h0 ⊢
    refine ⟨_, rfl, a, ps, rfl, hpts.mono e0, hT.most, hT.ok, hT.sep, fun H2 e2 => ?_⟩
    have e02 := e0.trans e2
    refine ⟨_, rfl, a, _, rfl, SqL.of (e02 _ _ h1), for_it (walk_enum (K := K) (a := a) (xs := ts.map V.ref)) (fun i σ H' => Same H H' ∧ ∃ (a3 a4 : Option V), σ = [some (.ref a), some (.ref l), some .non, a3, a4] ∧ H' l = some (.lst ((((ps.take i).filter isSl).map nmOf).map txtV))) ⟨e02, none, none, rfl, e2 _ _ h0⟩ (fun i σ H' _ q => SqL.of (q.1 _ _ h1)) ?_ ?_⟩
    · rintro i v σ H3 H3' hi ⟨e1, a3, a4, rfl, hn⟩ ⟨T, x, y, rfl, hT', rfl, hx, hy⟩
      cases hx
      dsimp only at hy
      rw [List.getElem?_map] at hy
      obtain ⟨t, ht, rfl⟩ := Option.map_eq_some_iff.mp hy
      obtain ⟨p, hp, hpt⟩ := paired_getL _ h2 ht
      have okp := hT.ok p (List.mem_of_getElem? hp)
      have eT := same_new (o := .tup [.int (i : Nat), .ref t]) hT'
      have hpt' := hpt.mono (lanM L) (e1.trans eT)
      have hn' := eT _ _ hn
      refine ⟨T, _, rfl, SqT.of upd_same, rfl, _, _, rfl, _, _, rfl, rfl, ?_⟩
      refine ⟨_, rfl, t, p, rfl, hpt', _, rfl, ?_⟩
      cases p with
      | pc ms =>
        refine iteF ⟨e1.trans eT, _, _, rfl, ?_⟩
        rw [List.take_add_one, hp, List.filter_append]
        rw [hn']
        simp [isSl]
      | sd ks =>
        refine iteF ⟨e1.trans eT, _, _, rfl, ?_⟩
        rw [List.take_add_one, hp, List.filter_append]
        rw [hn']
        simp [isSl]
      | sl nm cs rM eM =>
        obtain ⟨lg, g1, g2⟩ := hpt'
        refine iteT ⟨_, rfl, t, _, _, _, rfl, rfl, SqT.of g1, rfl, _, rfl, l, _, rfl, .inl (SqL.of hn'), rfl, flat_txts _, _, rfl, ?_⟩
        obtain ⟨hip, hpi⟩ := List.getElem?_eq_some_iff.mp hp
        have hall := hT.nms
        have hsplit : ps = ps.take i ++ (.sl nm cs rM eM :: ps.drop (i + 1)) := by
          rw [← hpi, ← List.drop_eq_getElem_cons hip, List.take_append_drop]
        have hnot : nm ∉ ((ps.take i).filter isSl).map nmOf := by
          rw [hsplit, List.filter_append, List.map_append] at hall
          intro z
          exact (List.nodup_append.mp hall).2.2 nm z nm (by rw [List.filter_cons_of_pos (by rfl)]; exact List.mem_cons_self) rfl
        have hlen : (((ps.take i).filter isSl).map nmOf).length ≤ 12 := by
          rw [List.length_map]
          refine Nat.le_trans (List.length_filter_le _ _) ?_
          rw [List.length_take]
          have := hT.most
          omega
        rw [inV_txts, decide_eq_false hnot]
        obtain ⟨rw', en', ns, LR, W', al, least, lv, lvr⟩ := SG.LangAt.ex g2
        obtain ⟨dx, pt, pm, pl, fs, f1, _⟩ := LR.ex
        have hne : ns ≠ [] := fun z => by
          obtain ⟨x, hx, hm⟩ := okp.2.2.2.2
          have := (lv 0 (Int.le_refl _) (by have := W'.one; omega)).mpr ⟨x, hx, (al.1 x hx).mpr hm⟩
          rw [z] at this
          cases this
        refine iteF ⟨_, rfl, t, _, _, _, rfl, rfl, SqT.of g1, rfl, lg, dx, fs, rfl, f1, lg, cs, rw', en', ns, rfl, LR, fun H5 e5 => ⟨_, rfl, ?_⟩⟩
        rw [decide_eq_false hne]
        refine iteF ⟨_, rfl, _, rfl, rfl, _, rfl, ?_⟩
        refine iteF ?_
        have hn5 := e5 _ _ hn'
        refine ⟨_, rfl, .inl ⟨rfl, _, SqL.of hn5⟩, _, rfl, t, _, _, _, rfl, rfl, SqT.of (e5 _ _ g1), rfl, l, _, _, rfl, rfl, hn5, (by rw [List.length_map, sizeLine_eq]; omega), ?_⟩
        refine ⟨same_upd ((e1.trans eT).trans e5) hl, _, _, rfl, ?_⟩
        rw [upd_same, List.take_add_one, hp, List.filter_append, List.map_append, List.map_append]
        rfl
    · rintro σ H3 ⟨e1, a3, a4, rfl, hn⟩
      exact k _ e1
end
end SS
set_option maxRecDepth 100000
set_option maxHeartbeats 4000000
namespace SS
open PySem L2 SR TL ZA
section
variable {P : Program} {w : World} {K : PySem.W.Frag} {mg : Str → Option Value} {base : Heap}
abbrev nRqp : List Str := ["parts", "index", "part", "problem"]
theorem scRqp : FnScope nRqp psPts (defScope sRqp) := ⟨rfl, rfl, rfl, by decide +kernel, rfl, by decide +kernel, by decide +kernel⟩
def spRqp (L : Addr) : Sp := fun vs H Q _ => ∃ (a : Addr) (ps : List Pt), vs = [.ref a] ∧ PtsL L H a ps ∧ Tmp ps ∧ ∀ H', Same H H' → Q .non H'
theorem ok_rqp {f L : Addr} {fd : FuncData} (F : Fun K "require_parts" "require_parts" sRqp f fd) (B : Bl mg) (Cm' : Cm mg) (Is : Cal P w K mg base "is_slot" 1 psIsl (spIsl (LanT L))) (Fn : Cal P w K mg base "first_not_part" 6 psPts (spFnp L)) (Sp' : Cal P w K mg base "slot_problem" 3 psPts (spSpr L)) : FnOk P w K mg base CX0 7 f fd psPts (spRqp L) := by
  obtain ⟨tp, hp⟩ := Cm'.parts
  obtain ⟨ts', hs'⟩ := Cm'.slots
  refine F.ok scRqp (fun vs H Q E h => ?_) (fun cdv A outer s H vs Q E hr h => ?_)
  · obtain ⟨a, ps, rfl, _⟩ := h
    rfl
  · obtain ⟨a, ps, rfl, hpts, hT, k⟩ := h
    obtain ⟨ts, h1, h2⟩ := id hpts
    have htl : ts.length = ps.length := Paired.length h2
    have hr1 := hr.mono (by decide : 1 ≤ 6)
    have hr3 := hr.mono (by decide : 3 ≤ 6)
    refine ⟨_, pss_cons (ps_if (PW.pt (pw_or (pt_not (pt_val (pe_callB call_isiT (by rfl) B.isinstance (by decide +kernel) (pa_cons (pv 0) (pa_cons (pe_tup (pa_cons (pe_bltn (v := .ty "list") (by rfl) B.list (by decide +kernel) rfl) (pa_cons (pe_bltn (v := .ty "tuple") (by rfl) B.tuple (by decide +kernel) rfl) pa_nil))) pa_nil)))))
          (pw_or (pt_cmpR op_lt (pe_callB call_len_seq (by rfl) B.len boot_len (pa_cons (pv 0) pa_nil)) pe_int (nomark _)) (pw_or1 (pt_cmpR op_gt (pe_callB call_len_seq (by rfl) B.len boot_len (pa_cons (pv 0) pa_nil)) (pe_glob (v := .int 12) rfl hp ⟨tp, rfl⟩) (nomark _))))))
        (pss_one ps_never) pss_nil)
      (pss_cons (ps_set (i := 1) scRqp.nd rfl (.inl rfl) (pe_cal Fn hr (pa_cons (pv 0) pa_nil)))
      (pss_cons (ps_if (pt_cmpR op_notN1 (pv 1) pe_non (nomark _)) (pss_one ps_never) pss_nil)
      (pss_cons (ps_if (pt_cmpR op_gt (pe_callB call_len_seq (by rfl) B.len boot_len (pa_cons (pe_lc (own := [("part", 2)]) (g := gName 2) (tt := tB (tCall (spIsl (LanT L)) [] E0 (tCons (tVar 2) tNil))) (te := tVar 2) rfl scRqp.nd (pi_list (pv 0)) (blkOk_by (by kernel_rfl)) (fun _ _ _ _ _ => pg_name (i := 2) scRqp.nd rfl (.inl rfl)) (fun _ _ _ _ _ => pts_one (pt_val (pe_cal Is hr1 (pa_cons (pv 2) pa_nil)))) (fun _ _ _ _ _ => pv 2)) pa_nil)) (pe_glob (v := .int 4) rfl hs' ⟨ts', rfl⟩) (nomark _)) (pss_one ps_never) pss_nil)
      (pss_cons (ps_set (i := 3) scRqp.nd rfl (.inl rfl) (pe_cal Sp' hr3 (pa_cons (pv 0) pa_nil)))
      (pss_one (ps_if (pt_cmpR op_notN1 (pv 3) pe_non (nomark _)) (pss_one ps_never) pss_nil)))))), ?_⟩
    refine ⟨_, rfl, (by show 2 ≤ sizeLine; decide), fun T hT' => ?_⟩
    have e0 : Same H (upd H T (.tup [.ty "list", .ty "tuple"])) := same_new hT'
    obtain ⟨tt, ty, kt⟩ := isi_LT (K := K) (.inl (e0 _ _ h1))
    refine ⟨_, T, _, tt, _, true, rfl, upd_same, .cons (.ty _) (.cons (.ty _) .nil), ty, kt, true, rfl, ?_⟩
    have hlst := SqL.of (K := K) (e0 _ _ h1)
    have hone := hT.one
    have hmost := hT.most
    refine ⟨_, rfl, a, _, rfl, .inl hlst, _, _, rfl, rfl, _, rfl, ?_⟩
    rw [show decide ((((ts.map V.ref).length : Nat) : Int) < 1) = false from decide_eq_false (by rw [List.length_map]; omega)]
    refine iteF ⟨_, rfl, a, _, rfl, .inl hlst, _, _, rfl, rfl, _, rfl, ?_⟩
    rw [show decide ((12 : Int) < (((ts.map V.ref).length : Nat) : Int)) = false from decide_eq_false (by rw [List.length_map]; omega)]
    refine iteF ⟨_, rfl, a, ps, rfl, hpts.mono e0, hmost, hT.ok, fun H1 e1 => ?_⟩
    refine ⟨_, rfl, rfl, _, rfl, iteF ?_⟩
    have e01 := e0.trans e1
    refine ⟨_, rfl, a, rfl, ⟨_, SqL.of (e01 _ _ h1)⟩, fun D hD => lc_S (walk_list (K := K) (a := a) (xs := ts.map V.ref)) hD (by rw [List.length_map]; omega) (fun i acc _ => acc.length = ((ps.take i).filter isSl).length) (fun _ _ _ _ _ _ _ h => h) rfl (fun H' e' => SqL.of (e' _ _ (e01 _ _ h1))) ?_ ?_⟩
    · rintro i v H2 H2' acc Qt Qf hi e2 hd hacc ⟨rfl, hv⟩ kt kf
      rw [List.getElem?_map] at hv
      obtain ⟨t, ht, rfl⟩ := Option.map_eq_some_iff.mp hv
      obtain ⟨p, hp, hpt⟩ := paired_getL _ h2 ht
      have hcut : ((ps.take (i + 1)).filter isSl).length = ((ps.take i).filter isSl).length + (if isSl p = true then 1 else 0) := by
        rw [List.take_add_one, hp, List.filter_append, List.length_append]
        show _ + (List.filter isSl [p]).length = _
        cases hs : isSl p with
        | true => rw [List.filter_cons_of_pos hs]; rfl
        | false => rw [List.filter_cons_of_neg (by rw [hs]; decide)]; rfl
      refine ⟨rfl, _, rfl, t, p, rfl, hpt.mono (lanM L) (e01.trans e2), _, rfl, ?_⟩
      cases hs : isSl p with
      | true =>
        refine iteT ⟨_, rfl, kt _ _ (Same.refl _) ?_⟩
        rw [hcut, hs, List.length_append, hacc]
        rfl
      | false =>
        refine iteF (kf _ (Same.refl _) ?_)
        rw [hcut, hs, hacc]
        rfl
    · rintro H2 acc e2 hd hacc
      rw [List.length_map, htl, List.take_length] at hacc
      have hfew := hT.few
      refine ⟨D, _, rfl, .inl (SqL.of hd), _, _, rfl, rfl, _, rfl, ?_⟩
      rw [show decide ((4 : Int) < ((acc.length : Nat) : Int)) = false from decide_eq_false (by omega)]
      have e02 := e01.trans e2
      refine iteF ⟨_, rfl, a, ps, rfl, hpts.mono e02, hT, fun H3 e3 => ?_⟩
      refine ⟨_, rfl, rfl, _, rfl, iteF ?_⟩
      exact k _ (e02.trans e3)
abbrev psTin : List Str := ["self", "reader", "parts"]
theorem scTin : FnScope psTin psTin (defScope sTin) := ⟨rfl, rfl, rfl, by decide +kernel, rfl, by decide +kernel, by decide +kernel⟩
/-- what a template is, but for reader and parts -/
def TmpF (D : Addr) (H : Hp) (y x : Addr) (ts : List Addr) : Prop := ∃ (dx pl : Addr) (fs : List (Str × V)), H y = some (.ins D dx fs) ∧ fs.lookup ("own_reader" : Str) = some (.ref x) ∧ fs.lookup ("part_list" : Str) = some (.ref pl) ∧ (∀ n : Str, ¬ n = "own_reader" → ¬ n = "part_list" → fs.lookup n = none) ∧
    H pl = some (.lst (ts.map .ref))
def spTin (L D : Addr) : Sp := fun vs H Q _ => ∃ (g dx x a : Addr) (ts : List Addr) (ps : List Pt), vs = [.ref g, .ref x, .ref a] ∧ H g = some (.ins D dx []) ∧ H a = some (.lst (ts.map .ref)) ∧ Paired (PtAt (LanT L) H) ts ps ∧ Tmp ps ∧
  ∀ H', (∀ H'' : Hp, (∀ b o, (H b = none ∨ b = g) → H' b = some o → H'' b = some o) → TmpF D H'' g x ts) → SameB g H H' → Q .non H'
theorem ok_tin {f L D : Addr} {fd : FuncData} (F : Fun K "__init__" "Template.__init__" sTin f fd) (B : Bl mg) (T : TTx K mg D) (Rp : Cal P w K mg base "require_parts" 7 psPts (spRqp L)) : FnOk P w K mg base CX0 8 f fd psTin (spTin L D) := by
  refine F.ok scTin (fun vs H Q E h => ?_) (fun cdv A outer s H vs Q E hr h => ?_)
  · obtain ⟨g, dx, x, a, ts, ps, rfl, _⟩ := h
    rfl
  · obtain ⟨g, dx, x, a, ts, ps, rfl, hx, h1, h2, hT, k⟩ := h
    refine ⟨_, pss_cons (ps_expr (pe_cal Rp hr (pa_cons (pv 2) pa_nil)))
      (pss_cons (ps_fld (pv 0) (pv 1) rfl)
      (pss_one (ps_fld (pv 0) (pe_callTy call_list_of (by rfl) B.list (by decide +kernel) (pa_cons (pv 2) pa_nil)) rfl))), ?_⟩
    refine ⟨_, rfl, a, ps, rfl, ⟨ts, h1, h2⟩, hT, fun H1 e1 => ?_⟩
    have hx1 := e1 _ _ hx
    refine ⟨_, rfl, _, rfl, g, D, dx, _, rfl, hx1, T.cl, T.nR, (by show 0 < 1000; decide), ?_⟩
    have b2 : SameB g H (upd H1 g (.ins D dx (putF "own_reader" (.ref x) []))) := (Same.b e1).trans SameB.upd
    have hx2 : (upd H1 g (.ins D dx (putF "own_reader" (.ref x) []))) g = _ := upd_same
    generalize (upd H1 g (.ins D dx (putF "own_reader" (.ref x) []))) = H2 at b2 hx2 ⊢
    have ha2 := b2 _ _ (ne_of h1 hx (by intro z; cases z)) h1
    refine ⟨_, rfl, a, _, rfl, .inl (SqL.of ha2), fun pt hpt => ?_⟩
    have e3 : Same H2 (upd H2 pt (.lst (ts.map .ref))) := same_new hpt
    have h3 : (upd H2 pt (.lst (ts.map .ref))) pt = some (.lst (ts.map .ref)) := upd_same
    generalize (upd H2 pt (.lst (ts.map .ref))) = H3 at e3 h3 ⊢
    have hx3 := e3 _ _ hx2
    refine ⟨_, rfl, g, D, dx, _, rfl, hx3, T.cl, T.nP, (by show 1 < 1000; decide), ?_⟩
    have ng : pt ≠ g := ne_of h3 hx3 (by intro z; cases z)
    have nH : H pt = none := freeB b2 ng hpt
    refine k _ (fun H'' ext => ⟨dx, pt, _, ext _ _ (.inr rfl) upd_same, ?_, lk_eq, fun n n1 n2 => by rw [lk_ne n2, lk_ne n1]; rfl, ext _ _ (.inl nH) (by rw [upd_ne ng]; exact h3)⟩) ((b2.trans (Same.b e3)).trans SameB.upd)
    rw [lk_ne (by decide +kernel), lk_eq]
end
end SS
set_option maxRecDepth 100000
set_option maxHeartbeats 4000000
namespace SG
open PySem L2 SR TL
theorem addNew_inj {φ : Int → Int} (gs : List Int) : ∀ L : List Int, (∀ a ∈ addNew L gs, ∀ b ∈ addNew L gs, φ a = φ b → a = b) → addNew (L.map φ) (gs.map φ) = (addNew L gs).map φ := by
  induction gs with
  | nil => intro L _; rfl
  | cons g gs ih =>
    intro L inj
    show addNew (if φ g ∈ L.map φ then L.map φ else L.map φ ++ [φ g]) (gs.map φ) = (addNew (if g ∈ L then L else L ++ [g]) gs).map φ
    have hg : g ∈ addNew L (g :: gs) := addNew_mem g List.mem_cons_self
    have hi : φ g ∈ L.map φ ↔ g ∈ L := by
      constructor
      · intro h
        obtain ⟨u, hu, e⟩ := List.mem_map.mp h
        have := inj u (addNew_keep hu) g hg e
        rw [← this]; exact hu
      · intro h; exact List.mem_map.mpr ⟨g, h, rfl⟩
    have inj' : ∀ a ∈ addNew (if g ∈ L then L else L ++ [g]) gs, ∀ b ∈ addNew (if g ∈ L then L else L ++ [g]) gs, φ a = φ b → a = b := inj
    by_cases hm : g ∈ L
    · rw [if_pos (hi.mpr hm), if_pos hm]
      rw [if_pos hm] at inj'
      exact ih L inj'
    · rw [if_neg (fun h => hm (hi.mp h)), if_neg hm]
      rw [if_neg hm] at inj'
      rw [← ih (L ++ [g]) inj', List.map_append]
      rfl
theorem BE.map {δ δ' : Int → List Int} {φ : Int → Int} {q0 : Int} : ∀ {n : Nat} {L : List Int}, BE δ q0 n L → (∀ k ∈ L, (δ k).map φ = δ' (φ k)) → (∀ a ∈ L, ∀ b ∈ L, φ a = φ b → a = b) → BE δ' (φ q0) n (L.map φ)
  | 0, _, .start, _, _ => .start
  | n + 1, _, .turn (L := L) (k := k) b h, hδ, inj => by
    have b' := BE.map b (fun u hu => hδ u (addNew_keep hu)) fun u hu v hv => inj u (addNew_keep hu) v (addNew_keep hv)
    have hk : k ∈ L := List.mem_of_getElem? h
    rw [← addNew_inj (δ k) L inj, hδ k (addNew_keep hk)]
    exact .turn b' (by rw [List.getElem?_map, h]; rfl)
theorem Order.zero {cs : List Nat} {rows : List (List Int)} {fd : List Int} (O : Order cs rows fd) : (0 : Int) ∈ fd := by
  obtain ⟨t, ht⟩ := O.hd
  rw [ht]; exact List.mem_cons_self
end SG
set_option maxRecDepth 100000
set_option maxHeartbeats 4000000
namespace SS
open PySem L2 SR TL ZA
end SS
set_option maxRecDepth 100000
set_option maxHeartbeats 4000000
namespace SS
open PySem L2 SR TL ZA
section
variable {P : Program} {w : World} {K : PySem.W.Frag} {mg : Str → Option Value} {base : Heap}
abbrev psTs : List Str := ["self"]
theorem scTpa : FnScope psTs psTs (defScope sTpa) := ⟨rfl, rfl, rfl, by decide +kernel, rfl, by decide +kernel, by decide +kernel⟩
def spTpa (D : Addr) : Sp := fun vs H Q _ => ∃ (g x : Addr) (ts : List Addr), vs = [.ref g] ∧ TmpF D H g x ts ∧ ∀ l, H l = none → Q (.ref l) (upd H l (.lst (ts.map .ref)))
theorem ok_tpa {f D : Addr} {fd : FuncData} (F : Fun K "parts" "Template.parts" sTpa f fd) (B : Bl mg) (T : TTx K mg D) : FnOk P w K mg base CX0 1 f fd psTs (spTpa D) := by
  refine F.ok scTpa (fun vs H Q E h => ?_) (fun cdv A outer s H vs Q E hr h => ?_)
  · obtain ⟨g, x, ts, rfl, _⟩ := h
    rfl
  · obtain ⟨g, x, ts, rfl, ⟨dx, pl, fs, h1, h2, h3, h4, h5⟩, k⟩ := h
    exact ⟨_, pss_one (ps_ret (pe_callTy call_list_of (by rfl) B.list (by decide +kernel) (pa_cons (pe_fld (pv 0) rfl) pa_nil))), _, rfl, g, D, dx, _, _, rfl, h1, T.cl, T.nP, h3, pl, _, rfl, .inl (SqL.of h5), k⟩
end
end SS
set_option maxRecDepth 100000
set_option maxHeartbeats 4000000
namespace SS
open PySem L2 SR TL ZA
end SS
set_option maxRecDepth 100000
set_option maxHeartbeats 4000000
namespace SS
open PySem L2 SR TL
end SS
namespace SG
open PySem L2 SR TL SS
end SG
set_option maxRecDepth 100000
set_option maxHeartbeats 4000000
namespace SS
open PySem L2 SR TL ZA
theorem nodup_inj {α β : Type} {f : α → β} : ∀ {l : List α} {a b : α}, (l.map f).Nodup → a ∈ l → b ∈ l → f a = f b → a = b
  | x :: l, a, b, h, ha, hb, e => by
    rw [List.map_cons, List.nodup_cons] at h
    rcases List.mem_cons.mp ha with q | q
    · rcases List.mem_cons.mp hb with z | z
      · rw [q, z]
      · exact (h.1 (List.mem_map.mpr ⟨b, z, by rw [← e, q]⟩)).elim
    · rcases List.mem_cons.mp hb with z | z
      · exact (h.1 (List.mem_map.mpr ⟨a, q, by rw [e, z]⟩)).elim
      · exact nodup_inj h.2 q z e
theorem sl_ex {p : Pt} (h : isSl p = true) : ∃ nm cs rM eM, p = .sl nm cs rM eM := by
  cases p with
  | pc ms => cases h
  | sd ks => cases h
  | sl nm cs rM eM => exact ⟨_, _, _, _, rfl⟩
section
variable {P : Program} {w : World} {K : PySem.W.Frag} {mg : Str → Option Value} {base : Heap}
theorem TmpF.mono {D : Addr} {H H' : Hp} {y x : Addr} {ts : List Addr} (e : Same H H') (h : TmpF D H y x ts) : TmpF D H' y x ts := by
  obtain ⟨dx, pl, fs, h1, h2, h3, h4, h5⟩ := h
  exact ⟨dx, pl, fs, e _ _ h1, h2, h3, h4, e _ _ h5⟩
abbrev nTlo : List Str := ["self", "name", "part"]
abbrev psTlo : List Str := ["self", "name"]
theorem scTlo : FnScope nTlo psTlo (defScope sTlo) := ⟨rfl, rfl, rfl, by decide +kernel, rfl, by decide +kernel, by decide +kernel⟩
def spTlo (L D : Addr) : Sp := fun vs H Q _ => ∃ (g x : Addr) (ts : List Addr) (ps : List Pt) (nm cs : List Nat) (rM : List (List Int)) (eM : List Int), vs = [.ref g, txtV nm] ∧ TmpF D H g x ts ∧ Paired (PtAt (LanT L) H) ts ps ∧ Tmp ps ∧ Pt.sl nm cs rM eM ∈ ps ∧
  ∀ (l : Addr) (H' : Hp), Same H H' → LanT L H' l cs rM eM → Q (.ref l) H'
theorem ok_tlo {f L D : Addr} {fd : FuncData} (F : Fun K "language_of" "Template.language_of" sTlo f fd) (T : TTx K mg D) (Is : Cal P w K mg base "is_slot" 1 psIsl (spIsl (LanT L))) : FnOk P w K mg base CX0 2 f fd psTlo (spTlo L D) := by
  refine F.ok scTlo (fun vs H Q E h => ?_) (fun cdv A outer s H vs Q E hr h => ?_)
  · obtain ⟨g, x, ts, ps, nm, cs, rM, eM, rfl, _⟩ := h
    rfl
  · obtain ⟨g, x, ts, ps, nm, cs, rM, eM, rfl, TF, hts, hT, hm, k⟩ := h
    refine ⟨_, pss_cons (ps_for PassesOwn.never rfl (pi_list (pe_fld (pv 0) rfl)) (pg_name (i := 2) scTlo.nd rfl (.inl rfl))
        (pss_one (ps_if (PW.pt (pw_and (pt_val (pe_cal Is (hr.mono (by decide)) (pa_cons (pv 2) pa_nil))) (pw_and1 (pt_cmpR op_eq (pe_ix ix_tup (pv 2) pe_int (fun _ _ => rfl)) (pv 1) (nomark _)))))
        (pss_one (ps_ret (pe_ix ix_tup (pv 2) pe_int (fun _ _ => rfl)))) pss_nil)))
      (pss_one ps_never), ?_⟩
    obtain ⟨dx, pl, fs, h1, h2, h3, h4, h5⟩ := TF
    have htl : ts.length = ps.length := Paired.length hts
    refine ⟨_, rfl, g, D, dx, _, _, rfl, h1, T.cl, T.nP, h3, pl, rfl, ⟨_, SqL.of h5⟩, ?_⟩
    refine for_it (walk_list (K := K) (a := pl) (xs := ts.map V.ref)) (fun i σ H' => H' = H ∧ (∃ a3, σ = [some (.ref g), some (txtV nm), a3]) ∧ ∀ p ∈ ps.take i, p ≠ .sl nm cs rM eM) ⟨rfl, ⟨_, rfl⟩, fun p hp => (nomatch hp)⟩ (fun i σ H' _ q => by rw [q.1]; exact SqL.of h5) ?_ ?_
    · rintro i v σ H3 H3' hi ⟨rfl, ⟨a3, rfl⟩, hno⟩ ⟨rfl, hv⟩
      rw [List.getElem?_map] at hv
      obtain ⟨u, hu', rfl⟩ := Option.map_eq_some_iff.mp hv
      obtain ⟨p, hp, hpt⟩ := paired_getL _ hts hu'
      have tk : ps.take (i + 1) = ps.take i ++ [p] := by rw [List.take_add_one, hp]; rfl
      have hnt : p ≠ .sl nm cs rM eM → ∀ q ∈ ps.take (i + 1), q ≠ Pt.sl nm cs rM eM := fun z q hq => by
        rw [tk] at hq
        rcases List.mem_append.mp hq with h | h
        · exact hno q h
        · rw [List.mem_singleton.mp h]; exact z
      refine ⟨_, rfl, u, p, rfl, hpt, _, rfl, ?_⟩
      cases hs : isSl p with
      | false => exact iteF ⟨rfl, ⟨_, rfl⟩, hnt fun z => by rw [z] at hs; cases hs⟩
      | true =>
        obtain ⟨nm', cs', rM', eM', rfl⟩ := sl_ex hs
        obtain ⟨l, q1, q2⟩ := id hpt
        refine iteT ⟨_, rfl, u, _, _, _, rfl, rfl, SqT.of q1, rfl, _, rfl, rfl, _, rfl, ?_⟩
        by_cases hn : nm' = nm
        · have := nodup_inj (f := nmOf) (a := Pt.sl nm' cs' rM' eM') (b := .sl nm cs rM eM) hT.nms (List.mem_filter.mpr ⟨List.mem_of_getElem? hp, rfl⟩) (List.mem_filter.mpr ⟨hm, rfl⟩) hn
          cases this
          rw [show decide (txtV nm = txtV nm) = true from decide_eq_true rfl]
          exact iteT ⟨_, rfl, u, _, _, _, rfl, rfl, SqT.of q1, rfl, k l _ (Same.refl _) q2⟩
        · rw [show decide (txtV nm' = txtV nm) = false from decide_eq_false fun z => hn (txt_inj (V.str.inj z))]
          exact iteF ⟨rfl, ⟨_, rfl⟩, hnt fun z => hn (by cases z; rfl)⟩
    · rintro σ H3 ⟨rfl, _, hno⟩
      rw [List.length_map, htl, List.take_length] at hno
      exact (hno _ hm rfl).elim
end
end SS
set_option maxRecDepth 100000
set_option maxHeartbeats 4000000
namespace SG
open PySem L2 SR TL SS
end SG
set_option maxRecDepth 100000
set_option maxHeartbeats 4000000
namespace SS
open PySem L2 SR TL ZA
theorem PtAt.imp {T T' : Thd} {H : Hp} {t : Addr} {p : Pt} (hT : ∀ l cs rM eM, T H l cs rM eM → T' H l cs rM eM) (h : PtAt T H t p) : PtAt T' H t p := by
  cases p with
  | pc ms => exact h
  | sd ks => exact h
  | sl nm cs rM eM =>
    obtain ⟨l, h1, h2⟩ := h
    exact ⟨l, h1, hT _ _ _ _ h2⟩
theorem PtAt.any {T T' : Thd} {H : Hp} {t : Addr} {p : Pt} (hs : isSl p = false) (h : PtAt T H t p) : PtAt T' H t p := by
  cases p with
  | pc ms => exact h
  | sd ks => exact h
  | sl nm cs rM eM => cases hs
end SS
set_option maxRecDepth 100000
set_option maxHeartbeats 4000000
namespace SG
open PySem L2 SR TL SS
end SG
set_option maxRecDepth 100000
set_option maxHeartbeats 4000000
namespace SS
open PySem L2 SR TL ZA
end SS
set_option maxRecDepth 100000
set_option maxHeartbeats 4000000
namespace SR
open PySem PySem.Spec PyProof.Rows L2 SS
end SR
set_option maxRecDepth 100000
set_option maxHeartbeats 4000000
namespace SS
open PySem L2 SR TL ZA
end SS
set_option maxRecDepth 100000
set_option maxHeartbeats 4000000
namespace SS
open PySem L2 SR TL ZA
end SS
set_option maxRecDepth 100000
set_option maxHeartbeats 4000000
namespace SS
open PySem L2 SR TL
end SS
set_option maxRecDepth 100000
set_option maxHeartbeats 4000000
namespace SS
open PySem L2 SR TL ZA
end SS
set_option maxRecDepth 100000
set_option maxHeartbeats 4000000
namespace SS
open PySem L2 SR TL ZA
theorem LangAt_nlL {m : Nat} {L : Addr} {H H' : Hp} {x : Addr} {cs : List Nat} {rows : List (List Int)} {ends : List Int} (e : ∀ b o, H b = some o → (∀ xs, o ≠ HO.lst xs) → H' b = some o) (h : SG.LangAt m L H x cs rows ends) : SG.LangAt m L H' x cs rows ends := by
  obtain ⟨rw', en', ns, h1, h2⟩ := h.ex
  exact ⟨rw', en', ns, LangR_nl e h1, h2⟩
theorem PtAt.nl {L : Addr} {H H' : Hp} {t : Addr} {p : Pt} (e : ∀ b o, H b = some o → (∀ xs, o ≠ HO.lst xs) → H' b = some o) (h : PtAt (LanT L) H t p) : PtAt (LanT L) H' t p := by
  cases p with
  | pc ms =>
    obtain ⟨p, qs, h1, h2, h3⟩ := h
    exact ⟨p, qs, e _ _ h1 nofun, e _ _ h2 nofun, Paired.mono h3 fun a b g => e _ _ g nofun⟩
  | sd ks =>
    obtain ⟨p, h1, h2⟩ := h
    exact ⟨p, e _ _ h1 nofun, e _ _ h2 nofun⟩
  | sl nm cs rM eM =>
    obtain ⟨l, h1, h2⟩ := h
    exact ⟨l, e _ _ h1 nofun, LangAt_nlL e h2⟩
end SS
set_option maxRecDepth 100000
set_option maxHeartbeats 4000000
namespace SS
open PySem L2 SR TL ZA
end SS
set_option maxRecDepth 100000
set_option maxHeartbeats 4000000
namespace SS
open PySem L2 SR TL ZA
end SS
set_option maxRecDepth 100000
set_option maxHeartbeats 4000000
namespace SG
open PySem L2 SR TL SS
end SG
namespace SS
open PySem L2 SR TL ZA
end SS
set_option maxRecDepth 100000
set_option maxHeartbeats 4000000
namespace GQ
open PySem PySem.SeqAt
open AutoSeq1 (wpAny_loadPart')
open MeetsSeq MeetsSeq2 MeetsSeq3 SeqRoads2
section
variable {prog : Program} {w : World} {A : Around} {R : Result → Shared → Prop}
/-- two lists of N things each, read anew at each turn: the things at i answer e i -/
def ListB (prog : Program) (w : World) (A : Around) (E : Value → Shared → Prop) (l b : Addr) (N : Nat) (e : Nat → Bool) (J : Shared → Prop) : Prop :=
  ∀ s, J s → ∃ (xs ys : Array Value) (c c2 : Nat), (s.heap.get? l = some { cls := .type "list", data := .seq xs c } ∧ s.heap.get? b = some { cls := .type "list", data := .seq ys c2 }) ∧ (xs.size = N ∧ ys.size = N) ∧
    ∀ i (h1 : i < xs.size) (h2 : i < ys.size), wpAny (model prog w) A.in1 (eqBool xs[i] ys[i]) (fun r s' => r = e i ∧ J s') E s
theorem all_tt {N : Nat} {e : Nat → Bool} (h : ∀ j, j < N → e j = true) : (List.range N).all e = true := List.all_eq_true.mpr fun j hj => h j (List.mem_range.mp hj)
theorem all_ff {N i : Nat} {e : Nat → Bool} (hi : i < N) (h : e i = false) : (List.range N).all e = false := by
  rw [Bool.eq_false_iff]
  intro z
  rw [List.all_eq_true.mp z i (List.mem_range.mpr hi)] at h
  cases h
end
end GQ
namespace L2
open PySem PySem.Spec PyProof.Rows
/-- what == answers of two values, by the abstract heap -/
abbrev Eqb := V → V → Bool → Hp → Prop
def MonB (D : Eqb) : Prop := ∀ x y b H H', Ext H H' → D x y b H → D x y b H'
def EqB (X : Cx) (n : Nat) (D : Eqb) : Prop :=
  ∀ (A : Around) (pins : List (Addr × Obj)) (s : Shared) (σ : St) (H : Hp) (x y : V) (b : Bool) (u v : Value), Sub X n A → Inv X pins σ H s → RelV x u → RelV y v → D x y b H →
    wpAny (model X.prog X.w) A (eqBool u v) (fun r s' => r = b ∧ LoopI X pins σ H s') X.xe s
def RcB (X : Cx) (n : Nat) (D : Eqb) : Prop :=
  ∀ (A : Around) (pins : List (Addr × Obj)) (s : Shared) (σ : St) (H : Hp) (x y : V) (b : Bool) (u v : Value), Sub X n A → Inv X pins σ H s → RelV x u → RelV y v → D x y b H →
    wpAny (model X.prog X.w) A (richCompare .Eq u v) (fun r s' => r = .bool b ∧ LoopI X pins σ H s') X.xe s
section
variable {X : Cx} {n m : Nat} {D D' : Eqb}
theorem EqB.mono (h : EqB X n D) (hn : n ≤ m) : EqB X m D := fun A pins s σ H x y b u v sb => h A pins s σ H x y b u v (sb.mono hn)
theorem EqB.or (h : EqB X n D) (h' : EqB X n D') : EqB X n (fun x y b H => D x y b H ∨ D' x y b H) := fun A pins s σ H x y b u v sb I rx ry d => by
  rcases d with d | d
  · exact h A pins s σ H x y b u v sb I rx ry d
  · exact h' A pins s σ H x y b u v sb I rx ry d
theorem MonB.or (h : MonB D) (h' : MonB D') : MonB (fun x y b H => D x y b H ∨ D' x y b H) := fun x y b H H' e d => d.elim (fun d => .inl (h x y b H H' e d)) fun d => .inr (h' x y b H H' e d)
/-- one and the same thing -/
def BSame : Eqb := fun x y b _ => b = true ∧ ∃ a : Addr, x = .ref a ∧ y = .ref a
def BFlat : Eqb := fun x y b _ => flatV x = true ∧ flatV y = true ∧ eqV x y = b
def PrB (D : Eqb) (xs ys : List V) (e : Nat → Bool) (H : Hp) : Prop := ∀ (i : Nat) (x y : V), xs[i]? = some x → ys[i]? = some y → D x y (e i) H
theorem turnB (hD : MonB D) (h : EqB X n D) {A : Around} (sb : Sub X (n + 1) A) {pins : List (Addr × Obj)} {σ : St} {H : Hp} {xs ys : List V} {e : Nat → Bool} {us ws : List Value} (p : PrB D xs ys e H) (r : Vals xs us) (r2 : Vals ys ws)
    (i : Nat) (h1 : i < us.toArray.size) (h2 : i < ws.toArray.size) (s' : Shared) (l : LoopI X pins σ H s') :
    wpAny (model X.prog X.w) A.in1 (eqBool us.toArray[i] ws.toArray[i]) (fun r s2 => r = e i ∧ LoopI X pins σ H s2) X.xe s' := by
  obtain ⟨H1, I1, x1⟩ := l
  have l1 : i < us.length := by simpa using h1
  have l2 : i < ws.length := by simpa using h2
  have k1 : i < xs.length := by rw [r.length]; exact l1
  have k2 : i < ys.length := by rw [r2.length]; exact l2
  obtain ⟨u, hu, ru⟩ := r.get (List.getElem?_eq_getElem k1)
  obtain ⟨v, hv, rv⟩ := r2.get (List.getElem?_eq_getElem k2)
  rw [List.getElem?_eq_getElem l1] at hu
  rw [List.getElem?_eq_getElem l2] at hv
  have e1 : us.toArray[i] = u := by have := Option.some.inj hu; simpa using this
  have e2 : ws.toArray[i] = v := by have := Option.some.inj hv; simpa using this
  rw [e1, e2]
  refine wpAny_mono (h A.in1 pins s' σ H1 _ _ (e i) u v sb.in1 I1 ru rv (hD _ _ _ _ _ x1 (p i _ _ (List.getElem?_eq_getElem k1) (List.getElem?_eq_getElem k2)))) (fun r s2 q => ?_) fun _ _ z => z
  obtain ⟨hr, H2, I2, x2⟩ := q
  exact ⟨hr, H2, I2, x1.trans x2⟩
def BList (D : Eqb) : Eqb := fun x y b H => ∃ (p q : Addr) (xs ys : List V) (e : Nat → Bool), x = .ref p ∧ y = .ref q ∧ H p = some (.lst xs) ∧ H q = some (.lst ys) ∧ xs.length = ys.length ∧ PrB D xs ys e H ∧ b = (List.range xs.length).all e
/-- instances of the class at C with the text's own ==, which answers as R says -/
def BIns (C : Addr) (R : Addr → Addr → Bool → Hp → Prop) : Eqb := fun x y r H => ∃ a b dx dy fs gs, x = .ref a ∧ y = .ref b ∧ H a = some (.ins C dx fs) ∧ H b = some (.ins C dy gs) ∧ R a b r H
/-- x == y as an expression, both answers -/
def rEqB (D : Eqb) : R2 := fun x y H Q => ∃ b, D x y b H ∧ ∀ H', Ext H H' → Q (.bl b) H'
theorem op_eqB (h : RcB X n D) (hr : Room n X.A) : OpR X (compareOp .Eq) (rEqB D) := by
  intro pins s σ H x y v u Q I rx ry hq
  obtain ⟨b, d, q⟩ := hq
  show wpAny (model X.prog X.w) X.A (richCompare .Eq v u) (EP X pins σ Q) X.xe s
  refine wpAny_mono (h X.A pins s σ H x y b v u ⟨hr, rfl⟩ I rx ry d) (fun r s' z => ?_) fun _ _ z => z
  obtain ⟨hr', H', I', e⟩ := z
  subst hr'
  exact ⟨.bl b, H', I', rfl, q H' e⟩
end
end L2
set_option maxRecDepth 100000
set_option maxHeartbeats 4000000
namespace SR
open PySem PySem.Spec PyProof.Rows L2
open PySem.SeqAt
end SR
namespace SS
open PySem L2 SR TL ZA
end SS
set_option maxRecDepth 100000
set_option maxHeartbeats 4000000
namespace GQ
open PySem PySem.SeqAt
open AutoSeq1 (wpAny_loadPart')
open MeetsSeq MeetsSeq2 MeetsSeq3 SeqRoads2
section
variable {prog : Program} {w : World} {A : Around} {R : Result → Shared → Prop}
theorem ne_loopB {l b : Addr} {N : Nat} {e : Nat → Bool} {J : Shared → Prop} (hl : ListB prog w A (fun z s' => R (.error z) s') l b N e J)
    (fin : ∀ s, J s → R (.ok (.ret (.bool (!(List.range N).all e)))) s) (k : Nat) :
    ∀ i : Nat, N - i = k → i ≤ N → (∀ j, j < i → e j = true) → ∀ s, J s →
      wpAny (model prog w) A.in1 (Builtin.«list.__eq__.loop» ⟨[.ref l, .ref b, rawInt i, rawInt 3], []⟩) (FinOf prog w A R) (fun z s' => R (.error z) s') s := by
  induction k with
  | zero =>
    intro i hk hi he s hJ
    obtain ⟨xs, ys, c, c2, ⟨gl, gb⟩, ⟨zl, zb⟩, _⟩ := hl _ hJ
    have hR := fin s hJ
    rw [all_tt fun j hj => he j (by omega)] at hR
    obtain ⟨hp, g, d, tk, os⟩ := s
    wp_walk using wpAny_loadPart' gl, wpAny_loadPart' gb
    rw [show xs[((i : Nat) : Int).toNat]? = none by (simp; omega), show ys[((i : Nat) : Int).toNat]? = none by (simp; omega)]
    wp_walk using wpAny_loadPart' gl, wpAny_loadPart' gb
    show R (.ok (.ret (.bool (xs.size != ys.size)))) _
    rw [zl, zb]
    simpa using hR
  | succ k ih =>
    intro i hk hi he s hJ
    obtain ⟨xs, ys, c, c2, ⟨gl, gb⟩, ⟨zl, zb⟩, turn⟩ := hl _ hJ
    have lx : i < xs.size := by omega
    have ly : i < ys.size := by omega
    have ht := turn i lx ly
    obtain ⟨hp, g, d, tk, os⟩ := s
    wp_walk using wpAny_loadPart' gl, wpAny_loadPart' gb
    rw [show xs[((i : Nat) : Int).toNat]? = some xs[i] by simp [lx], show ys[((i : Nat) : Int).toNat]? = some ys[i] by simp [ly]]
    refine wpAny_bind (wpAny_mono ht (fun r s2 q => ?_) fun _ _ z => z)
    obtain ⟨rfl, J2⟩ := q
    cases hq : e i with
    | true =>
      have rec' := ih (i + 1) (by omega) (by omega) (fun j hj => by
        rcases Nat.lt_or_ge j i with z | z
        · exact he j z
        · rw [show j = i by omega]; exact hq) s2 J2
      obtain ⟨hp2, g2, d2, tk2, os2⟩ := s2
      wp_walk
      rw [show ((i : Int) + 1) = ((i + 1 : Nat) : Int) by omega]
      exact ⟨plainId_quiet plain_eq_loop _, codeAny_builtin entry_eq_loop (by rw [Around.under_plainId plain_eq_loop _]; exact rec')⟩
    | false =>
      obtain ⟨xs', ys', c', c2', ⟨gl', gb'⟩, ⟨zl', zb'⟩, _⟩ := hl _ J2
      have hR := fin s2 J2
      rw [all_ff (by omega) hq] at hR
      obtain ⟨hp2, g2, d2, tk2, os2⟩ := s2
      wp_walk using wpAny_loadPart' gl', wpAny_loadPart' gb'
      rw [show xs'[((i : Nat) : Int).toNat]? = some (xs'[i]'(by omega)) by simp, show ys'[((i : Nat) : Int).toNat]? = some (ys'[i]'(by omega)) by simp]
      wp_walk
      simpa using hR
theorem list_neB {l b : Addr} {N : Nat} {e : Nat → Bool} {J : Shared → Prop} (hl : ListB prog w A (fun z s' => R (.error z) s') l b N e J)
    (fin : ∀ s, J s → R (.ok (.ret (.bool (!(List.range N).all e)))) s) {s : Shared} (h : J s) :
    wpAny (model prog w) A.in1 (Builtin.«list.__ne__» ⟨[.ref l, .ref b], []⟩) (FinOf prog w A R) (fun z s' => R (.error z) s') s := by
  obtain ⟨xs, ys, c, c2, ⟨gl, gb⟩, ⟨zl, zb⟩, _⟩ := hl _ h
  have rec' := ne_loopB (A := A) (R := R) hl fin _ 0 rfl (Nat.zero_le _) (fun j hj => absurd hj (Nat.not_lt_zero _)) s h
  obtain ⟨hp, g, d, tk, os⟩ := s
  have sub := AutoSeq1.sub_list_list
  have hne : ¬ (xs.size != ys.size) = true := by simp [zl, zb]
  wp_walk using wpAny_loadPart' gl, wpAny_loadPart' gb
  exact ⟨plainId_quiet plain_eq_loop _, codeAny_builtin entry_eq_loop (by rw [Around.under_plainId plain_eq_loop _]; exact rec')⟩
end
section
variable {prog : Program} {w : World} {A : Around} {E : Value → Shared → Prop} {s : Shared}
theorem rc_nlistB {l b : Addr} {N : Nat} {e : Nat → Bool} {Q : Value → Shared → Prop} (hu : A.units < cLine) (J : Shared → Prop) (hl : ListB prog w A E l b N e J)
    (fin : ∀ s, J s → Q (.bool (!(List.range N).all e)) s) (h : J s) : wpAny (model prog w) A (richCompare .NotEq (.ref l) (.ref b)) Q E s := by
  obtain ⟨xs, ys, c, c2, ⟨gl, gb⟩, _, _⟩ := hl _ h
  refine wpAny_richCompare_same_room (op := .NotEq) ⟨_, gl, rfl⟩ ⟨_, gb, rfl⟩ F.slot_list_ne (call_here F.slot_list_ne ⟨_, gl, rfl⟩ F.entry_list_ne (F.args_list_ne_2 _ _) ?_) hu
  exact list_neB (R := wants (fun v s' => v ≠ .notImplemented ∧ Q v s') E) hl (fun s' q => ⟨(fun x => nomatch x), fin s' q⟩) h
end
end GQ
namespace L2
open PySem PySem.Spec PyProof.Rows
section
variable {X : Cx} {n : Nat} {D : Eqb}
/-- xs != ys, lists -/
def rNeB (D : Eqb) : R2 := fun x y H Q => ∃ b, BList D x y b H ∧ ∀ H', Ext H H' → Q (.bl (!b)) H'
theorem op_neB (hD : MonB D) (h : EqB X n D) (hr : Room (n + 1) X.A) : OpR X (compareOp .NotEq) (rNeB D) := by
  intro pins s σ H x y v u Q I rx ry hq
  obtain ⟨b, ⟨p, q, xs, ys, e, rfl, rfl, hp, hq', hl, pr, rfl⟩, k⟩ := hq
  cases rx
  cases ry
  have sb : Sub X (n + 1) X.A := ⟨hr, rfl⟩
  show wpAny (model X.prog X.w) X.A (richCompare .NotEq (.ref p) (.ref q)) (EP X pins σ Q) X.xe s
  refine GQ.rc_nlistB (N := xs.length) (e := e) hr.units0 (LoopI X pins σ H) (fun s' z => ?_) (fun s' z => ?_) ⟨H, I, Ext.rfl'⟩
  · obtain ⟨H1, I1, x1⟩ := id z
    obtain ⟨_, us, k, r, g1⟩ := I1.hok p _ (x1 _ _ hp)
    obtain ⟨_, ws, k2, r2, g2⟩ := I1.hok q _ (x1 _ _ hq')
    exact ⟨us.toArray, ws.toArray, k, k2, ⟨g1, g2⟩, ⟨by rw [List.size_toArray, ← r.length], by rw [List.size_toArray, ← r2.length, ← hl]⟩, fun i h1 h2 => turnB hD h sb pr r r2 i h1 h2 s' z⟩
  · obtain ⟨H1, I1, x1⟩ := z
    exact ⟨.bl _, H1, I1, rfl, k H1 x1⟩
end
end L2
set_option maxRecDepth 100000
set_option maxHeartbeats 4000000
namespace SS
open PySem L2 SR TL ZA
theorem TmpF.ins {D : Addr} {H : Hp} {g x : Addr} {ts : List Addr} (h : TmpF D H g x ts) : ∃ dx fs, H g = some (.ins D dx fs) ∧ ∀ n : Str, ¬ n = "own_reader" → ¬ n = "part_list" → fs.lookup n = none := by
  obtain ⟨dx, pl, fs, h1, h2, h3, h4, h5⟩ := h
  exact ⟨dx, fs, h1, h4⟩
/-- the texts for the slots, as a dict tells them -/
def txOf (kvs : List (Key × V)) (nm : List Nat) : List Nat := match valV kvs (Sum.inr (txt nm)) with
  | some (.str s) => s.cps.toList
  | _ => []
end SS
set_option maxRecDepth 100000
set_option maxHeartbeats 4000000
namespace SS
open PySem L2 SR TL ZA
section
variable {P : Program} {w : World} {K : PySem.W.Frag} {mg : Str → Option Value} {base : Heap}
end
end SS
set_option maxRecDepth 100000
set_option maxHeartbeats 4000000
set_option maxRecDepth 100000
set_option maxHeartbeats 4000000
set_option maxRecDepth 100000
set_option maxHeartbeats 4000000
set_option maxRecDepth 100000
set_option maxHeartbeats 4000000
set_option maxRecDepth 100000
set_option maxHeartbeats 4000000
set_option maxRecDepth 100000
set_option maxHeartbeats 4000000
set_option maxRecDepth 100000
set_option maxHeartbeats 4000000
set_option maxRecDepth 100000
set_option maxHeartbeats 4000000
set_option maxRecDepth 100000
set_option maxHeartbeats 4000000
set_option maxRecDepth 100000
set_option maxHeartbeats 4000000
set_option maxRecDepth 100000
set_option maxHeartbeats 4000000
set_option maxRecDepth 100000
set_option maxHeartbeats 4000000
set_option maxRecDepth 100000
set_option maxHeartbeats 4000000
set_option maxRecDepth 100000
set_option maxHeartbeats 4000000
set_option maxRecDepth 100000
set_option maxHeartbeats 4000000
set_option maxRecDepth 100000
set_option maxHeartbeats 4000000
set_option maxRecDepth 100000
set_option maxHeartbeats 4000000
set_option maxRecDepth 100000
set_option maxHeartbeats 4000000
set_option maxRecDepth 100000
set_option maxHeartbeats 4000000
set_option maxRecDepth 100000
set_option maxHeartbeats 4000000
set_option maxRecDepth 100000
set_option maxHeartbeats 4000000
set_option maxRecDepth 100000
set_option maxHeartbeats 4000000
set_option maxRecDepth 100000
set_option maxHeartbeats 4000000
set_option maxRecDepth 100000
set_option maxHeartbeats 4000000
set_option maxRecDepth 100000
set_option maxHeartbeats 4000000
set_option maxRecDepth 100000
set_option maxHeartbeats 4000000
set_option maxRecDepth 100000
set_option maxHeartbeats 4000000
set_option maxRecDepth 100000
set_option maxHeartbeats 4000000
set_option maxRecDepth 100000
set_option maxHeartbeats 4000000
set_option maxRecDepth 100000
set_option maxHeartbeats 4000000
set_option maxRecDepth 100000
set_option maxHeartbeats 4000000
set_option maxRecDepth 100000
set_option maxHeartbeats 4000000
set_option maxRecDepth 100000
set_option maxHeartbeats 4000000
set_option maxRecDepth 100000
set_option maxHeartbeats 4000000
set_option maxRecDepth 100000
set_option maxHeartbeats 4000000
set_option maxRecDepth 100000
set_option maxHeartbeats 4000000
set_option maxRecDepth 100000
set_option maxHeartbeats 4000000
set_option maxRecDepth 100000
set_option maxHeartbeats 4000000
namespace SS
open PySem L2 SR TL
/-- all stands, but at Z -/
def SN (Z : Addr → Prop) (H H' : Hp) : Prop := ∀ b o, ¬ Z b → H b = some o → H' b = some o
theorem SN.refl {Z : Addr → Prop} {H : Hp} : SN Z H H := fun _ _ _ h => h
theorem SN.trans {Z : Addr → Prop} {H1 H2 H3 : Hp} (a : SN Z H1 H2) (b : SN Z H2 H3) : SN Z H1 H3 := fun x o n h => b x o n (a x o n h)
theorem Same.sn {Z : Addr → Prop} {H H' : Hp} (e : Same H H') : SN Z H H' := fun b o _ h => e b o h
theorem SN.new {Z : Addr → Prop} {D : Addr} {H H' : Hp} {o : HO} (e : SN Z H H') (h : H' D = none) : SN Z H (upd H' D o) := fun b u n hb => by
  have := e b u n hb
  rw [upd_ne (ne_of_none this h)]
  exact this
theorem SN.upd {Z : Addr → Prop} {D : Addr} {H H' : Hp} {o : HO} (e : SN Z H H') (h : Z D) : SN Z H (upd H' D o) := fun b u n hb => by
  rw [upd_ne (show b ≠ D from fun z => n (by rw [z]; exact h))]
  exact e b u n hb
end SS
set_option maxRecDepth 100000
set_option maxHeartbeats 4000000
set_option maxRecDepth 100000
set_option maxHeartbeats 4000000
set_option maxRecDepth 100000
set_option maxHeartbeats 4000000
set_option maxRecDepth 100000
set_option maxHeartbeats 4000000
set_option maxRecDepth 100000
set_option maxHeartbeats 4000000
set_option maxRecDepth 100000
set_option maxHeartbeats 4000000
set_option maxRecDepth 100000
set_option maxHeartbeats 4000000
set_option maxRecDepth 100000
set_option maxHeartbeats 4000000
set_option maxRecDepth 100000
set_option maxHeartbeats 4000000
set_option maxRecDepth 100000
set_option maxHeartbeats 4000000
set_option maxRecDepth 100000
set_option maxHeartbeats 4000000
set_option maxRecDepth 100000
set_option maxHeartbeats 4000000
set_option maxRecDepth 100000
set_option maxHeartbeats 4000000
set_option maxRecDepth 100000
set_option maxHeartbeats 4000000
set_option maxRecDepth 100000
set_option maxHeartbeats 4000000
set_option maxRecDepth 100000
set_option maxHeartbeats 1000000
set_option maxRecDepth 100000
set_option maxHeartbeats 4000000
set_option maxRecDepth 100000
set_option maxHeartbeats 4000000
set_option maxRecDepth 100000
set_option maxHeartbeats 4000000
set_option maxRecDepth 100000
set_option maxHeartbeats 4000000
set_option maxRecDepth 100000
set_option maxHeartbeats 4000000
set_option maxRecDepth 100000
set_option maxHeartbeats 4000000
set_option maxRecDepth 100000
set_option maxHeartbeats 4000000
set_option maxRecDepth 100000
set_option maxHeartbeats 4000000
set_option maxRecDepth 100000
set_option maxHeartbeats 4000000
set_option maxRecDepth 100000
set_option maxHeartbeats 4000000
set_option maxRecDepth 100000
set_option maxHeartbeats 4000000
set_option maxRecDepth 100000
set_option maxHeartbeats 4000000
set_option maxRecDepth 100000
set_option maxHeartbeats 8000000
set_option maxRecDepth 100000
set_option maxHeartbeats 4000000
set_option maxRecDepth 100000
set_option maxHeartbeats 4000000
set_option maxRecDepth 100000
set_option maxHeartbeats 4000000
set_option maxRecDepth 100000
set_option maxHeartbeats 4000000
set_option maxRecDepth 100000
set_option maxHeartbeats 4000000
set_option maxRecDepth 100000
set_option maxHeartbeats 4000000
set_option maxRecDepth 100000
set_option maxHeartbeats 4000000
set_option maxRecDepth 100000
set_option maxHeartbeats 4000000
set_option maxRecDepth 100000
set_option maxHeartbeats 4000000
set_option maxRecDepth 100000
set_option maxHeartbeats 4000000
set_option maxRecDepth 100000
set_option maxHeartbeats 4000000
set_option maxRecDepth 100000
set_option maxHeartbeats 4000000
set_option maxRecDepth 100000
set_option maxHeartbeats 4000000
set_option maxRecDepth 100000
set_option maxHeartbeats 4000000
set_option maxRecDepth 100000
set_option maxHeartbeats 4000000
set_option maxRecDepth 100000
set_option maxHeartbeats 4000000
set_option maxRecDepth 100000
set_option maxHeartbeats 4000000
set_option maxRecDepth 100000
set_option maxHeartbeats 4000000
set_option maxRecDepth 100000
set_option maxHeartbeats 4000000
set_option maxRecDepth 100000
set_option maxHeartbeats 4000000
set_option maxRecDepth 100000
set_option maxHeartbeats 4000000
namespace SR
open PySem PySem.Spec PyProof.Rows L2
/-- own classes, then the base's classes -/
inductive Abv (T : List Value) : List Value → Prop
  | base : Abv T T
  | up {c : Addr} {r : List Value} : Abv T r → Abv T (.ref c :: r)
/-- what a built-in base brings -/
structure BaseX (B newId initId : String) (T : List Value) : Prop where
  exc : ExcBaseFacts B newId initId T
  pass : ∀ self : Value, refuseLoop self "__setattr__" T = pure ()
  ob : T.contains (.type "object") = true
  ne : T.isEmpty = false
section
variable {T l : List Value}
theorem Abv.pass (h : ∀ self : Value, refuseLoop self "__setattr__" T = pure ()) (a : Abv T l) (self : Value) : refuseLoop self "__setattr__" l = pure () := by
  induction a with
  | base => exact h self
  | up _ ih => rw [refuseLoop_ref]; exact ih
theorem Abv.cont (a : Abv T l) (X : String) : l.contains (.type X) = T.contains (.type X) := by
  induction a with
  | base => rfl
  | up _ ih => rw [List.contains_cons, ih]; rfl
theorem Abv.ne (h : T.isEmpty = false) (a : Abv T l) : l.isEmpty = false := by
  cases a with
  | base => exact h
  | up _ => rfl
end
section
open Builtin Builtin.ObjectAttr
variable {prog : Program} {w : World} {A : Around} {E : Value → Shared → Prop} {R : Result → Shared → Prop} {hp : Heap} {g : Array GenState} {d : Drawn} {t : Nat} {os : OsState} {B newId initId : String} {T : List Value}
/-- the way to an exception's own dict -/
theorem osa_way (bx : BaseX B newId initId T) {K : PySem.W.Frag} {name : Str} {tk : Tok} {v : Value} {x C : Addr} {dx : Option Addr} {od : Option Obj} {fv : Array Value} {cd : ClassData} (X : K.In hp)
    (I : PySem.W.InstAt hp x { cls := .ref C, dict := dx, data := .fields fv } C od) (hcd : PySem.W.clsIn K C = some cd) (hm : Abv T cd.mro) (ha : PySem.W.findIn K (.ref C) name = some none)
    (h : wpAny (model prog w) A.in1 (storeInOwnDict (.ref x) (.ref C) (.str name tk) name v false) (fun fin s' => match fin with | .done f => R (.ok f) s' | .again c' => c'.quiet = true ∧ codeAny (model prog w) A c' R s') (fun e s' => R (.error e) s') ⟨hp, g, d, t, os⟩) :
    codeAny (model prog w) A (.call (.builtin "object.__setattr__") ⟨[.ref x, .str name tk, v], []⟩) R ⟨hp, g, d, t, os⟩ := by
  have SF := F.store_object
  have hob : cd.mro.contains (.type "object") = true := (hm.cont "object").trans bx.ob
  have sub : PySem.W.Looks (model prog w) hp (isInstance (.ref x) (.type "object")) true := I.type.andThen (PySem.W.looks_mroIn X (by unfold PySem.W.mroIn; rw [hcd, Option.bind_some, if_neg (by rw [hm.ne bx.ne]; decide), hob]))
  refine codeAny_call_builtin SF.slot.plain SF.entry (@PySem.W.check_slot (model prog w) _ _ ⟨hp, g, d, t, os⟩ "object.__setattr__" "object" "__setattr__" (.ref x) [.str name tk, v] [] _ SF.kind SF.split sub (SF.args (.ref x) (.str name tk) v) ?_)
  have hmr : PySem.W.Looks (model prog w) hp (mroOf (.ref C)) cd.mro := (PySem.W.looks_clsIn X hcd).andThen .now
  have L3 : PySem.W.Looks (model prog w) hp (storeTaker? none) none := .now
  rw [PySem.W.osa_eq, refuse_eq]
  refine wpAny_bind (wpAny_bind (I.type.at (wpAny_bind (hmr.at ?_))))
  rw [hm.pass bx.pass]
  refine wpAny_pure (wpAny_bind (I.type.at (wpAny_bind ((PySem.W.looks_findIn X ha).at (wpAny_bind (L3.at ?_))))))
  exact h
/-- the first field -/
theorem osa_first (bx : BaseX B newId initId T) {K : PySem.W.Frag} {name : Str} {tk : Tok} {v : Value} {x C : Addr} {fv : Array Value} {cd : ClassData} (X : K.In hp) (hx : hp.get? x = some { cls := .ref C, data := .fields fv }) (hcd : PySem.W.clsIn K C = some cd) (hm : Abv T cd.mro) (hh : cd.hasDict = true)
    (ha : PySem.W.findIn K (.ref C) name = some none)
    (hq : ∀ h' tk' dx, (∀ b o, b ≠ x → hp.get? b = some o → h'.get? b = some o) → hp.objs.size ≤ dx → dx ≠ x → h'.get? x = some { cls := .ref C, dict := some dx, data := .fields fv } → h'.Ns1 dx (fun y => if y = name then some v else none) → R (.ok (.ret .none)) ⟨h', g, d, tk', os⟩) :
    codeAny (model prog w) A (.call (.builtin "object.__setattr__") ⟨[.ref x, .str name tk, v], []⟩) R ⟨hp, g, d, t, os⟩ := by
  have hxs : x ≠ hp.objs.size := Nat.ne_of_lt (Heap.lt_size hx)
  have hcls : PySem.W.Looks (model prog w) hp (classData C) cd := PySem.W.looks_clsIn X hcd
  refine osa_way bx X (od := none) ⟨hx, rfl, rfl, trivial⟩ hcd hm ha ?_
  obtain ⟨nm, bs, mro, ns, qn, hd, sn, sb, ab, col, del⟩ := cd
  dsimp only at hh
  subst hh
  unfold storeInOwnDict ownDictForStores
  repeat (first | with_reducible refine HandSPX.store_in_new ?_ ?_ | with_reducible refine wpAny_loadPart_at hx ?_ | with_reducible refine hcls.at ?_ | wp_step)
  · exact ⟨_, #[], _, (Heap.get?_update_ne _ _ _ _ hxs.symm).trans (Heap.get?_push_at rfl rfl), rfl, fun e he => absurd he (by simp), fun _ => rfl⟩
  · intro h' tk' hn' hs
    have hx₁ : (hp.push { cls := .type "dict", data := .dict #[] }).get? x = some { cls := .ref C, data := .fields fv } := Heap.get?_push_of_some _ hx
    exact hq h' tk' hp.objs.size (fun b o hb ho => (hs.2 b (Nat.ne_of_lt (Heap.lt_size ho))).trans ((Heap.get?_update_ne _ _ _ _ hb).trans (Heap.get?_push_of_some _ ho))) (Nat.le_refl _) hxs.symm ((hs.2 x hxs).trans (Heap.get?_update_self _ hx₁ rfl)) hn'
/-- a further field -/
theorem osa_more (bx : BaseX B newId initId T) {K : PySem.W.Frag} {name : Str} {tk : Tok} {v : Value} {x C dx : Addr} {fv : Array Value} {cd : ClassData} {m0 : Str → Option Value} {nl : List Str} (X : K.In hp) (hx : hp.get? x = some { cls := .ref C, dict := some dx, data := .fields fv })
    (hns : hp.Ns1 dx m0) (hw : Within m0 nl) (hz : nl.length ≤ 1000) (hcd : PySem.W.clsIn K C = some cd) (hm : Abv T cd.mro) (hh : cd.hasDict = true) (ha : PySem.W.findIn K (.ref C) name = some none)
    (hq : ∀ h' tk', (∀ b o, b ≠ dx → hp.get? b = some o → h'.get? b = some o) → h'.Ns1 dx (fun y => if y = name then some v else m0 y) → R (.ok (.ret .none)) ⟨h', g, d, tk', os⟩) :
    codeAny (model prog w) A (.call (.builtin "object.__setattr__") ⟨[.ref x, .str name tk, v], []⟩) R ⟨hp, g, d, t, os⟩ := by
  obtain ⟨oD, esD, epD, hoD, hdD, _⟩ := hns.count hw
  have hcls : PySem.W.Looks (model prog w) hp (classData C) cd := PySem.W.looks_clsIn X hcd
  refine osa_way bx X (od := some oD) ⟨hx, rfl, rfl, hoD⟩ hcd hm ha ?_
  obtain ⟨nm, bs, mro, ns, qn, hd, sn, sb, ab, col, del⟩ := cd
  dsimp only at hh
  subst hh
  unfold storeInOwnDict ownDictForStores
  repeat (first | with_reducible refine OEX.store_in_old hns hw hz ?_ | with_reducible refine wpAny_loadPart_at hx ?_ | with_reducible refine hcls.at ?_ | wp_step)
  intro h' tk' hn' hs
  exact hq h' tk' (fun b o hb ho => (hs.2 b hb).trans ho) hn'
end
/-- what the written part says of the class -/
structure OexB (newId : String) (T : List Value) (K : PySem.W.Frag) (C : Addr) : Prop where
  cls : ∃ nm q N bs bm sn sub ab col dd k0 k1 k2 k3 k5, K.lookup C = some (excClassObj nm q C N bs bm true sn sub ab col dd k0 k1 k2 k3 k5 newId) ∧ Abv T bm
  sa : PySem.W.findIn K (.ref C) "__setattr__" = some (some (.builtin "object.__setattr__"))
  exC : PySem.W.subIn K (.ref C) (.type "BaseException") = some true
  tyC : PySem.W.typeIn K (.ref C) = some (.type "type")
  kC : PySem.W.keepIn K (.ref C) = true
section
variable {X : Cx} {pins : List (Addr × Obj)} {σ : L2.St} {H : Hp} {s : Shared} {a C dx : Addr} {f : Str} {y : V} {u : Value} {fs : List (Str × V)} {Q : Unit → Shared → Prop} {E : Value → Shared → Prop} {A : Around} {B newId initId : String} {T : List Value}
theorem OexB.cd (O : OexB newId T X.K C) : ∃ cd, PySem.W.clsIn X.K C = some cd ∧ Abv T cd.mro ∧ cd.hasDict = true := by
  obtain ⟨nm, q, N, bs, bm, sn, sub, ab, col, dd, k0, k1, k2, k3, k5, hC, hbm⟩ := O.cls
  exact ⟨{ name := nm, bases := bs, mro := .ref C :: bm, ns := N, qualname := q, hasDict := true, slotNames := sn, subclasses := sub, abstract := ab, collection := col, hasDel := false }, by unfold PySem.W.clsIn; rw [hC] <;> rfl, .up hbm, rfl⟩
theorem ostB_new (bx : BaseX B newId initId T) (O : OexB newId T X.K C) (I : Inv X pins σ H s) (e : H a = some (exo a C none)) (hno : PySem.W.findIn X.K (.ref C) f = some none) (ry : RelV y u)
    (h : ∀ dx s', H dx = none → dx ≠ a → Inv X pins σ (upd (upd H dx (exd dx [(f, y)])) a (exo a C (some dx))) s' → Q () s') : wpAny (model X.prog X.w) A (setAttr (.ref a) f u) Q E s := by
  obtain ⟨cd, hcl, hbm, hhd⟩ := O.cd
  obtain ⟨t1, ho⟩ := exo_at I.hok e
  obtain ⟨hp, g, d, t, os⟩ := s
  refine PySem.W.set_plain I.kIn (ox := { cls := .ref C, dict := none, data := .fields #[.ref t1, .none, .none, .none, .bool false, .none] }) (od := none) ⟨ho, rfl, rfl, trivial⟩ O.sa ?_
  refine osa_first bx I.kIn ho hcl hbm hhd hno (fun h' tk' dx k dn dne hx hn => ?_)
  have hnd : H dx = none := I.hok.fresh dn
  have nd : ∀ {b : Addr} {o : Obj}, hp.get? b = some o → b ≠ dx := fun {b o} q => Nat.ne_of_lt (Nat.lt_of_lt_of_le (Heap.lt_size q) dn)
  have na : ∀ {b : Addr}, H b = none → b ≠ a := fun {b} n z => by rw [z, e] at n; cases n
  have Un1 : Un X.fs [] H (upd (upd H dx (exd dx [(f, y)])) a (exo a C (some dx))) hp h' := {
    keep := fun b o q n _ _ => k b o (na n) q
    slot := fun b o q n _ _ => ⟨o.slots, k b o (na n) q⟩
    free := fun b o q n _ => by rw [upd_ne (na n), upd_ne (nd q)]; exact n
    there := fun b o q _ => by
      by_cases hb : b = a
      · exact ⟨_, by rw [hb]; exact hx⟩
      · exact ⟨o, k b o hb q⟩
    tups := fun b xs q => by rw [upd_ne (at_ne e q exo_tup), upd_ne (ne_of_none q hnd)]; exact q
    frzs := fun b o v q => by rw [upd_ne (at_ne e q exo_frz), upd_ne (ne_of_none q hnd)]; exact q
    tbls := fun b ps q => ⟨#[], by rw [upd_ne (at_ne e q exo_tbl), upd_ne (ne_of_none q hnd), q]; simp⟩ }
  refine h dx _ hnd dne (I.un (t' := tk') Un1 fun b o q => ?_)
  by_cases hb : b = a
  · subst hb
    rw [upd_same] at q
    cases q
    exact exo_ok hx
  · rw [upd_ne hb] at q
    by_cases hd : b = dx
    · subst hd
      rw [upd_same] at q
      cases q
      exact exd_ok hn (relO_put (fs := []) ry fun g => True.intro)
    · rw [upd_ne hd] at q
      exact (I.hok b o q).stay (fun c v hc z => k c v (by
          rcases hc with hc | hc
          · rw [hc]; exact hb
          · exact at_ne e hc exo_own) z)
        (fun c hc => by rw [upd_ne (at_ne e hc exo_own), upd_ne (ne_of_none hc hnd)]; exact hc) (fun c xs hc => by rw [upd_ne (at_ne e hc exo_tup), upd_ne (ne_of_none hc hnd)]; exact hc)
theorem ostB_old (bx : BaseX B newId initId T) (O : OexB newId T X.K C) (I : Inv X pins σ H s) (e : H a = some (exo a C (some dx))) (ed : H dx = some (exd dx fs)) (hl : fs.length ≤ 900) (hno : PySem.W.findIn X.K (.ref C) f = some none) (ry : RelV y u)
    (h : ∀ s', Inv X pins σ (upd H dx (exd dx ((f, y) :: fs))) s' → Q () s') : wpAny (model X.prog X.w) A (setAttr (.ref a) f u) Q E s := by
  obtain ⟨cd, hcl, hbm, hhd⟩ := O.cd
  obtain ⟨t1, ho⟩ := exo_at I.hok e
  obtain ⟨mA, hns, rel⟩ := exd_at I.hok ed
  have hw := within_of rel
  obtain ⟨hp, g, d, t, os⟩ := s
  obtain ⟨oD, _, _, hoD, _, _⟩ := hns.count hw
  refine PySem.W.set_plain I.kIn (ox := { cls := .ref C, dict := some dx, data := .fields #[.ref t1, .none, .none, .none, .bool false, .none] }) (od := some oD) ⟨ho, rfl, rfl, hoD⟩ O.sa ?_
  refine osa_more bx I.kIn ho hns hw (by rw [List.length_map]; omega) hcl hbm hhd hno (fun h' tk' k hn => ?_)
  have hd : ∃ o, h'.get? dx = some o := by
    obtain ⟨o, _, _, e', _⟩ := hn
    exact ⟨o, e'⟩
  exact h _ (I.write (t' := tk') (x := dx) (e := dx) (o := exd dx ((f, y) :: fs)) (by rw [ed]; exact True.intro) (.inl rfl) k hd (exd_ok hn (relO_put ry rel)))
/-- B.__init__(self, ..) -/
theorem oinitB_ok {us : List Value} {Q : Value → Shared → Prop} (bx : BaseX B newId initId T) (O : OexB newId T X.K C) (I : Inv X pins σ H s) (e : H a = some (exo a C none)) (hl : us.length ≤ sizeLine) (h : ∀ s', Inv X pins σ H s' → Q .none s') :
    wpAny (model X.prog X.w) A (call (.builtin initId) (.ref a :: us)) Q E s := by
  obtain ⟨nm, q, N, bs, bm, sn, sub, ab, col, dd, k0, k1, k2, k3, k5, hC, hbm⟩ := O.cls
  obtain ⟨t1, ho⟩ := exo_at I.hok e
  obtain ⟨hp, g, d, t, os⟩ := s
  refine wpAny_call (PySem.HandSPX.init_base bx.exc hbm.cont (I.kIn _ _ hC) ho hl fun h' t2 k hx => ?_)
  have J := I.write (t' := t) (x := a) (e := a) (o := exo a C none) (by rw [e]; exact True.intro) (.inl rfl) k ⟨_, hx⟩ (exo_ok hx)
  have eu : upd H a (exo a C none) = H := by
    funext b
    by_cases hb : b = a
    · rw [hb, upd_same, e]
    · rw [upd_ne hb]
  rw [eu] at J
  exact h _ J
end
def tIniB (newId : String) (T : List Value) (K : PySem.W.Frag) (ta : TA) : TE := fun σ H Q => ta σ H fun vs H1 => ∃ (a C : Addr) (ws : List V), vs = .ref a :: ws ∧ ws.length ≤ 1000 ∧ OexB newId T K C ∧ H1 a = some (exo a C none) ∧ Q .non H1
def tOstB (newId : String) (T : List Value) (K : PySem.W.Frag) (f : Str) (to te : TE) : TS := fun D σ H => te σ H fun y H1 => to σ H1 fun x H2 => ∃ a C : Addr, x = .ref a ∧ OexB newId T K C ∧ PySem.W.findIn K (.ref C) f = some none ∧
  ((H2 a = some (exo a C none) ∧ ∀ dx, H2 dx = none → dx ≠ a → D.nx σ (upd (upd H2 dx (exd dx [(f, y)])) a (exo a C (some dx)))) ∨
    ∃ (dx : Addr) (fs : List (Str × V)), H2 a = some (exo a C (some dx)) ∧ H2 dx = some (exd dx fs) ∧ fs.length ≤ 900 ∧ D.nx σ (upd H2 dx (exd dx ((f, y) :: fs))))
section
variable {X : Cx} {o e : Expr} {es : List Expr} {to te : TE} {ta : TA} {f : Str} {p p' p1 p2 pos : Pos} {B newId initId : String} {T : List Value}
theorem ps_ostB (bx : BaseX B newId initId T) (ho : PE X o to) (he : PE X e te) (hs : swapsWith e (some (.Attribute o f p')) pos.line X.env = pure false := by rfl) : PS X (.Assign [.Attribute o f p'] e pos) (tOstB newId T X.K f to te) := by
  refine ⟨fun pins s σ H D I h => ?_⟩
  refine plainObj_wpAny_Assign_Attribute (thn (he.run pins s σ H _ I h) fun v s1 ⟨y, H1, I1, r1, q1⟩ => thn (ho.run pins s1 σ H1 _ I1 q1) fun u s2 ⟨x, H2, I2, r2, a, C, ex, O, hno, q⟩ => ?_) hs
  subst ex
  obtain rfl : u = Value.ref a := r2
  rcases q with ⟨ea, q⟩ | ⟨dx, fs, ea, ed, hl, q⟩
  · exact ostB_new bx O I2 ea hno r1 fun dx s' n ne J => ⟨σ, _, J, q dx n ne⟩
  · exact ostB_old bx O I2 ea ed hl hno r1 fun s' J => ⟨σ, _, J, q⟩
end
end SR
set_option maxRecDepth 100000
set_option maxHeartbeats 4000000
set_option maxRecDepth 100000
set_option maxHeartbeats 4000000
set_option maxRecDepth 100000
set_option maxHeartbeats 4000000
set_option maxRecDepth 100000
set_option maxHeartbeats 4000000
set_option maxRecDepth 100000
set_option maxHeartbeats 4000000
set_option maxRecDepth 100000
set_option maxHeartbeats 4000000
set_option maxRecDepth 100000
set_option maxHeartbeats 4000000
set_option maxRecDepth 100000
set_option maxHeartbeats 4000000
set_option maxRecDepth 100000
set_option maxHeartbeats 4000000
set_option maxRecDepth 100000
set_option maxHeartbeats 4000000
set_option maxRecDepth 100000
set_option maxHeartbeats 4000000
set_option maxRecDepth 100000
set_option maxHeartbeats 4000000
set_option maxRecDepth 100000
set_option maxHeartbeats 4000000
set_option maxRecDepth 100000
set_option maxHeartbeats 4000000
set_option maxRecDepth 100000
set_option maxHeartbeats 4000000
set_option maxRecDepth 100000
set_option maxHeartbeats 4000000
set_option maxRecDepth 100000
set_option maxHeartbeats 4000000
set_option maxRecDepth 100000
set_option maxHeartbeats 4000000
set_option maxRecDepth 100000
set_option maxHeartbeats 4000000
set_option maxRecDepth 100000
set_option maxHeartbeats 4000000
set_option maxRecDepth 100000
set_option maxHeartbeats 4000000
set_option maxRecDepth 100000
set_option maxHeartbeats 4000000
set_option maxRecDepth 100000
set_option maxHeartbeats 4000000
set_option maxRecDepth 100000
set_option maxHeartbeats 4000000
set_option maxRecDepth 100000
set_option maxHeartbeats 4000000
set_option maxRecDepth 100000
set_option maxHeartbeats 4000000
set_option maxRecDepth 100000
set_option maxHeartbeats 4000000
set_option maxRecDepth 100000
set_option maxHeartbeats 4000000
set_option maxRecDepth 100000
set_option maxHeartbeats 4000000
set_option maxRecDepth 100000
set_option maxHeartbeats 4000000
set_option maxRecDepth 100000
set_option maxHeartbeats 4000000
set_option maxRecDepth 100000
set_option maxHeartbeats 1000000
set_option maxRecDepth 100000
set_option maxHeartbeats 1000000
set_option maxRecDepth 100000
set_option maxHeartbeats 1000000
set_option maxRecDepth 100000
set_option maxHeartbeats 1000000
set_option maxRecDepth 100000
set_option maxHeartbeats 4000000
set_option maxRecDepth 100000
set_option maxHeartbeats 4000000
set_option maxRecDepth 100000
set_option maxHeartbeats 4000000
set_option maxRecDepth 100000
set_option maxHeartbeats 4000000
set_option maxRecDepth 100000
set_option maxHeartbeats 4000000
set_option maxRecDepth 100000
set_option maxHeartbeats 4000000
set_option maxRecDepth 100000
set_option maxHeartbeats 4000000
namespace SS
open PySem L2 SR TL ZA
mutual
inductive Dh (H : Hp) : V → PyData → Prop
  | non : Dh H .non .none
  | bl (b : Bool) : Dh H (.bl b) (.bool b)
  | int (i : Int) : Dh H (.int i) (.int i)
  | str (x : Str) : Dh H (.str x) (.str x)
  | lst {a : Addr} {xs : List V} {ds : List PyData} : H a = some (.lst xs) → DhAll H xs ds → Dh H (.ref a) (.list ds)
  | tup {a : Addr} {xs : List V} {ds : List PyData} : H a = some (.tup xs) → DhAll H xs ds → Dh H (.ref a) (.tuple ds)
inductive DhAll (H : Hp) : List V → List PyData → Prop
  | nil : DhAll H [] []
  | cons {v : V} {vs : List V} {d : PyData} {ds : List PyData} : Dh H v d → DhAll H vs ds → DhAll H (v :: vs) (d :: ds)
end
mutual
theorem Dh.mono {H H' : Hp} (e : Same H H') : ∀ (d : PyData) {v : V}, Dh H v d → Dh H' v d
  | .none, _, h => by cases h; exact .non
  | .bool b, _, h => by cases h; exact .bl b
  | .int i, _, h => by cases h; exact .int i
  | .str x, _, h => by cases h; exact .str x
  | .list ds, _, h => by cases h with | lst h1 h2 => exact .lst (e _ _ h1) (DhAll.mono e ds h2)
  | .tuple ds, _, h => by cases h with | tup h1 h2 => exact .tup (e _ _ h1) (DhAll.mono e ds h2)
  | .dict _, _, h => by cases h
theorem DhAll.mono {H H' : Hp} (e : Same H H') : ∀ (ds : List PyData) {vs : List V}, DhAll H vs ds → DhAll H' vs ds
  | [], _, h => by cases h; exact .nil
  | d :: ds, _, h => by cases h with | cons h1 h2 => exact .cons (Dh.mono e d h1) (DhAll.mono e ds h2)
end
theorem DhAll.len {H : Hp} : ∀ {ds : List PyData} {vs : List V}, DhAll H vs ds → vs.length = ds.length
  | [], _, h => by cases h; rfl
  | d :: ds, _, h => by cases h with | cons h1 h2 => rw [List.length_cons, List.length_cons, h2.len]
theorem DhAll.get {H : Hp} : ∀ {ds : List PyData} {vs : List V}, DhAll H vs ds → ∀ (i : Nat) {v : V}, vs[i]? = some v → ∃ d, ds[i]? = some d ∧ Dh H v d
  | [], _, h, i, v, hv => by cases h; simp at hv
  | d :: ds, _, h, i, v, hv => by
    cases h with
    | cons h1 h2 =>
      cases i with
      | zero => cases hv; exact ⟨d, rfl, h1⟩
      | succ i => exact h2.get i hv
def tyN : PyData → String
  | .none => "NoneType"
  | .bool _ => "bool"
  | .int _ => "int"
  | .str _ => "str"
  | .list _ => "list"
  | .tuple _ => "tuple"
  | .dict _ => "dict"
theorem dh_ty {K : PySem.W.Frag} {H : Hp} {v : V} {d : PyData} (h : Dh H v d) : TyX K H v (.type (tyN d)) := by
  cases h with
  | non => exact .base .non
  | bl b => exact .base (.bl b)
  | int i => exact .base (.int i)
  | str x => exact .base (.str x)
  | lst h1 _ => exact .base (.lst h1)
  | tup h1 _ => exact .base (.tup h1)
def isTupD : PyData → Bool
  | .tuple _ => true
  | _ => false
def isLstD : PyData → Bool
  | .list _ => true
  | _ => false
theorem kit_tup {K : PySem.W.Frag} (d : PyData) : PySem.W.kitOne K (.type (tyN d)) (.type "tuple") = some (isTupD d) := match d with
  | .none => kit_ty (by decide +kernel : kitB "NoneType" "tuple" = some false)
  | .bool _ => kit_ty (by decide +kernel : kitB "bool" "tuple" = some false)
  | .int _ => kit_ty (by decide +kernel : kitB "int" "tuple" = some false)
  | .str _ => kit_ty (by decide +kernel : kitB "str" "tuple" = some false)
  | .list _ => kit_ty (by decide +kernel : kitB "list" "tuple" = some false)
  | .tuple _ => kit_ty (by decide +kernel : kitB "tuple" "tuple" = some true)
  | .dict _ => kit_ty (by decide +kernel : kitB "dict" "tuple" = some false)
theorem kit_lst {K : PySem.W.Frag} (d : PyData) : PySem.W.kitOne K (.type (tyN d)) (.type "list") = some (isLstD d) := match d with
  | .none => kit_ty (by decide +kernel : kitB "NoneType" "list" = some false)
  | .bool _ => kit_ty (by decide +kernel : kitB "bool" "list" = some false)
  | .int _ => kit_ty (by decide +kernel : kitB "int" "list" = some false)
  | .str _ => kit_ty (by decide +kernel : kitB "str" "list" = some false)
  | .list _ => kit_ty (by decide +kernel : kitB "list" "list" = some true)
  | .tuple _ => kit_ty (by decide +kernel : kitB "tuple" "list" = some false)
  | .dict _ => kit_ty (by decide +kernel : kitB "dict" "list" = some false)
end SS
set_option maxRecDepth 100000
set_option maxHeartbeats 4000000
set_option maxRecDepth 100000
set_option maxHeartbeats 4000000
namespace SS
open PySem L2 SR TL ZA
/-- a dict whose keys and values are ints, as data -/
def kvI (zs : List (Int × Int)) : List (Key × V) := zs.map fun z => (Sum.inl z.1, V.int z.2)
def kvID (zs : List (Int × Int)) : PyData := .dict (zs.map fun z => (.int z.1, .int z.2))
def Ov (H : Hp) (v : V) (d : PyData) : Prop := Dh H v d ∨ ∃ (a : Addr) (zs : List (Int × Int)), v = .ref a ∧ H a = some (.dK (kvI zs)) ∧ d = kvID zs
theorem Ov.mono {H H' : Hp} {v : V} {d : PyData} (e : Same H H') (h : Ov H v d) : Ov H' v d := by
  rcases h with h | ⟨a, zs, rfl, h, rfl⟩
  · exact .inl (h.mono e)
  · exact .inr ⟨a, zs, rfl, e _ _ h, rfl⟩
/-- which kind a value is of, for isinstance -/
theorem ov_ty {K : PySem.W.Frag} {H : Hp} {v : V} {d : PyData} (h : Ov H v d) : TyX K H v (.type (tyN d)) := by
  rcases h with h | ⟨a, zs, rfl, h, rfl⟩
  · exact dh_ty h
  · exact .base (.dK h)
theorem ov_str {H : Hp} {v : V} {x : Str} (h : Ov H v (.str x)) : v = .str x := by
  rcases h with h | ⟨a, zs, rfl, h, e⟩
  · cases h; rfl
  · cases e
theorem ov_non {H : Hp} {v : V} {d : PyData} (h : Ov H v d) : NonStr H v ∨ ∃ x, d = .str x := by
  rcases h with h | ⟨a, zs, rfl, h, rfl⟩
  · cases h with
    | non => exact .inl (.inl rfl)
    | bl b => exact .inl (.inr (.inr (.inl ⟨b, rfl⟩)))
    | int i => exact .inl (.inr (.inl ⟨i, rfl⟩))
    | str x => exact .inr ⟨x, rfl⟩
    | lst h _ => exact .inl (.inr (.inr (.inr ⟨_, rfl, .inl ⟨_, h⟩⟩)))
    | tup h _ => exact .inl (.inr (.inr (.inr ⟨_, rfl, .inr (.inl ⟨_, h⟩)⟩)))
  · exact .inl (.inr (.inr (.inr ⟨_, rfl, .inr (.inr ⟨_, h⟩)⟩)))
def isWordD (d : PyData) : Bool := match d with
  | .str x => x.cps.toList.all fun c => decide (97 ≤ c ∧ c < 123)
  | _ => false
def lenD (d : PyData) : Nat := match d with
  | .str x => x.cps.size
  | _ => 0
def isSgnD (d : PyData) : Bool := isWordD d && decide (lenD d = 1)
def isMrkD (d : PyData) : Bool := isWordD d && decide (1 < lenD d ∧ lenD d ≤ 8)
def isNamD (d : PyData) : Bool := isSgnD d || isMrkD d
theorem txt_cps (x : Str) : x = txt x.cps.toList := by
  obtain ⟨⟨l⟩⟩ := x
  rfl
theorem word_iff {x : Str} : isWordD (.str x) = true ↔ Lets x.cps.toList := by
  unfold isWordD Lets
  rw [List.all_eq_true]
  exact forall_congr' fun c => forall_congr' fun _ => by simp
section
variable {P : Program} {w : World} {K : PySem.W.Frag} {mg : Str → Option Value} {base : Heap}
def spWordV : Sp := fun vs H Q _ => ∃ (v : V) (d : PyData), vs = [v] ∧ Ov H v d ∧ lenD d ≤ 1000 ∧ ∀ H', Same H H' → Q (.bl (isWordD d)) H'
theorem wordV_imp : ∀ (vs : List V) (H : Hp) (Q : VK) (E : XK), spWordV vs H Q E → spWord vs H Q E := by
  rintro vs H Q E ⟨v, d, rfl, ho, hl, k⟩
  refine ⟨v, rfl, ?_⟩
  rcases ov_non ho with h | ⟨x, rfl⟩
  · refine .inl ⟨h, ?_⟩
    have : isWordD d = false := by
      rcases ho with g | ⟨_, zs, _, _, rfl⟩
      · cases g with
        | str x => rcases h with h | ⟨_, h⟩ | ⟨_, h⟩ | ⟨_, h, _⟩ <;> cases h
        | _ => rfl
      · rfl
    rw [← this]
    exact k H (Same.refl _)
  · obtain rfl := ov_str ho
    refine .inr ⟨x.cps.toList, by rw [← txt_cps], by simpa [lenD] using hl, fun b H' hb e => ?_⟩
    have : b = isWordD (.str x) := by
      rw [Bool.eq_iff_iff, hb, word_iff]
    rw [this]
    exact k H' e
theorem ok_wordV {f : Addr} {fd : FuncData} {k : Nat} (F : FnOk P w K mg base CX0 k f fd ["value"] spWord) : FnOk P w K mg base CX0 k f fd ["value"] spWordV := F.imp wordV_imp
end
end SS
set_option maxRecDepth 100000
set_option maxHeartbeats 4000000
namespace SR
open PySem PySem.Spec PyProof.Rows L2
mutual
inductive Dq (K : PySem.W.Frag) (H : Hp) : V → PyData → Prop
  | non : Dq K H .non .none
  | bl (b : Bool) : Dq K H (.bl b) (.bool b)
  | int (i : Int) : Dq K H (.int i) (.int i)
  | str (x : Str) : Dq K H (.str x) (.str x)
  | tup {a : Addr} {xs : List V} {ds : List PyData} : SqT K H a xs → DqAll K H xs ds → Dq K H (.ref a) (.tuple ds)
  | dic {a : Addr} {kvs : List (Key × V)} {ps : List (PyData × PyData)} : H a = some (.dK kvs) → DqKv K H kvs ps → Dq K H (.ref a) (.dict ps)
inductive DqAll (K : PySem.W.Frag) (H : Hp) : List V → List PyData → Prop
  | nil : DqAll K H [] []
  | cons {v : V} {vs : List V} {d : PyData} {ds : List PyData} : Dq K H v d → DqAll K H vs ds → DqAll K H (v :: vs) (d :: ds)
inductive DqKv (K : PySem.W.Frag) (H : Hp) : List (Key × V) → List (PyData × PyData) → Prop
  | nil : DqKv K H [] []
  | cons {k : Key} {v : V} {kvs : List (Key × V)} {d : PyData} {ps : List (PyData × PyData)} : Dq K H v d → DqKv K H kvs ps → DqKv K H ((k, v) :: kvs) ((keyD k, d) :: ps)
end
section
variable {X : Cx} {pins : List (Addr × Obj)} {σ : L2.St} {H : Hp} {s : Shared}
mutual
theorem Dq.rds (I : Inv X pins σ H s) : ∀ (d : PyData) (v : V) (u : Value), Dq X.K H v d → RelV v u → ∃ as, Reads s.heap u d as ∧ sysModules ∉ as
  | .none, _, _, h, r => by
    cases h; cases r
    exact ⟨_, .none, nofun⟩
  | .bool b, _, _, h, r => by
    cases h; cases r
    exact ⟨_, .bool b, nofun⟩
  | .int i, _, _, h, r => by
    cases h
    obtain ⟨t, rfl⟩ := r
    exact ⟨_, .int i t, nofun⟩
  | .str x, _, _, h, r => by
    cases h
    obtain ⟨t, rfl⟩ := r
    exact ⟨_, .str x t, nofun⟩
  | .list ds, _, _, h, _ => by cases h
  | .tuple ds, _, _, h, r => by
    cases h with
    | tup hs ha =>
      cases r
      obtain ⟨its, rv, ⟨o, e1, e2, n, e3⟩, _⟩ := I.tuple hs
      obtain ⟨as, q1, q2⟩ := DqAll.rds I ds _ its ha rv
      exact ⟨as, .tuple e1 e2 e3 q1, q2⟩
  | .dict ps, _, _, h, r => by
    cases h with
    | @dic a kvs _ hd hk =>
      cases r
      obtain ⟨_, ns, vs, rel, o, es, ep, ho, hx, hdat, _, hp, _⟩ := dk_of I.hok hd
      obtain ⟨⟨as, p1, n1⟩, ⟨bs, p2, n2⟩⟩ := DqKv.rds I ps kvs vs es.toList hk rel hp
      refine ⟨_, .dict ho hx.1 hdat p1 p2, fun hm => ?_⟩
      rcases List.mem_append.mp hm with z | z
      · rcases List.mem_cons.mp z with e | z
        · rw [← e] at ns
          simp at ns
        · exact n1 z
      · exact n2 z
theorem DqAll.rds (I : Inv X pins σ H s) : ∀ (ds : List PyData) (vs : List V) (us : List Value), DqAll X.K H vs ds → Vals vs us → ∃ as, ReadsAll s.heap us ds as ∧ sysModules ∉ as
  | [], _, _, h, r => by
    cases h; cases r
    exact ⟨_, .nil, nofun⟩
  | d :: ds, _, _, h, r => by
    cases h with
    | cons h1 h2 =>
      cases r with
      | cons r1 r2 =>
        obtain ⟨as, p1, n1⟩ := Dq.rds I d _ _ h1 r1
        obtain ⟨bs, p2, n2⟩ := DqAll.rds I ds _ _ h2 r2
        exact ⟨_, .cons p1 p2, fun hm => (List.mem_append.mp hm).elim n1 n2⟩
theorem DqKv.rds (I : Inv X pins σ H s) : ∀ (ps : List (PyData × PyData)) (kvs : List (Key × V)) (vs : List (Key × Value)) (es : List DictEntry), DqKv X.K H kvs ps → KV kvs vs → Pairs (mixKind X.prog X.w) es vs →
    (∃ as, ReadsAll s.heap (es.map (·.key)) (ps.map (·.1)) as ∧ sysModules ∉ as) ∧ ∃ bs, ReadsAll s.heap (es.map (·.val)) (ps.map (·.2)) bs ∧ sysModules ∉ bs
  | [], _, _, _, h, r, e => by
    cases h; cases r; cases e
    exact ⟨⟨[], .nil, nofun⟩, ⟨[], .nil, nofun⟩⟩
  | (a, d) :: ps, _, _, _, h, r, e => by
    cases h with
    | cons h1 h2 =>
      cases r with
      | cons ra rb =>
        cases e with
        | cons c1 c2 c3 =>
          obtain ⟨⟨as, p1, n1⟩, ⟨bs, p2, n2⟩⟩ := DqKv.rds I ps _ _ _ h2 rb c3
          obtain ⟨cs, p3, n3⟩ := Dq.rds I d _ _ h1 ra.2
          obtain ⟨ra1, ra2⟩ := ra
          have ra1' := ra1.symm
          dsimp only at ra1' ra2 c1 c2
          rw [ra1'] at c1
          rw [← c2] at p3
          exact ⟨⟨_, .cons (as := []) (key_reads c1) p1, n1⟩, ⟨_, .cons (as := cs) p3 p2, fun hm => (List.mem_append.mp hm).elim n3 n2⟩⟩
end
end
end SR
set_option maxRecDepth 100000
set_option maxHeartbeats 4000000
namespace SR
open PySem PySem.Spec PyProof.Rows L2
structure FnC (P : Program) (w : World) (K : PySem.W.Frag) (mg : Str → Option Value) (base : Heap) (CX : CXT) (k : Nat) (f : Addr) (fd : FuncData) (ps : List Str) (sp : Sp) : Prop where
  len : ∀ vs H Q E, sp vs H Q E → vs.length = ps.length
  run : ∀ (A : Around) (outer : List Env) (s : Shared) (H : Hp) (args : Args) (us : List Value) (vs : List V) (Q : VK) (E : XK), Room k A → A.guards = some [] → Env0 P w K mg base A outer s H → BindsTo s fd args (ps.zip us) → Vals vs us → sp vs H Q E →
    codeAny (model P w) A (.call (.ref f) args) (CR CX outer P w H s Q E) s
section
variable {P : Program} {w : World} {K : PySem.W.Frag} {mg : Str → Option Value} {base : Heap} {CX : CXT} {j k : Nat} {f : Addr} {fd : FuncData} {ps : List Str} {sp : Sp}
theorem FnC.of (F : FnOk P w K mg base CX k f fd ps sp) : FnC P w K mg base CX k f fd ps sp := ⟨F.len, fun A outer s H args us vs Q E hr _ => F.run A outer s H args us vs Q E hr⟩
theorem FnC.ofG (F : FnG P w K mg base k f fd ps sp) : FnC P w K mg base CX0 k f fd ps sp := ⟨F.len, F.run⟩
theorem FnC.toG (F : FnC P w K mg base CX0 k f fd ps sp) : FnG P w K mg base k f fd ps sp := ⟨F.len, F.run⟩
theorem FnC.mono (F : FnC P w K mg base CX j f fd ps sp) (h : j ≤ k) : FnC P w K mg base CX k f fd ps sp := ⟨F.len, fun A outer s H args us vs Q E hr => F.run A outer s H args us vs Q E (hr.mono h)⟩
theorem FnC.imp {sp' : Sp} (F : FnC P w K mg base CX k f fd ps sp) (h : ∀ vs H Q E, sp' vs H Q E → sp vs H Q E) : FnC P w K mg base CX k f fd ps sp' := ⟨fun vs H Q E z => F.len vs H Q E (h _ _ _ _ z), fun A outer s H args us vs Q E hr hg e0 hb r z => F.run A outer s H args us vs Q E hr hg e0 hb r (h _ _ _ _ z)⟩
end
/-- a def by its body, which may raise -/
theorem okC {P : Program} {w : World} {K : PySem.W.Frag} {mg : Str → Option Value} {base : Heap} {x qual : Str} {st : Stmt} {f : Addr} {fd : FuncData} {N ps : List Str} {k : Nat} {sp : Sp} (F : Fun K x qual st f fd) (S : FnScope N ps (defScope st)) (len : ∀ vs H Q E, sp vs H Q E → vs.length = ps.length)
    (hbody : ∀ (cdv : Value) (A : Around) (outer : List Env) (s : Shared) (H : Hp) (vs : List V) (Q : VK) (E : XK), Room k (A.deeper (envOfC qual (defScope st) s.heap.objs.size f cdv)) → (A.deeper (envOfC qual (defScope st) s.heap.objs.size f cdv)).guards = some [] → sp vs H Q E →
      ∃ t, PSs (cxOf (L2.CX P w) P w K mg base N qual (defScope st) f cdv A outer s H E) (defBody st) t ∧ t { nx := fun _ H' => Q .non H', rt := Q } (L2.start N vs) H) : FnC P w K mg base (L2.CX P w) (k + 1) f fd ps sp := by
  obtain ⟨oc, od, kV, doc, pm, an, cdv, ct, osl, rfl, lk, hcd⟩ := F.ex
  refine ⟨len, fun A outer s H args us vs Q E hr hg e0 hb r hsp => ?_⟩
  have inK : K.In s.heap := e0.mod.kin.keeps fun b o e => (e0.bs b o e).1
  have noL : s.heap.NoLimit := e0.mod.nolimit.keeps fun b o e => (e0.bs b o e).1
  refine codeAny_call_function hr.depth (inK _ _ lk) rfl S.co S.gen rfl (PySem.W.codeRec_of inK hcd) (hb _ _ _ _ (wpAny_newFunctionEnv_cells S.kind ?_ ?_))
  · rintro ⟨n, v⟩ hy
    exact (S.par n (List.of_mem_zip hy).1).elim .inl fun q => .inr ⟨q, PySem.W.cellsFrom_some _ _ _ (.inl q)⟩
  · intro env he s1 new
    subst he
    obtain ⟨t, ht, hq⟩ := hbody cdv A outer s H vs Q E (hr.deeper _) hg hsp
    have I : Inv (cxOf (L2.CX P w) P w K mg base N qual (defScope st) f cdv A outer s H E) [] (L2.start N vs) H s1 := inv_start S hr.hd e0 (len _ _ _ _ hsp) r new
    refine ⟨noL.keeps new.toInCall.keep, codeAny_func (wpAny_mono (ht.run [] s1 (L2.start N vs) H _ I hq) (fun fl s' hs => ?_) fun e s' hs => hs)⟩
    cases fl with
    | ret u =>
      obtain ⟨v, σ', H', J, rv, q⟩ := hs
      exact ⟨v, H', J.os, J.bare, J.base, J.hok, rv, q⟩
    | next =>
      obtain ⟨σ', H', J, q⟩ := hs
      exact ⟨V.non, H', J.os, J.bare, J.base, J.hok, rfl, q⟩
    | brk => exact hs.elim fun _ z => z.elim fun _ z => z.2.elim
    | cont => exact hs.elim fun _ z => z.elim fun _ z => z.2.elim
theorem make_guards {A : Around} (h : A.guards = some []) (C : Addr) (us : List Value) (kw : List (Str × Value)) : (A.under (.builtin "type.__call__" ⟨.ref C :: us, kw⟩)).guards = some [] := by
  first | (simp [Around.under, Code.guards, Code.isGuard, guardIds, pushGuards, h]; done) | (unfold Around.under; simp [pushGuards_eq, h, Code.guards, Code.isGuard]) | trace_state
/-- a def of the top, called where no repr is under way -/
structure CalC (P : Program) (w : World) (K : PySem.W.Frag) (mg : Str → Option Value) (base : Heap) (x : Str) (k : Nat) (ps : List Str) (sp : Sp) : Prop where
  ex : ∃ f fd, FnC P w K mg base (L2.CX P w) k f fd ps sp ∧ mg x = some (.ref f) ∧ PySem.W.keepIn K (.ref f) = true ∧ Binds K fd ps []
section
variable {X : Cx} {CX : CXT} {k : Nat} {f : Addr} {fd : FuncData} {ps : List Str} {sp : Sp} {E : XK} {x : Str} {e : Expr} {es : List Expr} {t : TA} {p pos : Pos}
theorem run_fnC {pins : List (Addr × Obj)} {σ : L2.St} {H : Hp} {s : Shared} {Q : VK} {us : List Value} {vs : List V} (F : FnC X.prog X.w X.K X.mg X.base CX k f fd ps sp) (hr : Room k X.A) (hg : X.A.guards = some []) (hb : Binds X.K fd ps []) (hx : PassesAt CX X σ E)
    (I : Inv X pins σ H s) (r : Vals vs us) (h : sp vs H Q E) : wpAny (model X.prog X.w) X.A (call (.ref f) us) (EP X pins σ Q) X.xe s := by
  have hl : us.length = ps.length := by rw [← r.length]; exact F.len _ _ _ _ h
  have b := hb s us I.kIn (by simpa using hl)
  rw [List.append_nil] at b
  refine wpAny_call (codeAny_mono (F.run X.A X.stack s H ⟨us, []⟩ us vs Q E hr hg I.env0 b r h) fun r s' hq => ?_)
  cases r with
  | error e => exact hx pins H s e s' I hq
  | ok fl =>
    cases fl with
    | ret u => exact I.after hq
    | next => exact False.elim hq
    | brk => exact False.elim hq
    | cont => exact False.elim hq
theorem passes_at (hx : Passes CX X E) (σ : L2.St) : PassesAt CX X σ E := fun pins H s e s' I c => hx pins σ H s e s' I c
theorem pe_calC (C : CalC X.prog X.w X.K X.mg X.base x k ps sp) (hr : Room k X.A) (hgd : X.A.guards = some []) (hx : Passes (L2.CX X.prog X.w) X E) (ha : PA X (e :: es) t) (hg : Gl X x := by rfl) (hdb : (x == ("__debug__" : Str)) = false := by decide)
    (he : starEach (e :: es) X.env = (false, eval e X.env) :: starEach es X.env := by rfl) (hpl : (backTo pos (starEach es X.env)).any (·.1) = false := by rfl) : PE X (.Call (.Name x p) (e :: es) [] pos) (tCall sp [] E t) := by
  obtain ⟨f, fd, F, m, kp, b⟩ := C.ex
  refine ⟨fun pins s σ H Q I h => wpAny_Call_Name_kw (ld_glob I hg m (PySem.W.callWith_K (h₀ := X.base) I.ok.mod.kin kp (thn (ha.run pos pins s σ H _ I h) fun us s1 ⟨vs, H1, I1, r, q⟩ => ⟨I1.kIn, ?_⟩) he hpl) hdb)⟩
  have q' : sp (vs ++ []) H1 Q E := q
  rw [List.append_nil] at q'
  exact run_fnC F hr hgd b (passes_at hx σ) I1 r q'
end
section
variable {X : Cx} {o e : Expr} {es : List Expr} {to te : TE} {ta : TA} {f : Str} {p p' p1 p2 pos : Pos} {B newId initId : String} {T : List Value}
theorem pmk_oexC (bx : BaseX B newId initId T) {CX : CXT} {x : Str} {C fI : Addr} {k : Nat} {fd : FuncData} {ps : List Str} {sp : Sp} (O : OexB newId T X.K C) (iC : PySem.W.findIn X.K (.ref C) "__init__" = some (some (.ref fI))) (tI : PySem.W.typeIn X.K (.ref fI) = some (.type "function"))
    (F1 : FnC X.prog X.w X.K X.mg X.base CX k fI fd ps sp) (hr : Room (k + 1) X.A) (hgd : X.A.guards = some []) (hb : Binds X.K fd ps []) (hx : Passes CX X (fun _ _ _ => False)) (hg : Gl X x) (hm : X.mg x = some (.ref C)) (ha : PA X (e :: es) ta)
    (hdb : (x == ("__debug__" : Str)) = false := by decide) (he : starEach (e :: es) X.env = (false, eval e X.env) :: starEach es X.env := by rfl) (hpl : (backTo pos (starEach es X.env)).any (·.1) = false := by rfl) :
    PMk X (.Call (.Name x p) (e :: es) [] pos) (tMkO C sp [] ta) := by
  intro pins s σ H Q I h
  obtain ⟨nm, q, N, bs, bm, sn, sub, ab, col, dd, k0, k1, k2, k3, k5, hC, hbm⟩ := O.cls
  refine wpAny_Call_Name_kw (ld_glob I hg hm ?_ hdb)
  refine PySem.W.callWith_K (h₀ := X.base) I.ok.mod.kin O.kC (thn (ha.run pos pins s σ H _ I h) fun us s1 ⟨vs, H1, I1, r1, hz, q1⟩ => ⟨I1.kIn, ?_⟩) he hpl
  show wpAny _ _ (call (.ref C) us) _ _ _
  obtain ⟨hp, g, dr, tk, os⟩ := s1
  have hsz : hp.objs.size ≤ hp.objs.size + 1 := Nat.le_succ _
  have hq := q1 (hp.objs.size + 1) (I1.hok.fresh hsz)
  rw [List.append_nil] at hq
  have kk : ∀ b o, hp.get? b = some o → ((hp.push (PySem.W.kdv_tup us)).push (PySem.HandSPX.excO C hp.objs.size)).get? b = some o := fun b o e => Heap.get?_push_of_some _ (Heap.get?_push_of_some _ e)
  have hget : ((hp.push (PySem.W.kdv_tup us)).push (PySem.HandSPX.excO C hp.objs.size)).get? (hp.objs.size + 1) = some (PySem.HandSPX.excO C hp.objs.size) := by heap_get
  have I2 : Inv X pins σ (upd H1 (hp.objs.size + 1) (exo (hp.objs.size + 1) C none)) ⟨(hp.push (PySem.W.kdv_tup us)).push (PySem.HandSPX.excO C hp.objs.size), g, dr, tk, os⟩ :=
    I1.laid (t' := tk) (a := hp.objs.size + 1) (o := exo (hp.objs.size + 1) C none) (h' := (hp.push (PySem.W.kdv_tup us)).push (PySem.HandSPX.excO C hp.objs.size)) kk hsz (exo_ok hget)
  have r2 : Vals (V.ref (hp.objs.size + 1) :: vs) (Value.ref (hp.objs.size + 1) :: us) := .cons rfl r1
  have hl : (Value.ref (hp.objs.size + 1) :: us).length = ps.length := by
    rw [← r2.length]
    exact F1.len _ _ _ _ hq
  have hus : us.length ≤ sizeLine := by rw [← Paired.length r1, sizeLine_eq]; omega
  have bb := hb ⟨(hp.push (PySem.W.kdv_tup us)).push (PySem.HandSPX.excO C hp.objs.size), g, dr, tk, os⟩ (Value.ref (hp.objs.size + 1) :: us) I2.kIn (by simpa using hl)
  rw [List.append_nil] at bb
  refine wpAny_call (PySem.HandSPX.call_own bx.exc hbm.cont (I1.kIn _ _ hC) (PySem.W.looks_findIn I1.kIn iC) (fun self => PySem.W.bind_fn I1.kIn self tI) hus
    (codeAny_mono (F1.run _ X.stack _ _ ⟨Value.ref (hp.objs.size + 1) :: us, []⟩ (Value.ref (hp.objs.size + 1) :: us) _ _ (fun _ _ _ => False) (hr.make C us []) (make_guards hgd C us []) (I2.env0.make C us []) bb r2 hq) fun r s' hq' => ?_))
  cases r with
  | error er => exact hx pins σ _ _ er s' I2 hq'
  | ok fl =>
    cases fl with
    | ret u =>
      obtain ⟨v, H2, os2, bare2, un2, hok2, rv, ev, d, fs, ea, ed, hd1, q2⟩ := hq'
      subst ev
      obtain ⟨h2, g2, d2, t2, os'⟩ := s'
      exact ⟨rv, mk_end (raises_own O.exC O.tyC) I1 hsz kk un2 hok2 os2 bare2 ea ed hd1 q2⟩
    | next => exact False.elim hq'
    | brk => exact False.elim hq'
    | cont => exact False.elim hq'
end
end SR
set_option maxRecDepth 100000
set_option maxHeartbeats 4000000
namespace SS
open PySem PySem.Spec PyProof.Rows L2 SR TL ZA
mutual
theorem Dh.dpV {K : PySem.W.Frag} {H : Hp} : ∀ (d : PyData) {v : V}, Dh H v d → Dp K H v d ∧ d.hasDict = false
  | .none, _, h => by cases h; exact ⟨.non, by simp only [PyData.hasDict]⟩
  | .bool b, _, h => by cases h; exact ⟨.bl b, by simp only [PyData.hasDict]⟩
  | .int i, _, h => by cases h; exact ⟨.int i, by simp only [PyData.hasDict]⟩
  | .str x, _, h => by cases h; exact ⟨.str x, by simp only [PyData.hasDict]⟩
  | .list ds, _, h => by
    cases h with
    | lst h1 h2 =>
      obtain ⟨a, b⟩ := DhAll.dpV (K := K) ds h2
      exact ⟨.lst (SqL.of h1) a, by simp only [PyData.hasDict]; exact b⟩
  | .tuple ds, _, h => by
    cases h with
    | tup h1 h2 =>
      obtain ⟨a, b⟩ := DhAll.dpV (K := K) ds h2
      exact ⟨.tup (SqT.of h1) a, by simp only [PyData.hasDict]; exact b⟩
  | .dict _, _, h => by cases h
theorem DhAll.dpV {K : PySem.W.Frag} {H : Hp} : ∀ (ds : List PyData) {vs : List V}, DhAll H vs ds → DpAll K H vs ds ∧ PyData.hasDictAll ds = false
  | [], _, h => by cases h; exact ⟨.nil, by simp only [PyData.hasDictAll]⟩
  | d :: ds, _, h => by
    cases h with
    | cons h1 h2 =>
      obtain ⟨a1, b1⟩ := Dh.dpV (K := K) d h1
      obtain ⟨a2, b2⟩ := DhAll.dpV (K := K) ds h2
      exact ⟨.cons a1 a2, by simp only [PyData.hasDictAll, b1, b2, Bool.or_self]⟩
end
section
variable {X : Cx} {pins : List (Addr × Obj)} {σ : L2.St} {H : Hp} {s : Shared}
theorem kvI_dq {K : PySem.W.Frag} : ∀ zs : List (Int × Int), DqKv K H (kvI zs) (zs.map fun z => (.int z.1, .int z.2))
  | [] => .nil
  | (a, b) :: zs => .cons (k := Sum.inl a) (.int b) (kvI_dq zs)
theorem ov_reads (I : Inv X pins σ H s) {v : V} {d : PyData} {u : Value} (h : Ov H v d) (r : RelV v u) : ∃ as, Reads s.heap u d as ∧ (d.hasDict = true → sysModules ∉ as) := by
  rcases h with h | ⟨a, zs, rfl, h, rfl⟩
  · obtain ⟨h1, h2⟩ := Dh.dpV (K := X.K) d h
    obtain ⟨as, rd⟩ := Dp.reads I d _ u h1 r
    exact ⟨as, rd, fun z => by rw [h2] at z; cases z⟩
  · obtain ⟨as, rd, hno⟩ := Dq.rds I _ _ u (Dq.dic h (kvI_dq (K := X.K) zs)) r
    exact ⟨as, rd, fun _ => hno⟩
/-- {x!r} of a value -/
def tFmtV (te : TE) : TE := fun σ H Q => te σ H fun x H1 => ∃ d, Ov H1 x d ∧ d.showable = true ∧ d.depth ≤ 60 ∧ d.shown.length ≤ 10000000 ∧ Q (.str d.shown) H1
theorem pe_fmtV {e : Expr} {te : TE} {pos : Pos} (hgd : X.A.guards = some []) (hu : X.A.units + 66 < cLine) (he : PE X e te) : PE X (.FormattedValue e 114 none pos) (tFmtV te) := by
  refine ⟨fun pins s σ H Q I h => ?_⟩
  refine wpAny_FormattedValue_repr (thn (he.run pins s σ H _ I h) fun v s1 ⟨x, H1, I1, r1, d, ho, hs, hdp, hz, q⟩ => ?_)
  have sz := sizeLine_eq
  have fin : ∀ (u : Tok) (h' : Heap) (tk : Nat), (∀ b ob, s1.heap.get? b = some ob → h'.get? b = some ob) → wpAny (model X.prog X.w) X.A (formatField (.str d.shown u) Str.empty) (EP X pins σ Q) X.xe { s1 with heap := h', toks := tk } := fun u h' tk k =>
    wpAny_formatField_str ⟨.str d.shown, H1, I1.kept (t' := tk) k, ⟨_, rfl⟩, q⟩ ⟨.str d.shown, H1, (I1.kept (t' := tk) k).tok _, ⟨_, rfl⟩, q⟩ (by omega)
  have rf : ∀ a, v = Value.ref a → wpAny (model X.prog X.w) X.A (pyReprObj v) (fun r s₁ => wpAny (model X.prog X.w) X.A (formatField r Str.empty) (EP X pins σ Q) X.xe s₁) X.xe s1 := fun a ea => by
    obtain ⟨as, rd, hno⟩ := ov_reads I1 ho r1
    subst ea
    exact pyReprObj_of_reads rd hs hno hgd (by omega) (fun _ _ e => e) (fun h' t tk k => fin t h' tk k) (by omega)
  have kp : ∀ b ob, s1.heap.get? b = some ob → s1.heap.get? b = some ob := fun _ _ e => e
  rcases id ho with h | ⟨a, zs, rfl, _, rfl⟩
  · cases h with
    | non =>
      cases r1
      simp only [PyData.shown] at fin
      exact pyReprObj_none (fin _ s1.heap _ kp)
    | bl b =>
      cases r1
      simp only [PyData.shown] at fin
      exact pyReprObj_bool (fin _ s1.heap _ kp)
    | int i =>
      obtain ⟨t, rfl⟩ := r1
      simp only [PyData.shown] at fin
      simp only [PyData.showable] at hs
      exact pyReprObj_int (of_decide_eq_true hs) (fin _ s1.heap _ kp)
    | str x =>
      obtain ⟨t, rfl⟩ := r1
      simp only [PyData.shown] at fin hz
      exact pyReprObj_str (fin _ s1.heap _ kp) (by omega)
    | lst _ _ => exact rf _ r1
    | tup _ _ => exact rf _ r1
  · exact rf _ r1
end
end SS
set_option maxRecDepth 100000
set_option maxHeartbeats 4000000
namespace SR
open PySem PySem.Spec PyProof.Rows L2
theorem baseV : BaseX "ValueError" "ValueError.__new__" "ValueError.__init__" tlV := ⟨PySem.F.excBase_ValueError, PySem.F.store_ValueError.passes, by decide +kernel, rfl⟩
section
variable {X : Cx} {e : Expr} {te : TE} {pos : Pos}
/-- Z.__init__(self, ..), Z an own class whose __init__ is ValueError's -/
structure ZinV (K : PySem.W.Frag) (mg : Str → Option Value) (x : Str) (Z : Addr) : Prop where
  mgZ : mg x = some (.ref Z)
  cr : ClX.CRead K Z (.type "type")
  vI : PySem.W.findCls K (.ref Z) (.type "type") "__init__" = some (.val (.builtin "ValueError.__init__"))
theorem pe_reinitZ {es : List Expr} {ta : TA} {x : Str} {Z : Addr} {p1 p2 : Pos} {pl : Sem Bool} (hg : Gl X x) (z : ZinV X.K X.mg x Z) (ha : PA X (e :: es) ta) (hdb : (x == ("__debug__" : Str)) = false := by decide)
    (hc : eval (.Call (.Attribute (.Name x p1) "__init__" p2) (e :: es) [] pos) X.env = (do
      let ov ← eval (.Name x p1) X.env
      standAt p2.atName
      let (f, first) ← holding [ov] (getMethod ov "__init__" pl)
      callWith pos f first (backTo pos (starEach (e :: es) X.env)) (backToKw pos (keywordEach [] X.env))) := by rfl)
    (he : starEach (e :: es) X.env = (false, eval e X.env) :: starEach es X.env := by rfl) (hpl : (backTo pos (starEach es X.env)).any (·.1) = false := by rfl) :
    PE X (.Call (.Attribute (.Name x p1) "__init__" p2) (e :: es) [] pos) (tIniB "ValueError.__new__" tlV X.K ta) := by
  refine ⟨fun pins s σ H Q I h => ?_⟩
  refine PySem.W.methodCall_KW (ld_glob I hg z.mgZ ?_ hdb) hc
  refine PySem.W.method_cls I.kIn z.cr.ga (PySem.W.cls_value I.kIn z.cr.rd z.vI (by decide +kernel) ?_)
  show wpAny _ _ (callWith pos (Value.builtin "ValueError.__init__") [] (backTo pos (starEach (e :: es) X.env)) []) _ _ _
  refine PyProof.Rows.callWith_method1 (thn (ha.run pos pins _ σ H _ (I.tok _) h) fun us s1 ⟨vs, H1, I1, r1, a, C, ws, ev, hl, O, ea, q⟩ => ?_) he hpl
  subst ev
  cases r1 with
  | @cons _ u0 _ ur ra rw' =>
    obtain rfl : u0 = Value.ref a := ra
    exact oinitB_ok baseV O I1 ea (by rw [← Paired.length rw', sizeLine_eq]; omega) fun s' J => ⟨.non, H1, J, rfl, q⟩
end
end SR
namespace SS
open PySem L2 SR TL ZA
/-- values that repr shows in few letters -/
def ShV9 (d : PyData) : Prop := d.showable = true ∧ d.depth ≤ 60 ∧ d.shown.length ≤ 100000
end SS
set_option maxRecDepth 100000
set_option maxHeartbeats 4000000
namespace SS
open PySem L2 SR TL ZA
theorem kit_LT {K : PySem.W.Frag} (d : PyData) : PySem.W.kitAny K (.type (tyN d)) [.type "list", .type "tuple"] = some (isLstD d || isTupD d) := by
  refine kitAny_cons (kit_lst d) (fun h => ?_) (fun h => by rw [h]; rfl)
  rw [h, Bool.false_or]
  exact kitAny_cons (kit_tup d) (fun h => by rw [h]; rfl) (fun h => h)
theorem dhAll_get {H : Hp} {ds : List PyData} {vs : List V} (h : DhAll H vs ds) {i : Nat} {v : V} (hv : vs[i]? = some v) : ∃ d, ds[i]? = some d ∧ Dh H v d := h.get i hv
section
variable {P : Program} {w : World} {K : PySem.W.Frag} {mg : Str → Option Value} {base : Heap}
def spSgnO : Sp := fun vs H Q _ => ∃ (v : V) (d : PyData), vs = [v] ∧ Ov H v d ∧ lenD d ≤ 1000 ∧ ∀ H', Same H H' → Q (.bl (isSgnD d)) H'
theorem ok_sgnO {f : Addr} {fd : FuncData} (F : Fun K "is_sign" "is_sign" sSign f fd) (B : Bl mg) (Wd : Cal P w K mg base "is_word" 1 ["value"] spWordV) : FnOk P w K mg base CX0 2 f fd ["value"] spSgnO := by
  refine F.ok scSign (fun vs H Q E h => ?_) (fun cdv A outer s H vs Q E hr h => ?_)
  · obtain ⟨x, d, rfl, _⟩ := h
    rfl
  · obtain ⟨v, d, rfl, ho, hl, k⟩ := h
    refine ⟨_, pss_one (ps_ret (pe_and (pe_cal Wd hr (pa_cons (pv 0) pa_nil)) (pe_one (pe_cmpR op_eq (pe_callB call_len_str (by rfl) B.len boot_len (pa_cons (pv 0) pa_nil)) pe_int (nomark _))))), ?_⟩
    refine ⟨_, rfl, v, d, rfl, ho, hl, fun H1 e1 => ⟨_, rfl, ?_⟩⟩
    unfold isSgnD at k
    cases hw : isWordD d with
    | false =>
      rw [hw] at k
      exact iteF (k _ e1)
    | true =>
      rw [hw] at k
      cases d with
      | str x =>
        obtain rfl := ov_str ho
        have hl' : x.length ≤ 1000 := hl
        refine iteT ⟨_, rfl, x, rfl, by have := sizeLine_eq; omega, rfl, ?_⟩
        rw [show decide (V.int (x.length : Nat) = V.int 1) = decide (lenD (.str x) = 1) by
          rw [decide_eq_decide]
          exact ⟨fun h => by have := V.int.inj h; show x.length = 1; omega, fun h => by have h : x.length = 1 := h; rw [h]; rfl⟩]
        exact k _ e1
      | _ => cases hw
def spMrkO : Sp := fun vs H Q _ => ∃ (v : V) (d : PyData), vs = [v] ∧ Ov H v d ∧ lenD d ≤ 1000 ∧ ∀ H', Same H H' → Q (.bl (isMrkD d)) H'
theorem ok_mrkO {f : Addr} {fd : FuncData} (F : Fun K "is_mark" "is_mark" sMark f fd) (B : Bl mg) (C : Cn mg) (Wd : Cal P w K mg base "is_word" 1 ["value"] spWordV) : FnOk P w K mg base CX0 2 f fd ["value"] spMrkO := by
  obtain ⟨tl, hlo⟩ := C.longest
  refine F.ok scMark (fun vs H Q E h => ?_) (fun cdv A outer s H vs Q E hr h => ?_)
  · obtain ⟨x, d, rfl, _⟩ := h
    rfl
  · obtain ⟨v, d, rfl, ho, hl, k⟩ := h
    refine ⟨_, pss_one (ps_ret (pe_and (pe_cal Wd hr (pa_cons (pv 0) pa_nil)) (pe_one (pe_chain op_lt op_le pe_int (pe_callB call_len_str (by rfl) B.len boot_len (pa_cons (pv 0) pa_nil)) (pe_glob (v := .int 8) rfl hlo ⟨tl, rfl⟩))))), ?_⟩
    refine ⟨_, rfl, v, d, rfl, ho, hl, fun H1 e1 => ⟨_, rfl, ?_⟩⟩
    unfold isMrkD at k
    cases hw : isWordD d with
    | false =>
      rw [hw] at k
      exact iteF (k _ e1)
    | true =>
      rw [hw] at k
      cases d with
      | str x =>
        obtain rfl := ov_str ho
        have hl' : x.length ≤ 1000 := hl
        refine iteT ⟨_, rfl, x, rfl, by have := sizeLine_eq; omega, _, _, rfl, rfl, _, rfl, ?_⟩
        refine ite2 (fun h => ?_) (fun h => ?_)
        · have h1 : (1 : Int) < (x.length : Nat) := of_decide_eq_true h
          refine ⟨_, _, rfl, rfl, ?_⟩
          show Q (.bl (decide (((x.length : Nat) : Int) ≤ 8))) H1
          rw [show decide (((x.length : Nat) : Int) ≤ 8) = decide (1 < lenD (.str x) ∧ lenD (.str x) ≤ 8) by
            rw [decide_eq_decide]
            show _ ↔ 1 < x.length ∧ x.length ≤ 8
            omega]
          exact k _ e1
        · have h1 : ¬ (1 : Int) < (x.length : Nat) := fun z => h (decide_eq_true z)
          have : decide (1 < lenD (.str x) ∧ lenD (.str x) ≤ 8) = false := decide_eq_false (by show ¬ (1 < x.length ∧ x.length ≤ 8); omega)
          rw [this] at k
          exact k _ e1
      | _ => cases hw
end
end SS
set_option maxRecDepth 100000
set_option maxHeartbeats 4000000
set_option maxRecDepth 100000
set_option maxHeartbeats 4000000
namespace SR
open PySem PySem.Spec PyProof.Rows L2
/-- a clause's test: m tells, by the class that flies, whether it is met -/
def TestOk (X : Cx) (t : Expr) (m : Value → Option Bool) : Prop :=
  ∀ (a : Addr) (oe : Obj) (pn : List (Addr × Obj)) (σ : L2.St) (H : Hp) (s : Shared) (cls : Value) (b : Bool) (Q : Bool → Shared → Prop) (E : Value → Shared → Prop), Inv (X.suite a ((a, oe) :: pn)) [] σ H s → PySem.W.Looks (model X.prog X.w) s.heap (typeOf (.ref a)) cls → m cls = some b →
    (∀ h', (∀ c o, s.heap.get? c = some o → h'.get? c = some o) → Q b { s with heap := h' }) → wpAny (model X.prog X.w) (X.A.mark (some (.ref a))) (eval t X.env) (fun c s1 => wpAny (model X.prog X.w) (X.A.mark (some (.ref a))) (excMatches (.ref a) c) Q E s1) E s
theorem named {X : Cx} {a : Addr} {oe : Obj} {pn : List (Addr × Obj)} {σ : L2.St} {H : Hp} {s : Shared} {x : Str} {c : Value} {p : Pos} {Q E : Value → Shared → Prop} (N : Names X x c) (I : Inv (X.suite a ((a, oe) :: pn)) [] σ H s) (q : Q c s) :
    wpAny (model X.prog X.w) (X.A.mark (some (.ref a))) (eval (.Name x p) X.env) Q E s := by
  obtain ⟨gl, dbg, mm | ⟨mm, boot, nnm⟩⟩ := N
  · exact ld_glob (X := X.suite a ((a, oe) :: pn)) I gl mm q dbg
  · exact ld_blt (X := X.suite a ((a, oe) :: pn)) I gl mm boot q nnm dbg
theorem test_one {X : Cx} {x : Str} {c : Value} {p : Pos} (N : Names X x c) : TestOk X (.Name x p) (fun cls => PySem.W.exmOne X.K cls c) := fun a oe pn σ H s cls b Q E I LT hb q =>
  named N I ((PySem.W.exm_one (M := model X.prog X.w) I.kIn LT hb).here (q s.heap fun _ _ z => z))
theorem fly_keeps {B h h' : Heap} {l : List Env} {e : Addr} {Z : Obj → Prop} (R : PX.FlyingZ B l e Z h) (k : ∀ b o, h.get? b = some o → h'.get? b = some o) : PX.FlyingZ B l e Z h' := by
  obtain ⟨f1, f2, f3, oe, ws, T, oT, ts, he, hc, hd, h1, hn, hne, hT, hdT, h3⟩ := R
  exact ⟨fun b o q => k b o (f1 b o q), f2, f3.of_keeps fun b o q _ => ⟨o, k b o q, rfl⟩, oe, ws, T, oT, ts, k _ _ he, hc, hd, h1, hn, hne, k _ _ hT, hdT, h3⟩
abbrev SuitT := List ((Value → Option Bool) × (Addr → Value → Option Addr → TS))
/-- the clause's suite, the name's slot i taken away behind it -/
def wTell (m : Value → Option Bool) (i : Nat) (ts : Addr → Value → Option Addr → TS) (W0 : WX) (D : Ends) : WX := fun cls d σ H =>
  ∃ b, m cls = some b ∧ (b = true → ∀ a, H a = none → ts a cls d { nx := fun σ' H' => D.nx (σ'.set i none) H', rt := D.rt, bk := fun σ' H' => D.bk (σ'.set i none) H', ct := fun σ' H' => D.ct (σ'.set i none) H' } (σ.set i (some (.ref a))) H) ∧ (b = false → W0 cls d σ H)
def wEachT (i : Nat) (W0 : WX) (D : Ends) : SuitT → WX
  | [] => W0
  | (m, ts) :: r => wTell m i ts (wEachT i W0 D r) D
inductive HdsT (X : Cx) (n : Str) : List ExceptHandler → SuitT → Prop
  | nil : HdsT X n [] []
  | cons {t : Expr} {m : Value → Option Bool} {ts : Addr → Value → Option Addr → TS} {b0 : Stmt} {su : List Stmt} {p2 : Pos} {hs : List ExceptHandler} {l : SuitT} (test : TestOk X t m)
      (suit : ∀ (a : Addr) (ox : Obj) (cls : Value) (d : Option Addr) (pn : List (Addr × Obj)), Zc cls d ox → (∃ vs, ox.data = .fields vs) → PSs (X.suite a ((a, ox) :: pn)) (b0 :: su) (ts a cls d)) (rest : HdsT X n hs l) :
      HdsT X n (.ExceptHandler (some t) (some n) (b0 :: su) p2 :: hs) ((m, ts) :: l)
section
variable {X : Cx} {n : Str} {i : Nat} {body : List Stmt} {h0 : ExceptHandler} {hs : List ExceptHandler} {l : SuitT} {pos : Pos} {tb : WX → TS} {W0 : WX}
theorem ps_try_tell (hst : X.stack = X.env :: X.outer) (hfl : X.env.frame = some X.env.locals) (nd : X.N.Nodup) (hni : X.N[i]? = some n) (hlo : X.env.kindOf n = some .local) (tk : Takes X W0)
    (hbody : ∀ (W : WX) (pn : List (Addr × Obj)) (xe : Value → Shared → Prop), Takes (X.tr pn xe) W → PassesOwn (model X.prog X.w) X.A X.env xe → PSs (X.tr pn xe) body (tb W)) (hh : HdsT X n (h0 :: hs) l) :
    PS X (.Try body (h0 :: hs) [] [] pos) (fun D σ H => tb (wEachT i W0 D l) D σ H) := by
  refine ⟨fun pins s σ H D I want => ?_⟩
  have okX := I.ok
  have frX : X.A.frames = some (X.env :: X.outer) := okX.frames.trans (congrArg some hst)
  refine wpAny_Try_except ?_
  refine wpAny_mono ((hbody (wEachT i W0 D l) (X.pn ++ pins) (fun ev t1 => wpAny (model X.prog X.w) X.A (noteFrame ev X.env) (fun _ t2 => wpAny (model X.prog X.w) X.A (setFlight ev none) (fun _ t3 =>
    wpAny (model X.prog X.w) X.A (handleBy ev X.env (h0 :: hs)) (SP X pins D) X.xe t3) X.xe t2) X.xe t1) (fun ev t0 caught => ?_) PassesOwn.looking).run [] s σ H D (I.toTry _) want) (fun fl t1 ended => ?_) (fun _ _ z => z)
  · obtain ⟨a, B, sB, pinsB, σB, HB, cls, d, rfl, JB, nb, up0, skyB, free, osB, agB, wish⟩ := caught
    have JX : Inv X pins σB HB sB := JB.ofTry okX
    have skyX : Sky B (X.env :: X.outer) a (Zc cls d) X.env.locals t0.heap := hst ▸ skyB
    show wpAny (model X.prog X.w) X.A (noteFrame (.ref a) X.env) _ _ _
    refine Sky.land Zc.steady frX hfl skyX fun hp0 fly0 up1' => ?_
    have each : ∀ {hs' : List ExceptHandler} {l' : SuitT}, HdsT X n hs' l' → ∀ hp1, PX.FlyingZ B (X.env :: X.outer) a (Zc cls d) hp1 → t0.heap.UpToSlots hp1 → wEachT i W0 D l' cls d σB HB → wpAny (model X.prog X.w) X.A (handleBy (.ref a) X.env hs') (SP X pins D) X.xe { t0 with heap := hp1 } := by
      intro hs' l' hk
      induction hk with
      | nil =>
        intro hp1 fly1 up1 out
        refine wpAny_handleBy_nil ?_
        obtain ⟨_, _, _, ox, vs, Tb, oTb, tsb, atx, _, datx, fx, _⟩ := id fly1
        unfold PySem.passOn
        refine wpAny_bind (wpAny_field atx datx fx ?_)
        rw [if_neg (show ¬ (Value.ref Tb == Value.none) = true from Bool.false_ne_true)]
        have leave : wpAny (model X.prog X.w) X.A (setFlight (.ref a) X.env.frame) (fun _ t4 => wpAny (model X.prog X.w) X.A (throw (.ref a) : Sem Flow) (SP X pins D) X.xe t4) X.xe { t0 with heap := hp1 } := by
          rw [hfl]
          refine HandSPX.setFlight_upZ fly1 fun hp4 held4 up4 => wpAny_throw (tk _ _ ?_)
          exact ⟨a, B, sB, pins, σB, HB, cls, d, rfl, JX, nb, (up0.trans up1).trans up4, .inr (.inr (hst ▸ held4)), free, osB, agB, out⟩
        first
          | exact wpAny_bind (wpAny_pure (wpAny_bind leave))
          | exact wpAny_bind leave
      | @cons t m ts b0 su p2 hs2 l2 test suit rest ih =>
        rintro hp1 fly1 up1 ⟨b, hb1, yes, no⟩
        have J1 : Inv X pins σB HB { t0 with heap := hp1 } := JX.landed nb fly1.1 (up0.trans up1) osB agB
        obtain ⟨ox1, vs1, at1, zc1, dat1⟩ := fly1.there
        have offStack : a ∉ frs (X.env :: X.outer) := fun hm => by
          obtain ⟨_, o', at', hnf⟩ := fly1.2.2.1.mem hm
          rw [at1] at at'
          cases at'
          exact hnf _ dat1
        have offLocals : a ≠ X.env.locals := fun z => offStack (List.mem_filterMap.mpr ⟨X.env, List.mem_cons_self, z ▸ hfl⟩)
        have offOuter : a ∉ X.fs := fun hm => by
          obtain ⟨en, hen, q⟩ := List.mem_filterMap.mp hm
          exact offStack (List.mem_filterMap.mpr ⟨en, List.mem_cons_of_mem _ hen, q⟩)
        have SU1 := J1.suite at1 dat1 free offLocals offOuter
        refine wpAny_handleBy_cons (codeAny_handlers_test ?_) (fun q => nomatch q)
        have tyA : PySem.W.Looks (model X.prog X.w) hp1 (typeOf (.ref a)) cls := fun A2 Q2 E2 s2 kk q => wpAny_typeOf_ref (kk _ _ at1) (by rw [zc1.1]; exact q)
        refine test a ox1 (X.pn ++ pins) σB HB _ cls b _ _ SU1 tyA hb1 (fun hp2 kp => ?_)
        have fly2 := fly_keeps fly1 kp
        have up2 : t0.heap.UpToSlots hp2 := up1.trans (Heap.UpToSlots.of_keeps kp)
        cases b with
        | true =>
          refine codeAny_handlers_suite_as ?_
          refine HandSPX.lands_againZ fly2 fun hp4 fly4 up4 => ?_
          have J4 : Inv X pins σB HB { t0 with heap := hp4 } := JX.landed nb fly4.1 ((up0.trans up2).trans up4) osB agB
          obtain ⟨ox4, vs4, at4, zc4, dat4⟩ := fly4.there
          have SU4 := J4.suite at4 dat4 free offLocals offOuter
          refine store_ok (X := X.suite a ((a, ox4) :: (X.pn ++ pins))) (v := .ref a) SU4 nd hni (.inl hlo) rfl (fun t5 SU5 => ?_) (.inr hlo)
          refine wpAny_mono ((suit a ox4 cls d (X.pn ++ pins) zc4 ⟨_, dat4⟩).run [] t5 _ HB _ SU5 (yes rfl a free)) (fun fl t6 ended => ?_) (fun _ _ z => z.elim)
          have unnamed : ∀ {σ6 : L2.St} {H6 : Hp} {Q : Shared → Prop}, Inv (X.suite a ((a, ox4) :: (X.pn ++ pins))) [] σ6 H6 t6 → (∀ t7, Inv X pins (σ6.set i none) H6 t7 → Q t7) →
              wpAny (model X.prog X.w) X.A (do bindName X.env n .none; unbindBehindTheSuite X.env n p2) (fun _ t7 => Q t7) X.xe t6 := fun {σ6 H6 Q} SU6 hq => gone_ok (SU6.unsuite okX) nd hni hlo hq
          cases fl with
          | next =>
            obtain ⟨σ6, H6, SU6, q6⟩ := ended
            exact unnamed SU6 fun t7 J7 => ⟨_, _, J7, q6⟩
          | brk =>
            obtain ⟨σ6, H6, SU6, q6⟩ := ended
            exact unnamed SU6 fun t7 J7 => ⟨_, _, J7, q6⟩
          | cont =>
            obtain ⟨σ6, H6, SU6, q6⟩ := ended
            exact unnamed SU6 fun t7 J7 => ⟨_, _, J7, q6⟩
          | ret u =>
            obtain ⟨v6, σ6, H6, SU6, r6, q6⟩ := ended
            exact unnamed SU6 fun t7 J7 => ⟨_, _, _, J7, r6, q6⟩
        | false =>
          show wpAny _ X.A (handleBy (.ref a) X.env hs2) _ _ _
          exact ih hp2 fly2 up2 (no rfl)
    exact each hh hp0 fly0 up1' wish
  · cases fl with
    | next =>
      obtain ⟨σ', H', JT, q⟩ := ended
      exact wpAny_execs_nil ⟨σ', H', JT.ofTry okX, q⟩
    | brk =>
      obtain ⟨σ', H', JT, q⟩ := ended
      exact ⟨σ', H', JT.ofTry okX, q⟩
    | cont =>
      obtain ⟨σ', H', JT, q⟩ := ended
      exact ⟨σ', H', JT.ofTry okX, q⟩
    | ret u =>
      obtain ⟨v, σ', H', JT, r, q⟩ := ended
      exact ⟨v, σ', H', JT.ofTry okX, r, q⟩
end
end SR
set_option maxRecDepth 100000
set_option maxHeartbeats 4000000
set_option maxRecDepth 100000
set_option maxHeartbeats 4000000
set_option maxRecDepth 100000
set_option maxHeartbeats 4000000
set_option maxRecDepth 100000
set_option maxHeartbeats 4000000
set_option maxRecDepth 100000
set_option maxHeartbeats 4000000
set_option maxRecDepth 100000
set_option maxHeartbeats 4000000
namespace SS
open PySem L2 SR TL ZA
/-- what is new since H0, and all tuples, are kept -/
def Ext (H0 H H' : Hp) : Prop := ∀ b o, (H0 b = none ∨ ∃ xs, o = HO.tup xs) → H b = some o → H' b = some o
theorem Ext.refl (H0 H : Hp) : Ext H0 H H := fun _ _ _ h => h
theorem Ext.same {H0 H H' H'' : Hp} (e : Same H H') (x : Ext H0 H' H'') : Ext H0 H H'' := fun b o n h => x b o n (e b o h)
theorem Ext.tup {H0 H H' : Hp} (x : Ext H0 H H') {b : Addr} {xs : List V} (h : H b = some (.tup xs)) : H' b = some (.tup xs) := x b _ (.inr ⟨xs, rfl⟩) h
theorem Ext.new {H0 H H' : Hp} (x : Ext H0 H H') {b : Addr} {o : HO} (n : H0 b = none) (h : H b = some o) : H' b = some o := x b o (.inl n) h
def Kd (H0 H : Hp) (v : V) (d : PyData) : Prop := ∀ H', Ext H0 H H' → Dh H' v d
abbrev KdAll (H0 H : Hp) (vs : List V) (ds : List PyData) : Prop := Paired (Kd H0 H) vs ds
theorem Kd.mono {H0 H H' : Hp} {v : V} {d : PyData} (e : Same H H') (h : Kd H0 H v d) : Kd H0 H' v d := fun H'' x => h H'' (x.same e)
theorem Kd.ext {H0 H H' : Hp} {v : V} {d : PyData} (e : Ext H0 H H') (h : Kd H0 H v d) : Kd H0 H' v d := fun H'' x => h H'' fun b o n z => x b o n (e b o n z)
theorem Kd.now {H0 H : Hp} {v : V} {d : PyData} (h : Kd H0 H v d) : Dh H v d := h H (Ext.refl _ _)
theorem Kd.non {H0 H : Hp} : Kd H0 H .non .none := fun _ _ => .non
theorem Kd.bl {H0 H : Hp} (b : Bool) : Kd H0 H (.bl b) (.bool b) := fun _ _ => .bl b
theorem Kd.int {H0 H : Hp} (i : Int) : Kd H0 H (.int i) (.int i) := fun _ _ => .int i
theorem Kd.str {H0 H : Hp} (x : Str) : Kd H0 H (.str x) (.str x) := fun _ _ => .str x
theorem kdAll {H0 H H' : Hp} (x : Ext H0 H H') : ∀ {vs : List V} {ds : List PyData}, KdAll H0 H vs ds → DhAll H' vs ds
  | _, _, .nil => .nil
  | _, _, .cons h r => .cons (h H' x) (kdAll x r)
theorem Kd.tup {H0 H : Hp} {a : Addr} {xs : List V} {ds : List PyData} (h : H a = some (.tup xs)) (r : KdAll H0 H xs ds) : Kd H0 H (.ref a) (.tuple ds) := fun _ x => .tup (x.tup h) (kdAll x r)
theorem Kd.lst {H0 H : Hp} {a : Addr} {xs : List V} {ds : List PyData} (n : H0 a = none) (h : H a = some (.lst xs)) (r : KdAll H0 H xs ds) : Kd H0 H (.ref a) (.list ds) := fun _ x => .lst (x.new n h) (kdAll x r)
theorem KdAll.mono {H0 H H' : Hp} {vs : List V} {ds : List PyData} (e : Same H H') (h : KdAll H0 H vs ds) : KdAll H0 H' vs ds := Paired.mono h fun _ _ z => Kd.mono e z
theorem KdAll.ext {H0 H H' : Hp} {vs : List V} {ds : List PyData} (e : Ext H0 H H') (h : KdAll H0 H vs ds) : KdAll H0 H' vs ds := Paired.mono h fun _ _ z => Kd.ext e z
/-- a value, new since H0 in what can be changed -/
def OvN (H0 H : Hp) (v : V) (d : PyData) : Prop := ∀ H', Ext H0 H H' → Ov H' v d
theorem OvN.mono {H0 H H' : Hp} {v : V} {d : PyData} (e : Same H H') (h : OvN H0 H v d) : OvN H0 H' v d := fun H'' x => h H'' (x.same e)
theorem OvN.now {H0 H : Hp} {v : V} {d : PyData} (h : OvN H0 H v d) : Ov H v d := h H (Ext.refl _ _)
theorem Kd.ov {H0 H : Hp} {v : V} {d : PyData} (h : Kd H0 H v d) : OvN H0 H v d := fun H' x => .inl (h H' x)
def NwV (H0 : Hp) (σ : L2.St) (t : TE) (d : PyData) : Prop := ∀ (H : Hp) (Q : VK), Same H0 H → (∀ v H', Same H H' → Kd H0 H' v d → Q v H') → t σ H Q
def NwO (H0 : Hp) (σ : L2.St) (t : TE) (d : PyData) : Prop := ∀ (H : Hp) (Q : VK), Same H0 H → (∀ v H', Same H H' → OvN H0 H' v d → Q v H') → t σ H Q
def NwA (H0 : Hp) (σ : L2.St) (t : TA) (ds : List PyData) : Prop := ∀ (H : Hp) (Q : List V → Hp → Prop), Same H0 H → (∀ vs H', Same H H' → KdAll H0 H' vs ds → Q vs H') → t σ H Q
section
variable {H0 : Hp} {σ : L2.St} {t : TE} {ta : TA} {d : PyData} {ds : List PyData}
theorem mkI (i : Int) : NwV H0 σ (tC (.int i)) (.int i) := fun H Q _ k => k _ H (Same.refl _) (.int i)
theorem mkN : NwV H0 σ (tC .non) .none := fun H Q _ k => k _ H (Same.refl _) .non
theorem mkB (b : Bool) : NwV H0 σ (tC (.bl b)) (.bool b) := fun H Q _ k => k _ H (Same.refl _) (.bl b)
theorem mkS (x : Str) : NwV H0 σ (tC (.str x)) (.str x) := fun H Q _ k => k _ H (Same.refl _) (.str x)
theorem mkANil : NwA H0 σ tNil [] := fun H Q _ k => k [] H (Same.refl _) .nil
theorem mkACons (h : NwV H0 σ t d) (hr : NwA H0 σ ta ds) : NwA H0 σ (tCons t ta) (d :: ds) := fun H Q e0 k => h H _ e0 fun v H1 e1 kv => hr H1 _ (e0.trans e1) fun vs H2 e2 kvs => k (v :: vs) H2 (e1.trans e2) (.cons (kv.mono e2) kvs)
theorem mkTup (h : NwA H0 σ ta ds) (hl : ds.length ≤ 100 := by decide) : NwV H0 σ (tTup ta) (.tuple ds) := fun H Q e0 k => h H _ e0 fun vs H1 e1 kvs => ⟨by rw [Paired.length kvs, sizeLine_eq]; omega, fun p hp => k _ _ (e1.trans (same_new hp)) (.tup upd_same (kvs.mono (same_new hp)))⟩
theorem mkLst (h : NwA H0 σ ta ds) (hl : ds.length ≤ 100 := by decide) : NwV H0 σ (tLst ta) (.list ds) := fun H Q e0 k => h H _ e0 fun vs H1 e1 kvs => ⟨by rw [Paired.length kvs, sizeLine_eq]; omega, fun p hp => k _ _ (e1.trans (same_new hp)) (.lst ((e0.trans e1).free hp) upd_same (kvs.mono (same_new hp)))⟩
theorem mkO (h : NwV H0 σ t d) : NwO H0 σ t d := fun H Q e0 k => h H Q e0 fun v H' e kv => k v H' e kv.ov
theorem mkD0 : NwO H0 σ tDNewK (kvID []) := fun H Q e0 k p hp => k _ _ (same_new hp) fun H' x => .inr ⟨p, [], rfl, x.new (e0.free hp) upd_same, rfl⟩
end
section
variable {P : Program} {w : World} {K : PySem.W.Frag} {mg : Str → Option Value} {base : Heap}
end
end SS
set_option maxRecDepth 100000
set_option maxHeartbeats 4000000
namespace SS
open PySem L2 SR TL ZA
end SS
set_option maxRecDepth 100000
set_option maxHeartbeats 4000000
namespace SS
open PySem L2 SR TL ZA
theorem itT {c : Bool} {a b : Prop} (h : c = true) (ha : a) : if c = true then a else b := by rw [if_pos h]; exact ha
end SS
set_option maxRecDepth 100000
set_option maxHeartbeats 4000000
set_option maxRecDepth 100000
set_option maxHeartbeats 4000000
namespace SR
open PySem PySem.Spec PyProof.Rows
section
open PySem.W PySem.Calls
variable {prog : Program} {w : World} {A : Around} {E : Value → Shared → Prop} {s : Shared} {K : Frag} {x D : Addr} {ox od : Obj}
/-- e.__class__ of an exception that has its dict -/
theorem class_excD {Q : Option Value → Shared → Prop} (C : L2.ExcC K D) (X : K.In s.heap) (I : InstAt s.heap x ox D (some od)) (h : Q (some (.ref D)) { s with toks := s.toks + 1 }) : wpAny (model prog w) A (getAttr? (.ref x) "__class__") Q E s := by
  have hf : findObj K D (some od) "__class__" = some (.bind (.builtin "getset_descriptor.__get__") (.builtin "object.__class__")) := findObj_data (by obtain ⟨cd, hc, _⟩ := any_some C.hd; rw [hc]; rfl) C.ha C.hn C.ht
  obtain ⟨hp, g, d, t, os⟩ := s
  have L0 := I.type (M := model prog w)
  have L3 := looks_find (M := model prog w) X I hf
  have sub : Looks (model prog w) hp (isInstance (.ref x) (.type "BaseException")) true := L0.andThen (looks_subIn X C.hs)
  have hx2 : (Value.builtin "BaseException.__getattribute__" == Value.builtin "object.__getattribute__") = false := by decide +kernel
  have hx1 : (onTheHeap (Value.ref D) && Value.builtin "BaseException.__getattribute__" == Value.builtin "object.__getattribute__") = false := by rw [hx2]; rfl
  unfold getAttr? getAttrBy? getAttrBy
  refine wpAny_bind (wpAny_mkText (wpAny_bind (wpAny_attempt (wpAny_holding (wpAny_bind (L0.at (wpAny_bind ((looks_findIn X C.hg).at ?_))))))))
  show wpAny _ _ (if (onTheHeap (Value.ref D) && Value.builtin "BaseException.__getattribute__" == Value.builtin "object.__getattribute__") = true then _ else _) _ _ _
  rw [hx1, if_neg Bool.false_ne_true]
  unfold getAttrByItsOwn hookBefore
  refine wpAny_bind ?_
  rw [if_pos (show onTheHeap (Value.ref D) = true from rfl)]
  refine (looks_findIn X C.hk).at ?_
  refine wpAny_bind (wpAny_attempt (wpAny_holding ?_))
  unfold callGetattribute
  rw [show (false && onTheHeap (Value.builtin "BaseException.__getattribute__")) = false from rfl, if_neg Bool.false_ne_true]
  unfold boundAndCalled
  rw [PySem.F.excAttr_ValueError.ga.bind (.ref x)]
  refine wpAny_bind (wpAny_pure ?_)
  show wpAny _ _ (call (.builtin "BaseException.__getattribute__") [.ref x, .str "__class__" t]) _ _ _
  refine wpAny_call (codeAny_call_builtin PySem.F.excAttr_ValueError.ga.plain PySem.F.entry_bexc_ga ?_)
  refine @check_slot (model prog w) _ _ ⟨hp, g, d, t + 1, os⟩ "BaseException.__getattribute__" "BaseException" "__getattribute__" (.ref x) [.str "__class__" t] [] _ (by decide +kernel) (by decide +kernel) sub (PySem.F.args_bexc_ga (.ref x) (.str "__class__" t)) ?_
  unfold Builtin.«object.__getattribute__»
  refine wpAny_bind (wpAny_of_eq (a := ((Value.ref x : Value), [Value.str "__class__" t])) (by first | rfl | (simp only [slotArgs]; rfl)) ?_)
  refine wpAny_bind (wpAny_pure (wpAny_bind (L0.at (wpAny_bind (L3.at ?_)))))
  show wpAny _ _ (holding [Value.builtin "object.__class__"] (call (.builtin "getset_descriptor.__get__") [.builtin "object.__class__", .ref x, .ref D]) >>= ret) _ _ _
  refine wpAny_bind (wpAny_holding (wpAny_call (class_get (s := ⟨hp, g, d, t + 1, os⟩) (ox := ox) (od := some od) X I C.hm ?_)))
  refine wpAny_pure ?_
  show wpAny _ _ (handedOut (.ref D)) _ _ _
  rw [handedOut_of (v := .ref D) rfl]
  first
    | exact wpAny_pure (wpAny_pure h)
    | exact wpAny_pure h
    | exact wpAny_pure (wpAny_bind (wpAny_pure (wpAny_pure h)))
theorem kitx_excD (C : L2.ExcC K D) : KitX K (.ref x) (.ref D) (fun h => InstAt h x ox D (some od)) where
  ty := fun _ _ _ I => I.type
  it := fun _ _ X _ => by
    obtain ⟨cdD, hcD, _⟩ := any_some C.hd
    unfold clsIn at hcD
    split at hcD
    · rename_i c' d' cd' sl' ho
      intro A' Q' E' s' k q
      unfold isType loadHead
      exact wpAny_bind (wpAny_loadPart (k _ _ (X _ _ ho)) (wpAny_pure q))
    · cases hcD
  ne := fun h tp dd its n sl X htp => by
    obtain ⟨cdD, hcD, _⟩ := any_some C.hd
    refine Bool.eq_false_iff.mpr fun q => ?_
    have e : D = tp := Value.ref.inj (beq_iff_eq.mp q)
    subst e
    unfold clsIn at hcD
    split at hcD
    · rename_i c' d' cd' sl' ho
      have z := (X _ _ ho).symm.trans htp
      cases z
    · cases hcD
  ca := fun X I k => class_excD C X I k
end
open L2
/-- isinstance(e, c), e the exception that the suite holds, with its dict -/
def rIsED (K : PySem.W.Frag) (D a : Addr) (d : Option Addr) : List V → Hp → VK → Prop := fun xs H Q => ∃ (c : V) (cv : Value) (b : Bool) (dd : Addr) (fs : List (Str × V)), xs = [.ref a, c] ∧ (∀ u, RelV c u → u = cv) ∧ PySem.W.kitOne K (.ref D) cv = some b ∧ d = some dd ∧ H dd = some (.xd fs) ∧ Q (.bl b) H
theorem call_isED {X : Cx} {a D : Addr} {oe : Obj} {d : Option Addr} {cls : Value} {pn : List (Addr × Obj)} (C : ExcC X.K D) (hz : Zc cls d oe) (hc : cls = .ref D) (hf : ∃ vs, oe.data = .fields vs) : CallR (X.suite a ((a, oe) :: pn)) (.builtin "isinstance") (rIsED X.K D a d) := by
  intro pins s σ H xs us Q I r h
  obtain ⟨c, cv, b, dd, fs, rfl, hcv, e, ed, ex, q⟩ := h
  subst hc
  subst ed
  obtain ⟨u1, u2, rfl, r1, r2⟩ := vals2 r
  obtain rfl : u1 = Value.ref a := r1
  have ec := hcv _ r2
  subst ec
  obtain ⟨hget, _⟩ := I.pin (a, oe) (List.mem_append.mpr (.inl List.mem_cons_self))
  obtain ⟨vs, hv⟩ := hf
  have hx : ObjOk X.prog X.w H s.heap dd (.xd fs) := I.hok dd _ ex
  obtain ⟨mA, hns, hr⟩ := hx
  obtain ⟨od, ho, hl⟩ := lookIn_ns hns
  have J : PySem.W.InstAt s.heap a oe D (some od) := ⟨hget, hz.1, by unfold PySem.W.notCls; rw [hv] <;> rfl, by rw [hz.2]; exact ho⟩
  exact PySem.W.kia_one (kitx_excD C) I.kIn J e (fun z => nomatch z) fun tk => ⟨.bl b, H, I.kept (t' := tk) fun _ _ z => z, rfl, q⟩
def rIsET (K : PySem.W.Frag) (D a : Addr) (cls : Value) (d : Option Addr) : List V → Hp → VK → Prop := fun xs H Q => cls = .ref D ∧ ∃ (tp : Addr) (cs : List V) (its : List Value) (b : Bool) (dd : Addr) (fs : List (Str × V)), xs = [.ref a, .ref tp] ∧ SqT K H tp cs ∧ (∀ us, Vals cs us → us = its) ∧ PySem.W.kitAny K (.ref D) its = some b ∧ d = some dd ∧ H dd = some (.xd fs) ∧ Q (.bl b) H
theorem call_isET {X : Cx} {a D : Addr} {oe : Obj} {d : Option Addr} {cls : Value} {pn : List (Addr × Obj)} (C : ExcC X.K D) (hz : Zc cls d oe) (hf : ∃ vs, oe.data = .fields vs) : CallR (X.suite a ((a, oe) :: pn)) (.builtin "isinstance") (rIsET X.K D a cls d) := by
  intro pins s σ H xs us Q I r h
  obtain ⟨hc, tp, cs, its, b, dd, fs, rfl, hT, hi, e, ed, ex, q⟩ := h
  subst hc
  subst ed
  obtain ⟨u1, u2, rfl, r1, r2⟩ := vals2 r
  obtain rfl : u1 = Value.ref a := r1
  obtain rfl : u2 = Value.ref tp := r2
  obtain ⟨its2, rv, ⟨oT, hoT, hcT, n, hdT⟩, _⟩ := I.tuple hT
  have e2 := hi _ rv
  subst e2
  obtain ⟨hget, _⟩ := I.pin (a, oe) (List.mem_append.mpr (.inl List.mem_cons_self))
  obtain ⟨vs, hv⟩ := hf
  have hx : ObjOk X.prog X.w H s.heap dd (.xd fs) := I.hok dd _ ex
  obtain ⟨mA, hns, hr⟩ := hx
  obtain ⟨od, ho, hl⟩ := lookIn_ns hns
  have J : PySem.W.InstAt s.heap a oe D (some od) := ⟨hget, hz.1, by unfold PySem.W.notCls; rw [hv] <;> rfl, by rw [hz.2]; exact ho⟩
  obtain ⟨oc, odc, odt, osl⟩ := oT
  dsimp only at hcT hdT
  subst hcT
  subst hdT
  exact PySem.W.kia_tup (kitx_excD C) I.kIn J hoT e (fun z => nomatch z) fun tk => ⟨.bl b, H, I.kept (t' := tk) fun _ _ z => z, rfl, q⟩
def rIsEA (K : PySem.W.Frag) (a : Addr) (cls : Value) (d : Option Addr) : List V → Hp → VK → Prop := fun xs H Q => ∃ D, cls = .ref D ∧ ExcC K D ∧ rIsED K D a d xs H Q
theorem call_isEA {X : Cx} {a : Addr} {oe : Obj} {d : Option Addr} {cls : Value} {pn : List (Addr × Obj)} (hz : Zc cls d oe) (hf : ∃ vs, oe.data = .fields vs) : CallR (X.suite a ((a, oe) :: pn)) (.builtin "isinstance") (rIsEA X.K a cls d) := by
  intro pins s σ H xs us Q I r h
  obtain ⟨D, hc, C, h⟩ := h
  exact call_isED C hz hc hf pins s σ H xs us Q I r h
def rIsETA (K : PySem.W.Frag) (a : Addr) (cls : Value) (d : Option Addr) : List V → Hp → VK → Prop := fun xs H Q => ∃ D, ExcC K D ∧ rIsET K D a cls d xs H Q
theorem call_isETA {X : Cx} {a : Addr} {oe : Obj} {d : Option Addr} {cls : Value} {pn : List (Addr × Obj)} (hz : Zc cls d oe) (hf : ∃ vs, oe.data = .fields vs) : CallR (X.suite a ((a, oe) :: pn)) (.builtin "isinstance") (rIsETA X.K a cls d) := by
  intro pins s σ H xs us Q I r h
  obtain ⟨D, C, h⟩ := h
  exact call_isET C hz hf pins s σ H xs us Q I r h
def tXfA (K : PySem.W.Frag) (a : Addr) (cls : Value) (d : Option Addr) (n : Str) (te : TE) : TE := fun σ H Q => ∃ C, XfC K C ∧ PySem.W.findIn K (.ref C) n = some none ∧ tXf a cls d C n te σ H Q
theorem pe_xfA {X : Cx} {a : Addr} {oe : Obj} {cls : Value} {d : Option Addr} {pn : List (Addr × Obj)} {e : Expr} {te : TE} {pos : Pos} {n : Str} (hz : Zc cls d oe) (hf : ∃ vs, oe.data = .fields vs) (he : PE (X.suite a ((a, oe) :: pn)) e te)
    (hb : attributeBase e n X.env (eval e X.env) = eval e X.env := by rfl) : PE (X.suite a ((a, oe) :: pn)) (.Attribute e n pos) (tXfA X.K a cls d n te) := by
  refine ⟨fun pins s σ H Q I h => ?_⟩
  obtain ⟨C, T, hno, h⟩ := h
  exact (pe_xf T hno hz hf he hb).run pins s σ H Q I h
end SR
set_option maxRecDepth 100000
set_option maxHeartbeats 4000000
set_option maxRecDepth 100000
set_option maxHeartbeats 4000000
set_option maxRecDepth 100000
set_option maxHeartbeats 4000000
set_option maxRecDepth 100000
set_option maxHeartbeats 4000000
set_option maxRecDepth 100000
set_option maxHeartbeats 4000000
namespace SS
open PySem L2 SR TL ZA
theorem OvN.ext {H0 H H' : Hp} {v : V} {d : PyData} (x : Ext H0 H H') (h : OvN H0 H v d) : OvN H0 H' v d := fun H'' y => h H'' fun b o n hb => y b o n (x b o n hb)
theorem seq_asg {te : TE} {g : TG} {tr : TS} {D : Ends} {σ : L2.St} {H : Hp} (h : te σ H fun x H1 => g x σ H1 (tr D)) : tSeq (tAsg te g) tr D σ H := h
theorem gname_go {i : Nat} {v : V} {σ : L2.St} {H : Hp} {Q : L2.St → Hp → Prop} (h : Q (σ.set i (some v)) H) : gName i v σ H Q := h
theorem at0 (x : V) (xs : List V) : atI (x :: xs) 0 = some x := by
  unfold atI ixN
  simp
end SS
set_option maxRecDepth 100000
set_option maxHeartbeats 4000000
set_option maxRecDepth 100000
set_option maxHeartbeats 4000000
set_option maxRecDepth 100000
set_option maxHeartbeats 4000000
set_option maxRecDepth 100000
set_option maxHeartbeats 4000000
set_option maxRecDepth 100000
set_option maxHeartbeats 4000000
set_option maxRecDepth 100000
set_option maxHeartbeats 4000000
set_option maxRecDepth 100000
set_option maxHeartbeats 4000000
set_option maxRecDepth 100000
set_option maxHeartbeats 4000000
set_option maxRecDepth 100000
set_option maxHeartbeats 4000000
set_option maxRecDepth 100000
set_option maxHeartbeats 4000000
set_option maxRecDepth 100000
set_option maxHeartbeats 4000000
set_option maxRecDepth 100000
set_option maxHeartbeats 4000000
set_option maxRecDepth 100000
set_option maxHeartbeats 4000000
set_option maxRecDepth 100000
set_option maxHeartbeats 4000000
set_option maxRecDepth 100000
set_option maxHeartbeats 4000000
set_option maxRecDepth 100000
set_option maxHeartbeats 4000000
set_option maxRecDepth 100000
set_option maxHeartbeats 4000000
set_option maxRecDepth 100000
set_option maxHeartbeats 4000000
set_option maxRecDepth 100000
set_option maxHeartbeats 4000000
set_option maxRecDepth 100000
set_option maxHeartbeats 4000000
set_option maxRecDepth 100000
set_option maxHeartbeats 4000000
set_option maxRecDepth 100000
set_option maxHeartbeats 4000000
set_option maxRecDepth 100000
set_option maxHeartbeats 4000000
set_option maxRecDepth 100000
set_option maxHeartbeats 4000000
set_option maxRecDepth 100000
set_option maxHeartbeats 4000000
set_option maxRecDepth 100000
set_option maxHeartbeats 4000000
set_option maxRecDepth 100000
set_option maxHeartbeats 4000000
set_option maxRecDepth 100000
set_option maxHeartbeats 4000000
set_option maxRecDepth 100000
set_option maxHeartbeats 4000000
set_option maxRecDepth 100000
set_option maxHeartbeats 4000000
set_option maxRecDepth 100000
set_option maxHeartbeats 4000000
set_option maxRecDepth 100000
set_option maxHeartbeats 4000000
set_option maxRecDepth 100000
set_option maxHeartbeats 4000000
set_option maxRecDepth 100000
set_option maxHeartbeats 4000000
set_option maxRecDepth 100000
set_option maxHeartbeats 4000000
set_option maxRecDepth 100000
set_option maxHeartbeats 4000000
set_option maxRecDepth 100000
set_option maxHeartbeats 4000000
set_option maxRecDepth 100000
set_option maxHeartbeats 4000000
set_option maxRecDepth 100000
set_option maxHeartbeats 4000000
set_option maxRecDepth 100000
set_option maxHeartbeats 4000000
set_option maxRecDepth 100000
set_option maxHeartbeats 4000000
set_option maxRecDepth 100000
set_option maxHeartbeats 4000000
set_option maxRecDepth 100000
set_option maxHeartbeats 4000000
set_option maxRecDepth 100000
set_option maxHeartbeats 4000000
set_option maxRecDepth 100000
set_option maxHeartbeats 4000000
set_option maxRecDepth 100000
set_option maxHeartbeats 4000000
set_option maxRecDepth 100000
set_option maxHeartbeats 4000000
set_option maxRecDepth 100000
set_option maxHeartbeats 4000000
set_option maxRecDepth 100000
set_option maxHeartbeats 4000000
set_option maxRecDepth 100000
set_option maxHeartbeats 4000000
set_option maxRecDepth 100000
set_option maxHeartbeats 4000000
set_option maxRecDepth 100000
set_option maxHeartbeats 4000000
set_option maxRecDepth 100000
set_option maxHeartbeats 4000000
set_option maxRecDepth 100000
set_option maxHeartbeats 4000000
set_option maxRecDepth 100000
set_option maxHeartbeats 1000000
set_option maxRecDepth 100000
set_option maxHeartbeats 4000000
set_option maxRecDepth 100000
set_option maxHeartbeats 4000000
set_option maxRecDepth 100000
set_option maxHeartbeats 4000000
set_option maxRecDepth 100000
set_option maxHeartbeats 4000000
set_option maxRecDepth 100000
set_option maxHeartbeats 4000000
set_option maxRecDepth 100000
set_option maxHeartbeats 4000000
namespace SG
open PySem L2 SR TL SS
theorem rowK_keys {cs : List Nat} {row : List Int} (h : row.length = cs.length) : (rowK cs row).map (·.1) = cs.map fun c => (Sum.inr (lt c) : Key) := by
  unfold rowK
  rw [List.map_map]
  have : (cs.zip row).map ((fun x : Key × V => x.1) ∘ fun p : Nat × Int => ((Sum.inr (lt p.1) : Key), V.int p.2)) = ((cs.zip row).map Prod.fst).map fun c => (Sum.inr (lt c) : Key) := by
    rw [List.map_map]; rfl
  rw [this, List.map_fst_zip (by omega)]
theorem rowK_nodup {cs : List Nat} {row : List Int} (h : row.length = cs.length) (nd : cs.Nodup) : ((rowK cs row).map (·.1)).Nodup := by
  rw [rowK_keys h]
  exact List.Pairwise.map _ (fun a b hab e => hab (lt_inj (Sum.inr.inj e))) nd
end SG
set_option maxRecDepth 100000
set_option maxHeartbeats 4000000
namespace SG
open PySem L2 SR TL SS
section
variable {P : Program} {w : World} {K : PySem.W.Frag} {mg : Str → Option Value} {base : Heap}
def PrAt (H : Hp) (t : Addr) (p : Nat × Int) : Prop := H t = some (.tup [ltV p.1, .int p.2])
end
end SG
set_option maxRecDepth 100000
set_option maxHeartbeats 4000000
namespace SG
open PySem L2 SR TL SS
theorem pairs_of_row {K : PySem.W.Frag} {H : Hp} {ts : List Addr} {cs : List Nat} {gs : List Int} (hp : Paired (PrAt H) ts (cs.zip gs)) : Paired (fun p kv => SqT K H p [kV kv.1, kv.2]) ts (rowK cs gs) := by
  have key : ∀ {ts : List Addr} {ps : List (Nat × Int)}, Paired (PrAt H) ts ps → Paired (fun p kv => SqT K H p [kV kv.1, kv.2]) ts (ps.map fun p => ((Sum.inr (lt p.1) : Key), V.int p.2)) := by
    intro ts ps h
    induction h with
    | nil => exact .nil
    | cons r _ ih => exact .cons (SqT.of r) ih
  exact key hp
end SG
set_option maxRecDepth 100000
set_option maxHeartbeats 4000000
set_option maxRecDepth 100000
set_option maxHeartbeats 4000000
set_option maxRecDepth 100000
set_option maxHeartbeats 4000000
set_option maxRecDepth 100000
set_option maxHeartbeats 4000000
set_option maxRecDepth 100000
set_option maxHeartbeats 8000000
set_option maxRecDepth 100000
set_option maxHeartbeats 4000000
set_option maxRecDepth 100000
set_option maxHeartbeats 4000000
set_option maxRecDepth 100000
set_option maxHeartbeats 4000000
set_option maxRecDepth 100000
set_option maxHeartbeats 4000000
set_option maxRecDepth 100000
set_option maxHeartbeats 4000000
set_option maxRecDepth 100000
set_option maxHeartbeats 4000000
set_option maxRecDepth 100000
set_option maxHeartbeats 4000000
set_option maxRecDepth 100000
set_option maxHeartbeats 4000000
set_option maxRecDepth 100000
set_option maxHeartbeats 4000000
set_option maxRecDepth 100000
set_option maxHeartbeats 4000000
set_option maxRecDepth 100000
set_option maxHeartbeats 4000000
set_option maxRecDepth 100000
set_option maxHeartbeats 4000000
set_option maxRecDepth 100000
set_option maxHeartbeats 4000000
set_option maxRecDepth 100000
set_option maxHeartbeats 4000000
set_option maxRecDepth 100000
set_option maxHeartbeats 4000000
set_option maxRecDepth 100000
set_option maxHeartbeats 4000000
set_option maxRecDepth 100000
set_option maxHeartbeats 4000000
set_option maxRecDepth 100000
set_option maxHeartbeats 4000000
set_option maxRecDepth 100000
set_option maxHeartbeats 4000000
set_option maxRecDepth 100000
set_option maxHeartbeats 4000000
set_option maxRecDepth 100000
set_option maxHeartbeats 4000000
set_option maxRecDepth 100000
set_option maxHeartbeats 4000000
set_option maxRecDepth 100000
set_option maxHeartbeats 4000000
set_option maxRecDepth 100000
set_option maxHeartbeats 4000000
set_option maxRecDepth 100000
set_option maxHeartbeats 1000000
set_option maxRecDepth 100000
set_option maxHeartbeats 1000000
set_option maxRecDepth 100000
set_option maxHeartbeats 1000000
set_option maxRecDepth 100000
set_option maxHeartbeats 1000000
set_option maxRecDepth 100000
set_option maxHeartbeats 4000000
set_option maxRecDepth 100000
set_option maxHeartbeats 4000000
set_option maxRecDepth 100000
set_option maxHeartbeats 4000000
set_option maxRecDepth 100000
set_option maxHeartbeats 4000000
set_option maxRecDepth 100000
set_option maxHeartbeats 4000000
set_option maxRecDepth 100000
set_option maxHeartbeats 4000000
set_option maxRecDepth 100000
set_option maxHeartbeats 4000000
set_option maxRecDepth 100000
set_option maxHeartbeats 4000000
set_option maxRecDepth 100000
set_option maxHeartbeats 4000000
set_option maxRecDepth 100000
set_option maxHeartbeats 4000000
set_option maxRecDepth 100000
set_option maxHeartbeats 4000000
set_option maxRecDepth 100000
set_option maxHeartbeats 4000000
set_option maxRecDepth 100000
set_option maxHeartbeats 4000000
set_option maxRecDepth 100000
set_option maxHeartbeats 4000000
set_option maxRecDepth 100000
set_option maxHeartbeats 4000000
set_option maxRecDepth 100000
set_option maxHeartbeats 4000000
set_option maxRecDepth 100000
set_option maxHeartbeats 4000000
set_option maxRecDepth 100000
set_option maxHeartbeats 4000000
set_option maxRecDepth 100000
set_option maxHeartbeats 4000000
set_option maxRecDepth 100000
set_option maxHeartbeats 4000000
set_option maxRecDepth 100000
set_option maxHeartbeats 4000000
set_option maxRecDepth 100000
set_option maxHeartbeats 4000000
set_option maxRecDepth 100000
set_option maxHeartbeats 4000000
set_option maxRecDepth 100000
set_option maxHeartbeats 4000000
set_option maxRecDepth 100000
set_option maxHeartbeats 4000000
set_option maxRecDepth 100000
set_option maxHeartbeats 4000000
set_option maxRecDepth 100000
set_option maxHeartbeats 4000000
namespace SG
open PySem L2 SR TL SS
theorem row_lc1 {te : TE} {vs : List Nat} {σ : St} {H1 : Hp} {j : Nat} {cs : List Nat} {D : Addr} {Qd : Hp → Prop} {g : Int} (hD : H1 D = none) (hw : ∀ v, wipe ((wipe σ vs).set j v) vs = wipe σ vs) (hl : cs.length ≤ 1000)
    (hte : ∀ (i c : Nat) (H : Hp) (Qt : V → Hp → Prop), cs[i]? = some c → Same H1 H → (∀ H4 T, Same H H4 → H4 T = some (.tup [ltV c, .int g]) → Qt (.ref T) H4) → te ((wipe σ vs).set j (some (ltV c))) H Qt)
    (hfin : ∀ H ts, Same H1 H → H D = some (.lst (ts.map .ref)) → Paired (PrAt H) ts (cs.zip (List.replicate cs.length g)) → Qd H) :
    ∃ W : Nat → Nat → Hp → Prop, (∃ m, W 0 m (upd H1 D (.lst []))) ∧ ∀ i m H, W i m H →
      ((Its (txt cs)).stop i H ∧ Qd H) ∨ ((Its (txt cs)).go i H ∧ ∃ Nx : Hp → Prop, (∀ H', Nx H' → ∃ m', m' < m ∧ W (i + 1) m' H') ∧ ∀ x H', (Its (txt cs)).yld i H x H' → (gName j) x (wipe σ vs) H' fun σ2 H2 => wipe σ2 vs = wipe σ vs ∧ tYes σ2 H2 fun b H3 =>
        if b = true then te σ2 H3 fun y H4 => ∃ acc, H4 D = some (.lst acc) ∧ acc.length < sizeLine ∧ Nx (upd H4 D (.lst (acc ++ [y]))) else Nx H3) := by
  have hz : (txt cs).cps.size = cs.length := by simp [txt]
  refine lc_S walk_str hD (by omega) (fun i acc H => ∃ ts, acc = ts.map .ref ∧ Paired (PrAt H) ts ((cs.take i).zip (List.replicate i g))) ?_ ⟨[], rfl, .nil⟩ (fun _ _ => trivial) ?_ ?_
  · rintro i acc acc' H H' hd e ⟨ts, h1, h4⟩
    exact ⟨ts, h1, Paired.mono h4 fun a b h => e _ _ (ne_lst hd h fun _ => nofun) h⟩
  · rintro i x H H' acc Qt Qf hi e hd ⟨ts, rfl, h4⟩ ⟨rfl, c, hc, rfl⟩ kt kf
    have hc' : cs[i]? = some c := by simpa [txt] using hc
    refine ⟨hw _, hte i c H' Qt hc' e fun H4 T e4 hT => kt _ _ e4 ⟨ts ++ [T], by simp, ?_⟩⟩
    have et : cs.take (i + 1) = cs.take i ++ [c] := by rw [List.take_add_one, hc']; rfl
    rw [et, List.replicate_succ', List.zip_append (by rw [List.length_take, List.length_replicate]; have := (List.getElem?_eq_some_iff.mp hc').1; omega)]
    exact paired_snoc (Paired.mono h4 fun a b h => e4 _ _ h) hT
  · rintro H acc e hd ⟨ts, rfl, h4⟩
    rw [hz, List.take_length] at h4
    exact hfin H ts e hd h4
end SG
set_option maxRecDepth 100000
set_option maxHeartbeats 4000000
namespace GQ
open PySem PySem.SeqAt
open AutoSeq1 (wpAny_loadPart')
open MeetsSeq MeetsSeq2 MeetsSeq3 SeqRoads2
section
variable {prog : Program} {w : World} {A : Around} {R : Result → Shared → Prop}
theorem eq_loopB {l b : Addr} {N : Nat} {e : Nat → Bool} {J : Shared → Prop} (hl : ListB prog w A (fun z s' => R (.error z) s') l b N e J)
    (fin : ∀ s, J s → R (.ok (.ret (.bool ((List.range N).all e)))) s) (k : Nat) :
    ∀ i : Nat, N - i = k → i ≤ N → (∀ j, j < i → e j = true) → ∀ s, J s →
      wpAny (model prog w) A.in1 (Builtin.«list.__eq__.loop» ⟨[.ref l, .ref b, rawInt i, rawInt 2], []⟩) (FinOf prog w A R) (fun z s' => R (.error z) s') s := by
  induction k with
  | zero =>
    intro i hk hi he s hJ
    obtain ⟨xs, ys, c, c2, ⟨gl, gb⟩, ⟨zl, zb⟩, _⟩ := hl _ hJ
    have hR := fin s hJ
    rw [all_tt fun j hj => he j (by omega)] at hR
    obtain ⟨hp, g, d, tk, os⟩ := s
    wp_walk using wpAny_loadPart' gl, wpAny_loadPart' gb
    rw [show xs[((i : Nat) : Int).toNat]? = none by (simp; omega), show ys[((i : Nat) : Int).toNat]? = none by (simp; omega)]
    wp_walk using wpAny_loadPart' gl, wpAny_loadPart' gb
    show R (.ok (.ret (.bool (xs.size == ys.size)))) _
    rw [zl, zb]
    simpa using hR
  | succ k ih =>
    intro i hk hi he s hJ
    obtain ⟨xs, ys, c, c2, ⟨gl, gb⟩, ⟨zl, zb⟩, turn⟩ := hl _ hJ
    have lx : i < xs.size := by omega
    have ly : i < ys.size := by omega
    have ht := turn i lx ly
    obtain ⟨hp, g, d, tk, os⟩ := s
    wp_walk using wpAny_loadPart' gl, wpAny_loadPart' gb
    rw [show xs[((i : Nat) : Int).toNat]? = some xs[i] by simp [lx], show ys[((i : Nat) : Int).toNat]? = some ys[i] by simp [ly]]
    refine wpAny_bind (wpAny_mono ht (fun r s2 q => ?_) fun _ _ z => z)
    obtain ⟨rfl, J2⟩ := q
    cases hq : e i with
    | true =>
      have rec' := ih (i + 1) (by omega) (by omega) (fun j hj => by
        rcases Nat.lt_or_ge j i with z | z
        · exact he j z
        · rw [show j = i by omega]; exact hq) s2 J2
      obtain ⟨hp2, g2, d2, tk2, os2⟩ := s2
      wp_walk
      rw [show ((i : Int) + 1) = ((i + 1 : Nat) : Int) by omega]
      exact ⟨plainId_quiet plain_eq_loop _, codeAny_builtin entry_eq_loop (by rw [Around.under_plainId plain_eq_loop _]; exact rec')⟩
    | false =>
      obtain ⟨xs', ys', c', c2', ⟨gl', gb'⟩, ⟨zl', zb'⟩, _⟩ := hl _ J2
      have hR := fin s2 J2
      rw [all_ff (by omega) hq] at hR
      obtain ⟨hp2, g2, d2, tk2, os2⟩ := s2
      wp_walk using wpAny_loadPart' gl', wpAny_loadPart' gb'
      rw [show xs'[((i : Nat) : Int).toNat]? = some (xs'[i]'(by omega)) by simp, show ys'[((i : Nat) : Int).toNat]? = some (ys'[i]'(by omega)) by simp]
      wp_walk
      simpa using hR
theorem list_eqB {l b : Addr} {N : Nat} {e : Nat → Bool} {J : Shared → Prop} (hl : ListB prog w A (fun z s' => R (.error z) s') l b N e J)
    (fin : ∀ s, J s → R (.ok (.ret (.bool ((List.range N).all e)))) s) {s : Shared} (h : J s) :
    wpAny (model prog w) A.in1 (Builtin.«list.__eq__» ⟨[.ref l, .ref b], []⟩) (FinOf prog w A R) (fun z s' => R (.error z) s') s := by
  obtain ⟨xs, ys, c, c2, ⟨gl, gb⟩, ⟨zl, zb⟩, _⟩ := hl _ h
  have rec' := eq_loopB (A := A) (R := R) hl fin _ 0 rfl (Nat.zero_le _) (fun j hj => absurd hj (Nat.not_lt_zero _)) s h
  obtain ⟨hp, g, d, tk, os⟩ := s
  have sub := AutoSeq1.sub_list_list
  have hne : ¬ (xs.size != ys.size) = true := by simp [zl, zb]
  wp_walk using wpAny_loadPart' gl, wpAny_loadPart' gb
  exact ⟨plainId_quiet plain_eq_loop _, codeAny_builtin entry_eq_loop (by rw [Around.under_plainId plain_eq_loop _]; exact rec')⟩
end
section
variable {prog : Program} {w : World} {A : Around} {E : Value → Shared → Prop} {s : Shared}
theorem rc_listB {l b : Addr} {N : Nat} {e : Nat → Bool} {Q : Value → Shared → Prop} (hu : A.units < cLine) (J : Shared → Prop) (hl : ListB prog w A E l b N e J)
    (fin : ∀ s, J s → Q (.bool ((List.range N).all e)) s) (h : J s) : wpAny (model prog w) A (richCompare .Eq (.ref l) (.ref b)) Q E s := by
  obtain ⟨xs, ys, c, c2, ⟨gl, gb⟩, _, _⟩ := hl _ h
  refine wpAny_richCompare_same_room (op := .Eq) ⟨_, gl, rfl⟩ ⟨_, gb, rfl⟩ F.slot_list_eq (call_here F.slot_list_eq ⟨_, gl, rfl⟩ F.entry_list_eq (F.args_list_eq_2 _ _) ?_) hu
  exact list_eqB (R := wants (fun v s' => v ≠ .notImplemented ∧ Q v s') E) hl (fun s' q => ⟨(fun x => nomatch x), fin s' q⟩) h
end
end GQ
namespace L2
open PySem PySem.Spec PyProof.Rows
section
variable {X : Cx} {n m : Nat} {D D' : Eqb}
theorem monB_same : MonB BSame := fun _ _ _ _ _ _ d => d
theorem eqB_same : EqB X 0 BSame := by
  intro A pins s σ H x y b u v sb I rx ry ⟨hb, a, hx, hy⟩
  subst hx; subst hy; subst hb
  cases rx
  cases ry
  exact SeqAt.EqAt.same (A := A) (s := s) (.ref a) X.prog X.w X.xe _ ⟨rfl, H, I, Ext.rfl'⟩
theorem eqB_flat : EqB X 0 BFlat := by
  intro A pins s σ H x y b u v sb I rx ry d
  obtain ⟨fx, fy, rfl⟩ := d
  exact eqAt_V (A := A) (s := s) rx ry fx fy X.prog X.w X.xe _ ⟨rfl, H, I, Ext.rfl'⟩
theorem rcB_list (hD : MonB D) (h : EqB X n D) : RcB X (n + 1) (BList D) := by
  intro A pins s σ H x y b u v sb I rx ry d
  obtain ⟨p, q, xs, ys, e, rfl, rfl, hp, hq, hl, pr, rfl⟩ := d
  cases rx
  cases ry
  refine GQ.rc_listB (N := xs.length) (e := e) sb.room.units0 (LoopI X pins σ H) (fun s' z => ?_) (fun s' z => ⟨rfl, z⟩) ⟨H, I, Ext.rfl'⟩
  obtain ⟨H1, I1, x1⟩ := id z
  obtain ⟨_, us, k, r, g1⟩ := I1.hok p _ (x1 _ _ hp)
  obtain ⟨_, ws, k2, r2, g2⟩ := I1.hok q _ (x1 _ _ hq)
  exact ⟨us.toArray, ws.toArray, k, k2, ⟨g1, g2⟩, ⟨by rw [List.size_toArray, ← r.length], by rw [List.size_toArray, ← r2.length, ← hl]⟩, fun i h1 h2 => turnB hD h sb pr r r2 i h1 h2 s' z⟩
end
end L2
set_option maxRecDepth 100000
set_option maxHeartbeats 4000000
set_option maxRecDepth 100000
set_option maxHeartbeats 4000000
set_option maxRecDepth 100000
set_option maxHeartbeats 4000000
set_option maxRecDepth 100000
set_option maxHeartbeats 4000000
set_option maxRecDepth 100000
set_option maxHeartbeats 4000000
set_option maxRecDepth 100000
set_option maxHeartbeats 4000000
set_option maxRecDepth 100000
set_option maxHeartbeats 4000000
set_option maxRecDepth 100000
set_option maxHeartbeats 4000000
set_option maxRecDepth 100000
set_option maxHeartbeats 4000000
set_option maxRecDepth 100000
set_option maxHeartbeats 4000000
set_option maxRecDepth 100000
set_option maxHeartbeats 4000000
set_option maxRecDepth 100000
set_option maxHeartbeats 4000000
set_option maxRecDepth 100000
set_option maxHeartbeats 4000000
set_option maxRecDepth 100000
set_option maxHeartbeats 4000000
set_option maxRecDepth 100000
set_option maxHeartbeats 4000000
set_option maxRecDepth 100000
set_option maxHeartbeats 4000000
set_option maxRecDepth 100000
set_option maxHeartbeats 4000000
set_option maxRecDepth 100000
set_option maxHeartbeats 4000000
set_option maxRecDepth 100000
set_option maxHeartbeats 4000000
set_option maxRecDepth 100000
set_option maxHeartbeats 4000000
set_option maxRecDepth 100000
set_option maxHeartbeats 4000000
set_option maxRecDepth 100000
set_option maxHeartbeats 4000000
set_option maxRecDepth 100000
set_option maxHeartbeats 4000000
set_option maxRecDepth 100000
set_option maxHeartbeats 4000000
set_option maxRecDepth 100000
set_option maxHeartbeats 4000000
set_option maxRecDepth 100000
set_option maxHeartbeats 4000000
set_option maxRecDepth 100000
set_option maxHeartbeats 4000000
set_option maxRecDepth 100000
set_option maxHeartbeats 4000000
set_option maxRecDepth 100000
set_option maxHeartbeats 4000000
set_option maxRecDepth 100000
set_option maxHeartbeats 4000000
set_option maxRecDepth 100000
set_option maxHeartbeats 4000000
set_option maxRecDepth 100000
set_option maxHeartbeats 4000000
set_option maxRecDepth 100000
set_option maxHeartbeats 4000000
set_option maxRecDepth 100000
set_option maxHeartbeats 4000000
set_option maxRecDepth 100000
set_option maxHeartbeats 4000000
set_option maxRecDepth 100000
set_option maxHeartbeats 4000000
set_option maxRecDepth 100000
set_option maxHeartbeats 4000000
set_option maxRecDepth 100000
set_option maxHeartbeats 4000000
set_option maxRecDepth 100000
set_option maxHeartbeats 4000000
set_option maxRecDepth 100000
set_option maxHeartbeats 4000000
set_option maxRecDepth 100000
set_option maxHeartbeats 4000000
set_option maxRecDepth 100000
set_option maxHeartbeats 4000000
set_option maxRecDepth 100000
set_option maxHeartbeats 4000000
set_option maxRecDepth 100000
set_option maxHeartbeats 4000000
set_option maxRecDepth 100000
set_option maxHeartbeats 4000000
set_option maxRecDepth 100000
set_option maxHeartbeats 4000000
set_option maxRecDepth 100000
set_option maxHeartbeats 4000000
namespace SR
open PySem PySem.Spec PyProof.Rows L2
section
variable {X : Cx}
/-- somewhere below the running body, no repr under way -/
theorem own_run {n : Nat} {f : Addr} {fd : FuncData} {ps : List Str} {sp : Sp} (F : FnG X.prog X.w X.K X.mg X.base n f fd ps sp) {A : Around} (sb : Sub X n A) (hgd : A.guards = some []) (hb : Binds X.K fd ps [])
    {pins : List (Addr × Obj)} {s : Shared} {σ : L2.St} {H : Hp} {vs : List V} {us : List Value} {q : V → Hp → Prop} (I : Inv X pins σ H s) (r : Vals vs us) (hq : sp vs H q E0) : wpAny (model X.prog X.w) A (call (.ref f) us) (EP X pins σ q) X.xe s := by
  have hl : us.length = ps.length := by rw [← r.length]; exact F.len _ _ _ _ hq
  have e0 : Env0 X.prog X.w X.K X.mg X.base A X.stack s H := by
    have e := I.env0
    exact ⟨by rw [sb.fr]; exact e.frames, e.mod, e.bs, e.bsz, e.funs, e.frf, e.hok, e.bare⟩
  have b := hb s us I.kIn (by simpa using hl)
  rw [List.append_nil] at b
  refine wpAny_call (codeAny_mono (F.run A X.stack s H ⟨us, []⟩ us vs _ E0 sb.room hgd e0 b r hq) fun r s' hz => ?_)
  cases r with
  | error e => exact pass0 pins σ H s e s' I hz
  | ok fl =>
    cases fl with
    | ret v => exact I.after hz
    | next => exact False.elim hz
    | brk => exact False.elim hz
    | cont => exact False.elim hz
end
section
variable {X : Cx}
/-- x == y, by the own __eq__ -/
def rOwnEq (C : Addr) (sp : Sp) (neg : Bool) : R2 := fun x y H Q => ∃ a b dx dy fs gs, x = .ref a ∧ y = .ref b ∧ H a = some (.ins C dx fs) ∧ H b = some (.ins C dy gs) ∧ sp [.ref a, .ref b] H (fun v H' => ∃ r, v = .bl r ∧ Q (.bl (if neg then !r else r)) H') E0
theorem op_eqOwn {n : Nat} {C f : Addr} {fd : FuncData} {ps : List Str} {sp : Sp} (F : FnG X.prog X.w X.K X.mg X.base n f fd ps sp) (hr : Room n X.A) (hgd : X.A.guards = some [])
    (hs : PySem.W.findIn X.K (.ref C) "__eq__" = some (some (.ref f))) (hf : PySem.W.isFn X.K (.ref f) = true) (hb : Binds X.K fd ps []) : OpR X (compareOp .Eq) (rOwnEq C sp false) := by
  intro pins s σ H x y v u Q I rx ry h
  obtain ⟨a, b, dx, dy, fs, gs, rfl, rfl, ha, hb', hq⟩ := h
  cases rx
  cases ry
  obtain ⟨mA, J, _⟩ := ins_get I.hok ha
  obtain ⟨mB, J', _⟩ := ins_get I.hok hb'
  obtain ⟨od, J, _⟩ := J.look
  obtain ⟨od', J', _⟩ := J'.look
  obtain ⟨m, hF⟩ := I.fr
  show wpAny (model X.prog X.w) X.A (richCompare .Eq (.ref a) (.ref b)) (EP X pins σ Q) X.xe s
  refine PySem.W.cmp_K (op := .Eq) (tb := .ref C) hr.units0 hF I.ok.mod.kin J J'.type (by simp [PySem.W.notFirst]) hs hf (wpAny_mono (own_run (vs := [.ref a, .ref b]) F ⟨hr, rfl⟩ hgd hb I (.cons rfl (.cons rfl .nil)) hq) (fun z s' hz => ?_) fun _ _ e => e)
  obtain ⟨b', H', I', rb, r, rfl, hQ⟩ := hz
  cases rb
  exact ⟨.bl r, H', I', rfl, hQ⟩
end
end SR
set_option maxRecDepth 100000
set_option maxHeartbeats 4000000
set_option maxRecDepth 100000
set_option maxHeartbeats 4000000
set_option maxRecDepth 100000
set_option maxHeartbeats 4000000
set_option maxRecDepth 100000
set_option maxHeartbeats 4000000
set_option maxRecDepth 100000
set_option maxHeartbeats 4000000
set_option maxRecDepth 100000
set_option maxHeartbeats 4000000
set_option maxRecDepth 100000
set_option maxHeartbeats 4000000
set_option maxRecDepth 100000
set_option maxHeartbeats 4000000
set_option maxRecDepth 100000
set_option maxHeartbeats 4000000
set_option maxRecDepth 100000
set_option maxHeartbeats 4000000
set_option maxRecDepth 100000
set_option maxHeartbeats 4000000
set_option maxRecDepth 100000
set_option maxHeartbeats 4000000
set_option maxRecDepth 100000
set_option maxHeartbeats 4000000
set_option maxRecDepth 100000
set_option maxHeartbeats 4000000
set_option maxRecDepth 100000
set_option maxHeartbeats 1000000
set_option maxRecDepth 100000
set_option maxHeartbeats 4000000
set_option maxRecDepth 100000
set_option maxHeartbeats 4000000
set_option maxRecDepth 100000
set_option maxHeartbeats 4000000
set_option maxRecDepth 100000
set_option maxHeartbeats 4000000
set_option maxRecDepth 100000
set_option maxHeartbeats 4000000
set_option maxRecDepth 100000
set_option maxHeartbeats 4000000
set_option maxRecDepth 100000
set_option maxHeartbeats 4000000
set_option maxRecDepth 100000
set_option maxHeartbeats 4000000
set_option maxRecDepth 100000
set_option maxHeartbeats 4000000
set_option maxRecDepth 100000
set_option maxHeartbeats 4000000
set_option maxRecDepth 100000
set_option maxHeartbeats 4000000
set_option maxRecDepth 100000
set_option maxHeartbeats 4000000
set_option maxRecDepth 100000
set_option maxHeartbeats 8000000
set_option maxRecDepth 100000
set_option maxHeartbeats 4000000
set_option maxRecDepth 100000
set_option maxHeartbeats 4000000
set_option maxRecDepth 100000
set_option maxHeartbeats 4000000
set_option maxRecDepth 100000
set_option maxHeartbeats 4000000
set_option maxRecDepth 100000
set_option maxHeartbeats 4000000
set_option maxRecDepth 100000
set_option maxHeartbeats 4000000
set_option maxRecDepth 100000
set_option maxHeartbeats 4000000
set_option maxRecDepth 100000
set_option maxHeartbeats 4000000
set_option maxRecDepth 100000
set_option maxHeartbeats 4000000
set_option maxRecDepth 100000
set_option maxHeartbeats 4000000
set_option maxRecDepth 100000
set_option maxHeartbeats 4000000
set_option maxRecDepth 100000
set_option maxHeartbeats 4000000
set_option maxRecDepth 100000
set_option maxHeartbeats 4000000
set_option maxRecDepth 100000
set_option maxHeartbeats 4000000
set_option maxRecDepth 100000
set_option maxHeartbeats 4000000
set_option maxRecDepth 100000
set_option maxHeartbeats 4000000
set_option maxRecDepth 100000
set_option maxHeartbeats 4000000
set_option maxRecDepth 100000
set_option maxHeartbeats 4000000
set_option maxRecDepth 100000
set_option maxHeartbeats 4000000
set_option maxRecDepth 100000
set_option maxHeartbeats 4000000
set_option maxRecDepth 100000
set_option maxHeartbeats 4000000
namespace SS
open PySem L2 SR TL ZA
/-- a reader just made -/
def NewR (C : Addr) (H H' : Hp) (x : Addr) (rows : List Rw) (ends : List Int) (start : Int) : Prop :=
  H x = none ∧ Same H H' ∧ ∀ H'' : Hp, (∀ b o, (H b = none ∨ ∃ xs, o = .tup xs) → H' b = some o → H'' b = some o) → RdAt C H'' x (rows.map sortR) (sortI ends) start
theorem NewR.mono {C : Addr} {H1 H2 H' : Hp} {x : Addr} {rows : List Rw} {ends : List Int} {start : Int} (e : Same H1 H2) (h : NewR C H2 H' x rows ends start) : NewR C H1 H' x rows ends start :=
  ⟨e.free h.1, e.trans h.2.1, fun H'' z => h.2.2 H'' fun b o hb => z b o (hb.imp e.free id)⟩
theorem NewR.at {C : Addr} {H H' : Hp} {x : Addr} {rows : List Rw} {ends : List Int} {start : Int} (h : NewR C H H' x rows ends start) : RdAt C H' x (rows.map sortR) (sortI ends) start := h.2.2 H' fun _ _ _ z => z
theorem ini_mk {K : PySem.W.Frag} {C x dx a e : Addr} {H : Hp} {Q : Hp → Prop} {cs ts : List Nat} {ms : List (List Nat)} {rows : List Rw} {ends : List Int} {start : Int} (nx : H x = none) (ndx : H dx = none) (PA : Pal cs ts ms) (W : WfR cs ts ms rows ends start) (hR : RowsL H a rows) (hE : LoQ K H e (ends.map .int))
    (k : ∀ H', NewR C H H' x rows ends start → Q H') : spIni K C [.ref x, .ref a, .ref e, .int start] (upd (upd H dx (.own x)) x (.ins C dx [])) (fun v H3 => v = .non ∧ Q H3) E0 := by
  have en : Same H (upd (upd H dx (.own x)) x (.ins C dx [])) := same_upd (same_new ndx) nx
  refine ⟨x, dx, a, e, cs, ts, ms, rows, ends, start, rfl, upd_same, PA, W, hR.mono en, hE.mono en, fun H5 ext sb => ⟨rfl, ?_⟩⟩
  have e45 : Same H H5 := fun b o hb => sb b o (ne_of_none hb nx) (en b o hb)
  refine k H5 ⟨nx, e45, fun H'' z => ext H'' fun b o hb => z b o ?_⟩
  rcases hb with hb | rfl | hb
  · exact .inl (en.free hb)
  · exact .inl nx
  · exact .inr hb
end SS
set_option maxRecDepth 100000
set_option maxHeartbeats 4000000
set_option maxRecDepth 100000
set_option maxHeartbeats 4000000
set_option maxRecDepth 100000
set_option maxHeartbeats 4000000
set_option maxRecDepth 100000
set_option maxHeartbeats 1000000
set_option maxRecDepth 100000
set_option maxHeartbeats 1000000
set_option maxRecDepth 100000
set_option maxHeartbeats 1000000
set_option maxRecDepth 100000
set_option maxHeartbeats 1000000
set_option maxRecDepth 100000
set_option maxHeartbeats 4000000
set_option maxRecDepth 100000
set_option maxHeartbeats 4000000
set_option maxRecDepth 100000
set_option maxHeartbeats 4000000
set_option maxRecDepth 100000
set_option maxHeartbeats 4000000
set_option maxRecDepth 100000
set_option maxHeartbeats 4000000
set_option maxRecDepth 100000
set_option maxHeartbeats 4000000
set_option maxRecDepth 100000
set_option maxHeartbeats 4000000
set_option maxRecDepth 100000
set_option maxHeartbeats 4000000
set_option maxRecDepth 100000
set_option maxHeartbeats 4000000
namespace SG
open PySem L2 SR TL
theorem idxOf_inj {α β : Type} [DecidableEq α] [DecidableEq β] {f : α → β} {a : α} : ∀ L : List α, (∀ b ∈ L, f b = f a → b = a) → (L.map f).idxOf (f a) = L.idxOf a
  | [], _ => rfl
  | b :: L, h => by
    rw [List.map_cons, List.idxOf_cons, List.idxOf_cons]
    have ih := idxOf_inj L fun u hu => h u (List.mem_cons_of_mem _ hu)
    by_cases e : b = a
    · subst e; simp
    · have : ¬ f b = f a := fun z => e (h b List.mem_cons_self z)
      have h1 : (b == a) = false := beq_eq_false_iff_ne.mpr e
      have h2 : (f b == f a) = false := beq_eq_false_iff_ne.mpr this
      rw [h1, h2, ih]
theorem Order.run_mem {cs : List Nat} {rows : List (List Int)} {fd : List Int} (O : Order cs rows fd) : ∀ (x : List Nat) (s : Int), s ∈ fd → (∀ c ∈ x, c ∈ cs) → run cs rows s x ∈ fd
  | [], s, hs, _ => hs
  | c :: x, s, hs, hx => O.run_mem x _ (O.cl s hs c (hx c List.mem_cons_self)) fun d hd => hx d (List.mem_cons_of_mem _ hd)
section
variable {cs : List Nat} {rows : List (List Int)} {ends fd : List Int}
theorem Kn.iff {κ : Int → Int} {r : Nat} (k : Kn cs rows ends fd r κ) (O : Order cs rows fd) (b : Bis cs rows fd κ) {p q : Int} (hp : p ∈ fd) (hq : q ∈ fd) : κ p = κ q ↔ ∀ x : List Nat, (∀ c ∈ x, c ∈ cs) → (run cs rows p x ∈ ends ↔ run cs rows q x ∈ ends) :=
  ⟨fun e x hx => k.all O b p hp q hq e x.length x hx (Nat.le_refl _), fun h => (k p hp q hq).mpr fun x hx _ => h x hx⟩
theorem run_app (cs : List Nat) (rows : List (List Int)) (s : Int) (x y : List Nat) : run cs rows s (x ++ y) = run cs rows (run cs rows s x) y := List.foldl_append
end
theorem least_unique {mA mB : Nat} {cs : List Nat} {rA rwA rB rwB : List (List Int)} {eA enA eB enB : List Int} (A : Least mA cs rA eA rwA enA) (B : Least mB cs rB eB rwB enB)
    (h : ∀ x : List Nat, (∀ c ∈ x, c ∈ cs) → (run cs rA 0 x ∈ eA ↔ run cs rB 0 x ∈ eB)) : rwB = rwA ∧ enB = enA := by
  obtain ⟨fdA, κA, nA, ksA, OA, kA, _, bA, fA, ⟨mA', beA, lA⟩, rfl, rfl⟩ := A
  obtain ⟨fdB, κB, nB, ksB, OB, kB, _, bB, fB, ⟨mB', beB, lB⟩, rfl, rfl⟩ := B
  -- the state of A that stands for one of B
  obtain ⟨ψ, hψ⟩ : ∃ ψ : Int → Int, ∀ s ∈ fdB, ψ s ∈ fdA ∧ ∀ y : List Nat, (∀ c ∈ y, c ∈ cs) → (run cs rA (ψ s) y ∈ eA ↔ run cs rB s y ∈ eB) := by
    refine ⟨fun s => if hs : s ∈ fdB then run cs rA 0 (Classical.choose (OB.rc s hs)) else 0, fun s hs => ?_⟩
    obtain ⟨hx, ex⟩ := Classical.choose_spec (OB.rc s hs)
    show dite (s ∈ fdB) _ _ ∈ fdA ∧ ∀ y : List Nat, (∀ c ∈ y, c ∈ cs) → (run cs rA (dite (s ∈ fdB) _ _) y ∈ eA ↔ _)
    rw [dif_pos hs]
    refine ⟨OA.run_mem _ 0 OA.zero hx, fun y hy => ?_⟩
    have hxy : ∀ c ∈ Classical.choose (OB.rc s hs) ++ y, c ∈ cs := fun c hc => (List.mem_append.mp hc).elim (hx c) (hy c)
    have := h _ hxy
    rw [run_app, run_app, ex] at this
    exact this
  have memA : ∀ k, k ∈ ksA ↔ ∃ s ∈ fdA, κA s = k := fun k => by rw [fA.mem, List.take_length]
  have memB : ∀ k, k ∈ ksB ↔ ∃ s ∈ fdB, κB s = k := fun k => by rw [fB.mem, List.take_length]
  have cls : ∀ s ∈ fdB, ∀ t ∈ fdB, κB s = κB t ↔ κA (ψ s) = κA (ψ t) := fun s hs t ht => by
    rw [kB.iff OB bB hs ht, kA.iff OA bA (hψ s hs).1 (hψ t ht).1]
    exact forall_congr' fun x => forall_congr' fun hx => by rw [(hψ s hs).2 x hx, (hψ t ht).2 x hx]
  -- the kind of A for a kind of B
  have hφ : ∀ s ∈ fdB, κA (ψ (rep fdB κB (κB s))) = κA (ψ s) := fun s hs => by
    obtain ⟨r1, r2⟩ := rep_mem (κ := κB) hs
    exact (cls _ r1 s hs).mp r2
  have hnx : ∀ s ∈ fdB, ∀ c ∈ cs, κA (ψ (nxt cs rB s c)) = κA (nxt cs rA (ψ s) c) := fun s hs c hc => by
    have h1 := OB.cl s hs c hc
    refine (kA.iff OA bA (hψ _ h1).1 (OA.cl _ (hψ s hs).1 c hc)).mpr fun y hy => ?_
    rw [(hψ _ h1).2 y hy]
    have := (hψ s hs).2 (c :: y) (fun d hd => (List.mem_cons.mp hd).elim (fun z => z ▸ hc) (hy d))
    exact this.symm
  have h00 : κA (ψ 0) = κA 0 := (kA.iff OA bA (hψ 0 OB.zero).1 OA.zero).mpr fun y hy => by rw [(hψ 0 OB.zero).2 y hy]; exact (h y hy).symm
  generalize eφ : (fun k => κA (ψ (rep fdB κB k))) = φ
  have φs : ∀ s ∈ fdB, φ (κB s) = κA (ψ s) := fun s hs => by rw [← eφ]; exact hφ s hs
  have inj : ∀ a ∈ ksB, ∀ b ∈ ksB, φ a = φ b → a = b := fun a ha b hb e => by
    obtain ⟨s, hs, rfl⟩ := (memB a).mp ha
    obtain ⟨t, ht, rfl⟩ := (memB b).mp hb
    rw [φs s hs, φs t ht] at e
    exact (cls s hs t ht).mpr e
  -- the representatives
  have repB : ∀ k ∈ ksB, rep fdB κB k ∈ fdB ∧ κB (rep fdB κB k) = k := fun k hk => by
    obtain ⟨s, hs, rfl⟩ := (memB k).mp hk
    exact rep_mem hs
  have φk : ∀ k ∈ ksB, φ k = κA (ψ (rep fdB κB k)) := fun k _ => by rw [← eφ]
  have repA : ∀ k ∈ ksB, rep fdA κA (φ k) ∈ fdA ∧ κA (rep fdA κA (φ k)) = κA (ψ (rep fdB κB k)) := fun k hk => by
    rw [φk k hk]
    exact rep_mem (hψ _ (repB k hk).1).1
  have nx : ∀ k ∈ ksB, ∀ c ∈ cs, κA (nxt cs rA (rep fdA κA (φ k)) c) = φ (κB (nxt cs rB (rep fdB κB k) c)) := fun k hk c hc => by
    obtain ⟨a1, a2⟩ := repA k hk
    obtain ⟨b1, b2⟩ := repB k hk
    rw [φs _ (OB.cl _ b1 c hc), hnx _ b1 c hc]
    exact bA _ a1 _ (hψ _ b1).1 a2 c hc
  have be : BE (dltK cs rA fdA κA) (κA 0) mB' (ksB.map φ) := by
    have := beB.map (δ' := dltK cs rA fdA κA) (φ := φ) (fun k hk => ?_) inj
    · rwa [φs 0 OB.zero, h00] at this
    · unfold dltK
      rw [List.map_map]
      exact List.map_congr_left fun c hc => (nx k hk c hc).symm
  have eks : ksB.map φ = ksA := be.done beA (by rw [List.length_map]; exact lB) lA
  have inB : ∀ k ∈ ksB, ∀ c ∈ cs, κB (nxt cs rB (rep fdB κB k) c) ∈ ksB := fun k hk c hc => (memB _).mpr ⟨_, OB.cl _ (repB k hk).1 c hc, rfl⟩
  have nm : ∀ k ∈ ksB, num ksA (φ k) = num ksB k := fun k hk => by
    unfold num
    rw [← eks, idxOf_inj ksB fun b hb e => inj b hb k hk e]
  constructor
  · unfold rows'
    rw [show (ksA.map fun k => cs.map fun c => num ksA (κA (nxt cs rA (rep fdA κA k) c))) = (ksB.map φ).map fun k => cs.map fun c => num ksA (κA (nxt cs rA (rep fdA κA k) c)) from by rw [eks], List.map_map]
    refine List.map_congr_left fun k hk => List.map_congr_left fun c hc => ?_
    show _ = num ksA (κA (nxt cs rA (rep fdA κA (φ k)) c))
    rw [nx k hk c hc, nm _ (inB k hk c hc)]
  · unfold ends'
    rw [show (ksA.filter fun k => decide (rep fdA κA k ∈ eA)) = (ksB.map φ).filter fun k => decide (rep fdA κA k ∈ eA) from by rw [eks], List.filter_map, List.map_map]
    have e1 : ksB.filter ((fun k => decide (rep fdA κA k ∈ eA)) ∘ φ) = ksB.filter fun k => decide (rep fdB κB k ∈ eB) := List.filter_congr fun k hk => by
      show decide (rep fdA κA (φ k) ∈ eA) = _
      refine decide_eq_decide.mpr ?_
      obtain ⟨a1, a2⟩ := repA k hk
      obtain ⟨b1, b2⟩ := repB k hk
      have h1 := (kA.iff OA bA a1 (hψ _ b1).1).mp a2 [] (fun _ h => nomatch h)
      have h2 := (hψ _ b1).2 [] (fun _ h => nomatch h)
      exact h1.trans h2
    rw [e1]
    refine List.map_congr_left fun k hk => ?_
    show _ = num ksA (φ k)
    exact (nm k (List.mem_filter.mp hk).1).symm
end SG
set_option maxRecDepth 100000
set_option maxHeartbeats 4000000
set_option maxRecDepth 100000
set_option maxHeartbeats 4000000
set_option maxRecDepth 100000
set_option maxHeartbeats 4000000
set_option maxRecDepth 100000
set_option maxHeartbeats 4000000
set_option maxRecDepth 100000
set_option maxHeartbeats 4000000
set_option maxRecDepth 100000
set_option maxHeartbeats 4000000
set_option maxRecDepth 100000
set_option maxHeartbeats 4000000
set_option maxRecDepth 100000
set_option maxHeartbeats 4000000
set_option maxRecDepth 100000
set_option maxHeartbeats 4000000
set_option maxRecDepth 100000
set_option maxHeartbeats 4000000
set_option maxRecDepth 100000
set_option maxHeartbeats 4000000
set_option maxRecDepth 100000
set_option maxHeartbeats 4000000
set_option maxRecDepth 100000
set_option maxHeartbeats 4000000
set_option maxRecDepth 100000
set_option maxHeartbeats 4000000
set_option maxRecDepth 100000
set_option maxHeartbeats 4000000
set_option maxRecDepth 100000
set_option maxHeartbeats 4000000
set_option maxRecDepth 100000
set_option maxHeartbeats 4000000
set_option maxRecDepth 100000
set_option maxHeartbeats 4000000
set_option maxRecDepth 100000
set_option maxHeartbeats 4000000
namespace L2
open PySem PySem.Spec PyProof.Rows
section
variable {X : Cx} {n m : Nat} {D D' : Eqb}
def spEqb (R : Addr → Addr → Bool → Hp → Prop) : Sp := fun vs H Q _ => ∃ a b r, vs = [.ref a, .ref b] ∧ R a b r H ∧ ∀ H', Ext H H' → Q (.bl r) H'
end
end L2
set_option maxRecDepth 100000
set_option maxHeartbeats 4000000
namespace SS
open PySem L2 SR TL ZA
/-- two languages over the same signs: of one machine, or told apart by a text -/
def LanB (L : Addr) (a b : Addr) (r : Bool) (H : Hp) : Prop := ∃ (cs : List Nat) (rM rN : List (List Int)) (eM eN : List Int), Abc cs ∧ SG.LangAt rM.length L H a cs rM eM ∧ SG.LangAt rN.length L H b cs rN eN ∧
  ((r = true ∧ rM = rN ∧ eM = eN) ∨ (r = false ∧ ∃ x, (∀ c ∈ x, c ∈ cs) ∧ ¬ (SG.run cs rM 0 x ∈ eM ↔ SG.run cs rN 0 x ∈ eN)))
theorem LanB.mono {L a b : Addr} {r : Bool} {H H' : Hp} (e : Same H H') (h : LanB L a b r H) : LanB L a b r H' := by
  obtain ⟨cs, rM, rN, eM, eN, h0, h1, h2, h3⟩ := h
  exact ⟨cs, rM, rN, eM, eN, h0, h1.mono e, h2.mono e, h3⟩
theorem lanB_sp {L : Addr} : ∀ vs H Q E, spEqb (LanB L) vs H Q E → SG.spEqA L vs H Q E := by
  rintro vs H Q E ⟨a, b, r, rfl, ⟨cs, rM, rN, eM, eN, h0, h1, h2, h3⟩, k⟩
  obtain ⟨rA, eA, nA, LA, WA, aA, lA, _⟩ := h1.ex
  obtain ⟨rB, eB, nB, LB, WB, aB, lB, _⟩ := h2.ex
  refine ⟨a, .ref b, cs, _, _, nA, rfl, h0, LA, WA, .inr ⟨b, cs, _, _, nB, rfl, LB, WB, fun H' e => ?_⟩⟩
  rcases h3 with ⟨rfl, rfl, rfl⟩ | ⟨rfl, x, hx, hne⟩
  · obtain ⟨rfl, rfl⟩ := SG.least_unique lA lB fun x hx => Iff.rfl
    rw [decide_eq_true ⟨rfl, rfl, rfl⟩]
    exact k H' e
  · rw [decide_eq_false (by
      rintro ⟨_, rfl, rfl⟩
      exact hne ((aA.1 x hx).symm.trans (aB.1 x hx)))]
    exact k H' e
end SS
set_option maxRecDepth 100000
set_option maxHeartbeats 4000000
set_option maxRecDepth 100000
set_option maxHeartbeats 4000000
set_option maxRecDepth 100000
set_option maxHeartbeats 4000000
set_option maxRecDepth 100000
set_option maxHeartbeats 4000000
namespace SS
open PySem L2 SR TL ZA
theorem LanB.ins {L a b : Addr} {r : Bool} {H : Hp} (h : LanB L a b r H) : BIns L (LanB L) (.ref a) (.ref b) r H := by
  obtain ⟨cs, rM, rN, eM, eN, h0, h1, h2, h3⟩ := id h
  obtain ⟨_, _, _, LA, _⟩ := h1.ex
  obtain ⟨dx, _, _, _, fs, x1, _⟩ := LA.ex
  obtain ⟨_, _, _, LB, _⟩ := h2.ex
  obtain ⟨dy, _, _, _, gs, y1, _⟩ := LB.ex
  exact ⟨a, b, dx, dy, fs, gs, rfl, rfl, x1, y1, h⟩
theorem LanB.same {L a b : Addr} {H : Hp} {cs : List Nat} {rM : List (List Int)} {eM : List Int} (ha : Abc cs) (h1 : LanT L H a cs rM eM) (h2 : LanT L H b cs rM eM) : LanB L a b true H := ⟨cs, rM, rM, eM, eM, ha, h1, h2, .inl ⟨rfl, rfl, rfl⟩⟩
end SS
set_option maxRecDepth 100000
set_option maxHeartbeats 4000000
set_option maxRecDepth 100000
set_option maxHeartbeats 4000000
set_option maxRecDepth 100000
set_option maxHeartbeats 4000000
namespace SS
open PySem L2 SR TL
def bnd : Nat → PyData → Bool
  | n, .str x => decide (x.cps.size ≤ 1000)
  | 0, _ => true
  | n + 1, .tuple ds => decide (ds.length ≤ 60) && ds.all (bnd n)
  | n + 1, .list ds => decide (ds.length ≤ 60) && ds.all (bnd n)
  | _, _ => true
theorem bnd_len {n : Nat} {d : PyData} (h : bnd n d = true) : lenD d ≤ 1000 := by
  cases d with
  | str x =>
    have h : decide (x.cps.size ≤ 1000) = true := by cases n <;> exact h
    exact of_decide_eq_true h
  | _ => exact Nat.zero_le _
theorem bnd_tup {n : Nat} {ds : List PyData} (h : bnd (n + 1) (.tuple ds) = true) : ds.length ≤ 60 ∧ ∀ d ∈ ds, bnd n d = true := by
  have h : (decide (ds.length ≤ 60) && ds.all (bnd n)) = true := h
  rw [Bool.and_eq_true, List.all_eq_true] at h
  exact ⟨of_decide_eq_true h.1, h.2⟩
theorem bnd_mono {n : Nat} {d : PyData} (h : bnd (n + 1) d = true) : bnd n d = true := by
  induction n generalizing d with
  | zero =>
    cases d with
    | str x => exact h
    | _ => rfl
  | succ n ih =>
    cases d with
    | str x => exact h
    | tuple ds =>
      have h : (decide (ds.length ≤ 60) && ds.all (bnd (n + 1))) = true := h
      show (decide (ds.length ≤ 60) && ds.all (bnd n)) = true
      rw [Bool.and_eq_true, List.all_eq_true] at h ⊢
      exact ⟨h.1, fun d hd => ih (h.2 d hd)⟩
    | list ds =>
      have h : (decide (ds.length ≤ 60) && ds.all (bnd (n + 1))) = true := h
      show (decide (ds.length ≤ 60) && ds.all (bnd n)) = true
      rw [Bool.and_eq_true, List.all_eq_true] at h ⊢
      exact ⟨h.1, fun d hd => ih (h.2 d hd)⟩
    | _ => rfl
def noneD : PyData → Bool | .none => true | _ => false
def isPmvD : PyData → Bool | .tuple [a, b] => isSgnD a && (noneD b || isMrkD b) | _ => false
def areMvD : PyData → Bool | .tuple ds => decide (ds.length ≤ 12) && ds.all isPmvD | _ => false
def areMkD : PyData → Bool | .tuple ds => decide (ds.length ≤ 6) && ds.all isMrkD | _ => false
def sSlt : Str := Str.ofString "slot"
def sPic : Str := Str.ofString "piece"
def sSai : Str := Str.ofString "said"
def isPrtD : PyData → Bool | .tuple [.str k, x] => (decide (k = sPic) && areMvD x) || (decide (k = sSai) && areMkD x) | _ => false
theorem ov_tup {H : Hp} {v : V} {ds : List PyData} (h : Ov H v (.tuple ds)) : ∃ a xs, v = .ref a ∧ H a = some (.tup xs) ∧ DhAll H xs ds := by
  rcases h with h | ⟨_, _, _, _, z⟩
  · cases h with
    | tup h1 h2 => exact ⟨_, _, rfl, h1, h2⟩
  · cases z
theorem dh_two {H : Hp} {xs : List V} {ds : List PyData} (h : DhAll H xs ds) (hl : xs.length = 2) : ∃ x1 x2 d1 d2, xs = [x1, x2] ∧ ds = [d1, d2] ∧ Dh H x1 d1 ∧ Dh H x2 d2 :=
  match xs, ds, h, hl with
  | [x1, x2], [d1, d2], .cons p1 (.cons p2 .nil), _ => ⟨x1, x2, d1, d2, rfl, rfl, p1, p2⟩
theorem dh_non {H : Hp} {v : V} {d : PyData} (h : Dh H v d) : decide (v = .non) = noneD d := by
  cases h <;> first | rfl | exact decide_eq_false (fun z => by cases z)
section
variable {P : Program} {w : World} {K : PySem.W.Frag} {mg : Str → Option Value} {base : Heap}
def spPmvO : Sp := fun vs H Q _ => ∃ (v : V) (d : PyData), vs = [v] ∧ Ov H v d ∧ bnd 1 d = true ∧ ∀ H', Same H H' → Q (.bl (isPmvD d)) H'
theorem ok_pmvO {f : Addr} {fd : FuncData} (F : Fun K "is_piece_move" "is_piece_move" sPmv f fd) (B : Bl mg) (Sg : Cal P w K mg base "is_sign" 2 ["value"] spSgnO) (Mk : Cal P w K mg base "is_mark" 2 ["value"] spMrkO) : FnOk P w K mg base CX0 3 f fd psVal spPmvO := by
  refine F.ok scPmv (fun vs H Q E h => ?_) (fun cdv A outer s H vs Q E hr h => ?_)
  · obtain ⟨v, d, rfl, _⟩ := h
    rfl
  · obtain ⟨v, d, rfl, ho, hb, k⟩ := h
    refine ⟨_, pss_cons (ps_if (PW.pt (pw_or (pt_not (pt_val (pe_callB call_isi (by rfl) B.isinstance (by decide +kernel) (pa_cons (pv 0) (pa_cons (pe_bltn (v := .ty "tuple") (by rfl) B.tuple (by decide +kernel) rfl) pa_nil))))) (pw_or (pt_cmpR op_ne (pe_callB call_len_seq (by rfl) B.len boot_len (pa_cons (pv 0) pa_nil)) pe_int (nomark _)) (pw_or1 (pt_not (pt_val (pe_cal Sg hr (pa_cons (pe_ix ix_tup (pv 0) pe_int (fun _ _ => rfl)) pa_nil))))))))
        (pss_one (ps_ret pe_bl)) pss_nil)
      (pss_one (ps_ret (pe_or (pe_cmpR op_isN (pe_ix ix_tup (pv 0) pe_int (fun _ _ => rfl)) pe_non (nomark _)) (pe_one (pe_cal Mk hr (pa_cons (pe_ix ix_tup (pv 0) pe_int (fun _ _ => rfl)) pa_nil)))))), ?_⟩
    refine ⟨_, rfl, _, _, _, _, isTupD d, rfl, .ty "tuple", ov_ty ho, kit_tup d, _, rfl, ?_⟩
    cases ht : isTupD d with
    | false =>
      have e : isPmvD d = false := by cases d <;> first | rfl | cases ht
      rw [e] at k
      exact iteT (k _ (Same.refl _))
    | true =>
      cases d with
      | tuple ds =>
        obtain ⟨a, xs, rfl, ha, hx⟩ := ov_tup ho
        obtain ⟨hb1, hb2⟩ := bnd_tup hb
        have hlen := hx.len
        have sp := SqT.of (K := K) ha
        refine iteF ⟨_, rfl, a, _, rfl, .inr sp, rfl, _, rfl, ?_⟩
        refine ite2 (fun h2 => ?_) (fun h2 => ?_)
        · have h2 : ¬ xs.length = 2 := fun z => by rw [z] at h2; exact absurd h2 (by decide)
          have e : isPmvD (.tuple ds) = false := by
            rcases ds with _ | ⟨x, _ | ⟨y, _ | ⟨z, r⟩⟩⟩ <;> first | rfl | exact absurd hlen h2
          rw [e] at k
          exact k _ (Same.refl _)
        · have h2 : xs.length = 2 := by
            rw [Bool.not_eq_true, Bool.not_eq_false', decide_eq_true_iff] at h2
            have := V.int.inj h2
            omega
          obtain ⟨x1, x2, d1, d2, rfl, rfl, p1, p2⟩ := dh_two hx h2
          · skip
            have b1 := hb2 d1 (by simp)
            have b2 := hb2 d2 (by simp)
            refine ⟨_, rfl, a, _, _, _, rfl, rfl, sp, rfl, x1, d1, rfl, .inl p1, bnd_len b1, fun H1 e1 => ⟨_, rfl, ?_⟩⟩
            have k : ∀ H', Same H H' → Q (.bl (isSgnD d1 && (noneD d2 || isMrkD d2))) H' := k
            cases hs : isSgnD d1 with
            | false =>
              rw [hs] at k
              exact iteT (k _ e1)
            | true =>
              rw [hs] at k
              have sp1 := SqT.of (K := K) (e1 _ _ ha)
              refine iteF ⟨_, rfl, a, _, _, _, rfl, rfl, sp1, rfl, rfl, _, rfl, ?_⟩
              rw [dh_non p2]
              cases hn : noneD d2 with
              | true =>
                rw [hn] at k
                exact iteT (k _ e1)
              | false =>
                rw [hn] at k
                exact iteF ⟨_, rfl, a, _, _, _, rfl, rfl, sp1, rfl, x2, d2, rfl, .inl (p2.mono e1), bnd_len b2, fun H' e => k _ (e1.trans e)⟩
      | _ => cases ht
def spAmvO : Sp := fun vs H Q _ => ∃ (v : V) (d : PyData), vs = [v] ∧ Ov H v d ∧ bnd 2 d = true ∧ ∀ H', Same H H' → Q (.bl (areMvD d)) H'
theorem ok_amvO {f : Addr} {fd : FuncData} (F : Fun K "are_moves" "are_moves" sAmv f fd) (B : Bl mg) (C : Cm mg) (Pm : Cal P w K mg base "is_piece_move" 3 psVal spPmvO) : FnOk P w K mg base CX0 4 f fd psVal spAmvO := by
  obtain ⟨tm, hm⟩ := C.moves
  refine F.ok scAmv (fun vs H Q E h => ?_) (fun cdv A outer s H vs Q E hr h => ?_)
  · obtain ⟨v, d, rfl, _⟩ := h
    rfl
  · obtain ⟨v, d, rfl, ho, hb, k⟩ := h
    refine ⟨_, pss_one (ps_ret (pe_and (pe_callB call_isi (by rfl) B.isinstance (by decide +kernel) (pa_cons (pv 0) (pa_cons (pe_bltn (v := .ty "tuple") (by rfl) B.tuple (by decide +kernel) rfl) pa_nil))) (pe_and (pe_cmpR op_le (pe_callB call_len_seq (by rfl) B.len boot_len (pa_cons (pv 0) pa_nil)) (pe_glob (v := .int 12) rfl hm ⟨tm, rfl⟩) (nomark _)) (pe_one (pe_callB (cr_all rfl) (by rfl) B.all (by decide +kernel) (pa_cons (pe_lc (own := [("one", 1)]) (g := gName 1) (tt := tYes) (te := tCall spPmvO [] E0 (tCons (tVar 1) tNil)) rfl scAmv.nd (pi_tup (pv 0)) (blkOk_by (by kernel_rfl)) (fun _ _ _ _ _ => pg_name (i := 1) scAmv.nd rfl (.inl rfl)) (fun _ _ _ _ _ => pts_nil) (fun _ _ _ _ _ => pe_cal Pm hr (pa_cons (pv 1) pa_nil))) pa_nil)))))), ?_⟩
    refine ⟨_, rfl, _, _, _, _, isTupD d, rfl, .ty "tuple", ov_ty ho, kit_tup d, _, rfl, ?_⟩
    cases ht : isTupD d with
    | false =>
      have e : areMvD d = false := by cases d <;> first | rfl | cases ht
      rw [e] at k
      exact iteF (k _ (Same.refl _))
    | true =>
      cases d with
      | tuple ds =>
        obtain ⟨a, xs, rfl, ha, hx⟩ := ov_tup ho
        obtain ⟨hb1, hb2⟩ := bnd_tup hb
        have hlen := hx.len
        have k : ∀ H', Same H H' → Q (.bl (decide (ds.length ≤ 12) && ds.all isPmvD)) H' := k
        refine iteT ⟨_, rfl, a, _, rfl, .inr (SqT.of ha), ?_⟩
        refine ⟨_, _, rfl, rfl, _, rfl, ?_⟩
        rw [show decide (((xs.length : Nat) : Int) ≤ 12) = decide (ds.length ≤ 12) by rw [decide_eq_decide]; omega]
        cases h12 : decide (ds.length ≤ 12) with
        | false =>
          rw [h12] at k
          exact iteF (k _ (Same.refl _))
        | true =>
          rw [h12] at k
          refine iteT ⟨_, rfl, a, rfl, ⟨_, SqT.of ha⟩, fun D hD => lc_S (walk_tup (K := K) (a := a) (xs := xs)) hD (by omega) (fun i acc _ => acc = ((ds.take i).map isPmvD).map V.bl) (fun _ _ _ _ _ _ _ h => h) rfl (fun H' e' => SqT.of (e' _ _ ha)) ?_ ?_⟩
          · rintro i v H3 H3' acc Qt Qf hi e3 hd rfl ⟨rfl, hv⟩ kt kf
            obtain ⟨d, hd', hdv⟩ := dhAll_get hx hv
            refine ⟨rfl, _, rfl, v, d, rfl, .inl (hdv.mono e3), hb2 d (List.mem_of_getElem? hd'), fun H4 e4 => kt _ _ e4 ?_⟩
            rw [List.take_add_one, hd', List.map_append, List.map_append]
            rfl
          · rintro H1 acc e1 hd rfl
            refine ⟨D, _, rfl, SqL.of hd, ?_⟩
            have el : ds.take xs.length = ds := List.take_of_length_le (by omega)
            have ea : ((ds.take xs.length).map isPmvD).all id = (true && ds.all isPmvD) := by rw [el, List.all_map]; rfl
            rw [ea]
            exact k _ e1
      | _ => cases ht
def spAmkO : Sp := fun vs H Q _ => ∃ (v : V) (d : PyData), vs = [v] ∧ Ov H v d ∧ bnd 1 d = true ∧ ∀ H', Same H H' → Q (.bl (areMkD d)) H'
theorem ok_amkO {f : Addr} {fd : FuncData} (F : Fun K "are_marks" "are_marks" sAmk f fd) (B : Bl mg) (C : Cm mg) (Mk : Cal P w K mg base "is_mark" 2 ["value"] spMrkO) : FnOk P w K mg base CX0 3 f fd psVal spAmkO := by
  obtain ⟨tm, hm⟩ := C.marks
  refine F.ok scAmk (fun vs H Q E h => ?_) (fun cdv A outer s H vs Q E hr h => ?_)
  · obtain ⟨v, d, rfl, _⟩ := h
    rfl
  · obtain ⟨v, d, rfl, ho, hb, k⟩ := h
    refine ⟨_, pss_one (ps_ret (pe_and (pe_callB call_isi (by rfl) B.isinstance (by decide +kernel) (pa_cons (pv 0) (pa_cons (pe_bltn (v := .ty "tuple") (by rfl) B.tuple (by decide +kernel) rfl) pa_nil))) (pe_and (pe_cmpR op_le (pe_callB call_len_seq (by rfl) B.len boot_len (pa_cons (pv 0) pa_nil)) (pe_glob (v := .int 6) rfl hm ⟨tm, rfl⟩) (nomark _)) (pe_one (pe_callB (cr_all rfl) (by rfl) B.all (by decide +kernel) (pa_cons (pe_lc (own := [("one", 1)]) (g := gName 1) (tt := tYes) (te := tCall spMrkO [] E0 (tCons (tVar 1) tNil)) rfl scAmk.nd (pi_tup (pv 0)) (blkOk_by (by kernel_rfl)) (fun _ _ _ _ _ => pg_name (i := 1) scAmk.nd rfl (.inl rfl)) (fun _ _ _ _ _ => pts_nil) (fun _ _ _ _ _ => pe_cal Mk hr (pa_cons (pv 1) pa_nil))) pa_nil)))))), ?_⟩
    refine ⟨_, rfl, _, _, _, _, isTupD d, rfl, .ty "tuple", ov_ty ho, kit_tup d, _, rfl, ?_⟩
    cases ht : isTupD d with
    | false =>
      have e : areMkD d = false := by cases d <;> first | rfl | cases ht
      rw [e] at k
      exact iteF (k _ (Same.refl _))
    | true =>
      cases d with
      | tuple ds =>
        obtain ⟨a, xs, rfl, ha, hx⟩ := ov_tup ho
        obtain ⟨hb1, hb2⟩ := bnd_tup hb
        have hlen := hx.len
        have k : ∀ H', Same H H' → Q (.bl (decide (ds.length ≤ 6) && ds.all isMrkD)) H' := k
        refine iteT ⟨_, rfl, a, _, rfl, .inr (SqT.of ha), ?_⟩
        refine ⟨_, _, rfl, rfl, _, rfl, ?_⟩
        rw [show decide (((xs.length : Nat) : Int) ≤ 6) = decide (ds.length ≤ 6) by rw [decide_eq_decide]; omega]
        cases h12 : decide (ds.length ≤ 6) with
        | false =>
          rw [h12] at k
          exact iteF (k _ (Same.refl _))
        | true =>
          rw [h12] at k
          refine iteT ⟨_, rfl, a, rfl, ⟨_, SqT.of ha⟩, fun D hD => lc_S (walk_tup (K := K) (a := a) (xs := xs)) hD (by omega) (fun i acc _ => acc = ((ds.take i).map isMrkD).map V.bl) (fun _ _ _ _ _ _ _ h => h) rfl (fun H' e' => SqT.of (e' _ _ ha)) ?_ ?_⟩
          · rintro i v H3 H3' acc Qt Qf hi e3 hd rfl ⟨rfl, hv⟩ kt kf
            obtain ⟨d, hd', hdv⟩ := dhAll_get hx hv
            refine ⟨rfl, _, rfl, v, d, rfl, .inl (hdv.mono e3), bnd_len (hb2 d (List.mem_of_getElem? hd')), fun H4 e4 => kt _ _ e4 ?_⟩
            rw [List.take_add_one, hd', List.map_append, List.map_append]
            rfl
          · rintro H1 acc e1 hd rfl
            refine ⟨D, _, rfl, SqL.of hd, ?_⟩
            have el : ds.take xs.length = ds := List.take_of_length_le (by omega)
            have ea : ((ds.take xs.length).map isMrkD).all id = (true && ds.all isMrkD) := by rw [el, List.all_map]; rfl
            rw [ea]
            exact k _ e1
      | _ => cases ht
end
end SS
set_option maxRecDepth 100000
set_option maxHeartbeats 4000000
namespace SS
open PySem L2 SR TL
def isStrD : PyData → Bool | .str _ => true | _ => false
theorem kit_strD {K : PySem.W.Frag} (d : PyData) : PySem.W.kitOne K (.type (tyN d)) (.type "str") = some (isStrD d) := match d with
  | .none => kit_ty (by decide +kernel : kitB "NoneType" "str" = some false)
  | .bool _ => kit_ty (by decide +kernel : kitB "bool" "str" = some false)
  | .int _ => kit_ty (by decide +kernel : kitB "int" "str" = some false)
  | .str _ => kit_ty (by decide +kernel : kitB "str" "str" = some true)
  | .list _ => kit_ty (by decide +kernel : kitB "list" "str" = some false)
  | .tuple _ => kit_ty (by decide +kernel : kitB "tuple" "str" = some false)
  | .dict _ => kit_ty (by decide +kernel : kitB "dict" "str" = some false)
theorem inV4 {n : Nat} (h : 4 ≤ n) : inV (.int (n : Int)) [.int 2, .int 3] = false := by
  have a : ¬ (2 : Int) = (n : Int) := by omega
  have b : ¬ (3 : Int) = (n : Int) := by omega
  simp [inV, eqV, a, b]
def nb3 : PyData → Bool | .tuple [_, _, .bool _] => false | _ => true
theorem nb3_ne {a b : PyData} : ∀ {c : PyData}, nb3 (.tuple [a, b, c]) = true → tyN c ≠ "bool"
  | .none, _ => (by decide : ("NoneType" : String) ≠ "bool")
  | .bool _, h => by cases h
  | .int _, _ => (by decide : ("int" : String) ≠ "bool")
  | .str _, _ => (by decide : ("str" : String) ≠ "bool")
  | .list _, _ => (by decide : ("list" : String) ≠ "bool")
  | .tuple _, _ => (by decide : ("tuple" : String) ≠ "bool")
  | .dict _, _ => (by decide : ("dict" : String) ≠ "bool")
theorem dec_str {a b : Str} : decide (V.str a = V.str b) = decide (a = b) := by
  rw [decide_eq_decide]
  exact ⟨fun h => V.str.inj h, fun h => by rw [h]⟩
/-- a value that is no own object, for isinstance -/
theorem kit_oddD {K : PySem.W.Frag} {L : Addr} (O : SR.OddC K L) (d : PyData) (hb : tyN d ≠ "bool") : PySem.W.kitOne K (.type (tyN d)) (.ref L) = some false := by
  cases d with
  | none => exact O.kit (T := "NoneType") (by decide)
  | bool b => exact absurd rfl hb
  | int i => exact O.kit (T := "int") (by decide)
  | str x => exact O.kit (T := "str") (by decide)
  | list x => exact O.kit (T := "list") (by decide)
  | tuple x => exact O.kit (T := "tuple") (by decide)
  | dict x => exact O.kit (T := "dict") (by decide)
section
variable {P : Program} {w : World} {K : PySem.W.Frag} {mg : Str → Option Value} {base : Heap}
def spPrtO (L : Addr) : Sp := fun vs H Q _ => ∃ v : V, vs = [v] ∧ ((∃ d, Ov H v d ∧ bnd 3 d = true ∧ nb3 d = true ∧ ∀ H', Same H H' → Q (.bl (isPrtD d)) H') ∨
  (∃ (t l : Addr) (k : Str) (x : V) (dx : PyData) (cs : List Nat) (rM : List (List Int)) (eM : List Int), v = .ref t ∧ H t = some (.tup [.str k, x, .ref l]) ∧ LanT L H l cs rM eM ∧ Ov H x dx ∧ lenD dx ≤ 1000 ∧ ∀ H', Same H H' → Q (.bl (decide (k = sSlt) && isNamD dx)) H') ∨
  (∃ (t : Addr) (xs : List V), v = .ref t ∧ H t = some (.tup xs) ∧ xs.length = 4 ∧ ∀ H', Same H H' → Q (.bl false) H'))
theorem ok_prtO {f L : Addr} {fd : FuncData} (F : Fun K "is_part" "is_part" sPrt f fd) (B : Bl mg) (TL : SG.LTx K mg L) (Y : SG.LTy K L) (O : SR.OddC K L) (Sg : Cal P w K mg base "is_sign" 2 ["value"] spSgnO) (Mk : Cal P w K mg base "is_mark" 2 ["value"] spMrkO) (Am : Cal P w K mg base "are_moves" 4 psVal spAmvO) (Ak : Cal P w K mg base "are_marks" 3 psVal spAmkO) : FnOk P w K mg base CX0 5 f fd psVal (spPrtO L) := by
  refine F.ok scPrt (fun vs H Q E h => ?_) (fun cdv A outer s H vs Q E hr h => ?_)
  · obtain ⟨v, rfl, _⟩ := h
    rfl
  · obtain ⟨v, rfl, h⟩ := h
    have hr2 := hr.mono (by decide : 2 ≤ 4)
    have hr3 := hr.mono (by decide : 3 ≤ 4)
    refine ⟨_, pss_cons (ps_if (PW.pt (pw_or (pt_not (pt_val (pe_callB call_isi (by rfl) B.isinstance (by decide +kernel) (pa_cons (pv 0) (pa_cons (pe_bltn (v := .ty "tuple") (by rfl) B.tuple (by decide +kernel) rfl) pa_nil))))) (pw_or (pt_cmpR op_notIn_seq (pe_callB call_len_seq (by rfl) B.len boot_len (pa_cons (pv 0) pa_nil)) (pe_tup (pa_cons pe_int (pa_cons pe_int pa_nil))) (by rfl)) (pw_or1 (pt_not (pt_val (pe_callB call_isi (by rfl) B.isinstance (by decide +kernel) (pa_cons (pe_ix ix_tup (pv 0) pe_int (fun _ _ => rfl)) (pa_cons (pe_bltn (v := .ty "str") (by rfl) B.str (by decide +kernel) rfl) pa_nil)))))))))
        (pss_one (ps_ret pe_bl)) pss_nil)
      (pss_cons (ps_if (pt_cmpR op_eq (pe_callB call_len_seq (by rfl) B.len boot_len (pa_cons (pv 0) pa_nil)) pe_int (nomark _))
        (pss_one (ps_ret (pe_and (pe_cmpR op_eq (pe_ix ix_tup (pv 0) pe_int (fun _ _ => rfl)) pe_str (nomark _)) (pe_and (pe_or (pe_cal Sg hr2 (pa_cons (pe_ix ix_tup (pv 0) pe_int (fun _ _ => rfl)) pa_nil)) (pe_one (pe_cal Mk hr2 (pa_cons (pe_ix ix_tup (pv 0) pe_int (fun _ _ => rfl)) pa_nil)))) (pe_one (pe_callB call_isi (by rfl) B.isinstance (by decide +kernel) (pa_cons (pe_ix ix_tup (pv 0) pe_int (fun _ _ => rfl)) (pa_cons (pe_glob (v := .ref L) rfl TL.mgC rfl) pa_nil)))))))) pss_nil)
      (pss_one (ps_ret (pe_or (pe_and (pe_cmpR op_eq (pe_ix ix_tup (pv 0) pe_int (fun _ _ => rfl)) pe_str (nomark _)) (pe_one (pe_cal Am hr (pa_cons (pe_ix ix_tup (pv 0) pe_int (fun _ _ => rfl)) pa_nil)))) (pe_one (pe_and (pe_cmpR op_eq (pe_ix ix_tup (pv 0) pe_int (fun _ _ => rfl)) pe_str (nomark _)) (pe_one (pe_cal Ak hr3 (pa_cons (pe_ix ix_tup (pv 0) pe_int (fun _ _ => rfl)) pa_nil))))))))), ?_⟩
    rcases h with ⟨d, ho, hb, hn3, k⟩ | ⟨t, l, ks, x, dx, cs, rM, eM, rfl, h1, h2, hx, hl, k⟩ | ⟨t, xs, rfl, h1, h4, k⟩
    · refine ⟨_, rfl, _, _, _, _, isTupD d, rfl, .ty "tuple", ov_ty ho, kit_tup d, _, rfl, ?_⟩
      cases ht : isTupD d with
      | false =>
        have e : isPrtD d = false := by cases d <;> first | rfl | cases ht
        rw [e] at k
        exact iteT (k _ (Same.refl _))
      | true =>
        cases d with
        | tuple ds =>
          obtain ⟨t, xs, rfl, h1, hx⟩ := ov_tup ho
          obtain ⟨hb1, hb2⟩ := bnd_tup hb
          have hlen := hx.len
          have hd : ∀ (xs' : List V), H t = some (.tup xs') → xs' = xs := fun xs' z => by rw [h1] at z; cases z; rfl
          match xs, ds, hx with
          | [], [], .nil =>
            have e0 : isPrtD (.tuple []) = false := rfl
            rw [e0] at k
            refine iteF ⟨_, rfl, t, _, rfl, .inr (SqT.of h1), (by show 2 ≤ sizeLine; decide), fun T hT => ?_⟩
            refine ⟨T, _, rfl, .inr (SqT.of upd_same), rfl, rfl, _, rfl, ?_⟩
            exact iteT (iteT (k _ (same_new hT)))
          | [x1], [d1], .cons p1 .nil =>
            have e0 : isPrtD (.tuple [d1]) = false := by cases d1 <;> rfl
            rw [e0] at k
            refine iteF ⟨_, rfl, t, _, rfl, .inr (SqT.of h1), (by show 2 ≤ sizeLine; decide), fun T hT => ?_⟩
            refine ⟨T, _, rfl, .inr (SqT.of upd_same), rfl, rfl, _, rfl, ?_⟩
            exact iteT (iteT (k _ (same_new hT)))
          | [x1, x2], [d1, d2], .cons p1 (.cons p2 .nil) =>
            have b1 := hb2 d1 (by simp)
            have b2 := hb2 d2 (by simp)
            refine iteF ⟨_, rfl, t, _, rfl, .inr (SqT.of h1), (by show 2 ≤ sizeLine; decide), fun T hT => ?_⟩
            have eT := same_new (o := .tup [.int 2, .int 3]) hT
            have sp := SqT.of (K := K) (eT _ _ h1)
            refine ⟨T, _, rfl, .inr (SqT.of upd_same), rfl, rfl, _, rfl, ?_⟩
            refine iteF ?_
            refine ⟨_, rfl, t, _, _, _, rfl, rfl, sp, rfl, _, _, _, _, isStrD d1, rfl, .ty "str", ov_ty (.inl (p1.mono eT)), kit_strD d1, _, rfl, ?_⟩
            cases hs : isStrD d1 with
            | false =>
              have e : isPrtD (.tuple [d1, d2]) = false := by cases d1 <;> first | rfl | cases hs
              rw [e] at k
              exact iteT (k _ eT)
            | true =>
              cases d1 with
              | str ks =>
                obtain rfl := ov_str (.inl p1)
                refine iteF ⟨_, rfl, t, _, rfl, .inr sp, rfl, _, rfl, ?_⟩
                refine iteF ⟨_, rfl, t, _, _, _, rfl, rfl, sp, rfl, rfl, _, rfl, ?_⟩
                have k : ∀ H', Same H H' → Q (.bl ((decide (ks = sPic) && areMvD d2) || (decide (ks = sSai) && areMkD d2))) H' := k
                rw [show decide (V.str ks = V.str "piece") = decide (ks = sPic) from dec_str]
                have last : ∀ (H1 : Hp) (Q' : VK), Same (upd H T (.tup [.int 2, .int 3])) H1 → (∀ H', Same H H' → Q' (.bl (decide (ks = sSai) && areMkD d2)) H') → tAndV (tOp rEq (tOp (rIxT K) (tVar 0) (tC (.int 0))) (tC (.str "said"))) (tCall spAmkO [] E0 (tCons (tOp (rIxT K) (tVar 0) (tC (.int 1))) tNil)) (L2.start psVal [V.ref t]) H1 Q' := fun H1 Q' e1 k' => by
                  have sp1 := SqT.of (K := K) (e1 _ _ (eT _ _ h1))
                  refine ⟨_, rfl, t, _, _, _, rfl, rfl, sp1, rfl, rfl, _, rfl, ?_⟩
                  rw [show decide (V.str ks = V.str "said") = decide (ks = sSai) from dec_str]
                  cases hq : decide (ks = sSai) with
                  | false => rw [hq] at k'; exact iteF (k' _ (eT.trans e1))
                  | true => rw [hq] at k'; exact iteT ⟨_, rfl, t, _, _, _, rfl, rfl, sp1, rfl, x2, d2, rfl, .inl (p2.mono (eT.trans e1)), bnd_mono b2, fun H' e => k' _ ((eT.trans e1).trans e)⟩
                cases hp : decide (ks = sPic) with
                | true =>
                  rw [hp] at k
                  refine iteT ⟨_, rfl, t, _, _, _, rfl, rfl, sp, rfl, x2, d2, rfl, .inl (p2.mono eT), b2, fun H1 e1 => ⟨_, rfl, ?_⟩⟩
                  cases ha : areMvD d2 with
                  | true => rw [ha] at k; exact iteT (k _ (eT.trans e1))
                  | false => rw [ha] at k; exact iteF (last H1 _ e1 k)
                | false =>
                  rw [hp] at k
                  exact iteF ⟨_, rfl, iteF (last _ _ (Same.refl _) k)⟩
              | _ => cases hs
          | [x1, x2, x3], [d1, d2, d3], .cons p1 (.cons p2 (.cons p3 .nil)) =>
            have b2 := hb2 d2 (by simp)
            have b3 := hb2 d3 (by simp)
            have e0 : isPrtD (.tuple [d1, d2, d3]) = false := by cases d1 <;> rfl
            rw [e0] at k
            refine iteF ⟨_, rfl, t, _, rfl, .inr (SqT.of h1), (by show 2 ≤ sizeLine; decide), fun T hT => ?_⟩
            have eT := same_new (o := .tup [.int 2, .int 3]) hT
            have sp := SqT.of (K := K) (eT _ _ h1)
            refine ⟨T, _, rfl, .inr (SqT.of upd_same), rfl, rfl, _, rfl, ?_⟩
            refine iteF ?_
            refine ⟨_, rfl, t, _, _, _, rfl, rfl, sp, rfl, _, _, _, _, isStrD d1, rfl, .ty "str", ov_ty (.inl (p1.mono eT)), kit_strD d1, _, rfl, ?_⟩
            cases hs : isStrD d1 with
            | false => exact iteT (k _ eT)
            | true =>
              cases d1 with
              | str ks =>
                obtain rfl := ov_str (.inl p1)
                refine iteF ⟨_, rfl, t, _, rfl, .inr sp, rfl, _, rfl, ?_⟩
                refine iteT ⟨_, rfl, t, _, _, _, rfl, rfl, sp, rfl, rfl, _, rfl, ?_⟩
                rw [show decide (V.str ks = V.str "slot") = decide (ks = sSlt) from dec_str]
                cases hq : decide (ks = sSlt) with
                | false => exact iteF (k _ eT)
                | true =>
                  have nb : tyN d3 ≠ "bool" := nb3_ne hn3
                  have fin : ∀ (H1 : Hp) (Q' : VK), Same (upd H T (.tup [.int 2, .int 3])) H1 → (∀ H', Same H H' → Q' (.bl false) H') → tCB (rIsi K) (tCons (tOp (rIxT K) (tVar 0) (tC (.int 2))) (tCons (tC (.ref L)) tNil)) (L2.start psVal [V.ref t]) H1 Q' := fun H1 Q' e1 k' =>
                    ⟨_, rfl, t, _, _, _, rfl, rfl, SqT.of (e1 _ _ (eT _ _ h1)), rfl, _, _, _, _, false, rfl, .own L, ov_ty (.inl (p3.mono (eT.trans e1))), kit_oddD O d3 nb, k' _ (eT.trans e1)⟩
                  refine iteT ⟨_, rfl, t, _, _, _, rfl, rfl, sp, rfl, x2, d2, rfl, .inl (p2.mono eT), bnd_len b2, fun H1 e1 => ⟨_, rfl, ?_⟩⟩
                  cases hg : isSgnD d2 with
                  | true => exact iteT ⟨_, rfl, iteT (fin H1 _ e1 k)⟩
                  | false =>
                    have sp1 := SqT.of (K := K) (e1 _ _ (eT _ _ h1))
                    refine iteF ⟨_, rfl, t, _, _, _, rfl, rfl, sp1, rfl, x2, d2, rfl, .inl (p2.mono (eT.trans e1)), bnd_len b2, fun H2 e2 => ⟨_, rfl, ?_⟩⟩
                    cases hm : isMrkD d2 with
                    | true => exact iteT (fin H2 _ (e1.trans e2) k)
                    | false => exact iteF (k _ ((eT.trans e1).trans e2))
              | _ => cases hs
          | x1 :: x2 :: x3 :: x4 :: xr, d1 :: d2 :: d3 :: d4 :: dr, .cons p1 (.cons p2 (.cons p3 (.cons p4 pr))) =>
            have e0 : isPrtD (.tuple (d1 :: d2 :: d3 :: d4 :: dr)) = false := by cases d1 <;> rfl
            rw [e0] at k
            refine iteF ⟨_, rfl, t, _, rfl, .inr (SqT.of h1), (by show 2 ≤ sizeLine; decide), fun T hT => ?_⟩
            refine ⟨T, _, rfl, .inr (SqT.of upd_same), rfl, rfl, _, rfl, ?_⟩
            exact itT (c := if true = true then !inV (.int ((x1 :: x2 :: x3 :: x4 :: xr).length : Nat)) [.int 2, .int 3] else inV (.int ((x1 :: x2 :: x3 :: x4 :: xr).length : Nat)) [.int 2, .int 3]) (by rw [if_pos rfl, inV4 (by simp only [List.length_cons]; omega)]; rfl) (iteT (k _ (same_new hT)))
        | _ => cases ht
    · refine ⟨_, rfl, _, _, _, _, true, rfl, .ty "tuple", .base (.tup h1), kit_ty (by decide +kernel), _, rfl, ?_⟩
      refine iteF ⟨_, rfl, t, _, rfl, .inr (SqT.of h1), (by show 2 ≤ sizeLine; decide), fun T hT => ?_⟩
      have eT := same_new (o := .tup [.int 2, .int 3]) hT
      have sp := SqT.of (K := K) (eT _ _ h1)
      refine ⟨T, _, rfl, .inr (SqT.of upd_same), rfl, rfl, _, rfl, ?_⟩
      refine iteF ?_
      refine ⟨_, rfl, t, _, _, _, rfl, rfl, sp, rfl, _, _, _, _, true, rfl, .ty "str", .base (.str _), kit_ty (by decide +kernel), _, rfl, ?_⟩
      refine iteF ⟨_, rfl, t, _, rfl, .inr sp, rfl, _, rfl, ?_⟩
      refine iteT ⟨_, rfl, t, _, _, _, rfl, rfl, sp, rfl, rfl, _, rfl, ?_⟩
      rw [show decide (V.str ks = V.str "slot") = decide (ks = sSlt) from dec_str]
      cases hq : decide (ks = sSlt) with
      | false => rw [hq] at k; exact iteF (k _ eT)
      | true =>
        rw [hq] at k
        have k : ∀ H', Same H H' → Q (.bl (isSgnD dx || isMrkD dx)) H' := k
        have fin : ∀ (H1 : Hp) (Q' : VK), Same (upd H T (.tup [.int 2, .int 3])) H1 → (∀ H', Same H H' → Q' (.bl true) H') → tCB (rIsi K) (tCons (tOp (rIxT K) (tVar 0) (tC (.int 2))) (tCons (tC (.ref L)) tNil)) (L2.start psVal [V.ref t]) H1 Q' := fun H1 Q' e1 k' => by
          obtain ⟨rw', en', ns, LR, _⟩ := SG.LangAt.ex (SG.LangAt.mono (eT.trans e1) h2)
          obtain ⟨dx, pt, pm, pl, fs, g1, _⟩ := LR.ex
          exact ⟨_, rfl, t, _, _, .ref l, rfl, rfl, SqT.of (e1 _ _ (eT _ _ h1)), rfl, _, _, _, _, true, rfl, .own L, .base (.ins g1 TL.cl Y.cls Y.getc Y.tak Y.mro), Y.kit, k' _ (eT.trans e1)⟩
        refine iteT ⟨_, rfl, t, _, _, _, rfl, rfl, sp, rfl, x, dx, rfl, hx.mono eT, hl, fun H1 e1 => ⟨_, rfl, ?_⟩⟩
        cases hg : isSgnD dx with
        | true => rw [hg] at k; exact iteT ⟨_, rfl, iteT (fin H1 _ e1 k)⟩
        | false =>
          rw [hg] at k
          have sp1 := SqT.of (K := K) (e1 _ _ (eT _ _ h1))
          refine iteF ⟨_, rfl, t, _, _, _, rfl, rfl, sp1, rfl, x, dx, rfl, hx.mono (eT.trans e1), hl, fun H2 e2 => ⟨_, rfl, ?_⟩⟩
          cases hm : isMrkD dx with
          | true => rw [hm] at k; exact iteT (fin H2 _ (e1.trans e2) k)
          | false => rw [hm] at k; exact iteF (k _ ((eT.trans e1).trans e2))
    · have sp0 := SqT.of (K := K) h1
      refine ⟨_, rfl, _, _, _, _, true, rfl, .ty "tuple", .base (.tup h1), kit_ty (by decide +kernel), _, rfl, ?_⟩
      refine iteF ⟨_, rfl, t, _, rfl, .inr (SqT.of h1), (by show 2 ≤ sizeLine; decide), fun T hT => ?_⟩
      refine ⟨T, _, rfl, .inr (SqT.of upd_same), rfl, rfl, _, rfl, ?_⟩
      exact itT (c := if true = true then !inV (.int (xs.length : Nat)) [.int 2, .int 3] else inV (.int (xs.length : Nat)) [.int 2, .int 3]) (by rw [if_pos rfl, inV4 (by omega)]; rfl) (iteT (k _ (same_new hT)))
end
end SS
set_option maxRecDepth 100000
set_option maxHeartbeats 4000000
namespace SR
open PySem PySem.Spec PyProof.Rows L2
def tFmtA (te : TE) : TE := fun σ H Q => te σ H fun x H1 => (∃ y : Str, x = .str y ∧ (reprText y).length ≤ sizeLine ∧ Q (.str (reprText y)) H1) ∨ (∃ i : Int, x = .int i ∧ i.natAbs.log2 < 1920 ∧ Q (.str (toString i)) H1) ∨ (x = .non ∧ Q (.str (Str.ofString "None")) H1)
theorem pe_fmtA {X : Cx} {e : Expr} {te : TE} {pos : Pos} (he : PE X e te) : PE X (.FormattedValue e 114 none pos) (tFmtA te) := by
  refine ⟨fun pins s σ H Q I h => ?_⟩
  refine wpAny_FormattedValue_repr (thn (he.run pins s σ H _ I h) fun v s1 hv => ?_)
  obtain ⟨x, H1, I1, r1, q⟩ := hv
  have sz := sizeLine_eq
  rcases q with ⟨y, rfl, hz, q⟩ | ⟨i, rfl, hz, q⟩ | ⟨rfl, q⟩
  · obtain ⟨t, rfl⟩ := r1
    exact pyReprObj_str (wpAny_formatField_str ⟨.str (reprText y), H1, I1.tok _, ⟨_, rfl⟩, q⟩ ⟨.str (reprText y), H1, I1.tok _, ⟨_, rfl⟩, q⟩ hz) hz
  · obtain ⟨t, rfl⟩ := r1
    exact pyReprObj_int hz (wpAny_formatField_str ⟨.str (toString i), H1, I1.tok _, ⟨_, rfl⟩, q⟩ ⟨.str (toString i), H1, I1.tok _, ⟨_, rfl⟩, q⟩ (int_text_fits hz))
  · cases r1
    have h4 : (Str.ofString "None").length ≤ sizeLine := by rw [sz]; decide
    exact pyReprObj_none (wpAny_formatField_str ⟨.str (Str.ofString "None"), H1, I1.tok _, ⟨_, rfl⟩, q⟩ ⟨.str (Str.ofString "None"), H1, I1.tok _, ⟨_, rfl⟩, q⟩ h4)
end SR
namespace SS
open PySem L2 SR TL
abbrev baseL : BaseX "LookupError" "LookupError.__new__" "LookupError.__init__" [.type "LookupError", .type "Exception", .type "BaseException", .type "object"] := ⟨PySem.F.excBase_LookupError, PySem.F.store_LookupError.passes, by decide +kernel, rfl⟩
/-- problems by their numbers -/
def pbS : Nat → Str
  | 0 => Str.ofString "name" | 1 => Str.ofString "empty" | 2 => Str.ofString "mark" | 3 => Str.ofString "parts" | 4 => Str.ofString "part" | _ => Str.ofString "slots"
def plV : Option Nat → V
  | none => .non
  | some i => .int (i : Nat)
abbrev fldP (k : Nat) (p : Option Nat) : List (Str × V) := [("place", plV p), ("problem", .str (pbS k))]
/-- the way out -/
def outP (D : Addr) (k : Nat) (p : Option Nat) (H : Hp) (E : XK) : Prop := ∀ d H', H d = none → Same H H' → H' d = some (.xd (fldP k p)) → E (.ref D) (some d) H'
theorem outP.mono {D : Addr} {k : Nat} {p : Option Nat} {H H' : Hp} {E : XK} (e : Same H H') (h : outP D k p H E) : outP D k p H' E := fun d H'' hd e2 h2 => h d H'' (e.free hd) (e.trans e2) h2
section
variable {P : Program} {w : World} {K : PySem.W.Frag} {mg : Str → Option Value} {base : Heap}
abbrev nIpp : List Str := ["self", "problem", "place"]
theorem scIpp : FnScope nIpp nIpp (defScope sIpp) := ⟨rfl, rfl, rfl, by decide +kernel, rfl, by decide +kernel, by decide +kernel⟩
/-- what the walk asks of the class -/
structure PpT (K : PySem.W.Frag) (mg : Str → Option Value) (D Z : Addr) : Prop where
  ox : OexB "ValueError.__new__" tlV K D
  n1 : PySem.W.findIn K (.ref D) "problem" = some none
  n2 : PySem.W.findIn K (.ref D) "place" = some none
  mgD : mg "InvalidTemplate" = some (.ref D)
  z : ZinV K mg "SlotsError" Z
def spIpp (D : Addr) : Sp := fun vs H Q _ => ∃ (a : Addr) (k : Nat) (p : Option Nat), vs = [.ref a, .str (pbS k), plV p] ∧ (∀ i, p = some i → i ≤ 100) ∧ H a = some (exo a D none) ∧ ∀ dd H', H dd = none → H' a = some (exo a D (some dd)) → H' dd = some (exd dd (fldP k p)) → SameB a H H' → Q .non H'
structure Ipp (P : Program) (w : World) (K : PySem.W.Frag) (mg : Str → Option Value) (base : Heap) (D Z : Addr) : Prop where
  t : PpT K mg D Z
  ini : ∃ f fd, PySem.W.findIn K (.ref D) "__init__" = some (some (.ref f)) ∧ PySem.W.typeIn K (.ref f) = some (.type "function") ∧ FnC P w K mg base CX0 1 f fd nIpp (spIpp D) ∧ Binds K fd nIpp []
theorem pbS_len (k : Nat) : (reprText (pbS k)).length ≤ 7 := by
  unfold pbS
  split <;> decide +kernel
theorem small_log {i : Nat} (h : i ≤ 100) : (((i : Nat) : Int)).natAbs.log2 < 1920 := by
  rw [Int.natAbs_natCast]
  exact Nat.lt_of_le_of_lt (Nat.log2_le_self i) (by omega)
theorem num_len {i : Nat} (h : i ≤ 100) : (toString ((i : Nat) : Int) : Str).length ≤ 3 := by
  have key : ∀ j ∈ List.range 101, (toString ((j : Nat) : Int) : Str).length ≤ 3 := by decide +kernel
  exact key i (List.mem_range.mpr (by omega))
theorem ipp_end {H : Hp} {Q : VK} {a D d : Addr} {k : Nat} {p : Option Nat} (h : ∀ {H'}, H' a = some (exo a D (some d)) → H' d = some (exd d (fldP k p)) → SameB a H H' → Q .non H') (hd : H d = none) (hda : d ≠ a) : Q .non (upd (upd (upd H d (exd d [("problem", .str (pbS k))])) a (exo a D (some d))) d (exd d (fldP k p))) := by
  refine h ?_ upd_same fun b o hb ho => ?_
  · rw [upd_ne (Ne.symm hda), upd_same]
  · have nb : b ≠ d := ne_of_none ho hd
    rw [upd_ne nb, upd_ne hb, upd_ne nb]
    exact ho
theorem ok_ipp {f D Z : Addr} {fd : FuncData} (F : Fun K "__init__" "InvalidTemplate.__init__" sIpp f fd) (T : PpT K mg D Z) : FnC P w K mg base CX0 1 f fd nIpp (spIpp D) := by
  refine .ofG (okG F scIpp (fun vs H Q E h => ?_) (fun cdv A outer s H vs Q E hr hgd h => ?_))
  · obtain ⟨a, k, p, rfl, _⟩ := h
    rfl
  · obtain ⟨a, kk, p, rfl, hp, ha, k⟩ := h
    refine ⟨_, pss_cons (ps_expr (pe_reinitZ (by rfl) T.z (pa_cons (pv 0) (pa_cons (pe_joined (.cons pe_str (.cons (pe_fmtA (pv 1)) (.cons pe_str (.cons (pe_fmtA (pv 2)) .nil))))) pa_nil))))
      (pss_cons (ps_ostB baseV (pv 0) (pv 1)) (pss_one (ps_ostB baseV (pv 0) (pv 2)))), ?_⟩
    have sz := sizeLine_eq
    have m1 : (Str.ofString "no template: ").length = 13 := rfl
    have m2 : (Str.ofString ", ").length = 2 := rfl
    have m0 : Str.empty.length = 0 := rfl
    have h7 := pbS_len kk
    refine ⟨_, rfl, _, rfl, by rw [strLen_append]; omega, _, rfl, .inl ⟨_, rfl, by omega, _, rfl, by rw [strLen_append, strLen_append]; omega, ?_⟩⟩
    refine ⟨_, rfl, by rw [strLen_append, strLen_append, strLen_append]; omega, _, rfl, ?_⟩
    have h4 : (Str.ofString "None").length = 4 := rfl
    cases p with
    | none =>
      refine .inr (.inr ⟨rfl, _, rfl, by rw [strLen_append, strLen_append, strLen_append, strLen_append]; omega, ?_⟩)
      refine ⟨a, D, _, rfl, by show 1 ≤ 1000; decide, T.ox, ha, ?_⟩
      refine ⟨_, rfl, _, rfl, a, D, rfl, T.ox, T.n1, .inl ⟨ha, fun d hd hda => ?_⟩⟩
      refine ⟨_, rfl, _, rfl, a, D, rfl, T.ox, T.n2, .inr ⟨d, _, upd_same, by rw [upd_ne hda]; exact upd_same, by show 1 ≤ 900; decide, ?_⟩⟩
      exact ipp_end (k d _ hd) hd hda
    | some i =>
      have hi := hp i rfl
      have h3 := num_len hi
      refine .inr (.inl ⟨_, rfl, small_log hi, _, rfl, by rw [strLen_append, strLen_append, strLen_append, strLen_append]; omega, ?_⟩)
      refine ⟨a, D, _, rfl, by show 1 ≤ 1000; decide, T.ox, ha, ?_⟩
      refine ⟨_, rfl, _, rfl, a, D, rfl, T.ox, T.n1, .inl ⟨ha, fun d hd hda => ?_⟩⟩
      refine ⟨_, rfl, _, rfl, a, D, rfl, T.ox, T.n2, .inr ⟨d, _, upd_same, by rw [upd_ne hda]; exact upd_same, by show 1 ≤ 900; decide, ?_⟩⟩
      exact ipp_end (k d _ hd) hd hda
/-- raise InvalidTemplate(problem, place) -/
theorem pp_bad {D : Addr} {k : Nat} {p : Option Nat} {H : Hp} {E : XK} {t : TA} {σ : L2.St} (hp : ∀ i, p = some i → i ≤ 100) (out : outP D k p H E) (ht : ∀ (R : List V → Hp → Prop), R [.str (pbS k), plV p] H → t σ H R) : (tMkO D (spIpp D) [] t) σ H fun cls d H' => E cls d H' := by
  refine ht _ ⟨by show 2 ≤ 1000; decide, fun a ha => ⟨a, k, p, rfl, hp, upd_same, fun dd H2 hd h1 h2 sb => ⟨rfl, dd, _, h1, h2, ?_, ?_⟩⟩⟩
  · have hda : dd ≠ a := fun z => by rw [z, upd_same] at hd; cases hd
    rw [upd_ne hda] at hd
    exact hd
  · have hda : dd ≠ a := fun z => by rw [z, upd_same] at hd; cases hd
    have hdH : H dd = none := by rw [upd_ne hda] at hd; exact hd
    refine out dd _ hdH (fun b o hb => ?_) upd_same
    have nba : b ≠ a := ne_of_none hb ha
    rw [upd_ne (ne_of_none hb hdH), del_ne nba]
    exact sb b o nba (by rw [upd_ne nba]; exact hb)
end
end SS
set_option maxRecDepth 100000
set_option maxHeartbeats 4000000
namespace SS
open PySem L2 SR TL
def rowsQ : List (List Int) := [[1, 1], [0, 0]]
def PtOkW : Pt → Prop
  | .sl nm cs rM eM => Name nm ∧ cs = [97, 98] ∧ rM = rowsQ ∧ (eM = [] ∨ eM = [0] ∨ eM = [1] ∨ eM = [0, 1])
  | p => PtOk p
def OddE (L : Addr) (H : Hp) (v : V) : Prop := (∃ d, Ov H v d ∧ bnd 3 d = true ∧ nb3 d = true ∧ isPrtD d = false) ∨
  (∃ (t l : Addr) (k : Str) (x : V) (dx : PyData) (cs : List Nat) (rM : List (List Int)) (eM : List Int), v = .ref t ∧ H t = some (.tup [.str k, x, .ref l]) ∧ LanT L H l cs rM eM ∧ Ov H x dx ∧ lenD dx ≤ 1000 ∧ (decide (k = sSlt) && isNamD dx) = false) ∨
  (∃ (t : Addr) (xs : List V), v = .ref t ∧ H t = some (.tup xs) ∧ xs.length = 4)
def ElA (L : Addr) (H : Hp) (v : V) : Option Pt → Prop
  | none => OddE L H v
  | some p => ∃ t, v = .ref t ∧ PtAt (LanT L) H t p ∧ PtOkW p
theorem OddE.mono {L : Addr} {H H' : Hp} {v : V} (e : Same H H') (h : OddE L H v) : OddE L H' v := by
  rcases h with ⟨d, a, b⟩ | ⟨t, l, k, x, dx, cs, rM, eM, a, b, c, d, r⟩ | ⟨t, xs, a, b, c⟩
  · exact .inl ⟨d, a.mono e, b⟩
  · exact .inr (.inl ⟨t, l, k, x, dx, cs, rM, eM, a, e _ _ b, lanM L _ _ _ _ _ _ e c, d.mono e, r⟩)
  · exact .inr (.inr ⟨t, xs, a, e _ _ b, c⟩)
theorem ElA.mono {L : Addr} {H H' : Hp} {v : V} {o : Option Pt} (e : Same H H') (h : ElA L H v o) : ElA L H' v o := by
  cases o with
  | none => exact OddE.mono e h
  | some p =>
    obtain ⟨t, a, b, c⟩ := h
    exact ⟨t, a, b.mono (lanM L) e, c⟩
def txD' (x : List Nat) : PyData := .str (txt x)
def moD (m : Mo) : PyData := .tuple [txD' [m.1], match m.2 with | none => .none | some x => txD' x]
def ptD : Pt → PyData
  | .pc ms => .tuple [.str sPic, .tuple (ms.map moD)]
  | .sd ks => .tuple [.str sSai, .tuple (ks.map txD')]
  | _ => .none
theorem mo_dh {H : Hp} {q : Addr} {m : Mo} (h : MoAt H q m) : Dh H (.ref q) (moD m) := by
  refine .tup h (.cons (.str _) (.cons ?_ .nil))
  cases m.2 with
  | none => exact .non
  | some x => exact .str _
theorem mos_dh {H : Hp} : ∀ {qs : List Addr} {ms : List Mo}, Paired (MoAt H) qs ms → DhAll H (qs.map .ref) (ms.map moD)
  | _, _, .nil => .nil
  | _, _, .cons h r => .cons (mo_dh h) (mos_dh r)
theorem txs_dh {H : Hp} : ∀ ks : List (List Nat), DhAll H (ks.map txtV) (ks.map txD')
  | [] => .nil
  | k :: ks => .cons (.str _) (txs_dh ks)
theorem pt_dh {L : Addr} {H : Hp} {t : Addr} {p : Pt} (h : PtAt (LanT L) H t p) (hs : isSl p = false) : Dh H (.ref t) (ptD p) := by
  cases p with
  | pc ms =>
    obtain ⟨b, qs, h1, h2, h3⟩ := h
    exact .tup h1 (.cons (.str _) (.cons (.tup h2 (mos_dh h3)) .nil))
  | sd ks =>
    obtain ⟨b, h1, h2⟩ := h
    exact .tup h1 (.cons (.str _) (.cons (.tup h2 (txs_dh ks)) .nil))
  | sl nm cs rM eM => cases hs
theorem word_txD {x : List Nat} (h : Lets x) : isWordD (txD' x) = true := by
  refine word_iff.mpr ?_
  rw [txt_codes]
  exact h
theorem len_txD (x : List Nat) : lenD (txD' x) = x.length := by
  show (txt x).cps.size = x.length
  rw [← Array.length_toList, txt_codes]
theorem sgn_txD {c : Nat} (h : 97 ≤ c ∧ c < 123) : isSgnD (txD' [c]) = true := by
  unfold isSgnD
  rw [word_txD (fun x hx => by rw [List.mem_singleton.mp hx]; exact h), len_txD]
  rfl
theorem mrk_txD {x : List Nat} (h : Mrk x) : isMrkD (txD' x) = true := by
  unfold isMrkD
  rw [word_txD h.1, len_txD]
  exact decide_eq_true ⟨h.2.1, h.2.2⟩
theorem mo_jd {m : Mo} (h : MoOk m) : isPmvD (moD m) = true := by
  show (isSgnD (txD' [m.1]) && (noneD _ || isMrkD _)) = true
  rw [sgn_txD h.1]
  cases hm : m.2 with
  | none => rfl
  | some x =>
    show (false || isMrkD (txD' x)) = true
    rw [mrk_txD (h.2 x hm)]
    rfl
theorem pt_jd {p : Pt} (h : PtOk p) (hs : isSl p = false) : isPrtD (ptD p) = true := by
  cases p with
  | pc ms =>
    show ((decide (sPic = sPic) && areMvD (.tuple (ms.map moD))) || _) = true
    rw [decide_eq_true rfl]
    show ((decide ((ms.map moD).length ≤ 12) && (ms.map moD).all isPmvD) || _) = true
    rw [decide_eq_true (by rw [List.length_map]; exact h.1), show (ms.map moD).all isPmvD = true from List.all_eq_true.mpr fun d hd => by
      obtain ⟨m, hm, rfl⟩ := List.mem_map.mp hd
      exact mo_jd (h.2 m hm)]
    rfl
  | sd ks =>
    show ((decide (sSai = sPic) && areMvD (.tuple (ks.map txD'))) || (decide (sSai = sSai) && (decide ((ks.map txD').length ≤ 6) && (ks.map txD').all isMrkD))) = true
    rw [decide_eq_true (rfl : sSai = sSai), Bool.true_and]
    rw [show decide ((ks.map txD').length ≤ 6) = true from decide_eq_true (by rw [List.length_map]; exact h.1), show (ks.map txD').all isMrkD = true from List.all_eq_true.mpr fun d hd => by
      obtain ⟨m, hm, rfl⟩ := List.mem_map.mp hd
      exact mrk_txD (h.2 m hm)]
    exact Bool.or_true _
  | sl nm cs rM eM => cases hs
theorem bnd_txt {n : Nat} {x : List Nat} (h : x.length ≤ 1000) : bnd n (txD' x) = true := by
  have e : bnd n (txD' x) = decide ((txt x).cps.size ≤ 1000) := by cases n <;> rfl
  have l : (txt x).cps.size = x.length := len_txD x
  rw [e, l]
  exact decide_eq_true h
theorem pt_bnd {p : Pt} (h : PtOk p) (hs : isSl p = false) : bnd 3 (ptD p) = true ∧ nb3 (ptD p) = true := by
  refine ⟨?_, by cases p <;> rfl⟩
  cases p with
  | pc ms =>
    show (decide (2 ≤ 60) && (bnd 2 (.str sPic) && (bnd 2 (.tuple (ms.map moD)) && true))) = true
    have h1 : bnd 2 (.tuple (ms.map moD)) = true := by
      show (decide ((ms.map moD).length ≤ 60) && (ms.map moD).all (bnd 1)) = true
      rw [decide_eq_true (by rw [List.length_map]; have := h.1; omega), Bool.true_and]
      refine List.all_eq_true.mpr fun d hd => ?_
      obtain ⟨m, hm, rfl⟩ := List.mem_map.mp hd
      show (decide (2 ≤ 60) && (bnd 0 (txD' [m.1]) && (bnd 0 _ && true))) = true
      rw [bnd_txt (by show 1 ≤ 1000; decide)]
      cases e : m.2 with
      | none => rfl
      | some x =>
        show (true && (true && (bnd 0 (txD' x) && true))) = true
        rw [bnd_txt (by have := ((h.2 m hm).2 x e).2.2; omega)]
        rfl
    rw [h1]
    exact (by decide +kernel : (decide (2 ≤ 60) && (bnd 2 (PyData.str sPic) && (true && true))) = true)
  | sd ks =>
    show (decide (2 ≤ 60) && (bnd 2 (.str sSai) && (bnd 2 (.tuple (ks.map txD')) && true))) = true
    have h1 : bnd 2 (.tuple (ks.map txD')) = true := by
      show (decide ((ks.map txD').length ≤ 60) && (ks.map txD').all (bnd 1)) = true
      rw [decide_eq_true (by rw [List.length_map]; have := h.1; omega), Bool.true_and]
      refine List.all_eq_true.mpr fun d hd => ?_
      obtain ⟨m, hm, rfl⟩ := List.mem_map.mp hd
      exact bnd_txt (by have := (h.2 m hm).2.2; omega)
    rw [h1]
    exact (by decide +kernel : (decide (2 ≤ 60) && (bnd 2 (PyData.str sSai) && (true && true))) = true)
  | sl nm cs rM eM => cases hs
theorem ElA.prt {L : Addr} {H : Hp} {v : V} {o : Option Pt} {Q : VK} {E : XK} (h : ElA L H v o) (k : ∀ H', Same H H' → Q (.bl o.isSome) H') : spPrtO L [v] H Q E := by
  cases o with
  | none =>
    rcases h with ⟨d, a, b, c, e⟩ | ⟨t, l, ks, x, dx, cs, rM, eM, a, b, c, d, r, z⟩ | ⟨t, xs, a, b, c⟩
    · exact ⟨v, rfl, .inl ⟨d, a, b, c, by rw [e]; exact k⟩⟩
    · exact ⟨v, rfl, .inr (.inl ⟨t, l, ks, x, dx, cs, rM, eM, a, b, c, d, r, by rw [z]; exact k⟩)⟩
    · exact ⟨v, rfl, .inr (.inr ⟨t, xs, a, b, c, k⟩)⟩
  | some p =>
    obtain ⟨t, rfl, b, c⟩ := h
    by_cases hs : isSl p = true
    · cases p with
      | sl nm cs rM eM =>
        obtain ⟨l, h1, h2⟩ := b
        refine ⟨_, rfl, .inr (.inl ⟨t, l, "slot", txtV nm, txD' nm, cs, rM, eM, rfl, h1, h2, .inl (.str _), by rw [len_txD]; have := c.1.2.2; omega, ?_⟩)⟩
        have e : (decide (("slot" : Str) = sSlt) && isNamD (txD' nm)) = true := by
          rw [show decide (("slot" : Str) = sSlt) = true from decide_eq_true rfl, Bool.true_and]
          unfold isNamD isSgnD isMrkD
          obtain ⟨n1, n2, n3⟩ := c.1
          rw [word_txD n1, len_txD]
          by_cases h1 : nm.length = 1
          · rw [decide_eq_true h1]; rfl
          · rw [decide_eq_false h1, decide_eq_true (show 1 < nm.length ∧ nm.length ≤ 8 by omega)]; rfl
        rw [e]
        exact k
      | pc _ => cases hs
      | sd _ => cases hs
    · rw [Bool.not_eq_true] at hs
      have c : PtOk p := by cases p <;> first | exact c | cases hs
      obtain ⟨b1, b2⟩ := pt_bnd c hs
      exact ⟨_, rfl, .inl ⟨ptD p, .inl (pt_dh b hs), b1, b2, by rw [pt_jd c hs]; exact k⟩⟩
end SS
set_option maxRecDepth 100000
set_option maxHeartbeats 4000000
namespace SR
open PySem PySem.Spec PyProof.Rows L2
def iEnumLW (ta : TA) : TI := fun σ H R => ta σ H fun vs H1 => ∃ a xs, vs = [.ref a] ∧ LoT H1 a xs ∧ ∀ (J : It) (G : Hp → Prop), Walk J xs.length G (YPair (fun i => some (.int (i : Nat))) (fun i => xs[i]?)) → (∀ H', (∀ o, H1 a = some o → H' a = some o) → G H') → R J H1
theorem pi_enumLW {X : Cx} {e : Expr} {ta : TA} {p pos tpos : Pos} {elts : List Expr} {kk : Nat} (hg : Gl X "enumerate") (hm : X.mg "enumerate" = none) (ha : PA X [e] ta) (hs : starEach [e] X.env = [(false, eval e X.env)] := by rfl) :
    PI X (.Tuple elts kk tpos) (.Call (.Name "enumerate" p) [e] [] pos) (iEnumLW ta) := by
  refine ⟨fun pins s σ H R I h => ?_⟩
  refine Call_ (ld_blt I hg hm boot_enumerate (PyProof.Rows.callWith_type1 (thn (ha.run pos pins s σ H _ I h) fun us s1 ⟨vs, H1, I1, r1, q1⟩ => ?_) hs rfl))
  obtain ⟨a, xs, ex, hq, q⟩ := q1
  subst ex
  cases r1 with
  | cons r rr =>
    cases rr
    cases r
    rcases hq with hq | hq
    · have hq' : SqL X.K H1 a xs := SqL.of hq
      obtain ⟨its, rv, p', hz⟩ := I1.list hq'
      refine call_enumerate_list p'.isList fun h' he hit hsz hk => wpAny_pyIter_enum he ?_
      have I2 : Inv X pins σ H1 { s1 with heap := h' } := I1.kept (t' := s1.toks) hk
      refine ⟨s1.heap.objs.size + 1, [s1.heap.objs.size + 1, s1.heap.objs.size], _, _, H1, rfl, I2, turn_enum a (s1.heap.objs.size + 1) s1.heap.objs.size, ⟨⟨.none, he⟩, hit, Nat.succ_ne_self _⟩, fun b hb => ?_, q (Ite X.K a) _ walk_enum fun H' e => SqL.of (e _ hq)⟩
      have e' : b = s1.heap.objs.size + 1 ∨ b = s1.heap.objs.size := by simpa using hb
      have hle : s1.heap.objs.size ≤ b := by
        rcases e' with z | z
        · rw [z]; exact Nat.le_add_right _ _
        · rw [z]; exact Nat.le_refl _
      exact I1.fpOk hle (I1.hok.fresh hle)
    · have hq' : SqT X.K H1 a xs := SqT.of hq
      obtain ⟨its, rv, ht, hz⟩ := I1.tuple hq'
      have hla : a < s1.heap.objs.size := by obtain ⟨_, z, _⟩ := ht; exact Heap.lt_size z
      refine enum_begins1 (begins_tuple a its.toArray) ht fun h' he hit hsz hk => wpAny_pyIter_enum he ?_
      have I2 : Inv X pins σ H1 { s1 with heap := h' } := I1.kept (t' := s1.toks) hk
      refine ⟨s1.heap.objs.size + 1, [s1.heap.objs.size + 1, s1.heap.objs.size], _, _, H1, rfl, I2, turn_enumS (src_tuple (a := a) (it := s1.heap.objs.size) (xs := xs) (Nat.ne_of_lt hla)) (Nat.succ_ne_self _) (Nat.ne_of_gt (Nat.lt_succ_of_lt hla)), ⟨⟨.none, he⟩, _, hit, rfl, rfl⟩, fun b hb => ?_, q (ItE (fun H => SqT X.K H a xs) xs) _ walk_enumE fun H' e => SqT.of (e _ hq)⟩
      have e' : b = s1.heap.objs.size + 1 ∨ b = s1.heap.objs.size := by simpa using hb
      have hle : s1.heap.objs.size ≤ b := by
        rcases e' with z | z
        · rw [z]; exact Nat.le_add_right _ _
        · rw [z]; exact Nat.le_refl _
      exact I1.fpOk hle (I1.hok.fresh hle)
end SR
namespace SS
open PySem L2 SR TL
/-- the first slot without a mark ahead of it -/
def unm : Bool → Nat → List Pt → Option Nat
  | _, _, [] => none
  | m, i, p :: ps => if isSl p = true then (if m = true then unm false (i + 1) ps else some i) else unm (m || decide (mksOf p ≠ [])) (i + 1) ps
def emB : Pt → Bool
  | .sl _ _ _ eM => decide (eM = [])
  | _ => false
/-- the first problem of the slots -/
def sprF (u : Option Nat) : List (List Nat) → Nat → List Pt → Option (Nat × Nat)
  | _, _, [] => none
  | ns, i, p :: ps => if isSl p = true then (if nmOf p ∈ ns then some (0, i) else if emB p = true then some (1, i) else if u = some i then some (2, i) else sprF u (ns ++ [nmOf p]) (i + 1) ps) else sprF u ns (i + 1) ps
/-- as the law tells it -/
def sprL : Bool → List (List Nat) → Nat → List Pt → Option (Nat × Nat)
  | _, _, _, [] => none
  | m, ns, i, p :: ps => if isSl p = true then (if nmOf p ∈ ns then some (0, i) else if emB p = true then some (1, i) else if m = false then some (2, i) else sprL false (ns ++ [nmOf p]) (i + 1) ps) else sprL (m || decide (mksOf p ≠ [])) ns (i + 1) ps
theorem unm_ge : ∀ {ps : List Pt} {m : Bool} {i j : Nat}, unm m i ps = some j → i ≤ j
  | [], _, _, _, h => by cases h
  | p :: ps, m, i, j, h => by
    unfold unm at h
    split at h
    · split at h
      · have := unm_ge h; omega
      · cases h; exact Nat.le_refl _
    · have := unm_ge h; omega
theorem spr_eq : ∀ (ps : List Pt) (m : Bool) (ns : List (List Nat)) (i : Nat), sprF (unm m i ps) ns i ps = sprL m ns i ps
  | [], _, _, _ => rfl
  | p :: ps, m, ns, i => by
    unfold sprF sprL
    by_cases hs : isSl p = true
    · rw [if_pos hs, if_pos hs]
      by_cases hn : nmOf p ∈ ns
      · rw [if_pos hn, if_pos hn]
      · rw [if_neg hn, if_neg hn]
        by_cases he : emB p = true
        · rw [if_pos he, if_pos he]
        · rw [if_neg he, if_neg he]
          have hu : unm m i (p :: ps) = if m = true then unm false (i + 1) ps else some i := by
            rw [unm, if_pos hs]
          rw [hu]
          cases m with
          | true =>
            rw [if_pos rfl, if_neg (fun z => by have := unm_ge z; omega), if_neg (by decide : ¬ (true = false))]
            exact spr_eq ps false _ _
          | false => rw [if_neg (by decide : ¬ (false = true)), if_pos rfl, if_pos rfl]
    · rw [if_neg hs, if_neg hs]
      have hu : unm m i (p :: ps) = unm (m || decide (mksOf p ≠ [])) (i + 1) ps := by
        rw [unm, if_neg hs]
      rw [hu]
      exact spr_eq ps _ _ _
def iV : Option Nat → V
  | none => .non
  | some i => .int (i : Nat)
section
variable {P : Program} {w : World} {K : PySem.W.Frag} {mg : Str → Option Value} {base : Heap}
def spFnpX (L : Addr) : Sp := fun vs H Q _ => ∃ (a : Addr) (xs : List V) (os : List (Option Pt)), vs = [.ref a] ∧ LoT H a xs ∧ Paired (ElA L H) xs os ∧ xs.length ≤ 100 ∧ ∀ H', Same H H' → Q (iV (os.findIdx? (fun o => o.isNone))) H'
theorem ok_fnpX {f L : Addr} {fd : FuncData} (F : Fun K "first_not_part" "first_not_part" sFnp f fd) (B : Bl mg) (Ip : Cal P w K mg base "is_part" 5 psVal (spPrtO L)) : FnOk P w K mg base CX0 6 f fd psPts (spFnpX L) := by
  refine F.ok scFnp (fun vs H Q E h => ?_) (fun cdv A outer s H vs Q E hr h => ?_)
  · obtain ⟨a, xs, os, rfl, _⟩ := h
    rfl
  · obtain ⟨a, xs, os, rfl, h1, h2, hl, k⟩ := h
    have hol : xs.length = os.length := Paired.length h2
    refine ⟨_, pss_cons (ps_for PassesOwn.never rfl (pi_enumL (by rfl) B.enumerate (pa_cons (pv 0) pa_nil)) (pg_tup rfl (pgs_cons (pg_name (i := 1) scFnp.nd rfl (.inl rfl)) (pgs_cons (pg_name (i := 2) scFnp.nd rfl (.inl rfl)) pgs_nil)))
        (pss_one (ps_if (pt_not (pt_val (pe_cal Ip hr (pa_cons (pv 2) pa_nil)))) (pss_one (ps_ret (pv 1))) pss_nil)))
      (pss_one (ps_ret pe_non)), ?_⟩
    refine ⟨_, rfl, a, _, rfl, h1, fun J G' wk hG => for_it wk (fun i σ H' => Same H H' ∧ (∀ j o, j < i → os[j]? = some o → o.isSome = true) ∧ ∃ (a1 a2 : Option V), σ = [some (.ref a), a1, a2]) ⟨Same.refl _, fun j o hj => absurd hj (Nat.not_lt_zero _), none, none, rfl⟩ (fun i σ H' _ q => hG H' q.1) ?_ ?_⟩
    · rintro i v σ H2 H2' hi ⟨e1, hb, a1, a2, rfl⟩ ⟨T, x, y, rfl, hT, rfl, hx, hy⟩
      cases hx
      dsimp only at hy
      obtain ⟨o, ho, hel⟩ := paired_getL _ h2 hy
      have eT := same_new (o := .tup [.int (i : Nat), y]) hT
      refine ⟨T, _, rfl, SqT.of upd_same, rfl, _, _, rfl, _, _, rfl, rfl, ?_⟩
      refine ⟨_, rfl, ?_⟩
      dsimp only [tNil, List.append_nil, List.cons_append, List.nil_append]
      refine (hel.mono (e1.trans eT)).prt (fun H3 e3 => ⟨_, rfl, ?_⟩)
      cases o with
      | some p =>
        refine iteF ⟨(e1.trans eT).trans e3, fun j o' hj ho' => ?_, _, _, rfl⟩
        rcases Nat.lt_or_ge j i with h | h
        · exact hb j o' h ho'
        · obtain rfl : j = i := by omega
          rw [ho] at ho'
          cases ho'
          rfl
      | none =>
        refine iteT ⟨_, rfl, ?_⟩
        have e : os.findIdx? (fun o => o.isNone) = some i := by
          obtain ⟨hio, hoi⟩ := List.getElem?_eq_some_iff.mp ho
          refine List.findIdx?_eq_some_iff_getElem.mpr ⟨hio, by rw [hoi]; rfl, fun j hj => ?_⟩
          have := hb j _ hj (List.getElem?_eq_getElem (by omega))
          cases hz : os[j] with
          | none => rw [hz] at this; cases this
          | some p => rw [Bool.not_eq_true]; rfl
        rw [e] at k
        exact k _ ((e1.trans eT).trans e3)
    · rintro σ H2 ⟨e1, hb, a1, a2, rfl⟩
      have e : os.findIdx? (fun o => o.isNone) = none := by
        refine List.findIdx?_eq_none_iff.mpr fun o ho => ?_
        obtain ⟨j, hj⟩ := List.mem_iff_getElem?.mp ho
        have := hb j o (by have := (List.getElem?_eq_some_iff.mp hj).1; omega) hj
        cases o with
        | none => cases this
        | some p => rfl
      rw [e] at k
      exact k _ e1
theorem PtOkW.ok {p : Pt} (h : PtOkW p) (hs : isSl p = false) : PtOk p := by cases p <;> first | exact h | cases hs
def PtsX (L : Addr) (H : Hp) (a : Addr) (ps : List Pt) : Prop := ∃ ts : List Addr, LoT H a (ts.map .ref) ∧ Paired (PtAt (LanT L) H) ts ps
theorem PtsX.mono {L : Addr} {H H' : Hp} {a : Addr} {ps : List Pt} (e : Same H H') (h : PtsX L H a ps) : PtsX L H' a ps := by
  obtain ⟨ts, h1, h2⟩ := h
  exact ⟨ts, h1.mono e, Paired.mono h2 fun a b g => g.mono (lanM L) e⟩
def spFumX (L : Addr) : Sp := fun vs H Q _ => ∃ (a : Addr) (ps : List Pt), vs = [.ref a] ∧ PtsX L H a ps ∧ ps.length ≤ 12 ∧ (∀ p ∈ ps, PtOkW p) ∧ ∀ H', Same H H' → Q (iV (unm true 0 ps)) H'
theorem ok_fumX {f L : Addr} {fd : FuncData} (F : Fun K "first_unmarked" "first_unmarked" sFum f fd) (B : Bl mg) (Is : Cal P w K mg base "is_slot" 1 psIsl (spIsl (LanT L))) (Mo : Cal P w K mg base "marks_of" 1 psIsl (spMof (LanT L))) : FnOk P w K mg base CX0 2 f fd psPts (spFumX L) := by
  refine F.ok scFum (fun vs H Q E h => ?_) (fun cdv A outer s H vs Q E hr h => ?_)
  · obtain ⟨a, ps, rfl, _⟩ := h
    rfl
  · obtain ⟨a, ps, rfl, ⟨ts, h1, h2⟩, hl, ok, k⟩ := h
    have htl : ts.length = ps.length := Paired.length h2
    refine ⟨_, pss_cons (ps_set (i := 1) scFum.nd rfl (.inl rfl) pe_bl)
      (pss_cons (ps_for PassesOwn.never rfl (pi_enumL (by rfl) B.enumerate (pa_cons (pv 0) pa_nil)) (pg_tup rfl (pgs_cons (pg_name (i := 2) scFum.nd rfl (.inl rfl)) (pgs_cons (pg_name (i := 3) scFum.nd rfl (.inl rfl)) pgs_nil)))
        (pss_one (ps_if (pt_val (pe_cal Is hr (pa_cons (pv 3) pa_nil)))
          (pss_cons (ps_if (pt_not (pt_val (pv 1))) (pss_one (ps_ret (pv 2))) pss_nil)
          (pss_one (ps_set (i := 1) scFum.nd rfl (.inl rfl) pe_bl)))
          (pss_one (ps_if (pt_cmpR (op_neD hr.units) (pe_cal Mo hr (pa_cons (pv 3) pa_nil)) (pe_lst pa_nil) (nomark _)) (pss_one (ps_set (i := 1) scFum.nd rfl (.inl rfl) pe_bl)) pss_nil)))))
      (pss_one (ps_ret pe_non))), ?_⟩
    refine ⟨_, rfl, a, _, rfl, h1, fun J G' wk hG => for_it wk (fun i σ H' => Same H H' ∧ ∃ (m : Bool) (a1 a2 : Option V), σ = [some (.ref a), some (.bl m), a1, a2] ∧ unm m i (ps.drop i) = unm true 0 ps) ⟨Same.refl _, true, none, none, rfl, rfl⟩ (fun i σ H' _ q => hG H' q.1) ?_ ?_⟩
    · rintro i v σ H2 H2' hi ⟨e1, m, a1, a2, rfl, hs⟩ ⟨T, x, y, rfl, hT, rfl, hx, hy⟩
      cases hx
      dsimp only at hy
      rw [List.getElem?_map] at hy
      obtain ⟨t, ht, rfl⟩ := Option.map_eq_some_iff.mp hy
      obtain ⟨p, hp, hpt⟩ := paired_getL _ h2 ht
      have okp := ok p (List.mem_of_getElem? hp)
      have eT := same_new (o := .tup [.int (i : Nat), .ref t]) hT
      have hpt' := hpt.mono (lanM L) (e1.trans eT)
      obtain ⟨hip, hpi⟩ := List.getElem?_eq_some_iff.mp hp
      have hdrop : ps.drop i = p :: ps.drop (i + 1) := by rw [List.drop_eq_getElem_cons hip, hpi]
      rw [hdrop, unm] at hs
      refine ⟨T, _, rfl, SqT.of upd_same, rfl, _, _, rfl, _, _, rfl, rfl, ?_⟩
      refine ⟨_, rfl, t, p, rfl, hpt', _, rfl, ?_⟩
      cases hsl : isSl p with
      | true =>
        rw [hsl, if_pos rfl] at hs
        refine iteT ⟨_, rfl, _, rfl, ?_⟩
        cases m with
        | true =>
          rw [if_pos rfl] at hs
          exact iteF ⟨e1.trans eT, false, _, _, rfl, hs⟩
        | false =>
          rw [if_neg (by decide)] at hs
          refine iteT ⟨_, rfl, ?_⟩
          rw [← hs] at k
          exact k _ (e1.trans eT)
      | false =>
        rw [hsl, if_neg (by decide)] at hs
        refine iteF ⟨_, rfl, t, p, rfl, hpt', okp.ok hsl, fun y H3 hy3 e3 h3 => ?_⟩
        refine ⟨by show 0 ≤ sizeLine; decide, fun z hz => ?_⟩
        have e4 := same_new (o := .lst []) hz
        refine ⟨mkD (mksOf p), mkD [], dp_mks (SqL.of (e4 _ _ h3)), dp_mks (SqL.of upd_same), mkD_ok fun x hx => (mksOf_ok (okp.ok hsl) x hx).1, mkD_ok fun x hx => (nomatch hx), _, rfl, ?_⟩
        rw [mkD_eqv]
        cases hm : decide (mksOf p = []) with
        | true =>
          refine iteF ⟨((e1.trans eT).trans e3).trans e4, m, _, _, rfl, ?_⟩
          rwa [show decide (mksOf p ≠ []) = false from decide_eq_false fun z => z (of_decide_eq_true hm), Bool.or_false] at hs
        | false =>
          refine iteT ⟨((e1.trans eT).trans e3).trans e4, true, _, _, rfl, ?_⟩
          rwa [show decide (mksOf p ≠ []) = true from decide_eq_true (of_decide_eq_false hm), Bool.or_true] at hs
    · rintro σ H2 ⟨e1, m, a1, a2, rfl, hs⟩
      rw [List.length_map, htl, List.drop_length] at hs
      rw [← hs] at k
      exact k _ e1
theorem iV_scal (u : Option Nat) (i : Nat) : scal (.int (i : Nat)) (iV u) = true := by cases u <;> rfl
theorem iV_dec (u : Option Nat) (i : Nat) : decide (V.int (i : Nat) = iV u) = decide (u = some i) := by
  rw [decide_eq_decide]
  cases u with
  | none => exact ⟨fun h => (nomatch h), fun h => (nomatch h)⟩
  | some j => exact ⟨fun h => by have := V.int.inj h; rw [show j = i by omega], fun h => by cases h; rfl⟩
theorem emp_iff {L : Addr} {H : Hp} {l : Addr} {nm cs : List Nat} {rM : List (List Int)} {eM : List Int} (ok : PtOkW (.sl nm cs rM eM)) (h : LanT L H l cs rM eM) : ∃ (dx : Addr) (fs : List (Str × V)) (rw' : List (List Int)) (en' ns : List Int), H l = some (.ins L dx fs) ∧ SG.LangR L H l cs rw' en' ns ∧ decide (ns = []) = emB (.sl nm cs rM eM) := by
  obtain ⟨rw', en', ns, LR, W', al, least, lv, lvr⟩ := SG.LangAt.ex h
  obtain ⟨dx, pt, pm, pl, fs, f1, _⟩ := id LR.ex
  refine ⟨dx, fs, rw', en', ns, f1, LR, ?_⟩
  show decide (ns = []) = decide (eM = [])
  rw [decide_eq_decide]
  constructor
  · intro z
    obtain ⟨_, rfl, rfl, he⟩ := ok
    rcases he with rfl | rfl | rfl | rfl
    · rfl
    all_goals exfalso
    · have := (lv 0 (Int.le_refl _) (by have := W'.one; omega)).mpr ⟨[], (fun c hc => nomatch hc), (al.1 [] (fun c hc => nomatch hc)).mpr (by decide)⟩
      rw [z] at this
      cases this
    · have := (lv 0 (Int.le_refl _) (by have := W'.one; omega)).mpr ⟨[97], (fun c hc => by rw [List.mem_singleton.mp hc]; decide), (al.1 [97] (fun c hc => by rw [List.mem_singleton.mp hc]; decide)).mpr (by decide)⟩
      rw [z] at this
      cases this
    · have := (lv 0 (Int.le_refl _) (by have := W'.one; omega)).mpr ⟨[], (fun c hc => nomatch hc), (al.1 [] (fun c hc => nomatch hc)).mpr (by decide)⟩
      rw [z] at this
      cases this
  · intro z
    subst z
    cases ns with
    | nil => rfl
    | cons q ns =>
      exfalso
      have hr := lvr q List.mem_cons_self
      obtain ⟨x, hx, hm⟩ := (lv q hr.1 hr.2).mp List.mem_cons_self
      obtain ⟨y, hy, hq⟩ := al.2 q hr.1 hr.2
      have := (al.1 (y ++ x) (fun c hc => (List.mem_append.mp hc).elim (hy c) (hx c))).mp (by rw [show SG.run cs rw' 0 (y ++ x) = SG.run cs rw' (SG.run cs rw' 0 y) x from List.foldl_append, hq]; exact hm)
      cases this
def spSprX (L : Addr) : Sp := fun vs H Q _ => ∃ (a : Addr) (ps : List Pt), vs = [.ref a] ∧ PtsX L H a ps ∧ ps.length ≤ 12 ∧ (∀ p ∈ ps, PtOkW p) ∧ (sprL true [] 0 ps = none → ∀ H', Same H H' → Q .non H') ∧
  ∀ k i, sprL true [] 0 ps = some (k, i) → ∀ (p : Addr) (H' : Hp), Same H H' → H' p = some (.tup [.str (pbS k), .int (i : Nat)]) → Q (.ref p) H'
theorem ok_sprX {f L : Addr} {fd : FuncData} (F : Fun K "slot_problem" "slot_problem" sSpr f fd) (B : Bl mg) (TL : SG.LTx K mg L) (Is : Cal P w K mg base "is_slot" 1 psIsl (spIsl (LanT L))) (Fu : Cal P w K mg base "first_unmarked" 2 psPts (spFumX L)) (Em : ∃ p f fd, FnOk P w K mg base CX0 1 f fd ["self"] (spEmp L) ∧ PropOf K L "is_empty" p f ∧ Binds K fd ["self"] []) : FnOk P w K mg base CX0 3 f fd psPts (spSprX L) := by
  obtain ⟨pE, fE, dE, GE, mE, bE⟩ := Em
  refine F.ok scSpr (fun vs H Q E h => ?_) (fun cdv A outer s H vs Q E hr h => ?_)
  · obtain ⟨a, ps, rfl, _⟩ := h
    rfl
  · obtain ⟨a, ps, rfl, hpts, h12, ok, kn, ks⟩ := h
    obtain ⟨ts, h1, h2⟩ := id hpts
    have htl : ts.length = ps.length := Paired.length h2
    have hr1 := hr.mono (by decide : 1 ≤ 2)
    refine ⟨_, pss_cons (ps_set (i := 1) scSpr.nd rfl (.inl rfl) (pe_lst pa_nil))
      (pss_cons (ps_set (i := 2) scSpr.nd rfl (.inl rfl) (pe_cal Fu hr (pa_cons (pv 0) pa_nil)))
      (pss_cons (ps_for PassesOwn.never rfl (pi_enumLW (by rfl) B.enumerate (pa_cons (pv 0) pa_nil)) (pg_tup rfl (pgs_cons (pg_name (i := 3) scSpr.nd rfl (.inl rfl)) (pgs_cons (pg_name (i := 4) scSpr.nd rfl (.inl rfl)) pgs_nil)))
        (pss_one (ps_if (pt_val (pe_cal Is hr1 (pa_cons (pv 4) pa_nil)))
          (pss_cons (ps_if (pt_cmpR op_in_seq (pe_ix ix_tup (pv 4) pe_int (fun _ _ => rfl)) (pv 1) (by rfl)) (pss_one (ps_ret (pe_tup (pa_cons pe_str (pa_cons (pv 3) pa_nil))))) pss_nil)
          (pss_cons (ps_if (pt_val (pe_prop (pe_ix ix_tup (pv 4) pe_int (fun _ _ => rfl)) TL.cl mE GE hr bE .nil pass0 (by rfl))) (pss_one (ps_ret (pe_tup (pa_cons pe_str (pa_cons (pv 3) pa_nil))))) pss_nil)
          (pss_cons (ps_if (pt_cmpR op_eq (pv 3) (pv 2) (nomark _)) (pss_one (ps_ret (pe_tup (pa_cons pe_str (pa_cons (pv 3) pa_nil))))) pss_nil)
          (pss_one (ps_expr (pe_bm PySem.F.plainAttrs_list PySem.F.slot_list_append PySem.F.type_list_append mt_append (pv 1) (pa_cons (pe_ix ix_tup (pv 4) pe_int (fun _ _ => rfl)) pa_nil)))))))
          pss_nil)))
      (pss_one (ps_ret pe_non)))), ?_⟩
    refine ⟨by show 0 ≤ sizeLine; decide, fun l hl => ?_⟩
    have e0 : Same H (upd H l (.lst [])) := same_new hl
    have h0 := upd_same (H := H) (a := l) (o := .lst [])
    generalize (upd H l (.lst [])) = H1 at e0 h0 ⊢
    refine ⟨_, rfl, a, ps, rfl, hpts.mono e0, h12, ok, fun H2 e2 => ?_⟩
    have e02 := e0.trans e2
    obtain ⟨u, hu⟩ : ∃ u, u = unm true 0 ps := ⟨_, rfl⟩
    rw [← spr_eq, ← hu] at kn ks
    rw [← hu]
    refine ⟨_, rfl, a, _, rfl, h1.mono e02, fun J G' wk hG => for_it wk (fun i σ H' => Same H H' ∧ ∃ (ns : List (List Nat)) (a3 a4 : Option V), σ = [some (.ref a), some (.ref l), some (iV u), a3, a4] ∧ H' l = some (.lst (ns.map txtV)) ∧ ns.length ≤ i ∧ sprF u ns i (ps.drop i) = sprF u [] 0 ps) ⟨e02, [], none, none, rfl, e2 _ _ h0, Nat.zero_le _, rfl⟩ (fun i σ H' _ q => hG H' fun o ho => by rcases h1 with h1 | h1 <;> rw [e02 _ _ h1] at ho <;> cases ho <;> exact q.1 _ _ h1) ?_ ?_⟩
    · rintro i v σ H3 H3' hi ⟨e1, ns, a3, a4, rfl, hn, hnl, hsp⟩ ⟨T, x, y, rfl, hT', rfl, hx, hy⟩
      cases hx
      dsimp only at hy
      rw [List.getElem?_map] at hy
      obtain ⟨t, ht, rfl⟩ := Option.map_eq_some_iff.mp hy
      obtain ⟨p, hp, hpt⟩ := paired_getL _ h2 ht
      have okp := ok p (List.mem_of_getElem? hp)
      have eT := same_new (o := .tup [.int (i : Nat), .ref t]) hT'
      have e13 := e1.trans eT
      have hpt' := hpt.mono (lanM L) e13
      have hn' := eT _ _ hn
      obtain ⟨hip, hpi⟩ := List.getElem?_eq_some_iff.mp hp
      have hdrop : ps.drop i = p :: ps.drop (i + 1) := by rw [List.drop_eq_getElem_cons hip, hpi]
      rw [hdrop, sprF] at hsp
      refine ⟨T, _, rfl, SqT.of upd_same, rfl, _, _, rfl, _, _, rfl, rfl, ?_⟩
      refine ⟨_, rfl, t, p, rfl, hpt', _, rfl, ?_⟩
      cases p with
      | pc ms =>
        have hsp : sprF u ns (i + 1) (ps.drop (i + 1)) = sprF u [] 0 ps := hsp
        exact iteF ⟨e13, ns, _, _, rfl, hn', by omega, hsp⟩
      | sd kk =>
        have hsp : sprF u ns (i + 1) (ps.drop (i + 1)) = sprF u [] 0 ps := hsp
        exact iteF ⟨e13, ns, _, _, rfl, hn', by omega, hsp⟩
      | sl nm cs rM eM =>
        rw [show isSl (.sl nm cs rM eM) = true from rfl, if_pos rfl] at hsp
        obtain ⟨lg, g1, g2⟩ := hpt'
        refine iteT ⟨_, rfl, t, _, _, _, rfl, rfl, SqT.of g1, rfl, _, rfl, l, _, rfl, .inl (SqL.of hn'), rfl, flat_txts _, _, rfl, ?_⟩
        rw [inV_txts]
        by_cases hnm : nm ∈ ns
        · rw [decide_eq_true hnm]
          rw [if_pos (by exact hnm)] at hsp
          refine iteT ⟨_, rfl, by show 2 ≤ sizeLine; decide, fun q hq => ?_⟩
          exact ks 0 i hsp.symm q _ (e13.trans (same_new hq)) upd_same
        · rw [decide_eq_false hnm]
          rw [if_neg (by exact hnm)] at hsp
          obtain ⟨dx, fs, rw', en', nl, f1, LR, hem⟩ := emp_iff okp g2
          refine iteF ⟨_, rfl, t, _, _, _, rfl, rfl, SqT.of g1, rfl, lg, dx, fs, rfl, f1, lg, cs, rw', en', nl, rfl, LR, fun H5 e5 => ⟨_, rfl, ?_⟩⟩
          rw [hem]
          have e15 := e13.trans e5
          cases hee : emB (.sl nm cs rM eM) with
          | true =>
            rw [if_pos hee] at hsp
            refine iteT ⟨_, rfl, by show 2 ≤ sizeLine; decide, fun q hq => ?_⟩
            exact ks 1 i hsp.symm q _ (e15.trans (same_new hq)) upd_same
          | false =>
            rw [if_neg (by rw [hee]; decide)] at hsp
            have hn5 := e5 _ _ hn'
            refine iteF ⟨_, rfl, _, rfl, iV_scal u i, _, rfl, ?_⟩
            rw [iV_dec]
            by_cases hui : u = some i
            · rw [decide_eq_true hui]
              rw [if_pos hui] at hsp
              refine iteT ⟨_, rfl, by show 2 ≤ sizeLine; decide, fun q hq => ?_⟩
              exact ks 2 i hsp.symm q _ (e15.trans (same_new hq)) upd_same
            · rw [decide_eq_false hui]
              rw [if_neg hui] at hsp
              refine iteF ?_
              refine ⟨_, rfl, .inl ⟨rfl, _, SqL.of hn5⟩, _, rfl, t, _, _, _, rfl, rfl, SqT.of (e5 _ _ g1), rfl, l, _, _, rfl, rfl, hn5, (by rw [List.length_map, sizeLine_eq]; omega), ?_⟩
              refine ⟨same_upd e15 hl, ns ++ [nm], _, _, rfl, ?_, by rw [List.length_append]; show ns.length + 1 ≤ i + 1; omega, hsp⟩
              rw [upd_same, List.map_append]
              rfl
    · rintro σ H3 ⟨e1, ns, a3, a4, rfl, hn, hnl, hsp⟩
      rw [List.length_map, htl, List.drop_length] at hsp
      exact kn hsp.symm _ e1
end
end SS
set_option maxRecDepth 100000
set_option maxHeartbeats 4000000
namespace SS
open PySem L2 SR TL
/-- the first problem of all -/
def dueAll (os : List (Option Pt)) : Option (Nat × Option Nat) :=
  if os.length < 1 ∨ 12 < os.length then some (3, none) else match os.findIdx? (fun o => o.isNone) with
    | some i => some (4, some i)
    | none => if 4 < ((os.filterMap id).filter isSl).length then some (5, none) else (sprL true [] 0 (os.filterMap id)).map fun z => (z.1, some z.2)
theorem els_all {L : Addr} {H : Hp} : ∀ {xs : List V} {os : List (Option Pt)}, Paired (ElA L H) xs os → os.findIdx? (fun o => o.isNone) = none → ∃ ts : List Addr, xs = ts.map .ref ∧ Paired (PtAt (LanT L) H) ts (os.filterMap id) ∧ ∀ p ∈ os.filterMap id, PtOkW p
  | _, _, .nil, _ => ⟨[], rfl, .nil, fun p hp => nomatch hp⟩
  | _, _, .cons (b := o) h r, hn => by
    have hn' := List.findIdx?_eq_none_iff.mp hn
    cases o with
    | none => exact absurd (hn' none List.mem_cons_self) (by decide)
    | some p =>
      obtain ⟨ts, e1, e2, e3⟩ := els_all r (List.findIdx?_eq_none_iff.mpr fun o ho => hn' o (List.mem_cons_of_mem _ ho))
      obtain ⟨t, rfl, h1, h2⟩ := h
      refine ⟨t :: ts, by rw [e1]; rfl, .cons h1 e2, fun q hq => ?_⟩
      rcases List.mem_cons.mp (show q ∈ p :: _ from hq) with rfl | hq
      · exact h2
      · exact e3 q hq
theorem sprL_lt : ∀ {ps : List Pt} {m : Bool} {ns : List (List Nat)} {i k j : Nat}, sprL m ns i ps = some (k, j) → j < i + ps.length
  | [], _, _, _, _, _, h => by cases h
  | p :: ps, m, ns, i, k, j, h => by
    unfold sprL at h
    rw [List.length_cons]
    split at h
    · split at h
      · cases h; omega
      · split at h
        · cases h; omega
        · split at h
          · cases h; omega
          · have := sprL_lt h; omega
    · have := sprL_lt h; omega
theorem all_len {os : List (Option Pt)} (hn : os.findIdx? (fun o => o.isNone) = none) : (os.filterMap id).length = os.length := by
  have hn' := List.findIdx?_eq_none_iff.mp hn
  clear hn
  induction os with
  | nil => rfl
  | cons o os ih =>
    cases o with
    | none => exact absurd (hn' none List.mem_cons_self) (by decide)
    | some p =>
      show (p :: os.filterMap id).length = _
      rw [List.length_cons, List.length_cons, ih fun o ho => hn' o (List.mem_cons_of_mem _ ho)]
section
variable {P : Program} {w : World} {K : PySem.W.Frag} {mg : Str → Option Value} {base : Heap}
def spRqpX (L U : Addr) : Sp := fun vs H Q E => ∃ v : V, vs = [v] ∧ ((∃ d, Ov H v d ∧ (isLstD d || isTupD d) = false ∧ outP U 3 none H E) ∨
  ∃ (a : Addr) (xs : List V) (os : List (Option Pt)), v = .ref a ∧ LoT H a xs ∧ Paired (ElA L H) xs os ∧ xs.length ≤ 100 ∧ (∀ k i, dueAll os = some (k, i) → outP U k i H E) ∧ (dueAll os = none → ∀ H', Same H H' → Q .non H'))
theorem ok_rqpX {f L U Z : Addr} {fd : FuncData} (F : Fun K "require_parts" "require_parts" sRqp f fd) (B : Bl mg) (S : Ipp P w K mg base U Z) (Cm' : Cm mg) (Is : Cal P w K mg base "is_slot" 1 psIsl (spIsl (LanT L))) (Fn : Cal P w K mg base "first_not_part" 6 psPts (spFnpX L)) (Sp' : Cal P w K mg base "slot_problem" 3 psPts (spSprX L)) : FnC P w K mg base (L2.CX P w) 7 f fd psPts (spRqpX L U) := by
  obtain ⟨tp, hp⟩ := Cm'.parts
  obtain ⟨ts', hs'⟩ := Cm'.slots
  obtain ⟨fI, fdI, iC, tI, FI, bI⟩ := S.ini
  refine okC F scRqp (fun vs H Q E h => ?_) (fun cdv A outer s H vs Q E hr hgd h => ?_)
  · obtain ⟨v, rfl, _⟩ := h
    rfl
  · obtain ⟨v, rfl, h⟩ := h
    have hr1 := hr.mono (by decide : 1 ≤ 6)
    have hr3 := hr.mono (by decide : 3 ≤ 6)
    refine ⟨_, pss_cons (ps_if (PW.pt (pw_or (pt_not (pt_val (pe_callB call_isiT (by rfl) B.isinstance (by decide +kernel) (pa_cons (pv 0) (pa_cons (pe_tup (pa_cons (pe_bltn (v := .ty "list") (by rfl) B.list (by decide +kernel) rfl) (pa_cons (pe_bltn (v := .ty "tuple") (by rfl) B.tuple (by decide +kernel) rfl) pa_nil))) pa_nil)))))
          (pw_or (pt_cmpR op_lt (pe_callB call_len_seq (by rfl) B.len boot_len (pa_cons (pv 0) pa_nil)) pe_int (nomark _)) (pw_or1 (pt_cmpR op_gt (pe_callB call_len_seq (by rfl) B.len boot_len (pa_cons (pv 0) pa_nil)) (pe_glob (v := .int 12) rfl hp ⟨tp, rfl⟩) (nomark _))))))
        (pss_one (ps_raise rfl (takes_of rfl rfl rfl rfl) (pmk_oexC baseV S.t.ox iC tI FI (hr.mono (by decide)) hgd bI pass0 (by rfl) S.t.mgD (pa_cons pe_str (pa_cons pe_non pa_nil))))) pss_nil)
      (pss_cons (ps_set (i := 1) scRqp.nd rfl (.inl rfl) (pe_cal Fn hr (pa_cons (pv 0) pa_nil)))
      (pss_cons (ps_if (pt_cmpR op_notN1 (pv 1) pe_non (nomark _)) (pss_one (ps_raise rfl (takes_of rfl rfl rfl rfl) (pmk_oexC baseV S.t.ox iC tI FI (hr.mono (by decide)) hgd bI pass0 (by rfl) S.t.mgD (pa_cons pe_str (pa_cons (pv 1) pa_nil))))) pss_nil)
      (pss_cons (ps_if (pt_cmpR op_gt (pe_callB call_len_seq (by rfl) B.len boot_len (pa_cons (pe_lc (own := [("part", 2)]) (g := gName 2) (tt := tB (tCall (spIsl (LanT L)) [] E0 (tCons (tVar 2) tNil))) (te := tVar 2) rfl scRqp.nd (pi_lot (pv 0)) (blkOk_by (by kernel_rfl)) (fun _ _ _ _ _ => pg_name (i := 2) scRqp.nd rfl (.inl rfl)) (fun _ _ _ _ _ => pts_one (pt_val (pe_cal Is hr1 (pa_cons (pv 2) pa_nil)))) (fun _ _ _ _ _ => pv 2)) pa_nil)) (pe_glob (v := .int 4) rfl hs' ⟨ts', rfl⟩) (nomark _)) (pss_one (ps_raise rfl (takes_of rfl rfl rfl rfl) (pmk_oexC baseV S.t.ox iC tI FI (hr.mono (by decide)) hgd bI pass0 (by rfl) S.t.mgD (pa_cons pe_str (pa_cons pe_non pa_nil))))) pss_nil)
      (pss_cons (ps_set (i := 3) scRqp.nd rfl (.inl rfl) (pe_cal Sp' hr3 (pa_cons (pv 0) pa_nil)))
      (pss_one (ps_if (pt_cmpR op_notN1 (pv 3) pe_non (nomark _)) (pss_one (ps_raise rfl (takes_of rfl rfl rfl rfl) (pmk_oexC baseV S.t.ox iC tI FI (hr.mono (by decide)) hgd bI pass0 (by rfl) S.t.mgD (pa_cons (pe_ix ix_tup (pv 3) pe_int (fun _ _ => rfl)) (pa_cons (pe_ix ix_tup (pv 3) pe_int (fun _ _ => rfl)) pa_nil))))) pss_nil)))))), ?_⟩
    refine ⟨_, rfl, (by show 2 ≤ sizeLine; decide), fun T hT' => ?_⟩
    have e0 : Same H (upd H T (.tup [.ty "list", .ty "tuple"])) := same_new hT'
    rcases h with ⟨d, ho, hj, out⟩ | ⟨a, xs, os, rfl, h1, h2, hl, kb, kg⟩
    · refine ⟨_, T, _, _, _, _, rfl, upd_same, .cons (.ty _) (.cons (.ty _) .nil), ov_ty (ho.mono e0), kit_LT d, _, rfl, ?_⟩
      rw [hj]
      exact iteT (iteT (pp_bad (k := 3) (p := none) (fun i z => nomatch z) (out.mono e0) fun R h => h))
    · obtain ⟨tt, ty, kt⟩ := isi_LT (K := K) (h1.mono e0)
      refine ⟨_, T, _, tt, _, true, rfl, upd_same, .cons (.ty _) (.cons (.ty _) .nil), ty, kt, true, rfl, ?_⟩
      have hsq : SqL K _ a xs ∨ SqT K _ a xs := (h1.mono e0).seq
      have hol : xs.length = os.length := Paired.length h2
      refine iteF ⟨_, rfl, a, _, rfl, hsq, _, _, rfl, rfl, _, rfl, ?_⟩
      by_cases hlo : os.length < 1 ∨ 12 < os.length
      · have hd : dueAll os = some (3, none) := by unfold dueAll; rw [if_pos hlo]
        have bad : ∀ (H' : Hp) (σ : L2.St), Same H H' → (tMkO U (spIpp U) [] (tCons (tC (.str (Str.ofString "parts"))) (tCons (tC .non) tNil))) σ H' fun cls d H'' => E cls d H'' := fun H' σ e => pp_bad (k := 3) (p := none) (fun i z => nomatch z) ((kb _ _ hd).mono e) fun R h => h
        by_cases h0 : os.length < 1
        · rw [show decide (((xs.length : Nat) : Int) < 1) = true from decide_eq_true (by omega)]
          exact iteT (iteT (bad _ _ e0))
        · rw [show decide (((xs.length : Nat) : Int) < 1) = false from decide_eq_false (by omega)]
          refine iteF ⟨_, rfl, a, _, rfl, hsq, _, _, rfl, rfl, _, rfl, ?_⟩
          rw [show decide ((12 : Int) < ((xs.length : Nat) : Int)) = true from decide_eq_true (by omega)]
          exact iteT (bad _ _ e0)
      · rw [show decide (((xs.length : Nat) : Int) < 1) = false from decide_eq_false (by omega)]
        refine iteF ⟨_, rfl, a, _, rfl, hsq, _, _, rfl, rfl, _, rfl, ?_⟩
        rw [show decide ((12 : Int) < ((xs.length : Nat) : Int)) = false from decide_eq_false (by omega)]
        refine iteF ⟨_, rfl, a, xs, os, rfl, h1.mono e0, Paired.mono h2 fun _ _ g => g.mono e0, by omega, fun H1 e1 => ?_⟩
        have e01 := e0.trans e1
        cases hf : os.findIdx? (fun o => o.isNone) with
        | some i =>
          have hi : i < os.length := (List.findIdx?_eq_some_iff_getElem.mp hf).1
          have hd : dueAll os = some (4, some i) := by unfold dueAll; rw [if_neg hlo, hf]
          refine ⟨_, rfl, rfl, _, rfl, iteT ?_⟩
          exact pp_bad (k := 4) (p := some i) (fun j z => by cases z; omega) ((kb _ _ hd).mono e01) fun R h => ⟨_, rfl, h⟩
        | none =>
          obtain ⟨ts, rfl, hts, hok⟩ := els_all h2 hf
          have hlen := all_len hf
          obtain ⟨ps, hps⟩ : ∃ ps, ps = os.filterMap id := ⟨_, rfl⟩
          rw [← hps] at hts hok hlen
          have htl : ts.length = ps.length := Paired.length hts
          refine ⟨_, rfl, rfl, _, rfl, iteF ?_⟩
          refine ⟨_, rfl, a, _, rfl, h1.mono e01, fun J G' wk hG D hD => lc_S wk hD (by rw [List.length_map]; omega) (fun i acc _ => acc.length = ((ps.take i).filter isSl).length) (fun _ _ _ _ _ _ _ h => h) rfl (fun H' e' => hG H' e') ?_ ?_⟩
          · rintro i v H2 H2' acc Qt Qf hi e2 hd hacc ⟨rfl, hv⟩ kt kf
            rw [List.getElem?_map] at hv
            obtain ⟨t, ht, rfl⟩ := Option.map_eq_some_iff.mp hv
            obtain ⟨p, hp, hpt⟩ := paired_getL _ hts ht
            have hcut : ((ps.take (i + 1)).filter isSl).length = ((ps.take i).filter isSl).length + (if isSl p = true then 1 else 0) := by
              rw [List.take_add_one, hp, List.filter_append, List.length_append]
              show _ + (List.filter isSl [p]).length = _
              cases hs : isSl p with
              | true => rw [List.filter_cons_of_pos hs]; rfl
              | false => rw [List.filter_cons_of_neg (by rw [hs]; decide)]; rfl
            refine ⟨rfl, _, rfl, t, p, rfl, hpt.mono (lanM L) (e01.trans e2), _, rfl, ?_⟩
            cases hs : isSl p with
            | true =>
              refine iteT ⟨_, rfl, kt _ _ (Same.refl _) ?_⟩
              rw [hcut, hs, List.length_append, hacc]
              rfl
            | false =>
              refine iteF (kf _ (Same.refl _) ?_)
              rw [hcut, hs, hacc]
              rfl
          · rintro H2 acc e2 hd hacc
            rw [List.length_map, htl, List.take_length] at hacc
            refine ⟨D, _, rfl, .inl (SqL.of hd), _, _, rfl, rfl, _, rfl, ?_⟩
            have e02 := e01.trans e2
            have hd4 : dueAll os = if 4 < (ps.filter isSl).length then some (5, none) else (sprL true [] 0 ps).map fun z => (z.1, some z.2) := by unfold dueAll; rw [if_neg hlo, hf, hps]
            by_cases h4 : 4 < (ps.filter isSl).length
            · rw [if_pos h4] at hd4
              rw [show decide ((4 : Int) < ((acc.length : Nat) : Int)) = true from decide_eq_true (by omega)]
              exact iteT (pp_bad (k := 5) (p := none) (fun i z => nomatch z) ((kb _ _ hd4).mono e02) fun R h => h)
            · rw [if_neg h4] at hd4
              rw [show decide ((4 : Int) < ((acc.length : Nat) : Int)) = false from decide_eq_false (by omega)]
              refine iteF ⟨_, rfl, a, ps, rfl, ⟨ts, h1.mono e02, Paired.mono hts fun _ _ g => g.mono (lanM L) e02⟩, by omega, hok, fun hn H3 e3 => ?_, fun kk i hs q H3 e3 hq => ?_⟩
              · rw [hn] at hd4
                exact ⟨_, rfl, rfl, _, rfl, iteF (kg hd4 _ (e02.trans e3))⟩
              · rw [hs] at hd4
                refine ⟨_, rfl, rfl, _, rfl, iteT ?_⟩
                refine pp_bad (k := kk) (p := some i) (fun j z => by cases z; have := sprL_lt hs; omega) ((kb _ _ hd4).mono (e02.trans e3)) fun R h => ?_
                exact ⟨_, rfl, q, _, 0, _, rfl, rfl, SqT.of hq, rfl, _, rfl, q, _, 1, _, rfl, rfl, SqT.of hq, rfl, h⟩
def spTinX (L U D : Addr) : Sp := fun vs H Q E => ∃ (g dx x : Addr) (v : V), vs = [.ref g, .ref x, v] ∧ H g = some (.ins D dx []) ∧ ((∃ d, Ov H v d ∧ (isLstD d || isTupD d) = false ∧ outP U 3 none H E) ∨
  ∃ (a : Addr) (xs : List V) (os : List (Option Pt)), v = .ref a ∧ LoT H a xs ∧ Paired (ElA L H) xs os ∧ xs.length ≤ 100 ∧ (∀ k i, dueAll os = some (k, i) → outP U k i H E) ∧
    (dueAll os = none → ∀ (ts : List Addr) H', xs = ts.map .ref → (∀ H'' : Hp, (∀ b o, (H b = none ∨ b = g) → H' b = some o → H'' b = some o) → TmpF D H'' g x ts) → SameB g H H' → Q .non H'))
theorem ok_tinX {f L U D : Addr} {fd : FuncData} (F : Fun K "__init__" "Template.__init__" sTin f fd) (B : Bl mg) (T : TTx K mg D) (Rp : CalC P w K mg base "require_parts" 7 psPts (spRqpX L U)) : FnC P w K mg base (L2.CX P w) 8 f fd psTin (spTinX L U D) := by
  refine okC F scTin (fun vs H Q E h => ?_) (fun cdv A outer s H vs Q E hr hgd h => ?_)
  · obtain ⟨g, dx, x, v, rfl, _⟩ := h
    rfl
  · obtain ⟨g, dx, x, v, rfl, hx, h⟩ := h
    refine ⟨_, pss_cons (ps_expr (pe_calC (E := E) Rp hr hgd (passes_call (takes_of rfl rfl rfl rfl) (fun _ _ _ _ h => h)) (pa_cons (pv 2) pa_nil)))
      (pss_cons (ps_fld (pv 0) (pv 1) rfl)
      (pss_one (ps_fld (pv 0) (pe_callTy call_list_of (by rfl) B.list (by decide +kernel) (pa_cons (pv 2) pa_nil)) rfl))), ?_⟩
    rcases h with ⟨d, ho, hj, out⟩ | ⟨a, xs, os, rfl, h1, h2, hl, kb, kg⟩
    · exact ⟨_, rfl, v, rfl, .inl ⟨d, ho, hj, out⟩⟩
    · refine ⟨_, rfl, _, rfl, .inr ⟨a, xs, os, rfl, h1, h2, hl, kb, fun hd H1 e1 => ?_⟩⟩
      have hf : os.findIdx? (fun o => o.isNone) = none := by
        cases hf : os.findIdx? (fun o => o.isNone) with
        | none => rfl
        | some i =>
          unfold dueAll at hd
          rw [hf] at hd
          split at hd <;> cases hd
      obtain ⟨ts, rfl, hts, hok⟩ := els_all h2 hf
      have hx1 := e1 _ _ hx
      refine ⟨_, rfl, _, rfl, g, D, dx, _, rfl, hx1, T.cl, T.nR, (by show 0 < 1000; decide), ?_⟩
      have b2 : SameB g H (upd H1 g (.ins D dx (putF "own_reader" (.ref x) []))) := (Same.b e1).trans SameB.upd
      have hx2 : (upd H1 g (.ins D dx (putF "own_reader" (.ref x) []))) g = _ := upd_same
      generalize (upd H1 g (.ins D dx (putF "own_reader" (.ref x) []))) = H2 at b2 hx2 ⊢
      have ha2 : LoT H2 a (ts.map .ref) := h1.imp (fun z => b2 _ _ (ne_of z hx (by intro z; cases z)) z) (fun z => b2 _ _ (ne_of z hx (by intro z; cases z)) z)
      refine ⟨_, rfl, a, _, rfl, ha2.seq, fun pt hpt => ?_⟩
      have e3 : Same H2 (upd H2 pt (.lst (ts.map .ref))) := same_new hpt
      have h3 : (upd H2 pt (.lst (ts.map .ref))) pt = some (.lst (ts.map .ref)) := upd_same
      generalize (upd H2 pt (.lst (ts.map .ref))) = H3 at e3 h3 ⊢
      have hx3 := e3 _ _ hx2
      refine ⟨_, rfl, g, D, dx, _, rfl, hx3, T.cl, T.nP, (by show 1 < 1000; decide), ?_⟩
      have ng : pt ≠ g := ne_of h3 hx3 (by intro z; cases z)
      have nH : H pt = none := freeB b2 ng hpt
      refine kg hd ts _ rfl (fun H'' ext => ⟨dx, pt, _, ext _ _ (.inr rfl) upd_same, ?_, lk_eq, fun n n1 n2 => by rw [lk_ne n2, lk_ne n1]; rfl, ext _ _ (.inl nH) (by rw [upd_ne ng]; exact h3)⟩) ((b2.trans (Same.b e3)).trans SameB.upd)
      rw [lk_ne (by decide +kernel), lk_eq]
end
end SS
set_option maxRecDepth 100000
set_option maxHeartbeats 4000000
namespace SS
open PySem L2 SR TL
def eMQ : Nat → List Int
  | 0 => [] | 1 => [0] | 2 => [1] | _ => [0, 1]
theorem wfQ (m : Nat) : SG.WfM [97, 98] rowsQ (eMQ m) := by
  refine ⟨by decide, by decide, ?_, ?_, ?_⟩
  · decide
  · unfold eMQ; split <;> decide
  · unfold eMQ; split <;> decide
section
variable {P : Program} {w : World} {K : PySem.W.Frag} {mg : Str → Option Value} {base : Heap}
abbrev nLlg : List Str := ["_law_many", "_law_rows", "_law_letter"]
abbrev psLlg : List Str := ["_law_many"]
theorem scLlg : FnScope nLlg psLlg (defScope sLlg) := ⟨rfl, rfl, rfl, by decide +kernel, rfl, by decide +kernel, by decide +kernel⟩
def spLlg (L : Addr) : Sp := fun vs H Q _ => ∃ m : Nat, vs = [.int (m : Nat)] ∧ m ≤ 3 ∧ ∀ (y : Addr) (H' : Hp), Same H H' → LanT L H' y [97, 98] rowsQ (eMQ m) → Q (.ref y) H'
theorem ok_llg {f L : Addr} {fd : FuncData} (F : Fun K "_law_language" "_law_language" sLlg f fd) (B : Bl mg) (TL : SG.LTx K mg L) (M : ∃ f fd, L2.Mk K L f ∧ FnOk P w K mg base CX0 4 f fd SG.psI (SG.spInit L) ∧ Binds K fd SG.psI []) : FnOk P w K mg base CX0 6 f fd psLlg (spLlg L) := by
  obtain ⟨fL, dL, ML, GL, bL⟩ := M
  refine F.ok scLlg (fun vs H Q E h => ?_) (fun cdv A outer s H vs Q E hr h => ?_)
  · obtain ⟨m, rfl, _⟩ := h
    rfl
  · obtain ⟨m, rfl, hm, k⟩ := h
    refine ⟨_, pss_cons (ps_set (i := 1) scLlg.nd rfl (.inl rfl) (pe_lst (pa_cons (pe_callTy (call_dictP rfl) (by rfl) B.dict (by decide +kernel) (pa_cons (pe_lc (own := [("_law_letter", 2)]) (g := gName 2) (tt := tYes) (te := tTup (tCons (tVar 2) (tCons (tC (.int 1)) tNil))) rfl scLlg.nd (pi_str pe_str) (blkOk_by (by kernel_rfl)) (fun _ _ _ _ _ => pg_name (i := 2) scLlg.nd rfl (.inl rfl)) (fun _ _ _ _ _ => pts_nil) (fun _ _ _ _ _ => pe_tup (pa_cons (pv 2) (pa_cons pe_int pa_nil)))) pa_nil)) (pa_cons (pe_callTy (call_dictP rfl) (by rfl) B.dict (by decide +kernel) (pa_cons (pe_lc (own := [("_law_letter", 2)]) (g := gName 2) (tt := tYes) (te := tTup (tCons (tVar 2) (tCons (tC (.int 0)) tNil))) rfl scLlg.nd (pi_str pe_str) (blkOk_by (by kernel_rfl)) (fun _ _ _ _ _ => pg_name (i := 2) scLlg.nd rfl (.inl rfl)) (fun _ _ _ _ _ => pts_nil) (fun _ _ _ _ _ => pe_tup (pa_cons (pv 2) (pa_cons pe_int pa_nil)))) pa_nil)) pa_nil))))
      (pss_one (ps_ret (pe_make ML GL hr (by rfl) TL.mgC bL .nil pass0 (pa_cons pe_str (pa_cons (pv 1) (pa_cons (pe_ix ix_list (pe_lst (pa_cons (pe_lst pa_nil) (pa_cons (pe_lst (pa_cons pe_int pa_nil)) (pa_cons (pe_lst (pa_cons pe_int pa_nil)) (pa_cons (pe_lst (pa_cons pe_int (pa_cons pe_int pa_nil))) pa_nil))))) (pv 0) (fun _ _ => rfl)) pa_nil)))))), ?_⟩
    have nd : ([97, 98] : List Nat).Nodup := by decide
    have hlr1 : (List.replicate 2 (1 : Int)).length = ([97, 98] : List Nat).length := rfl
    have hlr0 : (List.replicate 2 (0 : Int)).length = ([97, 98] : List Nat).length := rfl
    refine ⟨_, rfl, fun D1 hD1 => SG.row_lc1 (cs := [97, 98]) (g := 1) hD1 (fun _ => rfl) (by decide) (fun i c H2 Qt hc e2 kt => ⟨_, rfl, (by show 2 ≤ sizeLine; decide), fun T hT => kt _ T (same_new hT) upd_same⟩) (fun H2 ts2 e2 hD2 hp2 => ?_)⟩
    refine ⟨_, ts2, SG.rowK [97, 98] (List.replicate 2 1), rfl, SqL.of hD2, SG.pairs_of_row hp2, fun q1 hq1 => ?_⟩
    rw [mergeK_nil (SG.rowK_nodup hlr1 nd)]
    have e3 := same_new (o := .dK (SG.rowK [97, 98] (List.replicate 2 1))) hq1
    have h3 := upd_same (H := H2) (a := q1) (o := .dK (SG.rowK [97, 98] (List.replicate 2 1)))
    generalize (upd H2 q1 (.dK (SG.rowK [97, 98] (List.replicate 2 1)))) = H3 at e3 h3 ⊢
    refine ⟨_, rfl, fun D2 hD2' => SG.row_lc1 (cs := [97, 98]) (g := 0) hD2' (fun _ => rfl) (by decide) (fun i c H4 Qt hc e4 kt => ⟨_, rfl, (by show 2 ≤ sizeLine; decide), fun T hT => kt _ T (same_new hT) upd_same⟩) (fun H4 ts4 e4 hD4 hp4 => ?_)⟩
    refine ⟨_, ts4, SG.rowK [97, 98] (List.replicate 2 0), rfl, SqL.of hD4, SG.pairs_of_row hp4, fun q2 hq2 => ?_⟩
    rw [mergeK_nil (SG.rowK_nodup hlr0 nd)]
    have e5 := same_new (o := .dK (SG.rowK [97, 98] (List.replicate 2 0))) hq2
    have h5 := upd_same (H := H4) (a := q2) (o := .dK (SG.rowK [97, 98] (List.replicate 2 0)))
    generalize (upd H4 q2 (.dK (SG.rowK [97, 98] (List.replicate 2 0)))) = H5 at e5 h5 ⊢
    refine ⟨by show 2 ≤ sizeLine; decide, fun rr hrr => ?_⟩
    have e6 := same_new (o := .lst [.ref q1, .ref q2]) hrr
    have h6 := upd_same (H := H5) (a := rr) (o := .lst [.ref q1, .ref q2])
    generalize (upd H5 rr (.lst [.ref q1, .ref q2])) = H6 at e6 h6 ⊢
    have e36 := (e4.trans e5).trans e6
    have e06 := (e2.trans e3).trans e36
    have h36 := e36 _ _ h3
    have h56 := e6 _ _ h5
    refine ⟨_, rfl, by show 0 ≤ sizeLine; decide, fun a0 n0 => ⟨by show 1 ≤ sizeLine; decide, fun a1 n1 => ⟨by show 1 ≤ sizeLine; decide, fun a2 n2 => ⟨by show 2 ≤ sizeLine; decide, fun a3 n3 => ⟨by show 4 ≤ sizeLine; decide, fun a4 n4 => ?_⟩⟩⟩⟩⟩
    have s0 := same_new (o := .lst []) n0
    have s1 := same_new (o := .lst [.int 0]) n1
    have s2 := same_new (o := .lst [.int 1]) n2
    have s3 := same_new (o := .lst [.int 0, .int 1]) n3
    have s4 := same_new (o := .lst [.ref a0, .ref a1, .ref a2, .ref a3]) n4
    have x0 := s4 _ _ (s3 _ _ (s2 _ _ (s1 _ _ (upd_same (H := H6) (a := a0) (o := .lst [])))))
    have x1 := s4 _ _ (s3 _ _ (s2 _ _ (upd_same (a := a1) (o := .lst [V.int 0]))))
    have x2 := s4 _ _ (s3 _ _ (upd_same (a := a2) (o := .lst [V.int 1])))
    have x3 := s4 _ _ (upd_same (a := a3) (o := .lst [V.int 0, .int 1]))
    have e67 := s0.trans (s1.trans (s2.trans (s3.trans s4)))
    have e07 := e06.trans e67
    have pick : ∃ a : Addr, atI [V.ref a0, .ref a1, .ref a2, .ref a3] (m : Nat) = some (.ref a) ∧ (upd (upd (upd (upd (upd H6 a0 (.lst [])) a1 (.lst [.int 0])) a2 (.lst [.int 1])) a3 (.lst [.int 0, .int 1])) a4 (.lst [.ref a0, .ref a1, .ref a2, .ref a3])) a = some (.lst ((eMQ m).map .int)) := by
      rcases (show m = 0 ∨ m = 1 ∨ m = 2 ∨ m = 3 by omega) with rfl | rfl | rfl | rfl
      · exact ⟨a0, rfl, x0⟩
      · exact ⟨a1, rfl, x1⟩
      · exact ⟨a2, rfl, x2⟩
      · exact ⟨a3, rfl, x3⟩
    obtain ⟨ae, hae, hle⟩ := pick
    refine ⟨_, rfl, a4, _, _, _, rfl, rfl, SqL.of upd_same, hae, ?_⟩
    intro y dx hy hdx ne
    refine lang_mk (rows := rowsQ) (ends := eMQ m) (a := rr) (e := ae) hy hdx ⟨by decide, by decide, by decide, by decide⟩ (wfQ m) (by decide) ⟨⟨[q1, q2], .inl (e67 _ _ h6), .cons (e67 _ _ h36) (.cons (e67 _ _ h56) .nil)⟩, .inl hle⟩ fun H8 hL e8 => k y H8 (e07.trans e8) hL
end
end SS
set_option maxRecDepth 100000
set_option maxHeartbeats 4000000
namespace SR
open PySem PySem.Spec PyProof.Rows L2 SS
def rMulS : R2 := fun x y H Q => ∃ (c n : Nat), x = .str (lt c) ∧ y = .int (n : Int) ∧ 1 ≤ n ∧ n ≤ 100 ∧ Q (.str (txt (List.replicate n c))) H
theorem fold_reps (c : Nat) : ∀ (n : Nat) (acc : List Nat), (List.replicate n (lt c).cps).foldl (· ++ ·) acc.toArray = (acc ++ List.replicate n c).toArray
  | 0, acc => by simp
  | n + 1, acc => by
    rw [List.replicate_succ, List.foldl_cons, List.replicate_succ]
    have e : acc.toArray ++ (lt c).cps = (acc ++ [c]).toArray := by simp [lt]
    rw [e, fold_reps c n]
    simp
theorem op_mulS {X : Cx} : OpR X (binaryOp .Mult) rMulS := by
  intro pins s σ H x y v u Q I rx ry h
  obtain ⟨c, n, rfl, rfl, n1, n2, q⟩ := h
  obtain ⟨t, rfl⟩ := rx
  obtain ⟨t', rfl⟩ := ry
  have hl1 : (lt c).length = 1 := rfl
  refine P.mul_str (by rw [decide_eq_false (by omega), decide_eq_false (by omega)]; rfl) (fun _ _ => ?_) (fun _ _ => ?_) ?_
  · rw [hl1]
    have : (1 : Int) ≤ (2 ^ 63 - 1) / (n : Int) := Int.le_ediv_of_mul_le (by omega) (by omega)
    show ¬ ((1 : Nat) : Int) > _
    omega
  · rw [hl1]
    unfold Builtin.Str.tooLong
    rw [sizeLine_eq]
    exact decide_eq_false (by omega)
  · rw [if_neg (by omega)]
    by_cases h1 : n = 1
    · subst h1
      rw [if_pos (by rfl)]
      exact ⟨.str (lt c), H, I, ⟨_, rfl⟩, q⟩
    · rw [if_neg (by rw [hl1]; simp; omega)]
      have e : (List.replicate ((n : Int)).toNat (lt c).cps).foldl (· ++ ·) #[] = (List.replicate n c).toArray := by
        rw [Int.toNat_natCast]
        exact (fold_reps c n []).trans (by simp)
      rw [e]
      refine ⟨?_, .str (txt (List.replicate n c)), H, I.tok _, ⟨_, rfl⟩, q⟩
      show (List.replicate n c).toArray.size ≤ sizeLine
      rw [List.size_toArray, List.length_replicate, sizeLine_eq]
      omega
end SR
namespace SS
open PySem L2 SR TL
def KeepF (H0 H H' : Hp) : Prop := ∀ b o, (H0 b = none ∨ ∀ xs, o ≠ HO.lst xs) → H b = some o → H' b = some o
theorem KeepF.refl (H0 H : Hp) : KeepF H0 H H := fun _ _ _ h => h
theorem KeepF.nl {H0 H H' : Hp} (h : KeepF H0 H H') : ∀ b o, H b = some o → (∀ xs, o ≠ HO.lst xs) → H' b = some o := fun b o hb n => h b o (.inr n) hb
theorem KeepF.ext {H0 H H' : Hp} (h : KeepF H0 H H') : Ext H0 H H' := fun b o n hb => h b o (n.imp id fun ⟨xs, e⟩ => by rw [e]; exact nofun) hb
theorem KeepF.same {H0 H H1 H' : Hp} (e : Same H H1) (h : KeepF H0 H1 H') : KeepF H0 H H' := fun b o n hb => h b o n (e _ _ hb)
theorem KeepF.older {H0 H1 H H' : Hp} (e : Same H0 H1) (h : KeepF H0 H H') : KeepF H1 H H' := fun b o n hb => h b o (n.imp (fun z => e.free z) id) hb
def FrE (L : Addr) (H0 H : Hp) (v : V) : Prop := ∀ H', KeepF H0 H H' → OddE L H' v
theorem FrE.mono {L : Addr} {H0 H H' : Hp} {v : V} (e : Same H H') (h : FrE L H0 H v) : FrE L H0 H' v := fun H'' kf => h H'' (kf.same e)
theorem FrE.now {L : Addr} {H0 H : Hp} {v : V} (h : FrE L H0 H v) : OddE L H v := h H (KeepF.refl _ _)
theorem FrE.keep {L : Addr} {H0 H H' : Hp} {v : V} (x : KeepF H0 H H') (h : FrE L H0 H v) : FrE L H0 H' v := fun H'' kf => h H'' fun b o n hb => kf b o n (x b o n hb)
def NwE (L : Addr) (H0 : Hp) (σ : L2.St) (t : TE) : Prop := ∀ (H : Hp) (Q : VK), Same H0 H → (∀ v H', Same H H' → FrE L H0 H' v → Q v H') → t σ H Q
def NwEs (L : Addr) (H0 : Hp) (σ : L2.St) (n : Nat) (ta : TA) : Prop := ∀ (H : Hp) (Q : List V → Hp → Prop), Same H0 H → (∀ vs H', Same H H' → vs.length = n → (∀ v ∈ vs, FrE L H0 H' v) → Q vs H') → ta σ H Q
section
variable {L : Addr} {H0 : Hp} {σ : L2.St} {t : TE} {ta : TA} {n : Nat} {K : PySem.W.Frag}
theorem neNil : NwEs L H0 σ 0 tNil := fun H Q e0 k => k [] H (Same.refl _) rfl fun v hv => nomatch hv
theorem neCons (h : NwE L H0 σ t) (hr : NwEs L H0 σ n ta) : NwEs L H0 σ (n + 1) (tCons t ta) := fun H Q e0 k => h H _ e0 fun v H1 e1 ho => hr H1 _ (e0.trans e1) fun vs H2 e2 hl hs => k (v :: vs) H2 (e1.trans e2) (by rw [List.length_cons, hl]) fun x hx => by
  rcases List.mem_cons.mp hx with rfl | hx
  · exact ho.mono e2
  · exact hs x hx
theorem neD {d : PyData} (h : ∀ H0, NwO H0 σ t d) (hd : (bnd 3 d && (nb3 d && !isPrtD d)) = true) : NwE L H0 σ t := fun H Q e0 k => h H0 H Q e0 fun v H' e ho => by
  rw [Bool.and_eq_true, Bool.and_eq_true, Bool.not_eq_true'] at hd
  exact k v H' e fun H'' kf => .inl ⟨d, ho H'' kf.ext, hd.1, hd.2.1, hd.2.2⟩
theorem mkMul9 {H0 : Hp} : NwV H0 σ (tOp rMulS (tC (.str (Str.ofString "a"))) (tC (.int 9))) (.str (txt (List.replicate 9 97))) := fun H Q e k => ⟨97, 9, rfl, rfl, by decide, by decide, k _ H (Same.refl _) (.str _)⟩
theorem kd_rep {H0 H : Hp} {v : V} {d : PyData} (h : Kd H0 H v d) : ∀ m : Nat, KdAll H0 H (List.replicate m [v]).flatten (List.replicate m d)
  | 0 => .nil
  | m + 1 => .cons h (kd_rep h m)
theorem mkRepT {H0 : Hp} {m : Nat} {d : PyData} (h : NwV H0 σ t d) (h2 : 2 ≤ m := by decide) (hm : m ≤ 100 := by decide) : NwV H0 σ (tOp (rRepT K) (tTup (tCons t tNil)) (tC (.int (m : Nat)))) (.tuple (List.replicate m d)) := fun H Q e0 k => h H _ e0 fun v H1 e1 kv => ⟨by show 1 ≤ sizeLine; decide, fun p hp => by
  have e2 := same_new (o := .tup [v]) hp
  refine ⟨p, (m : Nat), _, rfl, rfl, SqT.of upd_same, nofun, by omega, by omega, by show 1 ≤ 1000; decide, fun q hq => ?_⟩
  have e3 := same_new (o := .tup (List.replicate ((m : Nat) : Int).toNat [v]).flatten) hq
  rw [Int.toNat_natCast] at e3 ⊢
  exact k _ _ (e1.trans (e2.trans e3)) (.tup upd_same ((kd_rep kv m).mono (e2.trans e3)))⟩
theorem neL {m : Nat} {k : Str} {dx : PyData} (hm : m ≤ 3) (hx : ∀ H0, NwV H0 σ t dx) (hc : (decide (lenD dx ≤ 1000) && !(decide (k = sSlt) && isNamD dx)) = true) : NwE L H0 σ (tTup (tCons (tC (.str k)) (tCons t (tCons (tCall (spLlg L) [] E0 (tCons (tC (.int (m : Nat))) tNil)) tNil)))) := fun H Q e0 kk => by
  rw [Bool.and_eq_true, decide_eq_true_iff, Bool.not_eq_true'] at hc
  refine hx H0 H _ e0 fun v H1 e1 kv => ⟨m, rfl, hm, fun y H2 e2 hL => ⟨by show 3 ≤ sizeLine; decide, fun p hp => ?_⟩⟩
  have e3 := same_new (o := .tup [.str k, v, .ref y]) hp
  exact kk _ _ (e1.trans (e2.trans e3)) fun H'' kf => .inr (.inl ⟨p, y, k, v, dx, _, _, _, rfl, kf.nl _ _ upd_same nofun, LangAt_nl kf.nl (lanM L _ _ _ _ _ _ e3 hL), .inl (((kv.mono e2).mono e3) H'' kf.ext), hc.1, hc.2⟩)
theorem neL4 {m : Nat} {k x : Str} (hm : m ≤ 3) : NwE L H0 σ (tTup (tCons (tC (.str k)) (tCons (tC (.str x)) (tCons (tCall (spLlg L) [] E0 (tCons (tC (.int (m : Nat))) tNil)) (tCons (tC .non) tNil))))) := fun H Q e0 kk => by
  refine ⟨m, rfl, hm, fun y H2 e2 hL => ⟨by show 4 ≤ sizeLine; decide, fun p hp => ?_⟩⟩
  exact kk _ _ (e2.trans (same_new hp)) fun H'' kf => .inr (.inr ⟨p, _, rfl, kf.nl _ _ upd_same nofun, rfl⟩)
theorem neLA {m : Nat} {k x : Str} {H : Hp} {Q : VK} (hm : m ≤ 3) (hc : (decide (lenD (.str x) ≤ 1000) && !(decide (k = sSlt) && isNamD (.str x))) = true) (kk : ∀ v H', Same H H' → (∀ H'', (∀ b o, H' b = some o → (∀ xs, o ≠ HO.lst xs) → H'' b = some o) → OddE L H'' v) → Q v H') :
    tTup (tCons (tC (.str k)) (tCons (tC (.str x)) (tCons (tCall (spLlg L) [] E0 (tCons (tC (.int (m : Nat))) tNil)) tNil))) σ H Q := by
  rw [Bool.and_eq_true, decide_eq_true_iff, Bool.not_eq_true'] at hc
  refine ⟨m, rfl, hm, fun y H2 e2 hL => ⟨by show 3 ≤ sizeLine; decide, fun p hp => ?_⟩⟩
  have e3 := same_new (o := .tup [.str k, .str x, .ref y]) hp
  exact kk _ _ (e2.trans e3) fun H'' nl => .inr (.inl ⟨p, y, k, .str x, .str x, _, _, _, rfl, nl _ _ upd_same nofun, LangAt_nl nl (lanM L _ _ _ _ _ _ e3 hL), .inl (.str _), hc.1, hc.2⟩)
theorem lst_step {i : Nat} {D : Ends} {tr : TS} {H : Hp} (ez : Same H0 H) (hn : NwEs L H0 σ n ta) (hl : n ≤ 1000) (k : ∀ q ys H', Same H H' → H' q = some (.lst ys) → ys.length = n → (∀ v ∈ ys, FrE L H0 H' v) → tr D (σ.set i (some (.ref q))) H') : tSeq (tAsg (tLst ta) (gName i)) tr D σ H := by
  refine hn H _ ez fun vs H1 e1 hl1 ho => ⟨by rw [hl1, sizeLine_eq]; omega, fun p hp => ?_⟩
  have e2 := same_new (o := .lst vs) hp
  exact k p vs _ (e1.trans e2) upd_same hl1 fun v hv => (ho v hv).mono e2
theorem cat_ok {i p : Nat} {H : Hp} {xs : List V} {Q : VK} (ez : Same H0 H) (hn : NwEs L H0 σ n ta) (hi : σ[i]? = some (some (.ref p))) (hp : H p = some (.lst xs)) (hx : ∀ v ∈ xs, FrE L H0 H v) (hl : xs.length + n ≤ 1000)
    (k : ∀ q ys H', Same H H' → H q = none → H' q = some (.lst ys) → ys.length = xs.length + n → (∀ H'', Same H H'' → (∀ b o, H' b = some o → b ≠ q → H'' b = some o) → ∀ v ∈ ys, FrE L H0 H'' v) → Q (.ref q) H') : tOp rCat (tVar i) (tLst ta) σ H Q := by
  refine ⟨_, hi, hn H _ ez fun vs H1 e1 hl1 ho => ⟨by rw [hl1, sizeLine_eq]; omega, fun q hq => ?_⟩⟩
  have e2 := same_new (o := .lst vs) hq
  refine ⟨p, q, xs, vs, rfl, rfl, (e1.trans e2) _ _ hp, upd_same, by rw [hl1, sizeLine_eq]; omega, fun z hz => ?_⟩
  have e3 := same_new (o := .lst (xs ++ vs)) hz
  refine k z (xs ++ vs) _ (e1.trans (e2.trans e3)) ((e1.trans e2).free hz) upd_same (by rw [List.length_append, hl1]) fun H'' s1 s2 v hv => ?_
  rcases List.mem_append.mp hv with h | h
  · exact (hx v h).mono s1
  · exact (ho v h).mono fun b o hb => s2 b o (e3 _ _ (e2 _ _ hb)) (ne_of_none (e2 _ _ hb) hz)
theorem cat_step {i p : Nat} {D : Ends} {tr : TS} {H : Hp} {xs : List V} (ez : Same H0 H) (hn : NwEs L H0 σ n ta) (hi : σ[i]? = some (some (.ref p))) (hp : H p = some (.lst xs)) (hx : ∀ v ∈ xs, FrE L H0 H v) (hl : xs.length + n ≤ 1000)
    (k : ∀ q ys H', Same H H' → H' q = some (.lst ys) → ys.length = xs.length + n → (∀ v ∈ ys, FrE L H0 H' v) → tr D (σ.set i (some (.ref q))) H') : tSeq (tAsg (tOp rCat (tVar i) (tLst ta)) (gName i)) tr D σ H :=
  cat_ok ez hn hi hp hx hl fun q ys H' e _ h hl' ho => k q ys H' e h hl' (ho H' e fun b o hb _ => hb)
end
section
variable {P : Program} {w : World} {K : PySem.W.Frag} {mg : Str → Option Value} {base : Heap}
abbrev nLod : List Str := ["_law_rng_here", "_law_some"]
abbrev psLod : List Str := ["_law_rng_here"]
theorem scLod : FnScope nLod psLod (defScope sLod) := ⟨rfl, rfl, rfl, by decide +kernel, rfl, by decide +kernel, by decide +kernel⟩
def spLod (L : Addr) : Sp := fun vs H Q _ => ∃ r : Addr, vs = [.ref r] ∧ H r = some (rngO r) ∧ ∀ (v : V) (H' : Hp), Same H H' → FrE L H H' v → Q v H'
theorem ok_lod {f L : Addr} {fd : FuncData} (F : Fun K "_law_odd" "_law_odd" sLod f fd) (Lg : Cal P w K mg base "_law_language" 6 psLlg (spLlg L)) (Ch : Cal P w K mg base "_law_choice" 2 ["_law_rng_here", "_law_some"] (spChoice K)) : FnOk P w K mg base CX0 7 f fd psLod (spLod L) := by
  refine F.ok scLod (fun vs H Q E h => ?_) (fun cdv A outer s H vs Q E hr h => ?_)
  · obtain ⟨r, rfl, _⟩ := h
    rfl
  · obtain ⟨r, rfl, hR, k⟩ := h
    refine ⟨_, pss_cons (ps_set (i := 1) scLod.nd rfl (.inl rfl) (pe_lst (pa_cons pe_non (pa_cons pe_int (pa_cons pe_bl (pa_cons pe_str (pa_cons pe_str (pa_cons (pe_lst pa_nil) (pa_cons (pe_tup pa_nil) (pa_cons pe_dnewK (pa_cons (pe_tup (pa_cons pe_str pa_nil)) (pa_cons (pe_tup (pa_cons pe_str (pa_cons (pe_lst (pa_cons pe_str pa_nil)) pa_nil))) (pa_cons (pe_tup (pa_cons pe_str (pa_cons (pe_tup (pa_cons pe_str pa_nil)) pa_nil))) (pa_cons (pe_tup (pa_cons pe_str (pa_cons pe_str pa_nil))) pa_nil))))))))))))))
      (pss_cons (ps_set (i := 1) scLod.nd rfl (.inl rfl) (pe_op op_cat (pv 1) (pe_lst (pa_cons (pe_tup (pa_cons pe_str (pa_cons (pe_op op_repT (pe_tup (pa_cons pe_str pa_nil)) pe_int) pa_nil))) (pa_cons (pe_tup (pa_cons pe_str (pa_cons (pe_tup (pa_cons pe_str (pa_cons pe_non pa_nil))) pa_nil))) (pa_cons (pe_tup (pa_cons pe_str (pa_cons (pe_tup (pa_cons pe_str pa_nil)) pa_nil))) (pa_cons (pe_tup (pa_cons pe_str (pa_cons (pe_tup pa_nil) (pa_cons (pe_tup pa_nil) pa_nil)))) (pa_cons (pe_tup (pa_cons pe_str (pa_cons (pe_tup pa_nil) pa_nil))) pa_nil))))))))
      (pss_cons (ps_set (i := 1) scLod.nd rfl (.inl rfl) (pe_op op_cat (pv 1) (pe_lst (pa_cons (pe_tup (pa_cons pe_str pa_nil)) (pa_cons (pe_tup (pa_cons pe_str (pa_cons (pe_lst (pa_cons (pe_tup (pa_cons pe_str (pa_cons pe_non pa_nil))) pa_nil)) pa_nil))) (pa_cons (pe_tup (pa_cons pe_str (pa_cons (pe_tup (pa_cons (pe_tup (pa_cons pe_str pa_nil)) pa_nil)) pa_nil))) (pa_cons (pe_tup (pa_cons pe_str (pa_cons (pe_tup (pa_cons (pe_tup (pa_cons pe_str (pa_cons pe_str pa_nil))) pa_nil)) pa_nil))) pa_nil)))))))
      (pss_cons (ps_set (i := 1) scLod.nd rfl (.inl rfl) (pe_op op_cat (pv 1) (pe_lst (pa_cons (pe_tup (pa_cons pe_str (pa_cons (pe_tup (pa_cons (pe_tup (pa_cons pe_str (pa_cons pe_non pa_nil))) pa_nil)) pa_nil))) (pa_cons (pe_tup (pa_cons pe_str (pa_cons (pe_op op_repT (pe_tup (pa_cons (pe_tup (pa_cons pe_str (pa_cons pe_non pa_nil))) pa_nil)) pe_int) pa_nil))) (pa_cons (pe_tup (pa_cons pe_str (pa_cons (pe_tup (pa_cons (pe_lst (pa_cons pe_str (pa_cons pe_non pa_nil))) pa_nil)) pa_nil))) pa_nil))))))
      (pss_cons (ps_set (i := 1) scLod.nd rfl (.inl rfl) (pe_op op_cat (pv 1) (pe_lst (pa_cons (pe_tup (pa_cons pe_str (pa_cons (pe_tup (pa_cons (pe_tup (pa_cons pe_str (pa_cons pe_str (pa_cons pe_non pa_nil)))) pa_nil)) pa_nil))) (pa_cons (pe_tup (pa_cons pe_str (pa_cons (pe_tup (pa_cons (pe_tup (pa_cons pe_str (pa_cons pe_non pa_nil))) pa_nil)) pa_nil))) (pa_cons (pe_tup (pa_cons pe_str (pa_cons (pe_tup (pa_cons pe_str pa_nil)) pa_nil))) (pa_cons (pe_lst (pa_cons pe_str (pa_cons (pe_tup pa_nil) pa_nil))) pa_nil)))))))
      (pss_cons (ps_set (i := 1) scLod.nd rfl (.inl rfl) (pe_op op_cat (pv 1) (pe_lst (pa_cons (pe_tup (pa_cons pe_str (pa_cons pe_str pa_nil))) (pa_cons (pe_tup (pa_cons pe_str (pa_cons pe_str (pa_cons pe_non pa_nil)))) (pa_cons (pe_tup (pa_cons pe_str (pa_cons pe_str (pa_cons (pe_cal Lg hr (pa_cons pe_int pa_nil)) pa_nil)))) (pa_cons (pe_tup (pa_cons pe_str (pa_cons pe_str (pa_cons (pe_cal Lg hr (pa_cons pe_int pa_nil)) pa_nil)))) pa_nil)))))))
      (pss_cons (ps_set (i := 1) scLod.nd rfl (.inl rfl) (pe_op op_cat (pv 1) (pe_lst (pa_cons (pe_tup (pa_cons pe_str (pa_cons (pe_op op_mulS pe_str pe_int) (pa_cons (pe_cal Lg hr (pa_cons pe_int pa_nil)) pa_nil)))) (pa_cons (pe_tup (pa_cons pe_str (pa_cons pe_int (pa_cons (pe_cal Lg hr (pa_cons pe_int pa_nil)) pa_nil)))) pa_nil)))))
      (pss_cons (ps_set (i := 1) scLod.nd rfl (.inl rfl) (pe_op op_cat (pv 1) (pe_lst (pa_cons (pe_tup (pa_cons pe_str (pa_cons pe_str (pa_cons (pe_cal Lg hr (pa_cons pe_int pa_nil)) pa_nil)))) (pa_cons (pe_tup (pa_cons pe_str (pa_cons pe_non (pa_cons (pe_cal Lg hr (pa_cons pe_int pa_nil)) pa_nil)))) pa_nil)))))
      (pss_cons (ps_expr (pe_bm PySem.F.plainAttrs_list PySem.F.slot_list_append PySem.F.type_list_append mt_append (pv 1) (pa_cons (pe_tup (pa_cons pe_str (pa_cons pe_str (pa_cons (pe_cal Lg hr (pa_cons pe_int pa_nil)) pa_nil)))) pa_nil)))
      (pss_one (ps_ret (pe_cal Ch (hr.mono (by decide)) (pa_cons (pv 0) (pa_cons (pe_op op_cat (pv 1) (pe_lst (pa_cons (pe_tup (pa_cons pe_str (pa_cons pe_str (pa_cons (pe_cal Lg hr (pa_cons pe_int pa_nil)) (pa_cons pe_non pa_nil))))) (pa_cons (pe_tup (pa_cons pe_str (pa_cons pe_str (pa_cons pe_str pa_nil)))) (pa_cons (pe_tup (pa_cons pe_non (pa_cons (pe_tup pa_nil) pa_nil))) (pa_cons (pe_tup (pa_cons pe_int (pa_cons pe_int pa_nil))) pa_nil)))))) pa_nil))))))))))))), ?_⟩
    refine lst_step (L := L) (n := 12) (Same.refl H) (neCons (neD (fun H0 => mkO mkN) (by decide)) (neCons (neD (fun H0 => mkO (mkI _)) (by decide)) (neCons (neD (fun H0 => mkO (mkB _)) (by decide)) (neCons (neD (fun H0 => mkO (mkS _)) (by decide)) (neCons (neD (fun H0 => mkO (mkS _)) (by decide)) (neCons (neD (fun H0 => mkO (mkLst mkANil)) (by decide)) (neCons (neD (fun H0 => mkO (mkTup mkANil)) (by decide)) (neCons (neD (d := kvID []) (fun H0 => mkD0) (by decide)) (neCons (neD (fun H0 => mkO (mkTup (mkACons (mkS _) mkANil))) (by decide)) (neCons (neD (fun H0 => mkO (mkTup (mkACons (mkS _) (mkACons (mkLst (mkACons (mkS _) mkANil)) mkANil)))) (by decide)) (neCons (neD (fun H0 => mkO (mkTup (mkACons (mkS _) (mkACons (mkTup (mkACons (mkS _) mkANil)) mkANil)))) (by decide)) (neCons (neD (fun H0 => mkO (mkTup (mkACons (mkS _) (mkACons (mkS _) mkANil)))) (by decide)) neNil)))))))))))) (by decide) fun q0 y0 H0 e0 h0 l0 o0 => ?_
    refine cat_step (L := L) (n := 5) (e0) (neCons (neD (fun H0 => mkO (mkTup (mkACons (mkS _) (mkACons (mkRepT (mkS _)) mkANil)))) (by decide)) (neCons (neD (fun H0 => mkO (mkTup (mkACons (mkS _) (mkACons (mkTup (mkACons (mkS _) (mkACons mkN mkANil))) mkANil)))) (by decide)) (neCons (neD (fun H0 => mkO (mkTup (mkACons (mkS _) (mkACons (mkTup (mkACons (mkS _) mkANil)) mkANil)))) (by decide)) (neCons (neD (fun H0 => mkO (mkTup (mkACons (mkS _) (mkACons (mkTup mkANil) (mkACons (mkTup mkANil) mkANil))))) (by decide)) (neCons (neD (fun H0 => mkO (mkTup (mkACons (mkS _) (mkACons (mkTup mkANil) mkANil)))) (by decide)) neNil))))) rfl h0 o0 (by omega) fun q1 y1 H1 e1 h1 l1 o1 => ?_
    refine cat_step (L := L) (n := 4) ((e0).trans e1) (neCons (neD (fun H0 => mkO (mkTup (mkACons (mkS _) mkANil))) (by decide)) (neCons (neD (fun H0 => mkO (mkTup (mkACons (mkS _) (mkACons (mkLst (mkACons (mkTup (mkACons (mkS _) (mkACons mkN mkANil))) mkANil)) mkANil)))) (by decide)) (neCons (neD (fun H0 => mkO (mkTup (mkACons (mkS _) (mkACons (mkTup (mkACons (mkTup (mkACons (mkS _) mkANil)) mkANil)) mkANil)))) (by decide)) (neCons (neD (fun H0 => mkO (mkTup (mkACons (mkS _) (mkACons (mkTup (mkACons (mkTup (mkACons (mkS _) (mkACons (mkS _) mkANil))) mkANil)) mkANil)))) (by decide)) neNil)))) rfl h1 o1 (by omega) fun q2 y2 H2 e2 h2 l2 o2 => ?_
    refine cat_step (L := L) (n := 3) (((e0).trans e1).trans e2) (neCons (neD (fun H0 => mkO (mkTup (mkACons (mkS _) (mkACons (mkTup (mkACons (mkTup (mkACons (mkS _) (mkACons mkN mkANil))) mkANil)) mkANil)))) (by decide)) (neCons (neD (fun H0 => mkO (mkTup (mkACons (mkS _) (mkACons (mkRepT (mkTup (mkACons (mkS _) (mkACons mkN mkANil)))) mkANil)))) (by decide)) (neCons (neD (fun H0 => mkO (mkTup (mkACons (mkS _) (mkACons (mkTup (mkACons (mkLst (mkACons (mkS _) (mkACons mkN mkANil))) mkANil)) mkANil)))) (by decide)) neNil))) rfl h2 o2 (by omega) fun q3 y3 H3 e3 h3 l3 o3 => ?_
    refine cat_step (L := L) (n := 4) ((((e0).trans e1).trans e2).trans e3) (neCons (neD (fun H0 => mkO (mkTup (mkACons (mkS _) (mkACons (mkTup (mkACons (mkTup (mkACons (mkS _) (mkACons (mkS _) (mkACons mkN mkANil)))) mkANil)) mkANil)))) (by decide)) (neCons (neD (fun H0 => mkO (mkTup (mkACons (mkS _) (mkACons (mkTup (mkACons (mkTup (mkACons (mkS _) (mkACons mkN mkANil))) mkANil)) mkANil)))) (by decide)) (neCons (neD (fun H0 => mkO (mkTup (mkACons (mkS _) (mkACons (mkTup (mkACons (mkS _) mkANil)) mkANil)))) (by decide)) (neCons (neD (fun H0 => mkO (mkLst (mkACons (mkS _) (mkACons (mkTup mkANil) mkANil)))) (by decide)) neNil)))) rfl h3 o3 (by omega) fun q4 y4 H4 e4 h4 l4 o4 => ?_
    refine cat_step (L := L) (n := 4) (((((e0).trans e1).trans e2).trans e3).trans e4) (neCons (neD (fun H0 => mkO (mkTup (mkACons (mkS _) (mkACons (mkS _) mkANil)))) (by decide)) (neCons (neD (fun H0 => mkO (mkTup (mkACons (mkS _) (mkACons (mkS _) (mkACons mkN mkANil))))) (by decide)) (neCons (neL (m := 3) (by decide) (fun H0 => (mkS _)) (by decide)) (neCons (neL (m := 1) (by decide) (fun H0 => (mkS _)) (by decide)) neNil)))) rfl h4 o4 (by omega) fun q5 y5 H5 e5 h5 l5 o5 => ?_
    refine cat_step (L := L) (n := 2) ((((((e0).trans e1).trans e2).trans e3).trans e4).trans e5) (neCons (neL (m := 2) (by decide) (fun H0 => mkMul9) (by decide)) (neCons (neL (m := 3) (by decide) (fun H0 => (mkI _)) (by decide)) neNil)) rfl h5 o5 (by omega) fun q6 y6 H6 e6 h6 l6 o6 => ?_
    refine cat_ok (L := L) (n := 2) (((((((e0).trans e1).trans e2).trans e3).trans e4).trans e5).trans e6) (neCons (neL (m := 3) (by decide) (fun H0 => (mkS _)) (by decide)) (neCons (neL (m := 3) (by decide) (fun H0 => mkN) (by decide)) neNil)) rfl h6 o6 (by omega) fun q7 y7 H7 e7 n7 h7 l7 o7 => ?_
    refine ⟨_, rfl, .inl ⟨rfl, _, SqL.of h7⟩, ?_⟩
    refine neLA (L := L) (m := 3) (by decide) (by decide) fun v H8 e8 ho => ?_
    refine ⟨q7, _, _, rfl, rfl, e8 _ _ h7, by rw [sizeLine_eq]; omega, ?_⟩
    have h9 := upd_same (H := H8) (a := q7) (o := .lst (y7 ++ [v]))
    have s9 : ∀ b o, H8 b = some o → b ≠ q7 → (upd H8 q7 (.lst (y7 ++ [v]))) b = some o := fun b o hb hn => by rw [upd_ne hn]; exact hb
    have nl9 : ∀ b o, H8 b = some o → (∀ xs, o ≠ HO.lst xs) → (upd H8 q7 (.lst (y7 ++ [v]))) b = some o := fun b o hb hn => s9 b o hb fun z => by
      subst z
      rw [e8 _ _ h7] at hb
      cases hb
      exact hn _ rfl
    generalize (upd H8 q7 (.lst (y7 ++ [v]))) = H9 at h9 s9 nl9 ⊢
    have e69 : Same H6 H9 := fun b o hb => s9 b o (e8 _ _ (e7 _ _ hb)) (ne_of_none hb n7)
    have o9 : ∀ x ∈ y7 ++ [v], FrE L H H9 x := fun x hx => by
      rcases List.mem_append.mp hx with hx | hx
      · exact o7 H9 e69 (fun b o hb hn => s9 b o (e8 _ _ hb) hn) x hx
      · rw [List.mem_singleton.mp hx]
        exact fun H'' kf => ho H'' fun b o hb hn => kf.nl b o (nl9 b o hb hn) hn
    have e09 := e0.trans (e1.trans (e2.trans (e3.trans (e4.trans (e5.trans (e6.trans e69))))))
    have hR9 := e09 _ _ hR
    refine ⟨_, rfl, ?_⟩
    refine cat_ok (L := L) (n := 4) e09 (neCons (neL4 (m := 3) (by decide)) (neCons (neD (fun H0 => mkO (mkTup (mkACons (mkS _) (mkACons (mkS _) (mkACons (mkS _) mkANil))))) (by decide)) (neCons (neD (fun H0 => mkO (mkTup (mkACons mkN (mkACons (mkTup mkANil) mkANil)))) (by decide)) (neCons (neD (fun H0 => mkO (mkTup (mkACons (mkI _) (mkACons (mkI _) mkANil)))) (by decide)) neNil)))) rfl h9 o9 (by rw [List.length_append]; show y7.length + 1 + 4 ≤ 1000; omega) fun qA yA HA eA nA hA lA oA => ?_
    refine .inl ⟨r, qA, yA, rfl, eA _ _ hR9, SqL.of hA, by rw [lA]; omega, by rw [lA, List.length_append]; show y7.length + 1 + 4 < 2000; omega, fun x HB hx eB => ?_⟩
    exact k x HB (e09.trans (eA.trans eB)) (oA HB (eA.trans eB) (fun b o hb _ => eB _ _ hb) x hx)
end
end SS
set_option maxRecDepth 100000
set_option maxHeartbeats 4000000
namespace SS
open PySem L2 SR TL
def kdS : Option Pt → Str
  | none => Str.ofString "odd" | some (.sl ..) => Str.ofString "slot" | some (.sd _) => Str.ofString "said" | some (.pc _) => Str.ofString "piece"
def lbS : Option Pt → Str
  | none => Str.ofString "" | some p => txt (nmOf p)
def emO : Option Pt → Bool
  | none => false | some p => emB p
def mkB' : Option Pt → Bool
  | none => false | some p => decide (mksOf p ≠ [])
structure El5 (L : Addr) (H : Hp) (t : Addr) (o : Option Pt) : Prop where
  ex : ∃ v : V, H t = some (.tup [v, .str (kdS o), .str (lbS o), .bl (emO o), .bl (mkB' o)]) ∧ ElA L H v o
theorem El5.mono {L : Addr} {H H' : Hp} {t : Addr} {o : Option Pt} (e : Same H H') (h : El5 L H t o) : El5 L H' t o := by
  obtain ⟨v, h1, h2⟩ := h.ex
  exact ⟨v, e _ _ h1, h2.mono e⟩
theorem El5.kf {L : Addr} {H0 H : Hp} {t : Addr} {p : Pt} (h : El5 L H t (some p)) : ∀ H'', KeepF H0 H H'' → El5 L H'' t (some p) := fun H'' kf => by
  obtain ⟨v, h1, x, h2, h3, h4⟩ := h.ex
  exact ⟨v, kf.nl _ _ h1 nofun, x, h2, PtAt.nl kf.nl h3, h4⟩
section
variable {P : Program} {w : World} {K : PySem.W.Frag} {mg : Str → Option Value} {base : Heap}
abbrev nLel : List Str := ["_law_rng_here", "_law_odds", "_law_way", "_law_label", "_law_many", "_law_marks", "_law_k", "_law_told_here", "_law_pair"]
abbrev psLel : List Str := ["_law_rng_here", "_law_odds"]
theorem scLel : FnScope nLel psLel (defScope sLel) := ⟨rfl, rfl, rfl, by decide +kernel, rfl, by decide +kernel, by decide +kernel⟩
def spLel (L : Addr) : Sp := fun vs H Q _ => ∃ (r : Addr) (od : Int), vs = [.ref r, .int od] ∧ H r = some (rngO r) ∧ ∀ (t : Addr) (o : Option Pt) (H' : Hp), Same H H' → (∀ H'', KeepF H H' H'' → El5 L H'' t o) → Q (.ref t) H'
theorem ok_lel {f L : Addr} {fd : FuncData} (F : Fun K "_law_element" "_law_element" sLel f fd) (B : Bl mg) (Lg : Cal P w K mg base "_law_language" 6 psLlg (spLlg L)) (Ch : Cal P w K mg base "_law_choice" 2 ["_law_rng_here", "_law_some"] (spChoice K)) (Dr : Cal P w K mg base "_law_draw" 1 ["_law_rng_here", "_law_many"] spDraw) (Od : Cal P w K mg base "_law_odd" 7 psLod (spLod L)) : FnOk P w K mg base CX0 8 f fd psLel (spLel L) := by
  refine F.ok scLel (fun vs H Q E h => ?_) (fun cdv A outer s H vs Q E hr h => ?_)
  · obtain ⟨r, od, rfl, _⟩ := h
    rfl
  · obtain ⟨r, od, rfl, hR, k⟩ := h
    refine ⟨_, pss_cons (ps_if (pt_cmpR op_lt (pe_cal Dr (hr.mono (by decide)) (pa_cons (pv 0) (pa_cons pe_int pa_nil))) (pv 1) (nomark _))
        (pss_one (ps_ret (pe_tup (pa_cons (pe_cal Od (hr.mono (by decide)) (pa_cons (pv 0) pa_nil)) (pa_cons pe_str (pa_cons pe_str (pa_cons pe_bl (pa_cons pe_bl pa_nil)))))))) pss_nil)
      (pss_cons (ps_set (i := 2) scLel.nd rfl (.inl rfl) (pe_cal Dr (hr.mono (by decide)) (pa_cons (pv 0) (pa_cons pe_int pa_nil))))
      (pss_cons (ps_if (pt_cmpR op_lt (pv 2) pe_int (nomark _))
        (pss_cons (ps_set (i := 3) scLel.nd rfl (.inl rfl) (pe_cal Ch (hr.mono (by decide)) (pa_cons (pv 0) (pa_cons (pe_lst (pa_cons pe_str (pa_cons pe_str (pa_cons pe_str (pa_cons (pe_op op_mulS pe_str pe_int) (pa_cons pe_str pa_nil)))))) pa_nil))))
      (pss_cons (ps_set (i := 4) scLel.nd rfl (.inl rfl) (pe_ix ix_list (pe_lst (pa_cons pe_int (pa_cons pe_int (pa_cons pe_int (pa_cons pe_int (pa_cons pe_int (pa_cons pe_int pa_nil))))))) (pe_cal Dr (hr.mono (by decide)) (pa_cons (pv 0) (pa_cons pe_int pa_nil))) (fun _ _ => rfl)))
      (pss_one (ps_ret (pe_tup (pa_cons (pe_tup (pa_cons pe_str (pa_cons (pv 3) (pa_cons (pe_cal Lg (hr.mono (by decide)) (pa_cons (pv 4) pa_nil)) pa_nil)))) (pa_cons pe_str (pa_cons (pv 3) (pa_cons (pe_cmpR op_eq (pv 4) pe_int (nomark _)) (pa_cons pe_bl pa_nil)))))))))) pss_nil)
      (pss_cons (ps_set (i := 5) scLel.nd rfl (.inl rfl) (pe_callTy call_tuple_of (by rfl) B.tuple (by decide +kernel) (pa_cons (pe_lc (own := [("_law_k", 6)]) (g := gName 6) (tt := tYes) (te := tCall (spChoice K) [] E0 (tCons (tVar 0) (tCons (tLst (tCons (tC (.str (Str.ofString "mm"))) (tCons (tC (.str (Str.ofString "abcdefgh"))) tNil))) tNil))) rfl scLel.nd (pi_range1 (by rfl) B.range (pa_cons (pe_ix ix_list (pe_lst (pa_cons pe_int (pa_cons pe_int (pa_cons pe_int (pa_cons pe_int pa_nil))))) (pe_cal Dr (hr.mono (by decide)) (pa_cons (pv 0) (pa_cons pe_int pa_nil))) (fun _ _ => rfl)) pa_nil)) (blkOk_by (by kernel_rfl)) (fun _ _ _ _ _ => pg_name (i := 6) scLel.nd rfl (.inl rfl)) (fun _ _ _ _ _ => pts_nil) (fun _ _ _ _ _ => pe_cal Ch (hr.mono (by decide)) (pa_cons (pv 0) (pa_cons (pe_lst (pa_cons pe_str (pa_cons pe_str pa_nil))) pa_nil)))) pa_nil)))
      (pss_cons (ps_if (pt_cmpR op_lt (pv 2) pe_int (nomark _))
        (pss_one (ps_ret (pe_tup (pa_cons (pe_tup (pa_cons pe_str (pa_cons (pv 5) pa_nil))) (pa_cons pe_str (pa_cons pe_str (pa_cons pe_bl (pa_cons (pe_cmpR (op_neD hr.units) (pv 5) (pe_tup pa_nil) (nomark _)) pa_nil)))))))) pss_nil)
      (pss_cons (ps_set (i := 7) scLel.nd rfl (.inl rfl) (pe_callTy call_tuple_of (by rfl) B.tuple (by decide +kernel) (pa_cons (pe_lc (own := [("_law_k", 6)]) (g := gName 6) (tt := tYes) (te := tTup (tCons (tC (.str (Str.ofString "q"))) (tCons (tCall (spChoice K) [] E0 (tCons (tVar 0) (tCons (tLst (tCons (tC .non) (tCons (tC .non) (tCons (tC (.str (Str.ofString "mm"))) tNil)))) tNil))) tNil))) rfl scLel.nd (pi_range1 (by rfl) B.range (pa_cons (pe_ix ix_list (pe_lst (pa_cons pe_int (pa_cons pe_int (pa_cons pe_int (pa_cons pe_int pa_nil))))) (pe_cal Dr (hr.mono (by decide)) (pa_cons (pv 0) (pa_cons pe_int pa_nil))) (fun _ _ => rfl)) pa_nil)) (blkOk_by (by kernel_rfl)) (fun _ _ _ _ _ => pg_name (i := 6) scLel.nd rfl (.inl rfl)) (fun _ _ _ _ _ => pts_nil) (fun _ _ _ _ _ => pe_tup (pa_cons pe_str (pa_cons (pe_cal Ch (hr.mono (by decide)) (pa_cons (pv 0) (pa_cons (pe_lst (pa_cons pe_non (pa_cons pe_non (pa_cons pe_str pa_nil)))) pa_nil))) pa_nil)))) pa_nil)))
      (pss_one (ps_ret (pe_tup (pa_cons (pe_tup (pa_cons pe_str (pa_cons (pv 7) pa_nil))) (pa_cons pe_str (pa_cons pe_str (pa_cons pe_bl (pa_cons (pe_callB (cr_any rfl) (by rfl) B.any (by decide +kernel) (pa_cons (pe_lc (own := [("_law_pair", 8)]) (g := gName 8) (tt := tYes) (te := tOp (rNotN) (tOp (rIxT K) (tVar 8) (tC (.int 1))) (tC .non)) rfl scLel.nd (pi_tup (pv 7)) (blkOk_by (by kernel_rfl)) (fun _ _ _ _ _ => pg_name (i := 8) scLel.nd rfl (.inl rfl)) (fun _ _ _ _ _ => pts_nil) (fun _ _ _ _ _ => pe_cmpR op_notN (pe_ix ix_tup (pv 8) pe_int (fun _ _ => rfl)) pe_non (nomark _))) pa_nil)) pa_nil))))))))))))), ?_⟩
    refine ⟨_, rfl, r, 12, rfl, by decide, by decide, hR, fun d H1 d0 d1 e1 => ⟨_, rfl, _, _, rfl, rfl, _, rfl, ?_⟩⟩
    refine ite2 (fun hlt => ?_) (fun hge => ?_)
    · refine ⟨_, rfl, r, rfl, e1 _ _ hR, fun v H2 e2 ho => ⟨by show 5 ≤ sizeLine; decide, fun p hp => ?_⟩⟩
      have e3 := same_new (o := .tup [v, .str (Str.ofString "odd"), .str (Str.ofString ""), .bl false, .bl false]) hp
      exact k p none _ (e1.trans (e2.trans e3)) fun H'' kf => ⟨v, kf.nl _ _ upd_same nofun, (ho.mono e3) H'' (kf.older e1)⟩
    refine ⟨_, rfl, r, 6, rfl, by decide, by decide, e1 _ _ hR, fun w H2 w0 w1 e2 => ?_⟩
    have e02 := e1.trans e2
    refine ⟨_, rfl, _, _, rfl, rfl, _, rfl, ite2 (fun hw => ?_) (fun hw => ?_)⟩
    · refine ⟨_, rfl, 101, 8, rfl, rfl, by decide, by decide, by show 5 ≤ sizeLine; decide, fun pl hpl => .inl ⟨r, pl, _, rfl, same_new hpl _ _ (e02 _ _ hR), SqL.of upd_same, by decide, by decide, fun x H3 hx e3 => ?_⟩⟩
      have e03 := e02.trans ((same_new hpl).trans e3)
      obtain ⟨nm, rfl, hnm⟩ : ∃ nm : List Nat, x = txtV nm ∧ Name nm := by
        simp only [List.mem_cons, List.not_mem_nil, or_false] at hx
        have nmB : ∀ l : List Nat, (l.all (fun c => decide (97 ≤ c ∧ c < 123)) && (decide (1 ≤ l.length) && decide (l.length ≤ 8))) = true → Name l := fun l h => by
          rw [Bool.and_eq_true, Bool.and_eq_true, List.all_eq_true] at h
          exact ⟨fun c hc => of_decide_eq_true (h.1 c hc), of_decide_eq_true h.2.1, of_decide_eq_true h.2.2⟩
        rcases hx with rfl | rfl | rfl | rfl | rfl
        · exact ⟨[97], rfl, nmB _ (by decide)⟩
        · exact ⟨[98], rfl, nmB _ (by decide)⟩
        · exact ⟨[99, 100], rfl, nmB _ (by decide)⟩
        · exact ⟨List.replicate 8 101, rfl, nmB _ (by decide)⟩
        · exact ⟨[115, 108, 111, 116], rfl, nmB _ (by decide)⟩
      refine ⟨by show 6 ≤ sizeLine; decide, fun pm hpm => ⟨_, rfl, r, 6, rfl, by decide, by decide, same_new hpm _ _ (e03 _ _ hR), fun q H4 q0 q1 e4 => ?_⟩⟩
      have hpm4 := e4 _ _ (upd_same (H := H3) (a := pm) (o := .lst [V.int 3, .int 1, .int 2, .int 3, .int 3, .int 0]))
      have e04 := e03.trans ((same_new hpm).trans e4)
      obtain ⟨m, hat, hm⟩ : ∃ m : Nat, atI [V.int 3, .int 1, .int 2, .int 3, .int 3, .int 0] q = some (.int (m : Nat)) ∧ m ≤ 3 := by
        rcases (show q = 0 ∨ q = 1 ∨ q = 2 ∨ q = 3 ∨ q = 4 ∨ q = 5 by omega) with rfl | rfl | rfl | rfl | rfl | rfl
        · exact ⟨3, rfl, by decide⟩
        · exact ⟨1, rfl, by decide⟩
        · exact ⟨2, rfl, by decide⟩
        · exact ⟨3, rfl, by decide⟩
        · exact ⟨3, rfl, by decide⟩
        · exact ⟨0, rfl, by decide⟩
      refine ⟨pm, _, q, _, rfl, rfl, SqL.of hpm4, hat, ?_⟩
      refine ⟨_, rfl, _, rfl, m, rfl, hm, fun y H5 e5 hL => ⟨by show 3 ≤ sizeLine; decide, fun pt hpt => ?_⟩⟩
      have e6 := same_new (o := .tup [.str (Str.ofString "slot"), txtV nm, .ref y]) hpt
      refine ⟨_, rfl, _, rfl, rfl, by show 5 ≤ sizeLine; decide, fun p hp => ?_⟩
      have e7 := same_new (o := .tup [.ref pt, .str (Str.ofString "slot"), txtV nm, .bl (decide (V.int (m : Nat) = V.int 0)), .bl false]) hp
      refine k p (some (.sl nm [97, 98] rowsQ (eMQ m))) _ (e04.trans (e5.trans (e6.trans e7))) (El5.kf ⟨.ref pt, ?_, pt, rfl, ⟨y, e7 _ _ upd_same, lanM L _ _ _ _ _ _ (e6.trans e7) hL⟩, hnm, rfl, rfl, ?_⟩)
      · rw [upd_same]
        have : decide (V.int (m : Nat) = V.int 0) = decide (eMQ m = []) := by
          rcases (show m = 0 ∨ m = 1 ∨ m = 2 ∨ m = 3 by omega) with rfl | rfl | rfl | rfl <;> rfl
        rw [this]
        rfl
      · rcases (show m = 0 ∨ m = 1 ∨ m = 2 ∨ m = 3 by omega) with rfl | rfl | rfl | rfl
        · exact .inl rfl
        · exact .inr (.inl rfl)
        · exact .inr (.inr (.inl rfl))
        · exact .inr (.inr (.inr rfl))
    -- the marks
    refine ⟨by show 4 ≤ sizeLine; decide, fun pm hpm => ⟨_, rfl, r, 4, rfl, by decide, by decide, same_new hpm _ _ (e02 _ _ hR), fun q H3 q0 q1 e3 => ?_⟩⟩
    have hpm3 := e3 _ _ (upd_same (H := H2) (a := pm) (o := .lst [V.int 1, .int 0, .int 6, .int 2]))
    have e03 := e02.trans ((same_new hpm).trans e3)
    obtain ⟨n, hat, hn⟩ : ∃ n : Nat, atI [V.int 1, .int 0, .int 6, .int 2] q = some (.int (n : Nat)) ∧ n ≤ 6 := by
      rcases (show q = 0 ∨ q = 1 ∨ q = 2 ∨ q = 3 by omega) with rfl | rfl | rfl | rfl
      · exact ⟨1, rfl, by decide⟩
      · exact ⟨0, rfl, by decide⟩
      · exact ⟨6, rfl, by decide⟩
      · exact ⟨2, rfl, by decide⟩
    have hR3 := e03 _ _ hR
    refine ⟨pm, _, q, _, rfl, rfl, SqL.of hpm3, hat, _, rfl, by omega, by omega, fun D hD => lc_S (walk_range (lo := 0) (n := ((n : Nat) : Int).toNat)) hD (by omega) (fun i acc _ => ∃ ms : List (List Nat), acc = ms.map txtV ∧ ms.length = i ∧ ∀ x ∈ ms, Mrk x) (fun _ _ _ _ _ _ _ h => h) ⟨[], rfl, rfl, fun x hx => nomatch hx⟩ (fun _ _ => trivial) ?_ ?_⟩
    · rintro i v HA' HA acc Qt Qf hi eA hd ⟨ms, rfl, hml, hms⟩ ⟨rfl, rfl⟩ kt kf
      refine ⟨rfl, _, rfl, by show 2 ≤ sizeLine; decide, fun pl hpl => .inl ⟨r, pl, _, rfl, same_new hpl _ _ (eA _ _ hR3), SqL.of upd_same, by decide, by decide, fun x HB hx eB => ?_⟩⟩
      obtain ⟨nm, rfl, hnm⟩ : ∃ nm : List Nat, x = txtV nm ∧ Mrk nm := by
        simp only [List.mem_cons, List.not_mem_nil, or_false] at hx
        have mkOk : ∀ l : List Nat, (l.all (fun c => decide (97 ≤ c ∧ c < 123)) && (decide (2 ≤ l.length) && decide (l.length ≤ 8))) = true → Mrk l := fun l h => by
          rw [Bool.and_eq_true, Bool.and_eq_true, List.all_eq_true] at h
          exact ⟨fun c hc => of_decide_eq_true (h.1 c hc), of_decide_eq_true h.2.1, of_decide_eq_true h.2.2⟩
        rcases hx with rfl | rfl
        · exact ⟨[109, 109], rfl, mkOk _ (by decide)⟩
        · exact ⟨[97, 98, 99, 100, 101, 102, 103, 104], rfl, mkOk _ (by decide)⟩
      refine kt _ _ ((same_new hpl).trans eB) ⟨ms ++ [nm], by rw [List.map_append]; rfl, by rw [List.length_append, hml]; rfl, fun y hy => ?_⟩
      rcases List.mem_append.mp hy with h | h
      · exact hms y h
      · rw [List.mem_singleton.mp h]; exact hnm
    rintro HA acc eA hDA ⟨ms, rfl, hml, hms⟩
    rw [Int.toNat_natCast] at hml
    have e0A := e03.trans eA
    refine ⟨D, _, rfl, .inl ⟨SqL.of hDA, fun pt hpt => ?_⟩⟩
    have e4 := same_new (o := .tup (ms.map txtV)) hpt
    have h4 := upd_same (H := HA) (a := pt) (o := .tup (ms.map txtV))
    generalize (upd HA pt (.tup (ms.map txtV))) = H4 at e4 h4 ⊢
    have e04 := e0A.trans e4
    refine ⟨_, rfl, _, _, rfl, rfl, _, rfl, ite2 (fun hw4 => ?_) (fun hw4 => ?_)⟩
    · refine ⟨_, rfl, by show 2 ≤ sizeLine; decide, fun p1 hp1 => ⟨_, rfl, by show 0 ≤ sizeLine; decide, fun p2 hp2 => ?_⟩⟩
      have e5 := same_new (o := .tup [.str (Str.ofString "said"), .ref pt]) hp1
      have e6 := same_new (o := .tup []) hp2
      refine ⟨.tuple (ms.map txD'), .tuple [], .tup (SqT.of (e6 _ _ (e5 _ _ h4))) (dp_map (fun x => .str (txt x)) ms), .tup (SqT.of upd_same) .nil, leaf_tuple (fun d hd => by
        obtain ⟨x, hx, rfl⟩ := List.mem_map.mp hd
        exact leaf_txtL (hms x hx).1), leaf_tuple (fun d hd => nomatch hd), by show 5 ≤ sizeLine; decide, fun p hp => ?_⟩
      have e7 := same_new (o := .tup [.ref p1, .str (Str.ofString "said"), .str (Str.ofString ""), .bl false, .bl (!PyData.eqv (.tuple (ms.map txD')) (.tuple []))]) hp
      refine k p (some (.sd ms)) _ (e04.trans (e5.trans (e6.trans e7))) (El5.kf ⟨.ref p1, ?_, p1, rfl, ⟨pt, (e6.trans e7) _ _ upd_same, (e5.trans (e6.trans e7)) _ _ h4⟩, by omega, hms⟩)
      rw [upd_same]
      have : (!PyData.eqv (.tuple (ms.map txD')) (.tuple [])) = decide (ms ≠ []) := by
        cases ms with
        | nil => rfl
        | cons n ns => simp [PyData.eqv, PyData.eqvAll]
      rw [this]
      rfl
    -- the moves
    refine ⟨by show 4 ≤ sizeLine; decide, fun pm2 hpm2 => ⟨_, rfl, r, 4, rfl, by decide, by decide, same_new hpm2 _ _ (e04 _ _ hR), fun q' H5 q0' q1' e5 => ?_⟩⟩
    have hpm5 := e5 _ _ (upd_same (H := H4) (a := pm2) (o := .lst [V.int 0, .int 1, .int 12, .int 3]))
    have e05 := e04.trans ((same_new hpm2).trans e5)
    obtain ⟨n2, hat2, hn2⟩ : ∃ n : Nat, atI [V.int 0, .int 1, .int 12, .int 3] q' = some (.int (n : Nat)) ∧ n ≤ 12 := by
      rcases (show q' = 0 ∨ q' = 1 ∨ q' = 2 ∨ q' = 3 by omega) with rfl | rfl | rfl | rfl
      · exact ⟨0, rfl, by decide⟩
      · exact ⟨1, rfl, by decide⟩
      · exact ⟨12, rfl, by decide⟩
      · exact ⟨3, rfl, by decide⟩
    have hR5 := e05 _ _ hR
    refine ⟨pm2, _, q', _, rfl, rfl, SqL.of hpm5, hat2, _, rfl, by omega, by omega, fun D2 hD2 => lc_S (walk_range (lo := 0) (n := ((n2 : Nat) : Int).toNat)) hD2 (by omega) (fun i acc H' => ∃ (qs : List Addr) (mv : List Mo), acc = qs.map .ref ∧ mv.length = i ∧ Paired (MoAt H') qs mv ∧ ∀ m ∈ mv, MoOk m) (fun i acc acc' HA HB hd ee ⟨qs, mv, h1, h2, h3, h4⟩ => ⟨qs, mv, h1, h2, Paired.mono h3 fun a b g => ee _ _ (ne_lst hd g fun _ => nofun) g, h4⟩) ⟨[], [], rfl, rfl, .nil, fun m hm => nomatch hm⟩ (fun _ _ => trivial) ?_ ?_⟩
    · rintro i v HA' HB acc Qt Qf hi eA hd ⟨qs, mv, rfl, hml, hps, hmo⟩ ⟨rfl, rfl⟩ kt kf
      refine ⟨rfl, _, rfl, by show 3 ≤ sizeLine; decide, fun pl hpl => .inl ⟨r, pl, _, rfl, same_new hpl _ _ (eA _ _ hR5), SqL.of upd_same, by decide, by decide, fun x HC hx eC => ⟨by show 2 ≤ sizeLine; decide, fun q2 hq2 => ?_⟩⟩⟩
      obtain ⟨o, rfl, hok⟩ : ∃ o : Option (List Nat), x = tellV o ∧ ∀ y, o = some y → Mrk y := by
        simp only [List.mem_cons, List.not_mem_nil, or_false] at hx
        rcases hx with rfl | rfl | rfl
        · exact ⟨none, rfl, fun y z => nomatch z⟩
        · exact ⟨none, rfl, fun y z => nomatch z⟩
        · exact ⟨some [109, 109], rfl, fun y z => by cases z; exact ⟨fun c hc => by simp at hc; subst hc; decide, by decide, by decide⟩⟩
      have eD := (same_new hpl).trans (eC.trans (same_new (o := .tup [.str (Str.ofString "q"), tellV o]) hq2))
      refine kt _ _ eD ⟨qs ++ [q2], mv ++ [(113, o)], by rw [List.map_append]; rfl, by rw [List.length_append, hml]; rfl, paired_snoc (Paired.mono hps fun a b g => eD _ _ g) upd_same, fun m hm => ?_⟩
      rcases List.mem_append.mp hm with h | h
      · exact hmo m h
      · rw [List.mem_singleton.mp h]; exact ⟨(by decide : 97 ≤ 113 ∧ 113 < 123), hok⟩
    rintro HB acc eB hDB ⟨qs, mv, rfl, hml2, hps, hmo⟩
    rw [Int.toNat_natCast] at hml2
    have e0B := e05.trans eB
    have hql : qs.length = mv.length := Paired.length hps
    refine ⟨D2, _, rfl, .inl ⟨SqL.of hDB, fun pt2 hpt2 => ?_⟩⟩
    have e6 := same_new (o := .tup (qs.map .ref)) hpt2
    have h6 := upd_same (H := HB) (a := pt2) (o := .tup (qs.map .ref))
    generalize (upd HB pt2 (.tup (qs.map .ref))) = H6 at e6 h6 ⊢
    have e06 := e0B.trans e6
    have hps6 := Paired.mono hps fun a b g => e6 _ _ g
    refine ⟨_, rfl, by show 2 ≤ sizeLine; decide, fun p1 hp1 => ?_⟩
    have e7 := same_new (o := .tup [.str (Str.ofString "piece"), .ref pt2]) hp1
    have h7 := upd_same (H := H6) (a := p1) (o := .tup [.str (Str.ofString "piece"), .ref pt2])
    generalize (upd H6 p1 (.tup [.str (Str.ofString "piece"), .ref pt2])) = H7 at e7 h7 ⊢
    have h67 := e7 _ _ h6
    refine ⟨_, rfl, pt2, rfl, ⟨_, SqT.of h67⟩, fun D3 hD3 => lc_S (walk_tup (K := K) (a := pt2) (xs := qs.map .ref)) hD3 (by rw [List.length_map]; omega) (fun i acc _ => acc = ((mv.take i).map fun m => m.2.isSome).map V.bl) (fun _ _ _ _ _ _ _ h => h) rfl (fun H' e' => SqT.of (e' _ _ h67)) ?_ ?_⟩
    · rintro i v HA' HC acc Qt Qf hi eC hd rfl ⟨rfl, hv⟩ kt kf
      rw [List.getElem?_map] at hv
      obtain ⟨a, ha, rfl⟩ := Option.map_eq_some_iff.mp hv
      obtain ⟨m, hm, hma⟩ := paired_getL _ hps6 ha
      refine ⟨rfl, _, rfl, a, _, 1, _, rfl, rfl, SqT.of (eC _ _ (e7 _ _ hma)), rfl, rfl, kt _ _ (Same.refl _) ?_⟩
      rw [List.take_add_one, hm, List.map_append, List.map_append]
      have : (!decide (tellV m.2 = .non)) = m.2.isSome := by cases m.2 <;> rfl
      rw [this]
      rfl
    rintro HC acc eC hDC rfl
    rw [List.length_map, hql, List.take_length] at hDC
    refine ⟨D3, _, rfl, SqL.of hDC, by show 5 ≤ sizeLine; decide, fun p hp => ?_⟩
    have e8 := same_new (o := .tup [.ref p1, .str (Str.ofString "piece"), .str (Str.ofString ""), .bl false, .bl ((mv.map fun m => m.2.isSome).any id)]) hp
    refine k p (some (.pc mv)) _ (e06.trans (e7.trans (eC.trans e8))) (El5.kf ⟨.ref p1, ?_, p1, rfl, ⟨pt2, qs, (eC.trans e8) _ _ h7, (eC.trans e8) _ _ h67, Paired.mono hps6 fun a b g => (e7.trans (eC.trans e8)) _ _ g⟩, by omega, hmo⟩)
    rw [upd_same]
    have : (mv.map fun m => m.2.isSome).any id = decide (mv.filterMap (·.2) ≠ []) := by
      clear hml2 hps hmo hql hps6 hDC e8 hp
      induction mv with
      | nil => rfl
      | cons m mv ih =>
        obtain ⟨c, o⟩ := m
        cases o with
        | none =>
          have e1 : (List.map (fun m : Mo => m.2.isSome) ((c, none) :: mv)).any id = (List.map (fun m : Mo => m.2.isSome) mv).any id := rfl
          have e2 : List.filterMap (fun m : Mo => m.2) ((c, none) :: mv) = List.filterMap (fun m : Mo => m.2) mv := rfl
          rw [e1, e2]
          exact ih
        | some x => simp
    rw [this]
    rfl
end
end SS
set_option maxRecDepth 100000
set_option maxHeartbeats 4000000
namespace GQ
open PySem PySem.SeqAt
open AutoSeq1 (wpAny_loadPart')
open MeetsSeq MeetsSeq2 MeetsSeq3 SeqRoads2
section
variable {prog : Program} {w : World} {A : Around} {R : Result → Shared → Prop}
theorem ne_len {l b : Addr} {xs ys : Array Value} {n n2 : Nat} {dd dd2 : Option Addr} {sl sl2 : Array (Option Value)} {s : Shared} (gl : s.heap.get? l = some { cls := .type "list", dict := dd, data := .seq xs n, slots := sl }) (gb : s.heap.get? b = some { cls := .type "list", dict := dd2, data := .seq ys n2, slots := sl2 })
    (hne : (xs.size != ys.size) = true) (h : R (.ok (.ret (.bool true))) s) :
    wpAny (model prog w) A.in1 (Builtin.«list.__ne__» ⟨[.ref l, .ref b], []⟩) (FinOf prog w A R) (fun z s' => R (.error z) s') s := by
  obtain ⟨hp, g, d, tk, os⟩ := s
  have sub := AutoSeq1.sub_list_list
  wp_walk using wpAny_loadPart' gl, wpAny_loadPart' gb
  exact h
theorem ne_nil {l b : Addr} {xs ys : Array Value} {n n2 : Nat} {dd dd2 : Option Addr} {sl sl2 : Array (Option Value)} {s : Shared} (gl : s.heap.get? l = some { cls := .type "list", dict := dd, data := .seq xs n, slots := sl }) (gb : s.heap.get? b = some { cls := .type "list", dict := dd2, data := .seq ys n2, slots := sl2 })
    (h1 : xs.size = 0) (h2 : ys.size = 0) (h : R (.ok (.ret (.bool false))) s) :
    wpAny (model prog w) A.in1 (Builtin.«list.__ne__» ⟨[.ref l, .ref b], []⟩) (FinOf prog w A R) (fun z s' => R (.error z) s') s := by
  have rec' : wpAny (model prog w) A.in1 (Builtin.«list.__eq__.loop» ⟨[.ref l, .ref b, rawInt ((0 : Nat) : Int), rawInt 3], []⟩) (FinOf prog w A R) (fun z s' => R (.error z) s') s := by
    obtain ⟨hp, g, d, tk, os⟩ := s
    wp_walk using wpAny_loadPart' gl, wpAny_loadPart' gb
    rw [show xs[((0 : Nat) : Int).toNat]? = none by simp [h1], show ys[((0 : Nat) : Int).toNat]? = none by simp [h2]]
    wp_walk using wpAny_loadPart' gl, wpAny_loadPart' gb
    show R (.ok (.ret (.bool (xs.size != ys.size)))) _
    rw [h1, h2]
    exact h
  obtain ⟨hp, g, d, tk, os⟩ := s
  have sub := AutoSeq1.sub_list_list
  have hne : ¬ (xs.size != ys.size) = true := by simp [h1, h2]
  wp_walk using wpAny_loadPart' gl, wpAny_loadPart' gb
  exact ⟨plainId_quiet plain_eq_loop _, codeAny_builtin entry_eq_loop (by rw [Around.under_plainId plain_eq_loop _]; exact rec')⟩
end
section
variable {prog : Program} {w : World} {A : Around} {E : Value → Shared → Prop} {s : Shared}
theorem rc_ne_empty {l b : Addr} {xs ys : Array Value} {Q : Value → Shared → Prop} (hu : A.units < cLine) (hl : s.heap.IsList l xs) (hb : s.heap.IsList b ys) (h2 : ys.size = 0) (h : Q (.bool (xs.size != 0)) s) : wpAny (model prog w) A (richCompare .NotEq (.ref l) (.ref b)) Q E s := by
  obtain ⟨⟨cls, dd, data, sl⟩, ho, hc, n, hd⟩ := id hl
  obtain ⟨⟨cls2, dd2, data2, sl2⟩, ho2, hc2, n2, hd2⟩ := id hb
  simp only at hc hd hc2 hd2
  subst hc hd hc2 hd2
  refine wpAny_richCompare_same_room (op := .NotEq) ⟨_, ho, rfl⟩ ⟨_, ho2, rfl⟩ F.slot_list_ne (call_here F.slot_list_ne ⟨_, ho, rfl⟩ F.entry_list_ne (F.args_list_ne_2 _ _) ?_) hu
  by_cases h1 : xs.size = 0
  · rw [h1] at h
    exact ne_nil (R := wants (fun v s' => v ≠ .notImplemented ∧ Q v s') E) ho ho2 h1 h2 ⟨(fun x => nomatch x), h⟩
  · rw [show (xs.size != 0) = true by simp [h1]] at h
    exact ne_len (R := wants (fun v s' => v ≠ .notImplemented ∧ Q v s') E) ho ho2 (by simp [h1, h2]) ⟨(fun x => nomatch x), h⟩
end
end GQ
namespace SR
open PySem PySem.Spec PyProof.Rows L2
section
variable {X : Cx}
/-- xs != [], a list of whatever -/
def rNeEmp (K : PySem.W.Frag) : R2 := fun x y H Q => ∃ (a b : Addr) (xs : List V), x = .ref a ∧ y = .ref b ∧ SqL K H a xs ∧ SqL K H b [] ∧ Q (.bl (xs.length != 0)) H
theorem op_neEmp (hu : X.A.units + 64 < cLine) : OpR X (compareOp .NotEq) (rNeEmp X.K) := by
  intro pins s σ H x y v u Q I rx ry h
  obtain ⟨a, b, xs, rfl, rfl, ha, hb, q⟩ := h
  cases (show v = Value.ref a from rx)
  cases (show u = Value.ref b from ry)
  obtain ⟨us, r1, p1, _⟩ := I.list ha
  obtain ⟨ws, r2, p2, _⟩ := I.list hb
  cases r2
  show wpAny (model X.prog X.w) X.A (richCompare .NotEq (.ref a) (.ref b)) (EP X pins σ Q) X.xe s
  refine GQ.rc_ne_empty (by omega) p1.isList p2.isList rfl ⟨.bl (us.toArray.size != 0), H, I, rfl, ?_⟩
  rw [List.size_toArray, ← r1.length]
  exact q
end
end SR
namespace SR
open PySem PySem.Spec PyProof.Rows L2
section
variable {X : Cx}
/-- l.count(x): texts -/
def rCountD (K : PySem.W.Frag) : V → List V → Hp → VK → Prop := fun x xs H Q => ∃ (a : Addr) (y : V) (d : PyData) (ds : List PyData), x = V.ref a ∧ xs = [y] ∧ Dp K H (V.ref a) (.list ds) ∧ Dp K H y d ∧
  SeqAt.shaped (.list ds) = true ∧ SeqAt.shaped d = true ∧ Q (.int ((ds.countP fun z => PyData.eqv z d : Nat) : Int)) H
theorem mt_countD (hu : X.A.units + 65 < cLine) : MtR X "list.count" (rCountD X.K) := by
  intro pins s σ H x xs v us Q I rx rxs h
  obtain ⟨a, y, d, ds, rfl, rfl, hl, hy, sl, sd, q⟩ := h
  cases rx
  cases rxs with
  | cons ry rt =>
    rename_i uy ut
    cases rt
    obtain ⟨bs, r1⟩ := Dp.reads I d y uy hy ry
    have hxs : PyData.canLayAll0 ds = true := SeqAt.canLay_of_shaped sl
    have hroom : X.A.units + 1 + min (PyData.depthAll ds) d.depth < cLine := room_in_shaped sd hu
    cases hl with
    | lst hs ha =>
      obtain ⟨its, rv, p, hlen⟩ := I.list hs
      obtain ⟨as, h4⟩ := Dp.readsAll I ds _ its ha rv
      exact SeqAt.count_list_data (vs := its.toArray) p.isList (show ReadsAll s.heap its.toArray.toList ds as from h4) r1 (PyData.plainAll_of_canLay0 ds hxs) (PyData.plain_of_canLay0 d (SeqAt.canLay_of_shaped sd)) hroom ⟨.int _, H, I.tok _, ⟨_, rfl⟩, q⟩
end
end SR
namespace SS
open PySem L2 SR TL
theorem kd_odd : ∀ o : Option Pt, eqV (.str (kdS o)) (.str (Str.ofString "odd")) = o.isNone
  | none => (by decide +kernel : (Str.ofString "odd" == Str.ofString "odd") = true)
  | some (.pc _) => (by decide +kernel : (Str.ofString "piece" == Str.ofString "odd") = false)
  | some (.sd _) => (by decide +kernel : (Str.ofString "said" == Str.ofString "odd") = false)
  | some (.sl ..) => (by decide +kernel : (Str.ofString "slot" == Str.ofString "odd") = false)
theorem kd_slotS : ∀ o : Option Pt, (kdS o == Str.ofString "slot") = (match o with | some p => isSl p | none => false)
  | none => (by decide +kernel : (Str.ofString "odd" == Str.ofString "slot") = false)
  | some (.pc _) => (by decide +kernel : (Str.ofString "piece" == Str.ofString "slot") = false)
  | some (.sd _) => (by decide +kernel : (Str.ofString "said" == Str.ofString "slot") = false)
  | some (.sl ..) => (by decide +kernel : (Str.ofString "slot" == Str.ofString "slot") = true)
theorem kd_slotV (p : Pt) : decide (V.str (kdS (some p)) = V.str (Str.ofString "slot")) = isSl p := by
  rw [show isSl p = (kdS (some p) == Str.ofString "slot") from (kd_slotS (some p)).symm]
  rw [Bool.eq_iff_iff, decide_eq_true_iff, beq_iff_eq]
  exact ⟨fun h => V.str.inj h, fun h => by rw [h]⟩
theorem kd_slot (o : Option Pt) : PyData.eqv (.str (kdS o)) (.str (Str.ofString "slot")) = (match o with | some p => isSl p | none => false) := by
  rw [← kd_slotS]
  simp only [PyData.eqv]
theorem kd_cnt : ∀ os : List (Option Pt), ((os.map fun o => PyData.str (kdS o)).countP fun z => PyData.eqv z (.str (Str.ofString "slot"))) = ((os.filterMap id).filter isSl).length
  | [] => rfl
  | o :: os => by
    rw [List.map_cons, List.countP_cons, kd_cnt os, kd_slot]
    cases o with
    | none => rfl
    | some p =>
      show _ = ((p :: os.filterMap id).filter isSl).length
      cases hs : isSl p with
      | true => rw [List.filter_cons_of_pos hs]; simp [hs]
      | false => rw [List.filter_cons_of_neg (by rw [hs]; decide)]; simp [hs]
theorem kd_leaf (os : List (Option Pt)) : SeqAt.shaped (.list (os.map fun o => PyData.str (kdS o))) = true := leaf_list fun d hd => by
  obtain ⟨o, _, rfl⟩ := List.mem_map.mp hd
  have key : ∀ x : Str, x ∈ [Str.ofString "odd", Str.ofString "slot", Str.ofString "said", Str.ofString "piece"] → Leaf (.str x) := fun x hx => ⟨by
    have : ∀ y ∈ [Str.ofString "odd", Str.ofString "slot", Str.ofString "said", Str.ofString "piece"], (PyData.str y).canLay0 = true := by decide +kernel
    exact this x hx, by simp [PyData.depth]⟩
  refine key _ ?_
  cases o with
  | none => simp [kdS]
  | some p => cases p <;> simp [kdS]
theorem kd_flat (os : List (Option Pt)) : (os.map fun o => V.str (kdS o)).all flatV = true := List.all_eq_true.mpr fun v hv => by
  obtain ⟨o, _, rfl⟩ := List.mem_map.mp hv
  rfl
theorem kd_in (os : List (Option Pt)) : inV (.str (Str.ofString "odd")) (os.map fun o => V.str (kdS o)) = os.any fun o => o.isNone := by
  unfold inV
  rw [List.any_map]
  exact congrArg os.any (funext fun o => kd_odd o)
/-- [x] * int(b) -/
theorem rep_bool {H : Hp} {q : Addr} {v : V} {b : Bool} {Q : VK} (h : H q = some (.lst [v])) (k : ∀ g H', Same H H' → H' g = some (.lst (if b = true then [v] else [])) → Q (.ref g) H') : rRep (.ref q) (.int (if b = true then 1 else 0)) H Q := by
  cases b with
  | true => exact ⟨q, 1, [v], rfl, rfl, h, by decide, by decide, by rw [sizeLine_eq]; simp, fun g hg => k g _ (same_new hg) upd_same⟩
  | false => exact ⟨q, 0, [v], rfl, rfl, h, by decide, by decide, by rw [sizeLine_eq]; simp, fun g hg => k g _ (same_new hg) upd_same⟩
theorem all_some {os : List (Option Pt)} (hn : os.findIdx? (fun o => o.isNone) = none) : os = (os.filterMap id).map some := by
  have hn' := List.findIdx?_eq_none_iff.mp hn
  clear hn
  induction os with
  | nil => rfl
  | cons o os ih =>
    cases o with
    | none => exact absurd (hn' none List.mem_cons_self) (by decide)
    | some p =>
      show some p :: os = some p :: (os.filterMap id).map some
      rw [← ih fun o ho => hn' o (List.mem_cons_of_mem _ ho)]
section
variable {P : Program} {w : World} {K : PySem.W.Frag} {mg : Str → Option Value} {base : Heap}
abbrev nLdu : List Str := ["_law_some", "_law_kinds", "_law_one", "_law_known", "_law_is_apart", "_law_at", "_law_thing", "_law_kind", "_law_label", "_law_is_empty", "_law_is_marking", "_law_found"]
abbrev psLdu : List Str := ["_law_some"]
theorem scLdu : FnScope nLdu psLdu (defScope sLdu) := ⟨rfl, rfl, rfl, by decide +kernel, rfl, by decide +kernel, by decide +kernel⟩
def spLdu (L : Addr) : Sp := fun vs H Q _ => ∃ (a : Addr) (ts : List Addr) (os : List (Option Pt)), vs = [.ref a] ∧ H a = some (.lst (ts.map .ref)) ∧ Paired (El5 L H) ts os ∧ ts.length ≤ 30 ∧ (dueAll os = none → ∀ H', Same H H' → Q .non H') ∧
  ∀ k i, dueAll os = some (k, i) → ∀ (p : Addr) (H' : Hp), Same H H' → H' p = some (.tup [.str (pbS k), plV i]) → Q (.ref p) H'
theorem ok_ldu {f L : Addr} {fd : FuncData} (F : Fun K "_law_due" "_law_due" sLdu f fd) (B : Bl mg) : FnOk P w K mg base CX0 1 f fd psLdu (spLdu L) := by
  refine F.ok scLdu (fun vs H Q E h => ?_) (fun cdv A outer s H vs Q E hr h => ?_)
  · obtain ⟨a, ts, os, rfl, _⟩ := h
    rfl
  · obtain ⟨a, ts, os, rfl, h1, h2, hl, kn, kb⟩ := h
    have hu65 : (A.deeper (PyProof.Rows.envOfC "_law_due" (defScope sLdu) s.heap.objs.size f cdv)).units + 65 < cLine := by have := hr.un; omega
    refine ⟨_, pss_cons (ps_if (PW.pt (pw_or (pt_cmpR op_lt (pe_callB call_len_seq (by rfl) B.len boot_len (pa_cons (pv 0) pa_nil)) pe_int (nomark _)) (pw_or1 (pt_cmpR op_gt (pe_callB call_len_seq (by rfl) B.len boot_len (pa_cons (pv 0) pa_nil)) pe_int (nomark _)))))
        (pss_one (ps_ret (pe_tup (pa_cons pe_str (pa_cons pe_non pa_nil))))) pss_nil)
      (pss_cons (ps_setLc (i := 1) (own := [("_law_one", 2)]) (g := gName 2) (tt := tYes) (te := tOp (rIxT K) (tVar 2) (tC (.int 1))) rfl scLdu.nd rfl rfl (sw_true rfl rfl rfl (by decide +kernel)) (pi_list (pv 0)) (blkOk_by (by kernel_rfl)) (fun _ _ _ _ _ => pg_name (i := 2) scLdu.nd rfl (.inl rfl)) (fun _ _ _ _ _ => pts_nil) (fun _ _ _ _ _ => pe_ix ix_tup (pv 2) pe_int (fun _ _ => rfl)))
      (pss_cons (ps_if (pt_cmpR op_in_seq pe_str (pv 1) (by rfl))
        (pss_one (ps_ret (pe_tup (pa_cons pe_str (pa_cons (pe_bm PySem.F.plainAttrs_list PySem.F.slot_list_index PySem.F.type_list_index mt_index (pv 1) (pa_cons pe_str pa_nil)) pa_nil))))) pss_nil)
      (pss_cons (ps_if (pt_cmpR op_gt (pe_bm PySem.F.plainAttrs_list PySem.F.slot_list_count PySem.F.type_list_count (mt_countD hu65) (pv 1) (pa_cons pe_str pa_nil)) pe_int (nomark _))
        (pss_one (ps_ret (pe_tup (pa_cons pe_str (pa_cons pe_non pa_nil))))) pss_nil)
      (pss_cons (ps_par (i := 3) (j := 4) (by rfl) scLdu.nd rfl rfl (by decide) rfl rfl (pa_cons (pe_lst pa_nil) (pa_cons pe_bl pa_nil)) (by rfl))
      (pss_cons (ps_for PassesOwn.never rfl (pi_enum (by rfl) B.enumerate (pa_cons (pv 0) pa_nil)) (pg_tup rfl (pgs_cons (pg_name (i := 5) scLdu.nd rfl (.inl rfl)) (pgs_cons (pg_tup rfl (pgs_cons (pg_name (i := 6) scLdu.nd rfl (.inl rfl)) (pgs_cons (pg_name (i := 7) scLdu.nd rfl (.inl rfl)) (pgs_cons (pg_name (i := 8) scLdu.nd rfl (.inl rfl)) (pgs_cons (pg_name (i := 9) scLdu.nd rfl (.inl rfl)) (pgs_cons (pg_name (i := 10) scLdu.nd rfl (.inl rfl)) pgs_nil)))))) pgs_nil)))
        (pss_cons (ps_if (pt_cmpR op_eq (pv 7) pe_str (nomark _))
        (pss_cons (ps_set (i := 11) scLdu.nd rfl (.inl rfl) (pe_op op_cat (pe_op op_rep (pe_lst (pa_cons (pe_tup (pa_cons pe_str (pa_cons (pv 5) pa_nil))) pa_nil)) (pe_callTy call_int1 (by rfl) B.int (by decide +kernel) (pa_cons (pe_cmpR op_in_seq (pv 8) (pv 3) (by rfl)) pa_nil))) (pe_op op_rep (pe_lst (pa_cons (pe_tup (pa_cons pe_str (pa_cons (pv 5) pa_nil))) pa_nil)) (pe_callTy call_int1 (by rfl) B.int (by decide +kernel) (pa_cons (pv 9) pa_nil)))))
      (pss_cons (ps_set (i := 11) scLdu.nd rfl (.inl rfl) (pe_op op_cat (pv 11) (pe_op op_rep (pe_lst (pa_cons (pe_tup (pa_cons pe_str (pa_cons (pv 5) pa_nil))) pa_nil)) (pe_callTy call_int1 (by rfl) B.int (by decide +kernel) (pa_cons (pe_not (pv 4)) pa_nil)))))
      (pss_cons (ps_if (pt_cmpR (op_neEmp (Nat.lt_of_succ_lt hu65)) (pv 11) (pe_lst pa_nil) (nomark _))
        (pss_one (ps_ret (pe_ix ix_list (pv 11) pe_int (fun _ _ => rfl)))) pss_nil)
      (pss_one (ps_expr (pe_bm PySem.F.plainAttrs_list PySem.F.slot_list_append PySem.F.type_list_append mt_append (pv 3) (pa_cons (pv 8) pa_nil))))))) pss_nil)
      (pss_one (ps_set (i := 4) scLdu.nd rfl (.inl rfl) (pe_and (pe_cmpR op_ne (pv 7) pe_str (nomark _)) (pe_one (pe_or (pv 4) (pe_one (pv 10)))))))))
      (pss_one (ps_ret pe_non))))))), ?_⟩
    have hol : ts.length = os.length := Paired.length h2
    have hsq : ∀ {H' : Hp}, Same H H' → SqL K H' a (ts.map .ref) ∨ SqT K H' a (ts.map .ref) := fun e => .inl (SqL.of (e _ _ h1))
    refine ⟨_, rfl, a, _, rfl, hsq (Same.refl _), _, _, rfl, rfl, _, rfl, ?_⟩
    by_cases hlo : os.length < 1 ∨ 12 < os.length
    · have hd : dueAll os = some (3, none) := by unfold dueAll; rw [if_pos hlo]
      have bad : tRet (tTup (tCons (tC (.str (Str.ofString "parts"))) (tCons (tC .non) tNil))) { nx := fun _ H' => Q .non H', rt := Q } (L2.start nLdu [V.ref a]) H := ⟨by show 2 ≤ sizeLine; decide, fun p hp => kb 3 none hd p _ (same_new hp) upd_same⟩
      by_cases h0 : os.length < 1
      · rw [show decide ((((ts.map V.ref).length : Nat) : Int) < 1) = true from decide_eq_true (by rw [List.length_map]; omega)]
        exact iteT (iteT bad)
      · rw [show decide ((((ts.map V.ref).length : Nat) : Int) < 1) = false from decide_eq_false (by rw [List.length_map]; omega)]
        refine iteF ⟨_, rfl, a, _, rfl, hsq (Same.refl _), _, _, rfl, rfl, _, rfl, ?_⟩
        rw [show decide ((12 : Int) < (((ts.map V.ref).length : Nat) : Int)) = true from decide_eq_true (by rw [List.length_map]; omega)]
        exact iteT bad
    rw [show decide ((((ts.map V.ref).length : Nat) : Int) < 1) = false from decide_eq_false (by rw [List.length_map]; omega)]
    refine iteF ⟨_, rfl, a, _, rfl, hsq (Same.refl _), _, _, rfl, rfl, _, rfl, ?_⟩
    rw [show decide ((12 : Int) < (((ts.map V.ref).length : Nat) : Int)) = false from decide_eq_false (by rw [List.length_map]; omega)]
    refine iteF ?_
    refine ⟨_, rfl, a, rfl, ⟨_, SqL.of h1⟩, fun D hD => lc_S (walk_list (K := K) (a := a) (xs := ts.map V.ref)) hD (by rw [List.length_map]; omega) (fun i acc _ => acc = (os.take i).map fun o => V.str (kdS o)) (fun _ _ _ _ _ _ _ h => h) rfl (fun H' e' => SqL.of (e' _ _ h1)) ?_ ?_⟩
    · rintro i v HA' HA acc Qt Qf hi eA hd rfl ⟨rfl, hv⟩ kt kf
      rw [List.getElem?_map] at hv
      obtain ⟨t, ht, rfl⟩ := Option.map_eq_some_iff.mp hv
      obtain ⟨o, ho, hel⟩ := paired_getL _ h2 ht
      obtain ⟨v, hv1, hv2⟩ := hel.ex
      refine ⟨rfl, _, rfl, t, _, 1, _, rfl, rfl, SqT.of (eA _ _ hv1), rfl, kt _ _ (Same.refl _) ?_⟩
      rw [List.take_add_one, ho, List.map_append]
      rfl
    rintro HA acc eA hDA rfl
    rw [List.length_map, hol, List.take_length] at hDA
    refine ⟨_, rfl, D, _, rfl, .inl (SqL.of hDA), rfl, kd_flat os, _, rfl, ?_⟩
    rw [kd_in]
    cases hany : os.any (fun o => o.isNone) with
    | true =>
      cases hf : os.findIdx? (fun o => o.isNone) with
      | none =>
        have hn := List.findIdx?_eq_none_iff.mp hf
        obtain ⟨o, ho, hz⟩ := List.any_eq_true.mp hany
        rw [hn o ho] at hz
        cases hz
      | some j =>
        obtain ⟨hj, hj1, hj2⟩ := List.findIdx?_eq_some_iff_getElem.mp hf
        have hd : dueAll os = some (4, some j) := by unfold dueAll; rw [if_neg hlo, hf]
        refine iteT ⟨_, rfl, .inl ⟨rfl, _, SqL.of hDA⟩, ?_⟩
        refine ⟨D, os.map fun o => V.str (kdS o), .str (Str.ofString "odd"), j, .str (kdS os[j]), rfl, rfl, SqL.of hDA, rfl, kd_flat os, by rw [List.getElem?_map, List.getElem?_eq_getElem hj]; rfl, by rw [kd_odd]; exact hj1, fun m z hm hz => ?_, by show 2 ≤ sizeLine; decide, fun p hp => ?_⟩
        · rw [List.getElem?_map] at hz
          obtain ⟨o, ho, rfl⟩ := Option.map_eq_some_iff.mp hz
          rw [kd_odd]
          have := hj2 m hm
          rw [List.getElem?_eq_getElem (by omega)] at ho
          rw [← Option.some.inj ho]
          exact Bool.eq_false_iff.mpr this
        · exact kb 4 (some j) hd p _ (eA.trans (same_new hp)) upd_same
    | false =>
      refine iteF ?_
      have hf : os.findIdx? (fun o => o.isNone) = none := List.findIdx?_eq_none_iff.mpr fun o ho => by
        cases hz : o.isNone with
        | false => rfl
        | true => rw [List.any_eq_true.mpr ⟨o, ho, hz⟩] at hany; cases hany
      obtain ⟨ps, hps⟩ : ∃ ps, ps = os.filterMap id := ⟨_, rfl⟩
      have hd4 : dueAll os = if 4 < (ps.filter isSl).length then some (5, none) else (sprL true [] 0 ps).map fun z => (z.1, some z.2) := by unfold dueAll; rw [if_neg hlo, hf, hps]
      refine ⟨_, rfl, .inl ⟨rfl, _, SqL.of hDA⟩, ?_⟩
      refine ⟨D, .str (Str.ofString "slot"), .str (Str.ofString "slot"), os.map fun o => PyData.str (kdS o), rfl, rfl, .lst (SqL.of hDA) (dp_map (fun o => .str (kdS o)) os), .str _, kd_leaf os, (by decide +kernel : SeqAt.shaped (.str (Str.ofString "slot")) = true), ?_⟩
      rw [kd_cnt, ← hps]
      refine ⟨_, _, rfl, rfl, _, rfl, ?_⟩
      by_cases h4 : 4 < (ps.filter isSl).length
      · rw [if_pos h4] at hd4
        rw [show decide ((4 : Int) < (((ps.filter isSl).length : Nat) : Int)) = true from decide_eq_true (by omega)]
        exact iteT ⟨by show 2 ≤ sizeLine; decide, fun p hp => kb 5 none hd4 p _ (eA.trans (same_new hp)) upd_same⟩
      rw [if_neg h4] at hd4
      rw [show decide ((4 : Int) < (((ps.filter isSl).length : Nat) : Int)) = false from decide_eq_false (by omega)]
      refine iteF ?_
      -- the slots
      have hosps : os = ps.map some := by rw [hps]; exact all_some hf
      have hlen : ps.length = os.length := by rw [hosps, List.length_map]
      rw [hosps] at h2
      refine ⟨by show 0 ≤ sizeLine; decide, fun l hl => ⟨_, _, rfl, ?_⟩⟩
      have e5 := same_new (o := .lst []) hl
      have h5 := upd_same (H := HA) (a := l) (o := .lst [])
      generalize (upd HA l (.lst [])) = H5 at e5 h5 ⊢
      have e05 := eA.trans e5
      refine ⟨_, rfl, a, _, rfl, SqL.of (e05 _ _ h1), for_it (walk_enum (K := K) (a := a) (xs := ts.map V.ref)) (fun i σ H' => Same H H' ∧ ∃ (m : Bool) (ns : List (List Nat)) (a2 a5 a6 a7 a8 a9 a10 a11 : Option V), σ = [some (.ref a), some (.ref D), a2, some (.ref l), some (.bl m), a5, a6, a7, a8, a9, a10, a11] ∧ H' l = some (.lst (ns.map txtV)) ∧ ns.length ≤ i ∧ sprL m ns i (ps.drop i) = sprL true [] 0 ps) ⟨e05, true, [], _, _, _, _, _, _, _, _, rfl, h5, Nat.zero_le _, rfl⟩ (fun i σ H' _ q => SqL.of (q.1 _ _ h1)) ?_ ?_⟩
      · rintro i v σ H6 H7 hi ⟨e6, m, ns, a2, a5, a6, a7, a8, a9, a10, a11, rfl, hn, hnl, hsp⟩ ⟨T, x, y, rfl, hT, eH7, hx, hy⟩
        cases hx
        dsimp only at hy
        rw [List.getElem?_map] at hy
        obtain ⟨t, ht, rfl⟩ := Option.map_eq_some_iff.mp hy
        obtain ⟨o, ho, hel⟩ := paired_getL _ h2 ht
        rw [List.getElem?_map] at ho
        obtain ⟨p, hp, rfl⟩ := Option.map_eq_some_iff.mp ho
        have e7 : Same H6 H7 := by rw [eH7]; exact same_new hT
        have hT7 : H7 T = some (.tup [.int (i : Nat), .ref t]) := by rw [eH7]; exact upd_same
        clear eH7
        have e07 := e6.trans e7
        obtain ⟨v, hv1, hv2⟩ := (hel.mono e07).ex
        have hn7 := e7 _ _ hn
        obtain ⟨hip, hpi⟩ := List.getElem?_eq_some_iff.mp hp
        have hdrop : ps.drop i = p :: ps.drop (i + 1) := by rw [List.drop_eq_getElem_cons hip, hpi]
        rw [hdrop, sprL] at hsp
        have hlH : H l = none := eA.free hl
        refine ⟨T, _, rfl, SqT.of hT7, rfl, _, _, rfl, _, _, rfl, t, _, rfl, SqT.of hv1, rfl, _, _, rfl, _, _, rfl, _, _, rfl, _, _, rfl, _, _, rfl, rfl, rfl, ?_⟩
        refine ⟨_, rfl, rfl, _, rfl, ?_⟩
        rw [kd_slotV]
        cases hs : isSl p with
        | false =>
          rw [hs, if_neg (by decide)] at hsp
          refine iteF ?_
          refine ⟨_, rfl, rfl, _, rfl, ?_⟩
          rw [kd_slotV, hs]
          refine iteT ⟨_, rfl, _, rfl, ?_⟩
          cases m with
          | true => exact iteT ⟨e07, true, ns, _, _, _, _, _, _, _, _, rfl, hn7, by omega, by rw [Bool.true_or] at hsp; exact hsp⟩
          | false => exact iteF ⟨_, rfl, ⟨e07, _, ns, _, _, _, _, _, _, _, _, rfl, hn7, by omega, by rw [Bool.false_or] at hsp; exact hsp⟩⟩
        | true =>
          rw [hs, if_pos rfl] at hsp
          refine iteT ?_
          refine ⟨_, rfl, by show 2 ≤ sizeLine; decide, fun p1 hp1 => ⟨by show 1 ≤ sizeLine; decide, fun q1 hq1 => ?_⟩⟩
          have s1 := same_new (o := .tup [.str (Str.ofString "name"), .int (i : Nat)]) hp1
          have s2 := same_new (o := .lst [.ref p1]) hq1
          refine ⟨_, rfl, _, rfl, l, _, rfl, .inl (SqL.of (s2 _ _ (s1 _ _ hn7))), rfl, flat_txts _, ?_⟩
          refine .inr ⟨_, rfl, rep_bool upd_same fun g1 Hc sc hg1 => ?_⟩
          have hg1 : Hc g1 = some (.lst (if decide (nmOf p ∈ ns) = true then [V.ref p1] else [])) := by
            rw [← inV_txts]
            exact hg1
          have r1 : Hc p1 = _ := sc _ _ (s2 _ _ (upd_same (H := H7) (a := p1) (o := .tup [.str (Str.ofString "name"), .int (i : Nat)])))
          have s7c := s1.trans (s2.trans sc)
          refine ⟨_, rfl, by show 2 ≤ sizeLine; decide, fun p2 hp2 => ⟨by show 1 ≤ sizeLine; decide, fun q2 hq2 => ?_⟩⟩
          have s3 := same_new (o := .tup [.str (Str.ofString "empty"), .int (i : Nat)]) hp2
          have s4 := same_new (o := .lst [.ref p2]) hq2
          refine ⟨_, rfl, .inr ⟨_, rfl, rep_bool upd_same fun g2 Hd sd hg2 => ?_⟩⟩
          have r2 : Hd p2 = _ := sd _ _ (s4 _ _ (upd_same (H := Hc) (a := p2) (o := .tup [.str (Str.ofString "empty"), .int (i : Nat)])))
          have scd := s3.trans (s4.trans sd)
          refine ⟨g1, g2, _, _, rfl, rfl, scd _ _ hg1, hg2, by rw [sizeLine_eq]; split <;> split <;> simp, fun g3 hg3n => ?_⟩
          have s5 := same_new (o := .lst ((if decide (nmOf p ∈ ns) = true then [V.ref p1] else []) ++ (if emO (some p) = true then [V.ref p2] else []))) hg3n
          have hg3 := upd_same (H := Hd) (a := g3) (o := .lst ((if decide (nmOf p ∈ ns) = true then [V.ref p1] else []) ++ (if emO (some p) = true then [V.ref p2] else [])))
          generalize (upd Hd g3 (.lst ((if decide (nmOf p ∈ ns) = true then [V.ref p1] else []) ++ (if emO (some p) = true then [V.ref p2] else [])))) = He at s5 hg3 ⊢
          refine ⟨_, rfl, _, rfl, by show 2 ≤ sizeLine; decide, fun p3 hp3 => ⟨by show 1 ≤ sizeLine; decide, fun q3 hq3 => ?_⟩⟩
          have s6 := same_new (o := .tup [.str (Str.ofString "mark"), .int (i : Nat)]) hp3
          have s7 := same_new (o := .lst [.ref p3]) hq3
          refine ⟨_, rfl, _, rfl, .inr ⟨_, rfl, rep_bool upd_same fun g4 Hf sf hg4 => ?_⟩⟩
          have r3 : Hf p3 = _ := sf _ _ (s7 _ _ (upd_same (H := He) (a := p3) (o := .tup [.str (Str.ofString "mark"), .int (i : Nat)])))
          have sef := s6.trans (s7.trans sf)
          have r1f := sef _ _ (s5 _ _ (scd _ _ r1))
          have r2f := sef _ _ (s5 _ _ r2)
          have hg3f := sef _ _ hg3
          refine ⟨g3, g4, _, _, rfl, rfl, hg3f, hg4, by rw [sizeLine_eq]; split <;> split <;> split <;> simp, fun g5 hg5n => ?_⟩
          have s0f : Same H Hf := e07.trans (s7c.trans (scd.trans (s5.trans sef)))
          have s7f : Same H7 Hf := s7c.trans (scd.trans (s5.trans sef))
          obtain ⟨xs5, hx5⟩ : ∃ xs5 : List V, xs5 = ((if decide (nmOf p ∈ ns) = true then [V.ref p1] else []) ++ (if emO (some p) = true then [V.ref p2] else [])) ++ (if (!m) = true then [V.ref p3] else []) := ⟨_, rfl⟩
          rw [← hx5]
          have s8 := same_new (o := .lst xs5) hg5n
          refine gname_go ⟨_, rfl, by show 0 ≤ sizeLine; decide, fun e0 he0 => ⟨g5, e0, xs5, rfl, rfl, SqL.of (same_new he0 _ _ upd_same), SqL.of upd_same, _, rfl, ?_⟩⟩
          have s9 := same_new (o := .lst []) he0
          have s89 := s8.trans s9
          have hg5 : (upd (upd Hf g5 (.lst xs5)) e0 (.lst [])) g5 = some (.lst xs5) := s9 _ _ upd_same
          generalize (upd (upd Hf g5 (.lst xs5)) e0 (.lst [])) = Hg at s89 hg5 ⊢
          have first : ∀ (k : Nat) (pa : Addr) (rest : List V), xs5 = .ref pa :: rest → Hf pa = some (.tup [.str (pbS k), .int (i : Nat)]) → sprL true [] 0 ps = some (k, i) →
              tRet (tOp (rIxL K) (tVar 11) (tC (.int 0))) { nx := fun _ H' => Q .non H', rt := Q } (((((((([some (V.ref a), some (V.ref D), a2, some (V.ref l), some (V.bl m), a5, a6, a7, a8, a9, a10, a11].set 5 (some (V.int (i : Nat)))).set 6 (some v)).set 7 (some (V.str (kdS (some p))))).set 8 (some (V.str (lbS (some p))))).set 9 (some (V.bl (emO (some p))))).set 10 (some (V.bl (mkB' (some p))))).set 11 (some (V.ref g3))).set 11 (some (V.ref g5))) Hg := fun k pa rest hx hpa hk => by
            rw [hk] at hd4
            subst hx
            exact ⟨_, rfl, g5, _, 0, _, rfl, rfl, SqL.of hg5, at0 _ _, kb k (some i) hd4 pa _ (s0f.trans s89) (s89 _ _ hpa)⟩
          by_cases hb1 : nmOf p ∈ ns
          · rw [if_pos hb1] at hsp
            rw [decide_eq_true hb1, if_pos rfl] at hx5
            rw [show (xs5.length != 0) = true by rw [hx5]; rfl]
            exact iteT (first 0 p1 _ (by rw [hx5]; rfl) r1f hsp.symm)
          rw [if_neg hb1] at hsp
          rw [decide_eq_false hb1, if_neg (by decide : ¬ (false = true))] at hx5
          by_cases hb2 : emB p = true
          · rw [if_pos hb2] at hsp
            rw [if_pos (show emO (some p) = true from hb2)] at hx5
            rw [show (xs5.length != 0) = true by rw [hx5]; rfl]
            exact iteT (first 1 p2 _ (by rw [hx5]; rfl) r2f hsp.symm)
          rw [if_neg hb2] at hsp
          rw [if_neg (show ¬ emO (some p) = true from hb2)] at hx5
          cases m with
          | false =>
            rw [if_pos rfl] at hsp
            rw [if_pos (by rfl)] at hx5
            rw [show (xs5.length != 0) = true by rw [hx5]; rfl]
            exact iteT (first 2 p3 _ (by rw [hx5]; rfl) r3 hsp.symm)
          | true =>
            rw [if_neg (by decide : ¬ (true = false))] at hsp
            rw [if_neg (by decide)] at hx5
            rw [show (xs5.length != 0) = false by rw [hx5]; rfl]
            refine iteF ?_
            have hng := s89 _ _ (s7f _ _ hn7)
            refine ⟨_, rfl, .inl ⟨rfl, _, SqL.of hng⟩, _, rfl, l, _, _, rfl, rfl, hng, by rw [List.length_map, sizeLine_eq]; omega, ?_⟩
            refine ⟨_, rfl, rfl, _, rfl, ?_⟩
            rw [kd_slotV, hs]
            refine iteF ⟨same_upd (s0f.trans s89) hlH, false, ns ++ [nmOf p], _, _, _, _, _, _, _, _, rfl, ?_, by rw [List.length_append]; show ns.length + 1 ≤ i + 1; omega, hsp⟩
            rw [upd_same, List.map_append]
            rfl
      · rintro σ H6 ⟨e6, m, ns, a2, a5, a6, a7, a8, a9, a10, a11, rfl, hn, hnl, hsp⟩
        rw [List.length_map, hol, ← hlen, List.drop_length] at hsp
        rw [← hsp] at hd4
        exact kn hd4 _ e6
end
end SS
set_option maxRecDepth 100000
set_option maxHeartbeats 4000000
namespace SR
open PySem PySem.Spec PyProof.Rows L2
section
variable {X : Cx} {CX : CXT} {k : Nat} {f : Addr} {fd : FuncData} {ps : List Str} {sp : Sp} {x : Str} {e : Expr} {es : List Expr} {t : TA} {p pos : Pos}
/-- C(e, ..) within a try -/
def tMakeS (C : Addr) (sp : Sp) (E : L2.St → XK) (t : TA) : TE := fun σ H Q => t σ H fun vs H1 => ∀ x dx, H1 x = none → H1 dx = none → dx ≠ x → sp (.ref x :: vs) (upd (upd H1 dx (.own x)) x (.ins C dx [])) (fun v H2 => v = .non ∧ Q (.ref x) H2) (E σ)
theorem run_makeCA {E : XK} {C : Addr} {pins : List (Addr × Obj)} {σ : L2.St} {H : Hp} {s : Shared} {Q : VK} {us : List Value} {vs : List V} (M : L2.Mk X.K C f) (F : FnC X.prog X.w X.K X.mg X.base CX k f fd ps sp) (hr : Room (k + 1) X.A) (hgd : X.A.guards = some []) (hb : Binds X.K fd ps []) (hx : PassesAt CX X σ E)
    (I : Inv X pins σ H s) (r : Vals vs us) (h : ∀ x dx, H x = none → H dx = none → dx ≠ x → sp (.ref x :: vs) (upd (upd H dx (.own x)) x (.ins C dx [])) (fun v H2 => v = .non ∧ Q (.ref x) H2) E) :
    wpAny (model X.prog X.w) X.A (call (.ref C) us) (EP X pins σ Q) X.xe s := by
  have hq := h (s.heap.objs.size + 1) s.heap.objs.size (I.hok.fresh (Nat.le_succ _)) (I.hok.fresh (Nat.le_refl _)) (Nat.ne_of_lt (Nat.lt_succ_self _))
  have I2 := Inv.made (C := C) I
  have r2 : Vals (V.ref (s.heap.objs.size + 1) :: vs) (Value.ref (s.heap.objs.size + 1) :: us) := .cons rfl r
  have hl : (Value.ref (s.heap.objs.size + 1) :: us).length = ps.length := by
    have e := r2.length
    rw [F.len _ _ _ _ hq] at e
    exact e.symm
  have bb := hb _ (Value.ref (s.heap.objs.size + 1) :: us) I2.kIn (by simpa using hl)
  rw [List.append_nil] at bb
  refine wpAny_call (make_map (f := f) I.kIn M.makes M.init (beq_iff_eq.mp M.fn) (codeAny_mono (F.run _ X.stack _ _ ⟨Value.ref (s.heap.objs.size + 1) :: us, []⟩ (Value.ref (s.heap.objs.size + 1) :: us) _ _ E (hr.make C us []) (make_guards hgd C us [])
    (I2.env0.make C us []) bb r2 hq) fun r s' hq' => ?_))
  cases r with
  | error e => exact hx pins _ _ e s' I2 hq'
  | ok fl =>
    cases fl with
    | ret u =>
      obtain ⟨v, H', I3, rv, ev, q3⟩ := I2.after hq'
      subst ev
      exact ⟨rv, ⟨V.ref (s.heap.objs.size + 1), H', I3, rfl, q3⟩⟩
    | next => exact False.elim hq'
    | brk => exact False.elim hq'
    | cont => exact False.elim hq'
theorem pe_makeCS {E : L2.St → XK} {C : Addr} (M : L2.Mk X.K C f) (F : FnC X.prog X.w X.K X.mg X.base CX k f fd ps sp) (hr : Room (k + 1) X.A) (hgd : X.A.guards = some []) (hg : Gl X x) (hm : X.mg x = some (.ref C)) (hb : Binds X.K fd ps []) (hx : ∀ σ, PassesAt CX X σ (E σ))
    (ha : PA X (e :: es) t) (hdb : (x == ("__debug__" : Str)) = false := by decide) (he : starEach (e :: es) X.env = (false, eval e X.env) :: starEach es X.env := by rfl) (hpl : (backTo pos (starEach es X.env)).any (·.1) = false := by rfl) :
    PE X (.Call (.Name x p) (e :: es) [] pos) (tMakeS C sp E t) := by
  refine ⟨fun pins s σ H Q I h => ?_⟩
  refine wpAny_Call_Name_kw (ld_glob I hg hm ?_ hdb)
  refine PySem.W.callWith_K (h₀ := X.base) I.ok.mod.kin M.kp (thn (ha.run pos pins s σ H _ I h) fun us s1 ⟨vs, H1, I1, r, q⟩ => ⟨I1.kIn, ?_⟩) he hpl
  exact run_makeCA M F hr hgd hb (hx σ) I1 r q
end
end SR
namespace SS
open PySem L2 SR TL
/-- what the top has written of the classes -/
structure Ex42 (K : PySem.W.Frag) (mg : Str → Option Value) (U Z IT IR IW D : Addr) : Prop where
  mU : mg "InvalidTemplate" = some (.ref U)
  mZ : mg "SlotsError" = some (.ref Z)
  mT : mg "InvalidTexts" = some (.ref IT)
  mD : mg "InvalidReader" = some (.ref IR)
  mW : mg "InvalidWord" = some (.ref IW)
  mG : mg "Template" = some (.ref D)
  mV : mg "ValueError" = none
  mL : mg "LookupError" = none
  mQ : mg "RuntimeError" = none
  e : PySem.W.exmOne K (.ref U) (.ref U) = some true
  c : ExcC K U
  x : XfC K U
  n1 : PySem.W.findIn K (.ref U) "problem" = some none
  n2 : PySem.W.findIn K (.ref U) "place" = some none
  iz : PySem.W.kitOne K (.ref U) (.ref Z) = some true
  iv : PySem.W.kitOne K (.ref U) (.type "ValueError") = some true
  il : PySem.W.kitAny K (.ref U) [.ref IT, .ref IR, .ref IW, .type "LookupError", .type "RuntimeError"] = some false
theorem takes0 {X : Cx} : Takes X (fun _ _ _ _ => False) := fun _ _ ⟨_, _, _, _, _, _, _, _, _, _, _, _, _, _, _, _, w⟩ => w.elim
theorem rel5 {a b c : Addr} {s t : String} : ∀ us, Vals [V.ref a, .ref b, .ref c, .ty s, .ty t] us → us = [.ref a, .ref b, .ref c, .type s, .type t] := fun us hv => by
  cases hv with
  | cons r1 rr => cases rr with
    | cons r2 rr => cases rr with
      | cons r3 rr => cases rr with
        | cons r4 rr => cases rr with
          | cons r5 rr => cases rr; cases r1; cases r2; cases r3; cases r4; cases r5; rfl
section
variable {P : Program} {w : World} {K : PySem.W.Frag} {mg : Str → Option Value} {base : Heap}
abbrev nLtd : List Str := ["_law_told_here", "_law_value", "_law_found", "_law_made", "e", "_law_is_one"]
abbrev psLtd : List Str := ["_law_told_here", "_law_value"]
theorem scLtd : FnScope nLtd psLtd (defScope sLtd) := ⟨rfl, rfl, rfl, by decide +kernel, rfl, by decide +kernel, by decide +kernel⟩
def spLtd (C L : Addr) : Sp := fun vs H Q _ => ∃ (x : Addr) (v : V), vs = [.ref x, v] ∧ ((∃ d, Ov H v d ∧ (isLstD d || isTupD d) = false ∧ ∀ p H', Same H H' → H' p = some (.tup [.str (pbS 3), plV none]) → Q (.ref p) H') ∨
  ∃ (a : Addr) (xs : List V) (os : List (Option Pt)), v = .ref a ∧ LoT H a xs ∧ Paired (ElA L H) xs os ∧ xs.length ≤ 100 ∧ (∀ k i, dueAll os = some (k, i) → ∀ p H', Same H H' → H' p = some (.tup [.str (pbS k), plV i]) → Q (.ref p) H') ∧ (dueAll os = none → ∀ H', Same H H' → Q .non H'))
theorem ok_ltd {f C L U Z IT IR IW D : Addr} {fd : FuncData} (F : Fun K "_law_told" "_law_told" sLtd f fd) (B : Bl mg) (S : Ex42 K mg U Z IT IR IW D) (TD : TTx K mg D) (MT : ∃ f fd, L2.Mk K D f ∧ FnC P w K mg base (L2.CX P w) 8 f fd psTin (spTinX L U D) ∧ Binds K fd psTin [])
    (PA : ∃ f fd, Meth K D "parts" f ∧ FnOk P w K mg base CX0 1 f fd psTs (spTpa D) ∧ Binds K fd psTs []) : FnC P w K mg base CX0 10 f fd psLtd (spLtd C L) := by
  obtain ⟨fU, dU, MU, GU, bU⟩ := MT
  obtain ⟨fP, dP, paM, paF, paB⟩ := PA
  refine .ofG (okG F scLtd (fun vs H Q E h => ?_) (fun cdv A outer s H vs Q E hr hgd h => ?_))
  · obtain ⟨x, v, rfl, _⟩ := h
    rfl
  · obtain ⟨x, v, rfl, h⟩ := h
    refine ⟨_, pss_cons (ps_set (i := 2) scLtd.nd rfl (.inl rfl) (pe_tup (pa_cons pe_str (pa_cons pe_non pa_nil))))
      (pss_cons (ps_try_tell (n := "e") (i := 4) (W0 := fun _ _ _ _ => False)
          (tb := fun W => tSeq (tAsg (tMakeS D (spTinX L U D) (WE W) (tCons (tVar 0) (tCons (tVar 1) tNil))) (gName 3)) (tAsg (tIf (tAnd (tB (tCB (rIsiT K) (tCons (tVar 1) (tCons (tTup (tCons (tC (.ty "list")) (tCons (tC (.ty "tuple")) tNil))) tNil)))) (tTest (tOp (rEqB (BList BSame)) (tMeth D "parts" (spTpa D) [] E0 (tVar 3) tNil) (tCB (fun xs H Q => ∃ p ys, xs = [V.ref p] ∧ (SqL K H p ys ∨ SqT K H p ys) ∧ ∀ (l : Addr), H l = none → Q (V.ref l) (upd H l (HO.lst ys))) (tCons (tVar 1) tNil))))) (tC .non) (tTup (tCons (tC (.str (Str.ofString "made"))) (tCons (tC .non) tNil)))) (gName 2)))
          (l := [(fun cls => PySem.W.exmOne K cls (.ref U), fun a cls d => (tSeq (tAsg (tAndV (tCB (rIsEA K a cls d) (tCons (tVar 4) (tCons (tC (.ref Z)) tNil))) (tCB (rIsEA K a cls d) (tCons (tVar 4) (tCons (tC (.ty "ValueError")) tNil)))) (gName 5)) (tIfS (tAnd (tB (tVar 5)) (tNot (tB (tCB (rIsETA K a cls d) (tCons (tVar 4) (tCons (tTup (tCons (tC (.ref IT)) (tCons (tC (.ref IR)) (tCons (tC (.ref IW)) (tCons (tC (.ty "LookupError")) (tCons (tC (.ty "RuntimeError")) tNil)))))) tNil)))))) (tAsg (tTup (tCons (tXfA K a cls d "problem" (tVar 4)) (tCons (tXfA K a cls d "place" (tVar 4)) tNil))) (gName 2)) tNext)))])
          rfl rfl scLtd.nd rfl rfl takes0
          (fun W pn xe tk _ => (pss_cons (ps_set (i := 3) scLtd.nd rfl (.inl rfl) (pe_makeCS MU GU (hr.mono (by decide)) hgd (by rfl) S.mG bU (fun σ => L2.passAt tk σ) (pa_cons (pv 0) (pa_cons (pv 1) pa_nil)))) (pss_one (ps_set (i := 2) scLtd.nd rfl (.inl rfl) (pe_ifExp (PW.pt (pw_and (pt_val (pe_callB call_isiT (by rfl) B.isinstance (by decide +kernel) (pa_cons (pv 1) (pa_cons (pe_tup (pa_cons (pe_bltn (v := .ty "list") (by rfl) B.list (by decide +kernel) rfl) (pa_cons (pe_bltn (v := .ty "tuple") (by rfl) B.tuple (by decide +kernel) rfl) pa_nil))) pa_nil)))) (pw_and1 (pt_cmpR (op_eqB (rcB_list monB_same eqB_same) (hr.mono (by decide))) (pe_meth0 (pv 3) TD.cl paM paF (hr.mono (by decide)) paB .nil pass0) (pe_callTy call_list_of (by rfl) B.list (by decide +kernel) (pa_cons (pv 1) pa_nil)) (nomark _))))) pe_non (pe_tup (pa_cons pe_str (pa_cons pe_non pa_nil))))))))
          (.cons (test_one ⟨rfl, by decide, .inl S.mU⟩) (fun a oe cls d pn hz hf => (pss_cons (ps_set (i := 5) scLtd.nd rfl (.inl rfl) (pe_and (pe_callB (call_isEA hz hf) (by rfl) B.isinstance (by decide +kernel) (pa_cons (pv 4) (pa_cons (pe_glob (v := .ref Z) rfl S.mZ rfl) pa_nil))) (pe_one (pe_callB (call_isEA hz hf) (by rfl) B.isinstance (by decide +kernel) (pa_cons (pv 4) (pa_cons (pe_bltn (v := .ty "ValueError") rfl S.mV (by decide +kernel) rfl) pa_nil)))))) (pss_one (ps_if (PW.pt (pw_and (pt_val (pv 5)) (pw_and1 (pt_not (pt_val (pe_callB (call_isETA hz hf) (by rfl) B.isinstance (by decide +kernel) (pa_cons (pv 4) (pa_cons (pe_tup (pa_cons (pe_glob (v := .ref IT) rfl S.mT rfl) (pa_cons (pe_glob (v := .ref IR) rfl S.mD rfl) (pa_cons (pe_glob (v := .ref IW) rfl S.mW rfl) (pa_cons (pe_bltn (v := .ty "LookupError") rfl S.mL (by decide +kernel) rfl) (pa_cons (pe_bltn (v := .ty "RuntimeError") rfl S.mQ (by decide +kernel) rfl) pa_nil)))))) pa_nil)))))))) (pss_one (ps_set (i := 2) scLtd.nd rfl (.inl rfl) (pe_tup (pa_cons (pe_xfA hz hf (pv 4)) (pa_cons (pe_xfA hz hf (pv 4)) pa_nil))))) pss_nil)))) .nil))
      (pss_one (ps_ret (pv 2)))), ?_⟩
    refine ⟨by show 2 ≤ sizeLine; decide, fun p0 hp0 => ?_⟩
    have e0 := same_new (o := .tup [.str (Str.ofString "other"), .non]) hp0
    generalize (upd H p0 (.tup [.str (Str.ofString "other"), .non])) = H1 at e0 ⊢
    refine ⟨_, rfl, _, rfl, fun g dx hg hdx ne => ?_⟩
    have em : Same H1 (upd (upd H1 dx (.own g)) g (.ins D dx [])) := same_upd (same_new hdx) hg
    have h0m : Same H _ := e0.trans em
    refine ⟨g, dx, x, v, rfl, upd_same, ?_⟩
    rcases h with ⟨d0, ho, hj, kk⟩ | ⟨a, xs, os, rfl, h1, h2', hl, kb, kg⟩
    · refine .inl ⟨d0, ho.mono h0m, hj, fun d H2 hd e2 h2 => ?_⟩
      refine ⟨true, S.e, fun _ a2 ha2 => ?_, fun q => (nomatch q)⟩
      have eH2 : Same H H2 := e0.trans (em.trans e2)
      have IS : ∀ {c : V} {cv : Value} {H3 : Hp} {Q3 : VK}, (∀ u, RelV c u → u = cv) → PySem.W.kitOne K (.ref U) cv = some true → Same H2 H3 → Q3 (.bl true) H3 → rIsEA K a2 (.ref U) (some d) [.ref a2, c] H3 Q3 := fun hc hk e3 q => ⟨_, rfl, S.c, _, _, _, d, _, rfl, hc, hk, rfl, e3 _ _ h2, q⟩
      refine ⟨_, rfl, IS (fun _ r => r) S.iz (Same.refl _) ⟨_, rfl, iteT ⟨_, rfl, IS (fun _ r => r) S.iv (Same.refl _) ?_⟩⟩⟩
      refine ⟨_, rfl, _, rfl, iteT ⟨_, rfl, by show 5 ≤ sizeLine; decide, fun p5 hp5 => ⟨U, S.c, rfl, p5, _, _, _, d, _, rfl, SqT.of upd_same, rel5, S.il, rfl, same_new hp5 _ _ h2, ?_⟩⟩⟩
      have e5 := same_new (o := .tup [.ref IT, .ref IR, .ref IW, .ty "LookupError", .ty "RuntimeError"]) hp5
      refine ⟨_, rfl, iteT ⟨U, S.x, S.n1, _, rfl, rfl, rfl, d, _, _, rfl, e5 _ _ h2, rfl, U, S.x, S.n2, _, rfl, rfl, rfl, d, _, _, rfl, e5 _ _ h2, rfl, by show 2 ≤ sizeLine; decide, fun p6 hp6 => ?_⟩⟩
      exact ⟨_, rfl, kk p6 _ (eH2.trans (e5.trans (same_new hp6))) upd_same⟩
    · refine .inr ⟨a, xs, os, rfl, h1.mono h0m, Paired.mono h2' fun _ _ g => g.mono h0m, hl, fun k i hk d H2 hd e2 h2 => ?_, fun hd ts H2 hts hT sb => ⟨rfl, ?_⟩⟩
      · refine ⟨true, S.e, fun _ a2 ha2 => ?_, fun q => (nomatch q)⟩
        have eH2 : Same H H2 := e0.trans (em.trans e2)
        have IS : ∀ {c : V} {cv : Value} {H3 : Hp} {Q3 : VK}, (∀ u, RelV c u → u = cv) → PySem.W.kitOne K (.ref U) cv = some true → Same H2 H3 → Q3 (.bl true) H3 → rIsEA K a2 (.ref U) (some d) [.ref a2, c] H3 Q3 := fun hc hk e3 q => ⟨_, rfl, S.c, _, _, _, d, _, rfl, hc, hk, rfl, e3 _ _ h2, q⟩
        refine ⟨_, rfl, IS (fun _ r => r) S.iz (Same.refl _) ⟨_, rfl, iteT ⟨_, rfl, IS (fun _ r => r) S.iv (Same.refl _) ?_⟩⟩⟩
        refine ⟨_, rfl, _, rfl, iteT ⟨_, rfl, by show 5 ≤ sizeLine; decide, fun p5 hp5 => ⟨U, S.c, rfl, p5, _, _, _, d, _, rfl, SqT.of upd_same, rel5, S.il, rfl, same_new hp5 _ _ h2, ?_⟩⟩⟩
        have e5 := same_new (o := .tup [.ref IT, .ref IR, .ref IW, .ty "LookupError", .ty "RuntimeError"]) hp5
        refine ⟨_, rfl, iteT ⟨U, S.x, S.n1, _, rfl, rfl, rfl, d, _, _, rfl, e5 _ _ h2, rfl, U, S.x, S.n2, _, rfl, rfl, rfl, d, _, _, rfl, e5 _ _ h2, rfl, by show 2 ≤ sizeLine; decide, fun p6 hp6 => ?_⟩⟩
        exact ⟨_, rfl, kb k i hk p6 _ (eH2.trans (e5.trans (same_new hp6))) upd_same⟩
      · subst hts
        have hF := hT H2 fun b o _ h => h
        have e02 : Same H H2 := fun b o hb => sb b o (ne_of_none (e0 _ _ hb) hg) (h0m _ _ hb)
        obtain ⟨dx', pl, fs, f1, f2, f3, f4, f5⟩ := id hF
        obtain ⟨tt, ty, kt⟩ := isi_LT (K := K) ((h1.mono e02))
        refine ⟨_, rfl, by show 2 ≤ sizeLine; decide, fun T hT' => ?_⟩
        have e3 := same_new (o := .tup [.ty "list", .ty "tuple"]) hT'
        obtain ⟨tt, ty, kt⟩ := isi_LT (K := K) (h1.mono (e02.trans e3))
        refine ⟨_, T, _, tt, _, true, rfl, upd_same, .cons (.ty _) (.cons (.ty _) .nil), ty, kt, true, rfl, iteT ?_⟩
        refine ⟨_, rfl, g, dx', fs, rfl, e3 _ _ f1, f4 _ (by decide) (by decide), g, x, ts, rfl, ⟨dx', pl, fs, e3 _ _ f1, f2, f3, f4, e3 _ _ f5⟩, fun l hl' => ?_⟩
        have e4 := same_new (o := .lst (ts.map .ref)) hl'
        refine ⟨_, rfl, a, _, rfl, (h1.mono (e02.trans (e3.trans e4))).seq, fun l2 hl2 => ?_⟩
        have e5 := same_new (o := .lst (ts.map .ref)) hl2
        refine ⟨true, ⟨l, l2, ts.map .ref, ts.map .ref, fun _ => true, rfl, rfl, e5 _ _ upd_same, upd_same, rfl, fun i x y hx hy => ?_, (List.all_eq_true.mpr fun _ _ => rfl).symm⟩, fun H3 e6 => ⟨true, rfl, iteT ?_⟩⟩
        · rw [hx] at hy
          cases hy
          rw [List.getElem?_map] at hx
          obtain ⟨z, _, rfl⟩ := Option.map_eq_some_iff.mp hx
          exact ⟨rfl, z, rfl, rfl⟩
        · exact ⟨_, rfl, kg hd _ (e02.trans (e3.trans (e4.trans (e5.trans e6))))⟩
end
end SS
set_option maxRecDepth 100000
set_option maxHeartbeats 4000000
namespace SR
open PySem PySem.Spec PyProof.Rows L2
open PySem.SeqAt
open AutoSeq1 (wpAny_loadPart')
open MeetsSeq
theorem str_eq_declines_dict (b : Str) (u : Tok) (l : Addr) (c : Value) (es : Array DictEntry) (n : Nat) (dd : Option Addr) (sl : Array (Option Value)) :
    Meets (Builtin.«str.__eq__» ⟨[.str b u, .ref l], []⟩) (fun _ R s => s.heap.get? l = some { cls := c, dict := dd, data := .dict es n, slots := sl } ∧ R (.ok (.ret .notImplemented)) s) :=
  .of_wp fun prog w A R s h => by obtain ⟨hp, g, d, tk, os⟩ := s; obtain ⟨hl, h⟩ := h; wp_walk using wpAny_loadPart' hl, wpAny_load hl; exact ⟨_, rfl, h⟩
section
variable {prog : Program} {w : World} {A : Around} {E : Value → Shared → Prop} {s : Shared} {R : Result → Shared → Prop}
theorem list_eq_declines_dict {l x : Addr} (hx : s.TypeIs (.ref x) "dict") (h : R (.ok (.ret .notImplemented)) s) :
    wpAny (model prog w) A.in1 (Builtin.«list.__eq__» ⟨[.ref l, .ref x], []⟩) (fun fin s' => match fin with | .done f => R (.ok f) s' | .again c' => c'.quiet = true ∧ codeAny (model prog w) A c' R s') E s := by
  show wpAny _ _ (slotArgs "__eq__" 1 ⟨[.ref l, .ref x], []⟩ >>= _) _ _ _
  refine wpAny_bind (m := slotArgs "__eq__" 1 ⟨[.ref l, .ref x], []⟩) (wpAny_pure ?_)
  refine wpAny_bind (m := isInstance (.ref x) (.type "list")) (wpAny_isInstance hx F.sub_dict_list ?_)
  exact wpAny_pure h
theorem tuple_eq_declines_dict {l x : Addr} (hx : s.TypeIs (.ref x) "dict") (h : R (.ok (.ret .notImplemented)) s) :
    wpAny (model prog w) A.in1 (Builtin.«tuple.__eq__» ⟨[.ref l, .ref x], []⟩) (fun fin s' => match fin with | .done f => R (.ok f) s' | .again c' => c'.quiet = true ∧ codeAny (model prog w) A c' R s') E s := by
  show wpAny _ _ (slotArgs "__eq__" 1 ⟨[.ref l, .ref x], []⟩ >>= _) _ _ _
  refine wpAny_bind (m := slotArgs "__eq__" 1 ⟨[.ref l, .ref x], []⟩) (wpAny_pure ?_)
  refine wpAny_bind (m := isInstance (.ref x) (.type "tuple")) (wpAny_isInstance hx F.sub_dict_tuple ?_)
  exact wpAny_pure h
theorem dict_eq_declines {l : Addr} {v : Value} {T : String} (hT : s.TypeIs (.ref l) "dict") (hv : s.TypeIs v T) (hs : isSubtype (.type T) (.type "dict") = pure false) (h : R (.ok (.ret .notImplemented)) s) :
    wpAny (model prog w) A.in1 (Builtin.«dict.__eq__» ⟨[.ref l, v], []⟩) (fun fin s' => match fin with | .done f => R (.ok f) s' | .again c' => c'.quiet = true ∧ codeAny (model prog w) A c' R s') E s := by
  show wpAny _ _ (Builtin.Dict.dictSlotArgs "__eq__" ⟨[.ref l, v], []⟩ >>= _) _ _ s
  refine wpAny_bind ?_
  unfold Builtin.Dict.dictSlotArgs
  refine wpAny_bind (wpAny_notOrdered_dict hT ?_)
  show wpAny _ _ (pure (Value.ref l, v)) _ _ s
  refine wpAny_pure ?_
  refine wpAny_bind (wpAny_isInstance hv hs ?_)
  simp only [Bool.not_false, if_true]
  exact wpAny_bind (wpAny_rule (wpAny_pure h))
end
section
variable {A : Around} {s : Shared}
theorem RcAt.str_dict (b : Str) (u : Tok) {l : Addr} {o : Obj} {es : Array DictEntry} {n : Nat} (ho : s.heap.get? l = some o) (hc : o.cls = .type "dict") (hd : o.data = .dict es n) (hu : A.units < cLine) : RcAt A s (.str b u) (.ref l) false := fun prog w E Q h => by
  obtain ⟨cls, dd, data, sl⟩ := o
  simp only at hc hd
  subst hc hd
  exact rc_eq_decline_or (k := false) (typeIs_str s b u) ⟨_, ho, rfl⟩ (by decide) F.sub_dict_str F.slot_str_eq F.slot_dict_eq_refl
    (fun _ hq => call_meets F.slot_str_eq (typeIs_str s b u) F.entry_str_eq (F.args_str_eq_2 _ _) (str_eq_declines_dict b u l (.type "dict") es n dd sl) ⟨ho, hq⟩)
    (fun _ hq => GQ.call_here F.slot_dict_eq_refl ⟨_, ho, rfl⟩ F.entry_dict_eq (F.args_dict_eq_2 _ _) (dict_eq_declines ⟨_, ho, rfl⟩ (typeIs_str s b u) F.sub_str_dict hq))
    (fun _ hq => wpAny_of_eq (rfl : isSame (.str b u) (.ref l) = pure false) hq) (.inr hu) h
end
end SR
set_option maxRecDepth 100000
set_option maxHeartbeats 4000000
namespace SR
open PySem PySem.Spec PyProof.Rows L2
open PySem.SeqAt
section
variable {A : Around} {s : Shared}
theorem RcAt.list_dict {l x : Addr} {items : Array Value} {o : Obj} {es : Array DictEntry} {n : Nat} (hl : s.heap.IsList l items) (ho : s.heap.get? x = some o) (hc : o.cls = .type "dict") (hd : o.data = .dict es n) (hu : A.units < cLine) : RcAt A s (.ref l) (.ref x) false := fun prog w E Q h => by
  obtain ⟨ol, hol, hcl, nl, hdl⟩ := hl
  have hne : l ≠ x := fun e => by subst e; rw [ho] at hol; cases hol; rw [hc] at hcl; simp at hcl
  exact rc_eq_decline_or (k := false) ⟨_, hol, hcl⟩ ⟨_, ho, hc⟩ (by decide) F.sub_dict_list F.slot_list_eq F.slot_dict_eq_refl
    (fun _ hq => GQ.call_here F.slot_list_eq ⟨_, hol, hcl⟩ F.entry_list_eq (F.args_list_eq_2 _ _) (list_eq_declines_dict ⟨_, ho, hc⟩ hq))
    (fun _ hq => GQ.call_here F.slot_dict_eq_refl ⟨_, ho, hc⟩ F.entry_dict_eq (F.args_dict_eq_2 _ _) (dict_eq_declines ⟨_, ho, hc⟩ ⟨_, hol, hcl⟩ F.sub_list_dict hq))
    (fun _ hq => wpAny_isSame_ref_other' hne hol ho (by rw [hc]; simp) hq) (.inr hu) h
theorem RcAt.tuple_dict {l x : Addr} {items : Array Value} {o : Obj} {es : Array DictEntry} {n : Nat} (hl : s.heap.IsTuple l items) (ho : s.heap.get? x = some o) (hc : o.cls = .type "dict") (hd : o.data = .dict es n) (hu : A.units < cLine) : RcAt A s (.ref l) (.ref x) false := fun prog w E Q h => by
  obtain ⟨ol, hol, hcl, nl, hdl⟩ := hl
  have hne : l ≠ x := fun e => by subst e; rw [ho] at hol; cases hol; rw [hc] at hcl; simp at hcl
  exact rc_eq_decline_or (k := false) ⟨_, hol, hcl⟩ ⟨_, ho, hc⟩ (by decide) F.sub_dict_tuple F.slot_tuple_eq F.slot_dict_eq_refl
    (fun _ hq => GQ.call_here F.slot_tuple_eq ⟨_, hol, hcl⟩ F.entry_tuple_eq (F.args_tuple_eq_2 _ _) (tuple_eq_declines_dict ⟨_, ho, hc⟩ hq))
    (fun _ hq => GQ.call_here F.slot_dict_eq_refl ⟨_, ho, hc⟩ F.entry_dict_eq (F.args_dict_eq_2 _ _) (dict_eq_declines ⟨_, ho, hc⟩ ⟨_, hol, hcl⟩ F.sub_tuple_dict hq))
    (fun _ hq => wpAny_isSame_ref_other' hne hol ho (by rw [hc]; simp) hq) (.inr hu) h
end
section
variable {X : Cx}
/-- an own dict as an object -/
theorem dK_obj {pins : List (Addr × Obj)} {σ : L2.St} {H : Hp} {s : Shared} {a : Addr} {zs : List (Int × Int)} (I : Inv X pins σ H s) (h : H a = some (.dK (SS.kvI zs))) : ∃ o es n, s.heap.get? a = some o ∧ o.cls = .type "dict" ∧ o.data = .dict es n := by
  obtain ⟨as, rd, _⟩ := SS.ov_reads I (.inr ⟨a, zs, rfl, h, rfl⟩) (show RelV (.ref a) (Value.ref a) from rfl)
  unfold SS.kvID at rd
  cases rd with
  | dict ho hc hd _ _ => exact ⟨_, _, _, ho, hc, hd⟩
/-- text == dict -/
def rStrDk : R2 := fun x y H Q => ∃ (b : Str) (a : Addr) (zs : List (Int × Int)), x = .str b ∧ y = .ref a ∧ H a = some (.dK (SS.kvI zs)) ∧ Q (.bl false) H
theorem op_strDk (hu : X.A.units < cLine) : OpR X (compareOp .Eq) rStrDk := by
  intro pins s σ H x y v u Q I rx ry h
  obtain ⟨b, a, zs, rfl, rfl, ha, q⟩ := h
  obtain ⟨t, rfl⟩ := rx
  obtain rfl : u = Value.ref a := ry
  obtain ⟨o, es, n, ho, hc, hd⟩ := dK_obj I ha
  exact RcAt.str_dict b t ho hc hd hu _ _ _ _ ⟨.bl false, H, I, rfl, q⟩
/-- a dict in a list of lists and tuples -/
def rDkIn (K : PySem.W.Frag) : R2 := fun x y H Q => ∃ (a l : Addr) (zs : List (Int × Int)) (bs : List Addr), x = .ref a ∧ y = .ref l ∧ H a = some (.dK (SS.kvI zs)) ∧ SqL K H l (bs.map .ref) ∧ (∀ b ∈ bs, (∃ xs, H b = some (.lst xs)) ∨ ∃ xs, H b = some (.tup xs)) ∧ Q (.bl false) H
theorem op_dkIn (hu : X.A.units + 1 < cLine) : OpR X (compareOp .In) (rDkIn X.K) := by
  intro pins s σ H x y v u Q I rx ry h
  obtain ⟨a, l, zs, bs, rfl, rfl, ha, hl, hb, q⟩ := h
  obtain rfl : v = Value.ref a := rx
  obtain rfl : u = Value.ref l := ry
  obtain ⟨o, es, n, ho, hc, hd⟩ := dK_obj I ha
  obtain ⟨its, rv, ⟨ol, nl, hol, hcl, hdn, hdl⟩, _⟩ := I.list hl
  have hu1 : X.A.in1.units < cLine := by show X.A.units + 1 < cLine; exact hu
  have key : ∀ y ∈ its, EqAt X.A.in1 s y (.ref a) false := by
    intro y hy
    obtain ⟨i, hi⟩ := List.mem_iff_getElem?.mp hy
    have hil : i < (bs.map V.ref).length := by rw [rv.length]; exact (List.getElem?_eq_some_iff.mp hi).1
    obtain ⟨z, hz⟩ : ∃ z, (bs.map V.ref)[i]? = some z := ⟨_, List.getElem?_eq_getElem hil⟩
    obtain ⟨y', hy', rz⟩ := rv.get hz
    obtain rfl : y' = y := by rw [hi] at hy'; cases hy'; rfl
    rw [List.getElem?_map] at hz
    obtain ⟨b, hb', rfl⟩ := Option.map_eq_some_iff.mp hz
    obtain rfl : y' = Value.ref b := rz
    rcases hb b (List.mem_of_getElem? hb') with ⟨xs, h⟩ | ⟨xs, h⟩
    · obtain ⟨its2, _, ⟨o2, n2, ho2, hc2, _, hd2⟩, _⟩ := I.list (SqL.of h)
      have hne : b ≠ a := fun e => by rw [e, ha] at h; cases h
      exact .of_refs hne (RcAt.list_dict ⟨o2, ho2, hc2, n2, hd2⟩ ho hc hd hu1)
    · obtain ⟨its2, _, ⟨o2, ho2, hc2, n2, hd2⟩, _⟩ := I.tuple (SqT.of h)
      have hne : b ≠ a := fun e => by rw [e, ha] at h; cases h
      exact .of_refs hne (RcAt.tuple_dict ⟨o2, ho2, hc2, n2, hd2⟩ ho hc hd hu1)
  refine in_listAt (fun _ => false) ⟨ol, hol, hcl, nl, hdl⟩ (fun y hy => key y (by simpa using hy)) ?_
  rw [show (its.toArray.any fun _ => false) = false from by rw [List.any_toArray]; exact List.any_eq_false.mpr fun _ _ => by simp]
  exact ⟨.bl false, H, I, rfl, q⟩
/-- text == any value -/
theorem op_eqSV (hu : X.A.units + 64 < cLine) : OpR X (compareOp .Eq) (fun x y H Q => rEqD X.K x y H Q ∨ rStrDk x y H Q) := (op_eqD hu).or (op_strDk (by omega))
theorem op_inV (hu : X.A.units + 65 < cLine) : OpR X (compareOp .In) (fun x y H Q => rInD X.K x y H Q ∨ rDkIn X.K x y H Q) := (op_inD hu).or (op_dkIn (by omega))
end
end SR
set_option maxRecDepth 100000
set_option maxHeartbeats 4000000
namespace SR
open PySem PySem.Spec PyProof.Rows L2
section
variable {X : Cx} {e : Expr} {es : List Expr} {ta : TA} {p1 p2 pos : Pos}
theorem typ_LE : typeOf (.type "LookupError") = pure (.type "type") := by kernel_rfl
/-- LookupError.__init__(self, ..) -/
theorem pe_reinitL {pl : Sem Bool} (hg : Gl X "LookupError") (hm : X.mg "LookupError" = none) (vV : PySem.W.findCls X.K (.type "LookupError") (.type "type") "__init__" = some (.val (.builtin "LookupError.__init__"))) (ha : PA X (e :: es) ta)
    (hc : eval (.Call (.Attribute (.Name "LookupError" p1) "__init__" p2) (e :: es) [] pos) X.env = (do
      let ov ← eval (.Name "LookupError" p1) X.env
      standAt p2.atName
      let (f, first) ← holding [ov] (getMethod ov "__init__" pl)
      callWith pos f first (backTo pos (starEach (e :: es) X.env)) (backToKw pos (keywordEach [] X.env))) := by rfl)
    (he : starEach (e :: es) X.env = (false, eval e X.env) :: starEach es X.env := by rfl) (hpl : (backTo pos (starEach es X.env)).any (·.1) = false := by rfl) :
    PE X (.Call (.Attribute (.Name "LookupError" p1) "__init__" p2) (e :: es) [] pos) (tIniB "LookupError.__new__" tlL X.K ta) := by
  refine ⟨fun pins s σ H Q I h => ?_⟩
  refine PySem.W.methodCall_KW (ld_blt I hg hm PyProof.Rows.Boot.«LookupError» ?_ (by decide) (by decide)) hc
  obtain ⟨m, fr⟩ := I.fr
  refine PySem.W.method_type fr I.ok.mod.kin typ_LE (by decide +kernel) vV (by decide +kernel) ?_
  show wpAny _ _ (callWith pos (Value.builtin "LookupError.__init__") [] (backTo pos (starEach (e :: es) X.env)) []) _ _ _
  refine PyProof.Rows.callWith_method1 (thn (ha.run pos pins _ σ H _ (I.tok _) h) fun us s1 ⟨vs, H1, I1, r1, a, C, ws, ev, hl, O, ea, q⟩ => ?_) he hpl
  subst ev
  cases r1 with
  | @cons _ u0 _ ur ra rw' =>
    obtain rfl : u0 = Value.ref a := ra
    exact oinitB_ok SS.baseL O I1 ea (by rw [← Paired.length rw', sizeLine_eq]; omega) fun s' J => ⟨.non, H1, J, rfl, q⟩
end
theorem u66 {k : Nat} {A : Around} (r : Room k A) : A.units + 66 < cLine := by have := r.un; omega
theorem u64 {k : Nat} {A : Around} (r : Room k A) : A.units + 64 < cLine := by have := r.un; omega
theorem u65 {k : Nat} {A : Around} (r : Room k A) : A.units + 65 < cLine := by have := r.un; omega
section
variable {X : Cx}
def rReprV : List V → Hp → VK → Prop := fun us H Q => ∃ x d, us = [x] ∧ SS.Ov H x d ∧ d.showable = true ∧ d.depth ≤ 60 ∧ d.shown.length ≤ 10000000 ∧ Q (.str d.shown) H
theorem call_reprV (hgd : X.A.guards = some []) (hu : X.A.units + 66 < cLine) : CallR X (.builtin "repr") rReprV := by
  intro pins s σ H xs us Q I r ⟨x, d, ex, ho, hs, hdp, hz, q⟩
  subst ex
  obtain ⟨u, rfl, rx⟩ := vals1 r
  have sz := sizeLine_eq
  have rf : ∀ a, u = Value.ref a → wpAny (model X.prog X.w) X.A (call (.builtin "repr") [u]) (EP X pins σ Q) X.xe s := fun a ea => by
    obtain ⟨as, rd, hno⟩ := SS.ov_reads I ho rx
    subst ea
    exact repr_of_reads' rd hs hno hgd (by omega) (fun _ _ e => e) (fun h' t tk k => ⟨.str d.shown, H, I.kept (t' := tk) k, ⟨t, rfl⟩, q⟩) (by omega)
  rcases id ho with h | ⟨a, zs, rfl, _, rfl⟩
  · cases h with
    | non =>
      cases rx
      exact PySem.P.repr_of_none ⟨.str (PyData.shown .none), H, I.tok _, ⟨_, by simp only [PyData.shown]; rfl⟩, q⟩
    | bl b =>
      cases rx
      exact PySem.P.repr_of_bool ⟨.str (PyData.shown (.bool b)), H, I.tok _, ⟨_, by simp only [PyData.shown]; rfl⟩, q⟩
    | int i =>
      obtain ⟨t, rfl⟩ := rx
      simp only [PyData.showable] at hs
      exact PySem.P.repr_of_int (of_decide_eq_true hs) ⟨.str (PyData.shown (.int i)), H, I.tok _, ⟨_, by simp only [PyData.shown]; rfl⟩, q⟩
    | str x =>
      obtain ⟨t, rfl⟩ := rx
      refine PySem.P.repr_of_str ⟨.str (PyData.shown (.str x)), H, I.tok _, ⟨_, by simp only [PyData.shown]; rfl⟩, q⟩ ?_
      simp only [PyData.shown] at hz
      omega
    | lst _ _ => exact rf _ rx
    | tup _ _ => exact rf _ rx
  · exact rf _ rx
end
section
variable {X : Cx} {CX : CXT} {k : Nat} {f C : Addr} {fd : FuncData} {ps : List Str} {sp : Sp} {m : Str} {e o : Expr} {es : List Expr} {ta : TE} {t : TA} {apos pos : Pos}
/-- o.m(e, ..) within a try -/
def tMethS (C : Addr) (m : Str) (sp : Sp) (E : L2.St → XK) (ta : TE) (t : TA) : TE := fun σ H Q => ta σ H fun x H1 => ∃ a dx fs, x = .ref a ∧ H1 a = some (.ins C dx fs) ∧ fs.lookup m = none ∧ t σ H1 fun vs H2 => sp (.ref a :: vs) H2 Q (E σ)
theorem pe_methCS {E : L2.St → XK} {pl : Sem Bool} (he : PE X o ta) (c : Cls X.K C) (hm : Meth X.K C m f) (F : FnC X.prog X.w X.K X.mg X.base CX k f fd ps sp) (hr : Room k X.A) (hgd : X.A.guards = some []) (hb : Binds X.K fd ps []) (hx : ∀ σ, PassesAt CX X σ (E σ)) (ha : PA X (e :: es) t)
    (hst : starEach (e :: es) X.env = (false, eval e X.env) :: starEach es X.env := by rfl) (hpl : (backTo pos (starEach es X.env)).any (·.1) = false := by rfl)
    (ht : eval (.Call (.Attribute o m apos) (e :: es) [] pos) X.env = (do
      let ov ← eval o X.env
      standAt apos.atName
      let (f, first) ← holding [ov] (getMethod ov m pl)
      callWith pos f first (backTo pos (starEach (e :: es) X.env)) (backToKw pos (keywordEach [] X.env))) := by rfl) :
    PE X (.Call (.Attribute o m apos) (e :: es) [] pos) (tMethS C m sp E ta t) := by
  refine ⟨fun pins s σ H Q I h => ?_⟩
  refine PySem.W.methodCall_KW (pl := pl) (thn (he.run pins s σ H _ I h) fun u s1 ⟨x, H1, I1, rx, a, dx, fs, ex, ea, l, q⟩ => ?_) ht
  subst ex
  obtain rfl : u = Value.ref a := rx
  refine getmeth_ok I1 ea c hm l ?_
  refine PySem.W.callWith_K (first := [.ref a]) (h₀ := X.base) I.ok.mod.kin hm.kp (thn (ha.run pos pins s1 σ H1 _ I1 q) fun us s2 ⟨vs, H2, I2, r, q2⟩ => ⟨I2.kIn, ?_⟩) hst hpl
  exact run_fnC (us := .ref a :: us) (vs := .ref a :: vs) F hr hgd hb (hx σ) I2 (.cons rfl r) q2
end
end SR
namespace SS
open PySem L2 SR TL
def outN (D : Addr) (v : V) (H : Hp) (E : XK) : Prop := ∀ d H', H d = none → Same H H' → H' d = some (.xd [("name", v)]) → E (.ref D) (some d) H'
theorem outN.mono {D : Addr} {v : V} {H H' : Hp} {E : XK} (e : Same H H') (h : outN D v H E) : outN D v H' E := fun d H'' hd e2 h2 => h d H'' (e.free hd) (e.trans e2) h2
section
variable {P : Program} {w : World} {K : PySem.W.Frag} {mg : Str → Option Value} {base : Heap}
abbrev nUnk : List Str := ["self", "name"]
theorem scUnk : FnScope nUnk nUnk (defScope sUnk) := ⟨rfl, rfl, rfl, by decide +kernel, rfl, by decide +kernel, by decide +kernel⟩
structure UnT (K : PySem.W.Frag) (mg : Str → Option Value) (D : Addr) : Prop where
  ox : OexB "LookupError.__new__" tlL K D
  nN : PySem.W.findIn K (.ref D) "name" = some none
  mgD : mg "UnknownSlot" = some (.ref D)
  mgL : mg "LookupError" = none
  vV : PySem.W.findCls K (.type "LookupError") (.type "type") "__init__" = some (.val (.builtin "LookupError.__init__"))
def spUnk (D : Addr) : Sp := fun vs H Q _ => ∃ (a : Addr) (v : V) (d : PyData), vs = [.ref a, v] ∧ Ov H v d ∧ ShV9 d ∧ H a = some (exo a D none) ∧ ∀ dd H', H dd = none → H' a = some (exo a D (some dd)) → H' dd = some (exd dd [("name", v)]) → SameB a H H' → Q .non H'
structure Un (P : Program) (w : World) (K : PySem.W.Frag) (mg : Str → Option Value) (base : Heap) (D : Addr) : Prop where
  t : UnT K mg D
  ini : ∃ f fd, PySem.W.findIn K (.ref D) "__init__" = some (some (.ref f)) ∧ PySem.W.typeIn K (.ref f) = some (.type "function") ∧ FnC P w K mg base CX0 1 f fd nUnk (spUnk D) ∧ Binds K fd nUnk []
theorem ok_unk {f D : Addr} {fd : FuncData} (F : Fun K "__init__" "UnknownSlot.__init__" sUnk f fd) (T : UnT K mg D) : FnC P w K mg base CX0 1 f fd nUnk (spUnk D) := by
  refine .ofG (okG F scUnk (fun vs H Q E h => ?_) (fun cdv A outer s H vs Q E hr hgd h => ?_))
  · obtain ⟨a, v, d, rfl, _⟩ := h
    rfl
  · obtain ⟨a, v, d, rfl, ho, hs, ha, k⟩ := h
    refine ⟨_, pss_cons (ps_expr (pe_reinitL (by rfl) T.mgL T.vV (pa_cons (pv 0) (pa_cons (pe_joined (.cons pe_str (.cons (pe_fmtV hgd (SR.u66 hr) (pv 1)) .nil))) pa_nil))))
      (pss_one (ps_ostB baseL (pv 0) (pv 1))), ?_⟩
    have sz := sizeLine_eq
    have m1 : (Str.ofString "unknown slot: ").length = 14 := rfl
    have m0 : Str.empty.length = 0 := rfl
    obtain ⟨hs1, hs2, hs3⟩ := hs
    refine ⟨_, rfl, _, rfl, by rw [strLen_append]; omega, _, rfl, d, ho, hs1, hs2, by omega, _, rfl, by rw [strLen_append, strLen_append]; omega, ?_⟩
    refine ⟨a, D, _, rfl, by show 1 ≤ 1000; decide, T.ox, ha, ?_⟩
    refine ⟨_, rfl, _, rfl, a, D, rfl, T.ox, T.nN, .inl ⟨ha, fun dd hd hda => ?_⟩⟩
    refine k dd _ hd upd_same ?_ fun b o hb hbo => ?_
    · rw [upd_ne hda, upd_same]
    · have nb : b ≠ dd := ne_of_none hbo hd
      rw [upd_ne hb, upd_ne nb]
      exact hbo
theorem un_bad {D : Addr} {H : Hp} {E : XK} {v : V} {d : PyData} {t : TA} {σ : L2.St} (ho : Ov H v d) (hs : ShV9 d) (out : outN D v H E) (ht : ∀ (R : List V → Hp → Prop), R [v] H → t σ H R) : (tMkO D (spUnk D) [] t) σ H fun cls d H' => E cls d H' := by
  refine ht _ ⟨by show 1 ≤ 1000; decide, fun a ha => ⟨a, v, d, rfl, ho.mono (same_new ha), hs, upd_same, fun dd H2 hd h1 h2 sb => ⟨rfl, dd, _, h1, h2, ?_, ?_⟩⟩⟩
  · have hda : dd ≠ a := fun z => by rw [z, upd_same] at hd; cases hd
    rw [upd_ne hda] at hd
    exact hd
  · have hda : dd ≠ a := fun z => by rw [z, upd_same] at hd; cases hd
    have hdH : H dd = none := by rw [upd_ne hda] at hd; exact hd
    refine out dd _ hdH (fun b o hb => ?_) upd_same
    have nba : b ≠ a := ne_of_none hb ha
    rw [upd_ne (ne_of_none hb hdH), del_ne nba]
    exact sb b o nba (by rw [upd_ne nba]; exact hb)
/-- text == v is asked -/
def AskV (H : Hp) (v : V) (d : PyData) : Prop := (Dh H v d ∧ SeqAt.shaped d = true) ∨ ∃ (a : Addr) (zs : List (Int × Int)), v = .ref a ∧ H a = some (.dK (kvI zs)) ∧ d = kvID zs
theorem AskV.ov {H : Hp} {v : V} {d : PyData} (h : AskV H v d) : Ov H v d := h.imp (fun z => z.1) id
theorem AskV.mono {H H' : Hp} {v : V} {d : PyData} (e : Same H H') (h : AskV H v d) : AskV H' v d := h.imp (fun z => ⟨z.1.mono e, z.2⟩) fun ⟨a, zs, h1, h2, h3⟩ => ⟨a, zs, h1, e _ _ h2, h3⟩
def spTloX (L D N : Addr) : Sp := fun vs H Q E => ∃ (g x : Addr) (ts : List Addr) (ps : List Pt) (v : V) (d : PyData), vs = [.ref g, v] ∧ TmpF D H g x ts ∧ Paired (PtAt (LanT L) H) ts ps ∧ AskV H v d ∧ ShV9 d ∧
  (∀ nm cs rM eM, Pt.sl nm cs rM eM ∈ ps → PyData.eqv (.str (txt nm)) d = false ∧ SeqAt.shaped (.str (txt nm)) = true) ∧ outN N v H E
theorem ok_tloX {f L D N : Addr} {fd : FuncData} (F : Fun K "language_of" "Template.language_of" sTlo f fd) (T : TTx K mg D) (U : Un P w K mg base N) (Is : Cal P w K mg base "is_slot" 1 psIsl (spIsl (LanT L))) : FnC P w K mg base (L2.CX P w) 3 f fd psTlo (spTloX L D N) := by
  obtain ⟨fI, fdI, iC, tI, FI, bI⟩ := U.ini
  refine okC F scTlo (fun vs H Q E h => ?_) (fun cdv A outer s H vs Q E hr hgd h => ?_)
  · obtain ⟨g, x, ts, ps, v, d, rfl, _⟩ := h
    rfl
  · obtain ⟨g, x, ts, ps, v, d, rfl, TF, hts, hov, hs, hno, out⟩ := h
    refine ⟨_, pss_cons (ps_for (passes_of rfl) rfl (pi_list (pe_fld (pv 0) rfl)) (pg_name (i := 2) scTlo.nd rfl (.inl rfl))
        (pss_one (ps_if (PW.pt (pw_and (pt_val (pe_cal Is (hr.mono (by decide)) (pa_cons (pv 2) pa_nil))) (pw_and1 (pt_cmpR (op_eqSV (SR.u64 hr)) (pe_ix ix_tup (pv 2) pe_int (fun _ _ => rfl)) (pv 1) (nomark _)))))
        (pss_one (ps_ret (pe_ix ix_tup (pv 2) pe_int (fun _ _ => rfl)))) pss_nil)))
      (pss_one (ps_raise rfl (takes_of rfl rfl rfl rfl) (pmk_oexC baseL U.t.ox iC tI FI (hr.mono (by decide)) hgd bI pass0 (by rfl) U.t.mgD (pa_cons (pv 1) pa_nil)))), ?_⟩
    obtain ⟨dx, pl, fs, h1, h2, h3, h4, h5⟩ := TF
    have htl : ts.length = ps.length := Paired.length hts
    refine ⟨_, rfl, g, D, dx, _, _, rfl, h1, T.cl, T.nP, h3, pl, rfl, ⟨_, SqL.of h5⟩, ?_⟩
    refine for_it (walk_list (K := K) (a := pl) (xs := ts.map V.ref)) (fun i σ H' => H' = H ∧ ∃ a3, σ = [some (.ref g), some v, a3]) ⟨rfl, _, rfl⟩ (fun i σ H' _ q => by rw [q.1]; exact SqL.of h5) ?_ ?_
    · rintro i v' σ H3 H3' hi ⟨rfl, a3, rfl⟩ ⟨rfl, hv⟩
      rw [List.getElem?_map] at hv
      obtain ⟨u, hu', rfl⟩ := Option.map_eq_some_iff.mp hv
      obtain ⟨p, hp, hpt⟩ := paired_getL _ hts hu'
      refine ⟨_, rfl, u, p, rfl, hpt, _, rfl, ?_⟩
      cases hs : isSl p with
      | false => exact iteF ⟨rfl, ⟨_, rfl⟩⟩
      | true =>
        obtain ⟨nm', cs', rM', eM', rfl⟩ := sl_ex hs
        obtain ⟨l, q1, q2⟩ := id hpt
        obtain ⟨hne, hsh⟩ := hno _ _ _ _ (List.mem_of_getElem? hp)
        refine iteT ⟨_, rfl, u, _, _, _, rfl, rfl, SqT.of q1, rfl, _, rfl, ?_⟩
        rcases hov with ⟨hd, hds⟩ | ⟨a, zs, rfl, ha, _⟩
        · refine .inl ⟨_, d, .str (txt nm'), (Dh.dpV d hd).1, hsh, hds, _, rfl, ?_⟩
          rw [hne]
          exact iteF ⟨rfl, ⟨_, rfl⟩⟩
        · exact .inr ⟨_, a, zs, rfl, rfl, ha, _, rfl, iteF ⟨rfl, ⟨_, rfl⟩⟩⟩
    · rintro σ H3 ⟨rfl, a3, rfl⟩
      exact un_bad (t := tCons (tVar 1) tNil) (σ := [some (.ref g), some v, a3]) hov.ov hs out fun R h => ⟨_, rfl, h⟩
end
end SS
set_option maxRecDepth 100000
set_option maxHeartbeats 4000000
namespace SS
open PySem L2 SR TL
/-- what the top has written of UnknownSlot -/
structure ExN (K : PySem.W.Frag) (mg : Str → Option Value) (N NK Z : Addr) : Prop where
  mN : mg "UnknownSlot" = some (.ref N)
  mK : mg "UnknownName" = some (.ref NK)
  e : PySem.W.exmOne K (.ref N) (.ref N) = some true
  c : ExcC K N
  x : XfC K N
  n : PySem.W.findIn K (.ref N) "name" = some none
  il : PySem.W.kitOne K (.ref N) (.type "LookupError") = some true
  iz : PySem.W.kitAny K (.ref N) [.ref Z, .ref NK, .type "ValueError"] = some false
theorem rel3 {a b : Addr} {s : String} : ∀ us, Vals [V.ref a, .ref b, .ty s] us → us = [.ref a, .ref b, .type s] := fun us hv => by
  cases hv with
  | cons r1 rr => cases rr with
    | cons r2 rr => cases rr with
      | cons r3 rr => cases rr; cases r1; cases r2; cases r3; rfl
section
variable {P : Program} {w : World} {K : PySem.W.Frag} {mg : Str → Option Value} {base : Heap}
abbrev nUlu : List Str := ["_law_made", "_law_value", "_law_found", "e", "_law_is_one"]
abbrev psUlu : List Str := ["_law_made", "_law_value"]
theorem scUlu : FnScope nUlu psUlu (defScope sUlu) := ⟨rfl, rfl, rfl, by decide +kernel, rfl, by decide +kernel, by decide +kernel⟩
def spUlu (L D : Addr) : Sp := fun vs H Q _ => ∃ (g x : Addr) (ts : List Addr) (ps : List Pt) (v : V) (d : PyData), vs = [.ref g, v] ∧ TmpF D H g x ts ∧ Paired (PtAt (LanT L) H) ts ps ∧ AskV H v d ∧ ShV9 d ∧
  (∀ nm cs rM eM, Pt.sl nm cs rM eM ∈ ps → PyData.eqv (.str (txt nm)) d = false ∧ SeqAt.shaped (.str (txt nm)) = true) ∧ ∀ H', Same H H' → Q (.bl true) H'
theorem ok_ulu {f L D N NK U Z IT IR IW : Addr} {fd : FuncData} (F : Fun K "_law_unknown" "_law_unknown" sUlu f fd) (B : Bl mg) (S : Ex42 K mg U Z IT IR IW D) (V : ExN K mg N NK Z) (TD : TTx K mg D)
    (PA : ∃ f fd, Meth K D "language_of" f ∧ FnC P w K mg base (L2.CX P w) 3 f fd psTlo (spTloX L D N) ∧ Binds K fd psTlo []) : FnC P w K mg base CX0 5 f fd psUlu (spUlu L D) := by
  obtain ⟨fP, dP, paM, paF, paB⟩ := PA
  refine .ofG (okG F scUlu (fun vs H Q E h => ?_) (fun cdv A outer s H vs Q E hr hgd h => ?_))
  · obtain ⟨g, x, ts, ps, v, d, rfl, _⟩ := h
    rfl
  · obtain ⟨g, x, ts, ps, v, d, rfl, TF, hts, hov, hs, hno, k⟩ := h
    have hu := SR.u66 hr
    refine ⟨_, pss_cons (ps_set (i := 2) scUlu.nd rfl (.inl rfl) pe_bl)
      (pss_cons (ps_try_tell (n := "e") (i := 3) (W0 := fun _ _ _ _ => False)
          (tb := fun W => tDrop (tMethS D "language_of" (spTloX L D N) (WE W) (tVar 0) (tCons (tVar 1) tNil)))
          (l := [(fun cls => PySem.W.exmOne K cls (.ref N), fun a cls d => (tSeq (tAsg (tAndV (tCB (rIsEA K a cls d) (tCons (tVar 3) (tCons (tC (.ty "LookupError")) tNil))) (tNotV (tCB (rIsETA K a cls d) (tCons (tVar 3) (tCons (tTup (tCons (tC (.ref Z)) (tCons (tC (.ref NK)) (tCons (tC (.ty "ValueError")) tNil)))) tNil))))) (gName 4)) (tAsg (tAndV (tVar 4) (tOp rEq (tCB rReprV (tCons (tXfA K a cls d "name" (tVar 3)) tNil)) (tCB rReprV (tCons (tVar 1) tNil)))) (gName 2))))])
          rfl rfl scUlu.nd rfl rfl takes0
          (fun W pn xe tk _ => (pss_one (ps_expr (pe_methCS (pv 0) TD.cl paM paF (hr.mono (by decide)) hgd paB (fun σ => L2.passAt tk σ) (pa_cons (pv 1) pa_nil)))))
          (.cons (test_one ⟨rfl, by decide, .inl V.mN⟩) (fun a oe cls d pn hz hf => (pss_cons (ps_set (i := 4) scUlu.nd rfl (.inl rfl) (pe_and (pe_callB (call_isEA hz hf) (by rfl) B.isinstance (by decide +kernel) (pa_cons (pv 3) (pa_cons (pe_bltn (v := .ty "LookupError") rfl S.mL (by decide +kernel) rfl) pa_nil))) (pe_one (pe_not (pe_callB (call_isETA hz hf) (by rfl) B.isinstance (by decide +kernel) (pa_cons (pv 3) (pa_cons (pe_tup (pa_cons (pe_glob (v := .ref Z) rfl S.mZ rfl) (pa_cons (pe_glob (v := .ref NK) rfl V.mK rfl) (pa_cons (pe_bltn (v := .ty "ValueError") rfl S.mV (by decide +kernel) rfl) pa_nil)))) pa_nil))))))) (pss_one (ps_set (i := 2) scUlu.nd rfl (.inl rfl) (pe_and (pv 4) (pe_one (pe_cmpR op_eq (pe_callB (call_reprV hgd hu) (by rfl) B.repr (by decide +kernel) (pa_cons (pe_xfA hz hf (pv 3)) pa_nil)) (pe_callB (call_reprV hgd hu) (by rfl) B.repr (by decide +kernel) (pa_cons (pv 1) pa_nil)) (nomark _)))))))) .nil))
      (pss_one (ps_ret (pv 2)))), ?_⟩
    refine ⟨_, rfl, ?_⟩
    obtain ⟨dx, pl, fs, h1, h2, h3, h4, h5⟩ := id TF
    refine ⟨g, dx, fs, rfl, h1, h4 _ (by decide) (by decide), _, rfl, g, x, ts, ps, v, d, rfl, TF, hts, hov, hs, hno, fun dd H2 hd e2 hx => ?_⟩
    refine ⟨true, V.e, fun _ a2 ha2 => ?_, fun q => (nomatch q)⟩
    refine ⟨_, rfl, ⟨_, rfl, V.c, _, _, _, dd, _, rfl, (fun _ r => r), V.il, rfl, hx, ?_⟩⟩
    refine ⟨_, rfl, iteT ⟨_, rfl, by show 3 ≤ sizeLine; decide, fun p5 hp5 => ⟨N, V.c, rfl, p5, _, _, _, dd, _, rfl, SqT.of upd_same, rel3, V.iz, rfl, same_new hp5 _ _ hx, ?_⟩⟩⟩
    have e5 := same_new (o := .tup [.ref Z, .ref NK, .ty "ValueError"]) hp5
    have e02 := e2.trans e5
    refine ⟨_, rfl, _, rfl, ?_⟩
    refine ⟨_, rfl, iteT ?_⟩
    refine ⟨N, V.x, V.n, _, rfl, rfl, rfl, dd, _, _, rfl, e5 _ _ hx, rfl, v, d, rfl, hov.ov.mono e02, hs.1, hs.2.1, by have := hs.2.2; omega, ?_⟩
    refine ⟨_, rfl, v, d, rfl, hov.ov.mono e02, hs.1, hs.2.1, by have := hs.2.2; omega, ?_⟩
    refine ⟨rfl, ?_⟩
    rw [show decide (L2.V.str d.shown = L2.V.str d.shown) = true from decide_eq_true rfl]
    exact ⟨_, rfl, k _ e02⟩
end
end SS
set_option maxRecDepth 100000
set_option maxHeartbeats 4000000
namespace SS
open PySem L2 SR TL
theorem due_lt {os : List (Option Pt)} {k i : Nat} (h : dueAll os = some (k, some i)) : i < 12 := by
  unfold dueAll at h
  by_cases hl : os.length < 1 ∨ 12 < os.length
  · rw [if_pos hl] at h; cases h
  · rw [if_neg hl] at h
    cases hf : os.findIdx? (fun o => o.isNone) with
    | some j =>
      rw [hf] at h
      cases h
      have := (List.findIdx?_eq_some_iff_getElem.mp hf).1
      omega
    | none =>
      rw [hf] at h
      simp only at h
      split at h
      · cases h
      · obtain ⟨z, hz, e⟩ := Option.map_eq_some_iff.mp h
        cases e
        have := sprL_lt hz
        have := all_len hf
        omega
def plD : Option Nat → PyData
  | none => .none
  | some i => .int (i : Nat)
def duD : Option (Nat × Option Nat) → PyData
  | none => .none
  | some z => .tuple [.str (pbS z.1), plD z.2]
def DuAt (H : Hp) (v : V) : Option (Nat × Option Nat) → Prop
  | none => v = .non
  | some z => ∃ p, v = .ref p ∧ H p = some (.tup [.str (pbS z.1), plV z.2])
theorem pl_dh {H : Hp} : ∀ o : Option Nat, Dh H (plV o) (plD o)
  | none => .non
  | some i => .int _
theorem DuAt.dh {H : Hp} {v : V} {z : Option (Nat × Option Nat)} (h : DuAt H v z) : Dh H v (duD z) := by
  cases z with
  | none => cases h; exact .non
  | some z =>
    obtain ⟨p, rfl, hp⟩ := h
    exact .tup hp (.cons (.str _) (.cons (pl_dh _) .nil))
theorem DuAt.ov {H : Hp} {v : V} {z : Option (Nat × Option Nat)} (h : DuAt H v z) : Ov H v (duD z) := .inl h.dh
theorem DuAt.mono {H H' : Hp} {v : V} {z : Option (Nat × Option Nat)} (e : Same H H') (h : DuAt H v z) : DuAt H' v z := by
  cases z with
  | none => exact h
  | some z => obtain ⟨p, h1, h2⟩ := h; exact ⟨p, h1, e _ _ h2⟩
theorem pb_in (k : Nat) : ∃ j, j < 6 ∧ pbS k = pbS j := by
  match k with
  | 0 => exact ⟨0, by decide, rfl⟩
  | 1 => exact ⟨1, by decide, rfl⟩
  | 2 => exact ⟨2, by decide, rfl⟩
  | 3 => exact ⟨3, by decide, rfl⟩
  | 4 => exact ⟨4, by decide, rfl⟩
  | n + 5 => exact ⟨5, by decide, rfl⟩
def okD (d : PyData) : Bool := d.showable && (decide (d.depth ≤ 60) && (decide (d.shown.length ≤ 1000) && SeqAt.shaped d))
theorem okD_sh {d : PyData} (h : okD d = true) : d.showable = true ∧ d.depth ≤ 60 ∧ d.shown.length ≤ 10000000 := by
  simp only [okD, Bool.and_eq_true, decide_eq_true_eq] at h
  exact ⟨h.1, h.2.1, by omega⟩
theorem duD_ok : ∀ z : Option (Nat × Option Nat), (∀ k i, z = some (k, some i) → i < 12) → okD (duD z) = true
  | none, _ => by decide +kernel
  | some (k, none), _ => by
    obtain ⟨j, hj, e⟩ := pb_in k
    show okD (.tuple [.str (pbS k), .none]) = true
    rw [e]
    have key : ∀ j ∈ List.range 6, okD (.tuple [.str (pbS j), .none]) = true := by decide +kernel
    exact key j (List.mem_range.mpr hj)
  | some (k, some i), h => by
    obtain ⟨j, hj, e⟩ := pb_in k
    show okD (.tuple [.str (pbS k), .int (i : Nat)]) = true
    rw [e]
    have key : ∀ j ∈ List.range 6, ∀ i ∈ List.range 12, okD (.tuple [.str (pbS j), .int ((i : Nat) : Int)]) = true := by decide +kernel
    exact key j (List.mem_range.mpr hj) i (List.mem_range.mpr (h k i rfl))
theorem due_ok (os : List (Option Pt)) : okD (duD (dueAll os)) = true := duD_ok _ fun _ _ => due_lt
theorem ldu_go {L a : Addr} {H : Hp} {Q : VK} {E : XK} {ts : List Addr} {os : List (Option Pt)} (h1 : H a = some (.lst (ts.map .ref))) (h2 : Paired (El5 L H) ts os) (hl : ts.length ≤ 30) (k : ∀ u H', Same H H' → DuAt H' u (dueAll os) → Q u H') : spLdu L [.ref a] H Q E :=
  ⟨a, ts, os, rfl, h1, h2, hl, fun hd H' e => k _ H' e (by rw [hd]; rfl), fun kk i hd p H' e hp => k _ H' e (by rw [hd]; exact ⟨p, rfl, hp⟩)⟩
theorem ltd_go {C L x a : Addr} {H : Hp} {Q : VK} {E : XK} {xs : List V} {os : List (Option Pt)} (h1 : LoT H a xs) (h2 : Paired (ElA L H) xs os) (hl : xs.length ≤ 100) (k : ∀ u H', Same H H' → DuAt H' u (dueAll os) → Q u H') : spLtd C L [.ref x, .ref a] H Q E :=
  ⟨x, .ref a, rfl, .inr ⟨a, xs, os, rfl, h1, h2, hl, fun kk i hd p H' e hp => k _ H' e (by rw [hd]; exact ⟨p, rfl, hp⟩), fun hd H' e => k _ H' e (by rw [hd]; rfl)⟩⟩
theorem ltd_no {C L x : Addr} {H : Hp} {Q : VK} {E : XK} {v : V} {d : PyData} (h1 : Ov H v d) (h2 : (isLstD d || isTupD d) = false) (k : ∀ u H', Same H H' → DuAt H' u (some (3, none)) → Q u H') : spLtd C L [.ref x, v] H Q E :=
  ⟨x, v, rfl, .inl ⟨d, h1, h2, fun p H' e hp => k _ H' e ⟨p, rfl, hp⟩⟩⟩
/-- an element is flat or an object -/
theorem elA_shape {L : Addr} {H : Hp} {v : V} : ∀ {o : Option Pt}, ElA L H v o → flatV v = true ∨ ∃ a, v = .ref a
  | some p, h => by obtain ⟨t, rfl, _⟩ := h; exact .inr ⟨_, rfl⟩
  | none, h => by
    rcases h with ⟨d, ho, _⟩ | ⟨t, l, k, x, dx, cs, rM, eM, rfl, _⟩ | ⟨t, xs, rfl, _⟩
    · rcases ho with h | ⟨a, zs, rfl, _⟩
      · cases h with
        | non => exact .inl rfl
        | bl _ => exact .inl rfl
        | int _ => exact .inl rfl
        | str _ => exact .inl rfl
        | lst _ _ => exact .inr ⟨_, rfl⟩
        | tup _ _ => exact .inr ⟨_, rfl⟩
      · exact .inr ⟨_, rfl⟩
    · exact .inr ⟨_, rfl⟩
    · exact .inr ⟨_, rfl⟩
theorem eqV_self : ∀ {v : V}, flatV v = true → eqV v v = true
  | .non, _ => rfl
  | .bl b, _ => by cases b <;> rfl
  | .int i, _ => by show (i == i) = true; exact beq_self_eq_true i
  | .str x, _ => by show (x == x) = true; exact beq_self_eq_true x
abbrev BSF : Eqb := fun x y b H => BSame x y b H ∨ BFlat x y b H
theorem bsf_self {v : V} {H : Hp} (h : flatV v = true ∨ ∃ a, v = .ref a) : BSF v v true H := by
  rcases h with h | ⟨a, rfl⟩
  · exact .inr ⟨h, h, eqV_self h⟩
  · exact .inl ⟨rfl, a, rfl, rfl⟩
/-- a list and its copy -/
theorem copy_eq {L p q : Addr} {H : Hp} {xs : List V} {os : List (Option Pt)} (h : Paired (ElA L H) xs os) (h1 : H p = some (.lst xs)) (h2 : H q = some (.lst xs)) : BList BSF (.ref p) (.ref q) true H := by
  refine ⟨p, q, xs, xs, fun _ => true, rfl, rfl, h1, h2, rfl, fun i x y hx hy => ?_, (List.all_eq_true.mpr fun _ _ => rfl).symm⟩
  rw [hx] at hy
  cases hy
  obtain ⟨o, ho, he⟩ := paired_getL _ h hx
  exact bsf_self (elA_shape he)
def El5Z (L D : Addr) (H : Hp) (t : Addr) (o : Option Pt) : Prop := ∀ H'', (∀ b o', b ≠ D → H b = some o' → H'' b = some o') → El5 L H'' t o
theorem El5Z.ext {L D : Addr} {H H' : Hp} {t : Addr} {o : Option Pt} (e : ∀ b o', b ≠ D → H b = some o' → H' b = some o') (h : El5Z L D H t o) : El5Z L D H' t o := fun H'' k => h H'' fun b o' n hb => k b o' n (e b o' n hb)
theorem El5Z.now {L D : Addr} {H : Hp} {t : Addr} {o : Option Pt} (h : El5Z L D H t o) : El5 L H t o := h H fun _ _ _ z => z
theorem El5Z.of {L D : Addr} {H H' : Hp} {t : Addr} {o : Option Pt} {xs : List V} (hd : H D = some (.lst xs)) (e : Same H H') (h : ∀ H'', KeepF H H' H'' → El5 L H'' t o) : El5Z L D H' t o := fun H'' k => h H'' fun b o' n hb => k b o' (by
  rintro rfl
  rw [e _ _ hd] at hb
  cases hb
  rcases n with n | n
  · rw [hd] at n; cases n
  · exact n _ rfl) hb
def ps3 : List Pt := [.sl [97] [97, 98] rowsQ (eMQ 1), .sd [[109, 109]], .sl [98, 98] [97, 98] rowsQ (eMQ 2)]
theorem name_of (l : List Nat) (h : (l.all (fun c => decide (97 ≤ c ∧ c < 123)) && (decide (1 ≤ l.length) && decide (l.length ≤ 8))) = true) : Name l := by
  rw [Bool.and_eq_true, Bool.and_eq_true, List.all_eq_true] at h
  exact ⟨fun c hc => of_decide_eq_true (h.1 c hc), of_decide_eq_true h.2.1, of_decide_eq_true h.2.2⟩
theorem abcQ : Abc [97, 98] := ⟨by decide, by decide, by decide, by decide⟩
theorem leadQ (m : Nat) (h : m = 1 ∨ m = 2) : SG.Leads [97, 98] rowsQ (eMQ m) 0 := by
  rcases h with rfl | rfl
  · exact ⟨[], fun c hc => (nomatch hc), by decide⟩
  · exact ⟨[97], by intro c hc; rw [List.mem_singleton.mp hc]; decide, by decide⟩
theorem tmp3 : Tmp ps3 where
  one := by decide
  most := by decide
  ok := fun p hp => by
    simp only [ps3, List.mem_cons, List.not_mem_nil, or_false] at hp
    rcases hp with rfl | rfl | rfl
    · exact ⟨name_of _ (by decide), abcQ, wfQ 1, by decide, leadQ 1 (.inl rfl)⟩
    · exact ⟨by decide, fun k hk => by rw [List.mem_singleton.mp hk]; exact ⟨fun c hc => (show ∀ c ∈ [109, 109], 97 ≤ c ∧ c < 123 by decide) c hc, by decide, by decide⟩⟩
    · exact ⟨name_of _ (by decide), abcQ, wfQ 2, by decide, leadQ 2 (.inr rfl)⟩
  few := by decide
  nms := by decide
  sep := by decide
theorem tmp_mkN {L D y dx x a : Addr} {H : Hp} {Q : Hp → Prop} {ts : List Addr} {ps : List Pt} (nx : H y = none) (ndx : H dx = none) (ha : H a = some (.lst (ts.map .ref))) (hp : Paired (PtAt (LanT L) H) ts ps) (hT : Tmp ps)
    (k : ∀ H', TmpF D H' y x ts → Same H H' → Q H') : spTin L D [.ref y, .ref x, .ref a] (upd (upd H dx (.own y)) y (.ins D dx [])) (fun v H3 => v = .non ∧ Q H3) E0 := by
  have en : Same H (upd (upd H dx (.own y)) y (.ins D dx [])) := same_upd (same_new ndx) nx
  exact ⟨y, dx, x, a, ts, ps, rfl, upd_same, en _ _ ha, Paired.mono hp fun a b g => g.mono (lanM L) en, hT, fun H6 LA sb => ⟨rfl, k H6 (LA H6 fun b o _ h => h) fun b o hb => sb b o (ne_of_none hb nx) (en b o hb)⟩⟩
end SS
set_option maxRecDepth 100000
set_option maxHeartbeats 4000000
namespace SS
open PySem L2 SR TL
abbrev sSaid : Str := Str.ofString "said"
def Oth (H : Hp) (x : V) (b : Bool) : Prop :=
  (b = false ∧ ((∃ d, Dh H x d ∧ okD d = true ∧ (isLstD d || isTupD d) = false) ∨ ∃ a, x = .ref a ∧ H a = some (.dK (kvI [])))) ∨
  (b = true ∧ ((∃ t t0, x = .ref t ∧ H t = some (.tup [.str sSaid, .ref t0]) ∧ H t0 = some (.tup [])) ∨ ∃ l l0, x = .ref l ∧ H l = some (.lst [.ref l0]) ∧ H l0 = some (.lst [])))
theorem Oth.mono {H H' : Hp} {x : V} {b : Bool} (e : Same H H') (h : Oth H x b) : Oth H' x b := by
  rcases h with ⟨hb, ⟨d, h1, h2⟩ | ⟨a, h1, h2⟩⟩ | ⟨hb, ⟨t, t0, h1, h2, h3⟩ | ⟨l, l0, h1, h2, h3⟩⟩
  · exact .inl ⟨hb, .inl ⟨d, h1.mono e, h2⟩⟩
  · exact .inl ⟨hb, .inr ⟨a, h1, e _ _ h2⟩⟩
  · exact .inr ⟨hb, .inl ⟨t, t0, h1, e _ _ h2, e _ _ h3⟩⟩
  · exact .inr ⟨hb, .inr ⟨l, l0, h1, e _ _ h2, e _ _ h3⟩⟩
def dSaid : PyData := .tuple [.str sSaid, .tuple []]
def dLL : PyData := .list [.list []]
theorem dh_said {H : Hp} {t t0 : Addr} (h : H t = some (.tup [.str sSaid, .ref t0])) (h0 : H t0 = some (.tup [])) : Dh H (.ref t) dSaid := .tup h (.cons (.str _) (.cons (.tup h0 .nil) .nil))
theorem dh_LL {H : Hp} {l l0 : Addr} (h : H l = some (.lst [.ref l0])) (h0 : H l0 = some (.lst [])) : Dh H (.ref l) dLL := .lst h (.cons (.lst h0 .nil) .nil)
theorem oth_in {K : PySem.W.Frag} {H : Hp} {Q : VK} {x : V} {b : Bool} {l s1 s0 m1 m0 : Addr} (h : Oth H x b) (hl : H l = some (.lst [.ref s1, .ref m1])) (h1 : H s1 = some (.tup [.str sSaid, .ref s0])) (h2 : H s0 = some (.tup [])) (h3 : H m1 = some (.lst [.ref m0])) (h4 : H m0 = some (.lst [])) (k : Q (.bl b) H) : rInD K x (.ref l) H Q ∨ rDkIn K x (.ref l) H Q := by
  have D : Dp K H (.ref l) (.list [dSaid, dLL]) := .lst (SqL.of hl) (.cons (Dh.dpV _ (dh_said h1 h2)).1 (.cons (Dh.dpV _ (dh_LL h3 h4)).1 .nil))
  have sD : SeqAt.shaped (.list [dSaid, dLL]) = true := by decide +kernel
  have go : ∀ d, Dh H x d → SeqAt.shaped d = true → ([dSaid, dLL].any fun z => PyData.eqv z d) = b → rInD K x (.ref l) H Q := fun d hd hs e => ⟨d, _, (Dh.dpV d hd).1, D, hs, sD, by rw [e]; exact k⟩
  rcases h with ⟨hb, ⟨d, g1, g2, g3⟩ | ⟨a, g1, g2⟩⟩ | ⟨hb, ⟨t, t0, g1, g2, g3⟩ | ⟨l', l0, g1, g2, g3⟩⟩
  · refine .inl (go d g1 ?_ ?_)
    · simp only [okD, Bool.and_eq_true] at g2
      exact g2.2.2.2
    · rw [hb]
      cases g1 with
      | non => rfl
      | bl _ => rfl
      | int _ => rfl
      | str _ => rfl
      | lst _ _ => cases g3
      | tup _ _ => cases g3
  · exact .inr ⟨a, l, [], [s1, m1], g1, rfl, g2, SqL.of hl, fun b' hb' => by
      simp only [List.mem_cons, List.not_mem_nil, or_false] at hb'
      rcases hb' with rfl | rfl
      · exact .inr ⟨_, h1⟩
      · exact .inl ⟨_, h3⟩, by rw [← hb]; exact k⟩
  · subst g1
    exact .inl (go dSaid (dh_said g2 g3) (by decide +kernel) (by rw [hb]; decide +kernel))
  · subst g1
    exact .inl (go dLL (dh_LL g2 g3) (by decide +kernel) (by rw [hb]; decide +kernel))
def obD (b : Bool) : Nat × Option Nat := if b then (4, some 0) else (3, none)
theorem odd_of {L : Addr} {H : Hp} {v : V} {d : PyData} (h : Dh H v d) (hd : (bnd 3 d && (nb3 d && !isPrtD d)) = true) : ElA L H v none := by
  rw [Bool.and_eq_true, Bool.and_eq_true, Bool.not_eq_true'] at hd
  exact .inl ⟨d, .inl h, hd.1, hd.2.1, hd.2.2⟩
theorem oth_told {C L x0 : Addr} {H : Hp} {Q : VK} {E : XK} {x : V} {b : Bool} (h : Oth H x b) (k : ∀ u H', Same H H' → DuAt H' u (some (obD b)) → Q u H') : spLtd C L [.ref x0, x] H Q E := by
  rcases h with ⟨rfl, ⟨d, g1, g2, g3⟩ | ⟨a, rfl, g2⟩⟩ | ⟨rfl, ⟨t, t0, rfl, g2, g3⟩ | ⟨l', l0, rfl, g2, g3⟩⟩
  · exact ltd_no (.inl g1) g3 k
  · exact ltd_no (d := kvID []) (.inr ⟨a, [], rfl, g2, rfl⟩) rfl k
  · exact ltd_go (os := [none, none]) (.inr g2) (.cons (odd_of (.str _) (by decide +kernel)) (.cons (odd_of (.tup g3 .nil) (by decide +kernel)) .nil)) (by show 2 ≤ 100; decide) k
  · exact ltd_go (os := [none]) (.inl g2) (.cons (odd_of (.lst g3 .nil) (by decide +kernel)) .nil) (by show 1 ≤ 100; decide) k
theorem ite_wanted {b : Bool} {H : Hp} {σ : L2.St} {Q : VK} (k : ∀ p H', Same H H' → H' p = some (.tup [.str (pbS (obD b).1), plV (obD b).2]) → Q (.ref p) H') :
    if b = true then tTup (tCons (tC (V.str (Str.ofString "part"))) (tCons (tC (V.int 0)) tNil)) σ H Q else tTup (tCons (tC (V.str (Str.ofString "parts"))) (tCons (tC V.non) tNil)) σ H Q := by
  cases b
  · rw [if_neg (by decide)]
    exact ⟨by show 2 ≤ sizeLine; decide, fun p hp => k p _ (same_new hp) upd_same⟩
  · rw [if_pos rfl]
    exact ⟨by show 2 ≤ sizeLine; decide, fun p hp => k p _ (same_new hp) upd_same⟩
theorem ob_ok (b : Bool) : okD (duD (some (obD b))) = true := duD_ok _ fun k i h => by
  cases b
  · cases h
  · cases h; decide
def valsD : List PyData := [.str (Str.ofString "b"), .str (Str.ofString ""), .str (Str.ofString "A"), .none, .int 0, .bool true, .list [.str (Str.ofString "a")], .tuple [.str (Str.ofString "a")], kvID [], .str (Str.ofString "aa"), .str (Str.ofString "slot"), .tuple [.str (Str.ofString "slot"), .str (Str.ofString "a")]]
def okV (d : PyData) : Bool := (d.showable && (decide (d.depth ≤ 60) && decide (d.shown.length ≤ 100000))) && (!PyData.eqv (.str (txt [97])) d && !PyData.eqv (.str (txt [98, 98])) d)
theorem vals_ok : ∀ d ∈ valsD, okV d = true := by decide +kernel
theorem vals_at {H : Hp} {a1 a2 a3 a4 : Addr} (h1 : H a1 = some (.lst [.str (Str.ofString "a")])) (h2 : H a2 = some (.tup [.str (Str.ofString "a")])) (h3 : H a3 = some (.dK [])) (h4 : H a4 = some (.tup [.str (Str.ofString "slot"), .str (Str.ofString "a")])) :
    Paired (AskV H) [.str (Str.ofString "b"), .str (Str.ofString ""), .str (Str.ofString "A"), .non, .int 0, .bl true, .ref a1, .ref a2, .ref a3, .str (Str.ofString "aa"), .str (Str.ofString "slot"), .ref a4] valsD := by
  have S : ∀ {v : V} {d : PyData}, Dh H v d → SeqAt.shaped d = true → AskV H v d := fun a b => .inl ⟨a, b⟩
  exact .cons (S (.str _) (by decide +kernel)) (.cons (S (.str _) (by decide +kernel)) (.cons (S (.str _) (by decide +kernel)) (.cons (S .non (by decide +kernel)) (.cons (S (.int _) (by decide +kernel)) (.cons (S (.bl _) (by decide +kernel)) (.cons (S (.lst h1 (.cons (.str _) .nil)) (by decide +kernel)) (.cons (S (.tup h2 (.cons (.str _) .nil)) (by decide +kernel)) (.cons (.inr ⟨a3, [], rfl, h3, rfl⟩) (.cons (S (.str _) (by decide +kernel)) (.cons (S (.str _) (by decide +kernel)) (.cons (S (.tup h4 (.cons (.str _) (.cons (.str _) .nil))) (by decide +kernel)) .nil)))))))))))
theorem ulu_go {L D g x : Addr} {H : Hp} {Q : VK} {E : XK} {ts : List Addr} {v : V} {d : PyData} (h1 : TmpF D H g x ts) (h2 : Paired (PtAt (LanT L) H) ts ps3) (h3 : AskV H v d) (h4 : d ∈ valsD) (k : ∀ H', Same H H' → Q (.bl true) H') : spUlu L D [.ref g, v] H Q E := by
  have ok := vals_ok d h4
  simp only [okV, Bool.and_eq_true, decide_eq_true_eq, Bool.not_eq_true'] at ok
  obtain ⟨⟨o1, o2, o3⟩, o4, o5⟩ := ok
  refine ⟨g, x, ts, ps3, v, d, rfl, h1, h2, h3, ⟨o1, o2, o3⟩, fun nm cs rM eM hm => ?_, k⟩
  simp only [ps3, List.mem_cons, List.not_mem_nil, or_false] at hm
  rcases hm with hm | hm | hm
  · cases hm; exact ⟨o4, by decide +kernel⟩
  · cases hm
  · cases hm; exact ⟨o5, by decide +kernel⟩
end SS
set_option maxRecDepth 100000
set_option maxHeartbeats 4000000
namespace SS
open PySem L2 SR TL
structure LnE (P : Program) (w : World) (K : PySem.W.Frag) (mg : Str → Option Value) (base : Heap) (L fl : Addr) (fdl : FuncData) : Prop where
  el : FnG P w K mg base 2 fl fdl ["self", "other"] (SG.spEqA L)
  at_ : PySem.W.findIn K (.ref L) "__eq__" = some (some (.ref fl))
  isf : PySem.W.isFn K (.ref fl) = true
  bnd : Binds K fdl ["self", "other"] []
structure LawQ (P : Program) (w : World) (K : PySem.W.Frag) (mg : Str → Option Value) (base : Heap) (C L D fi e fl : Addr) (fdi fdl : FuncData) : Prop where
  dr : Cal P w K mg base "_law_draw" 1 ["_law_rng_here", "_law_many"] spDraw
  ch : Cal P w K mg base "_law_choice" 2 ["_law_rng_here", "_law_some"] (spChoice K)
  lg : Cal P w K mg base "_law_language" 6 psLlg (spLlg L)
  el : Cal P w K mg base "_law_element" 8 psLel (spLel L)
  du : Cal P w K mg base "_law_due" 1 psLdu (spLdu L)
  to : CalG P w K mg base "_law_told" 10 psLtd (spLtd C L)
  un : CalG P w K mg base "_law_unknown" 5 psUlu (spUlu L D)
  rd : RdK P w K mg base C fi fdi e
  tx : TTx K mg D
  le : LnE P w K mg base L fl fdl
  mt : ∃ f fd, Mk K D f ∧ FnOk P w K mg base CX0 8 f fd psTin (spTin L D) ∧ Binds K fd psTin []
  lo : ∃ f fd, Meth K D "language_of" f ∧ FnOk P w K mg base CX0 2 f fd psTlo (spTlo L D) ∧ Binds K fd psTlo []
def rows0 : List Rw := [[(113, (0, none))], []]
theorem pal0 : Pal [113] [] [] := ⟨by intro c hc; rw [List.mem_singleton.mp hc]; decide, (fun c hc => nomatch hc), (fun x hx => nomatch hx), by decide, by decide, by decide⟩
theorem wf0 {st : Int} (h0 : 0 ≤ st) (h1 : st < 2) : WfR [113] [] [] rows0 [1] st where
  one := by decide
  most := by decide
  nd := by decide
  key := by decide
  goal := by decide
  told := fun row hrow e he x hx => by
    simp only [rows0, List.mem_cons, List.not_mem_nil, or_false] at hrow
    rcases hrow with rfl | rfl
    · rw [List.mem_singleton.mp he] at hx
      cases hx
    · cases he
  end0 := by decide
  endN := by decide
  st0 := h0
  st1 := h1
theorem rows0_at {H : Hp} {p q p2 l : Addr} (h1 : H l = some (.lst [.ref p, .ref p2])) (h2 : H p = some (.dK [(Sum.inr (Str.ofString "q"), .ref q)])) (h3 : H p2 = some (.dK [])) (h4 : H q = some (.tup [.int 0, .non])) : RowsL H l rows0 :=
  ⟨[p, p2], .inl h1, .cons ⟨[q], h2, .cons h4 .nil⟩ (.cons ⟨[], h3, .nil⟩ .nil)⟩
section
variable {P : Program} {w : World} {K : PySem.W.Frag} {mg : Str → Option Value} {base : Heap}
abbrev nRg2 : List Str := ["_law_rng_here", "_law_told_here", "_law_odds", "_law_many", "_law_some", "_law_k", "_law_handed", "_law_one", "_law_kept", "_law_due_here", "_law_other", "_law_wanted", "_law_made", "_law_values", "_law_value"]
abbrev psRg2 : List Str := ["_law_rng_here"]
theorem scRg2 : FnScope nRg2 psRg2 (defScope sRg2) := ⟨rfl, rfl, rfl, by decide +kernel, rfl, by decide +kernel, by decide +kernel⟩
def spRg2 : Sp := fun vs H Q _ => ∃ (r : Addr), vs = [.ref r] ∧ H r = some (rngO r) ∧ ∀ H', Same H H' → Q (.bl true) H'
theorem ok_rg2 {f C L D fi e fl : Addr} {fd fdi fdl : FuncData} (F : Fun K "_law_right" "_law_right" sRg2 f fd) (B : Bl mg) (M : LawQ P w K mg base C L D fi e fl fdi fdl) : FnG P w K mg base 13 f fd psRg2 spRg2 := by
  obtain ⟨fT, dT, MT, GT, bT⟩ := M.mt
  obtain ⟨loP, loD, loM, loF, loB⟩ := M.lo
  obtain ⟨g3, kb3⟩ := M.rd.k3
  refine okG F scRg2 (fun vs H Q E h => ?_) (fun cdv A outer s H vs Q E hr hgd h => ?_)
  · obtain ⟨r, rfl, _⟩ := h
    rfl
  · obtain ⟨r, rfl, hR, k⟩ := h
    refine ⟨_, pss_cons (ps_set (i := 1) scRg2.nd rfl (.inl rfl) (pe_makeN M.rd.mak M.rd.ok (hr.mono (by decide)) (by rfl) M.rd.mgC kb3 pass0 (pa_cons (pe_lst (pa_cons (pe_disp (pps_cons pe_str (pe_tup (pa_cons pe_int (pa_cons pe_non pa_nil))) pps_nil) (by rfl) (by rfl) (fun z => by cases z) (by decide)) (pa_cons pe_dnewK pa_nil))) (pa_cons (pe_lst (pa_cons pe_int pa_nil)) pa_nil)) (pk_cons (pe_cal M.dr (hr.mono (by decide)) (pa_cons (pv 0) (pa_cons pe_int pa_nil))) pk_nil)))
      (pss_cons (ps_set (i := 2) scRg2.nd rfl (.inr rfl) (pe_ix ix_list (pe_lst (pa_cons pe_int (pa_cons pe_int (pa_cons pe_int (pa_cons pe_int pa_nil))))) (pe_cal M.dr (hr.mono (by decide)) (pa_cons (pv 0) (pa_cons pe_int pa_nil))) (fun _ _ => rfl)))
      (pss_cons (ps_set (i := 3) scRg2.nd rfl (.inl rfl) (pe_ix ix_list (pe_lst (pa_cons (pe_op op_add pe_int (pe_cal M.dr (hr.mono (by decide)) (pa_cons (pv 0) (pa_cons pe_int pa_nil)))) (pa_cons (pe_op op_add pe_int (pe_cal M.dr (hr.mono (by decide)) (pa_cons (pv 0) (pa_cons pe_int pa_nil)))) (pa_cons pe_int (pa_cons (pe_cal M.dr (hr.mono (by decide)) (pa_cons (pv 0) (pa_cons pe_int pa_nil))) pa_nil))))) (pe_cal M.dr (hr.mono (by decide)) (pa_cons (pv 0) (pa_cons pe_int pa_nil))) (fun _ _ => rfl)))
      (pss_cons (ps_setLc (i := 4) (own := [("_law_k", 5)]) (g := gName 5) (tt := tYes) (te := tCall (spLel L) [] E0 (tCons (tVar 0) (tCons (tVar 2) tNil))) rfl scRg2.nd rfl rfl (sw_true rfl rfl rfl (by decide +kernel)) (pi_range1 (by rfl) B.range (pa_cons (pv 3) pa_nil)) (blkOk_by (by kernel_rfl)) (fun _ _ _ _ _ => pg_name (i := 5) scRg2.nd rfl (.inl rfl)) (fun _ _ _ _ _ => pts_nil) (fun _ _ _ _ _ => pe_cal M.el (hr.mono (by decide)) (pa_cons (pv 0) (pa_cons (pv 2) pa_nil))))
      (pss_cons (ps_setLc (i := 6) (own := [("_law_one", 7)]) (g := gName 7) (tt := tYes) (te := tOp (rIxT K) (tVar 7) (tC (.int 0))) rfl scRg2.nd rfl rfl (sw_true rfl rfl rfl (by decide +kernel)) (pi_list (pv 4)) (blkOk_by (by kernel_rfl)) (fun _ _ _ _ _ => pg_name (i := 7) scRg2.nd rfl (.inl rfl)) (fun _ _ _ _ _ => pts_nil) (fun _ _ _ _ _ => pe_ix ix_tup (pv 7) pe_int (fun _ _ => rfl)))
      (pss_cons (ps_set (i := 8) scRg2.nd rfl (.inl rfl) (pe_callTy call_list_of (by rfl) B.list (by decide +kernel) (pa_cons (pv 6) pa_nil)))
      (pss_cons (ps_set (i := 9) scRg2.nd rfl (.inl rfl) (pe_cal M.du (hr.mono (by decide)) (pa_cons (pv 4) pa_nil)))
      (pss_cons (ps_if (PW.pt (pw_or (pt_cmpR op_ne (pe_callB (call_reprV hgd (SR.u66 hr)) (by rfl) B.repr (by decide +kernel) (pa_cons (pe_calG M.to (hr.mono (by decide)) hgd (pa_cons (pv 1) (pa_cons (pv 6) pa_nil))) pa_nil)) (pe_callB (call_reprV hgd (SR.u66 hr)) (by rfl) B.repr (by decide +kernel) (pa_cons (pv 9) pa_nil)) (nomark _)) (pw_or1 (pt_cmpR op_ne (pe_callB (call_reprV hgd (SR.u66 hr)) (by rfl) B.repr (by decide +kernel) (pa_cons (pe_calG M.to (hr.mono (by decide)) hgd (pa_cons (pv 1) (pa_cons (pe_callTy call_tuple_of (by rfl) B.tuple (by decide +kernel) (pa_cons (pv 6) pa_nil)) pa_nil))) pa_nil)) (pe_callB (call_reprV hgd (SR.u66 hr)) (by rfl) B.repr (by decide +kernel) (pa_cons (pv 9) pa_nil)) (nomark _)))))
        (pss_one (ps_ret pe_bl)) pss_nil)
      (pss_cons (ps_set (i := 10) scRg2.nd rfl (.inl rfl) (pe_cal M.ch (hr.mono (by decide)) (pa_cons (pv 0) (pa_cons (pe_lst (pa_cons pe_non (pa_cons pe_str (pa_cons pe_int (pa_cons pe_bl (pa_cons pe_dnewK (pa_cons (pe_tup (pa_cons pe_str (pa_cons (pe_tup pa_nil) pa_nil))) (pa_cons (pe_lst (pa_cons (pe_lst pa_nil) pa_nil)) (pa_cons pe_int pa_nil))))))))) pa_nil))))
      (pss_cons (ps_set (i := 11) scRg2.nd rfl (.inl rfl) (pe_ifExp (pt_cmpR (op_inV (SR.u65 hr)) (pv 10) (pe_lst (pa_cons (pe_tup (pa_cons pe_str (pa_cons (pe_tup pa_nil) pa_nil))) (pa_cons (pe_lst (pa_cons (pe_lst pa_nil) pa_nil)) pa_nil))) (by rfl)) (pe_tup (pa_cons pe_str (pa_cons pe_int pa_nil))) (pe_tup (pa_cons pe_str (pa_cons pe_non pa_nil)))))
      (pss_cons (ps_if (PW.pt (pw_or (pt_cmpR op_ne (pe_callB call_len_seq (by rfl) B.len boot_len (pa_cons (pv 6) pa_nil)) (pe_callB call_len_seq (by rfl) B.len boot_len (pa_cons (pv 8) pa_nil)) (nomark _)) (pw_or (pt_cmpR (op_neB (D := fun x y b H => BSame x y b H ∨ BFlat x y b H) (fun _ _ _ _ _ _ d => d) (EqB.or eqB_same eqB_flat) (hr.mono (by decide))) (pv 6) (pv 8) (nomark _)) (pw_or1 (pt_cmpR (op_neD (SR.u64 hr)) (pe_calG M.to (hr.mono (by decide)) hgd (pa_cons (pv 1) (pa_cons (pv 10) pa_nil))) (pv 11) (nomark _))))))
        (pss_one (ps_ret pe_bl)) pss_nil)
      (pss_cons (ps_set (i := 12) scRg2.nd rfl (.inr rfl) (pe_make MT GT (hr.mono (by decide)) (by rfl) M.tx.mgC bT .nil pass0 (pa_cons (pv 1) (pa_cons (pe_lst (pa_cons (pe_tup (pa_cons pe_str (pa_cons pe_str (pa_cons (pe_cal M.lg (hr.mono (by decide)) (pa_cons pe_int pa_nil)) pa_nil)))) (pa_cons (pe_tup (pa_cons pe_str (pa_cons (pe_tup (pa_cons pe_str pa_nil)) pa_nil))) (pa_cons (pe_tup (pa_cons pe_str (pa_cons pe_str (pa_cons (pe_cal M.lg (hr.mono (by decide)) (pa_cons pe_int pa_nil)) pa_nil)))) pa_nil)))) pa_nil))))
      (pss_cons (ps_set (i := 13) scRg2.nd rfl (.inl rfl) (pe_lst (pa_cons pe_str (pa_cons pe_str (pa_cons pe_str (pa_cons pe_non (pa_cons pe_int (pa_cons pe_bl (pa_cons (pe_lst (pa_cons pe_str pa_nil)) (pa_cons (pe_tup (pa_cons pe_str pa_nil)) (pa_cons pe_dnewK (pa_cons pe_str (pa_cons pe_str (pa_cons (pe_tup (pa_cons pe_str (pa_cons pe_str pa_nil))) pa_nil))))))))))))))
      (pss_one (ps_ret (pe_and (pe_callB (cr_all rfl) (by rfl) B.all (by decide +kernel) (pa_cons (pe_lc (own := [("_law_value", 14)]) (g := gName 14) (tt := tYes) (te := tCall (spUlu L D) [] E0 (tCons (tVar 12) (tCons (tVar 14) tNil))) rfl scRg2.nd (pi_list (pv 13)) (blkOk_by (by kernel_rfl)) (fun _ _ _ _ _ => pg_name (i := 14) scRg2.nd rfl (.inl rfl)) (fun _ _ _ _ _ => pts_nil) (fun _ _ _ _ _ => pe_calG M.un (hr.mono (by decide)) hgd (pa_cons (pv 12) (pa_cons (pv 14) pa_nil)))) pa_nil)) (pe_one (pe_cmpR (op_eqOwn M.le.el (hr.mono (by decide)) hgd M.le.at_ M.le.isf M.le.bnd) (pe_meth (pv 12) M.tx.cl loM loF (hr.mono (by decide)) loB .nil pass0 (pa_cons pe_str pa_nil)) (pe_cal M.lg (hr.mono (by decide)) (pa_cons pe_int pa_nil)) (nomark _)))))))))))))))))), ?_⟩
    have dw : ∀ {m : Int} {H' : Hp} {σ : L2.St} {Q' : VK}, 0 < m → m < 1000 → Same H H' → σ[0]? = some (some (.ref r)) → (∀ d H1, 0 ≤ d → d < m → Same H' H1 → Q' (.int d) H1) → tCall spDraw [] E0 (tCons (tVar 0) (tCons (tC (.int m)) tNil)) σ H' Q' := fun hm hm2 e hσ kk => ⟨_, hσ, r, _, rfl, by omega, by omega, e _ _ hR, kk⟩
    refine fun p hp => ⟨by show 2 ≤ sizeLine; decide, fun q hq => ?_⟩
    have npq : q ≠ p := fun z => by rw [z, upd_same] at hq; cases hq
    have hqp := same_new (o := .tup [.int 0, .non]) hq
    refine ⟨hqp _ _ upd_same, [(Sum.inr (Str.ofString "q"), .ref q)], rfl, (by show 1 ≤ 15; decide), ?_⟩
    have E1 : ∃ H1, H1 = upd (upd (upd H p (.dK [])) q (.tup [.int 0, .non])) p (.dK (mergeK [] [(Sum.inr (Str.ofString "q"), V.ref q)])) := ⟨_, rfl⟩
    obtain ⟨H1, hH1⟩ := E1
    have e1 : Same H H1 := fun b o hb => by
      have nb := ne_of_none hb hp
      rw [hH1, upd_ne nb]
      exact hqp _ _ (by rw [upd_ne nb]; exact hb)
    have h1p : H1 p = some (.dK [(Sum.inr (Str.ofString "q"), .ref q)]) := by rw [hH1, upd_same]; rfl
    have h1q : H1 q = some (.tup [.int 0, .non]) := by rw [hH1, upd_ne npq]; exact upd_same
    rw [← hH1]
    clear hH1
    refine fun p2 hp2 => ⟨by show 2 ≤ sizeLine; decide, fun l hl => ⟨by show 1 ≤ sizeLine; decide, fun l2 hl2 => ?_⟩⟩
    have e2 := same_new (o := .dK []) hp2
    have e3 := same_new (o := .lst [.ref p, .ref p2]) hl
    have e4 := same_new (o := .lst [.int 1]) hl2
    refine dw (by decide) (by decide) (e1.trans (e2.trans (e3.trans e4))) rfl fun st H5 s0 s1 e5 => ⟨rfl, rfl, fun x dx nx ndx nex => ini_mk nx ndx pal0 (wf0 s0 s1) (rows0_at ((e4.trans e5) _ _ upd_same) ((e2.trans (e3.trans (e4.trans e5))) _ _ h1p) ((e3.trans (e4.trans e5)) _ _ upd_same) ((e2.trans (e3.trans (e4.trans e5))) _ _ h1q)) (.inl (.inl (e5 _ _ upd_same))) fun H6 N => ?_⟩
    have e06 : Same H H6 := e1.trans (e2.trans (e3.trans (e4.trans (e5.trans N.2.1))))
    clear N e1 e2 e3 e4 e5 h1p h1q hqp
    refine gname_go ?_
    try dsimp only
    refine seq_asg ?_
    refine ⟨by show 4 ≤ sizeLine; decide, fun l3 hl3 => ?_⟩
    have e7 := same_new (o := .lst [.int 0, .int 0, .int 1, .int 6]) hl3
    refine dw (by decide) (by decide) (e06.trans e7) rfl fun d H8 d0 d1 e8 => ?_
    have e08 := e06.trans (e7.trans e8)
    obtain ⟨od, hat, hod⟩ := atI_in (xs := [V.int 0, .int 0, .int 1, .int 6]) d0 d1
    obtain ⟨od, rfl⟩ : ∃ i : Int, od = .int i := by
      simp only [List.mem_cons, List.not_mem_nil, or_false] at hod
      rcases hod with rfl | rfl | rfl | rfl <;> exact ⟨_, rfl⟩
    refine ⟨l3, _, d, _, rfl, rfl, SqL.of (e8 _ _ upd_same), hat, gname_go ?_⟩
    clear hat hod e7 e8
    try dsimp only
    refine seq_asg ?_
    refine dw (by decide) (by decide) e08 rfl fun a Ha a0 a1 ea => ⟨_, _, rfl, rfl, ?_⟩
    refine dw (by decide) (by decide) (e08.trans ea) rfl fun b Hb b0 b1 eb => ⟨_, _, rfl, rfl, ?_⟩
    refine dw (by decide) (by decide) (e08.trans (ea.trans eb)) rfl fun c Hc c0 c1 ec => ⟨by show 4 ≤ sizeLine; decide, fun l4 hl4 => ?_⟩
    have e9 := same_new (o := .lst [.int (1 + a), .int (1 + b), .int 12, .int c]) hl4
    refine dw (by decide) (by decide) (e08.trans (ea.trans (eb.trans (ec.trans e9)))) rfl fun i Hi i0 i1 ei => ?_
    have e10 := e08.trans (ea.trans (eb.trans (ec.trans (e9.trans ei))))
    obtain ⟨mn, hat, hmn⟩ := atI_in (xs := [V.int (1 + a), .int (1 + b), .int 12, .int c]) i0 i1
    obtain ⟨mn, rfl, m0, m1⟩ : ∃ i : Int, mn = .int i ∧ 0 ≤ i ∧ i ≤ 14 := by
      simp only [List.mem_cons, List.not_mem_nil, or_false] at hmn
      rcases hmn with rfl | rfl | rfl | rfl <;> exact ⟨_, rfl, by omega, by omega⟩
    refine ⟨l4, _, i, _, rfl, rfl, SqL.of (ei _ _ upd_same), hat, gname_go ?_⟩
    clear hat hmn ea eb ec e9 ei e08
    try dsimp only
    refine seq_asg ?_
    refine ⟨_, rfl, _, rfl, by omega, by omega, fun D hD => lc_S (walk_range (lo := 0) (n := mn.toNat)) hD (by omega) (fun i acc H' => ∃ (ts : List Addr) (os : List (Option Pt)), acc = ts.map .ref ∧ ts.length = i ∧ Paired (El5Z L D H') ts os)
      (fun i acc acc' HA HB hd ee ⟨ts, os, h1, h2, h3⟩ => ⟨ts, os, h1, h2, Paired.mono h3 fun a b g => g.ext ee⟩) ⟨[], [], rfl, rfl, .nil⟩ (fun _ _ => trivial) ?_ ?_⟩
    · rintro i v H3 H3' acc Qt Qf hi e3 hd ⟨ts, os, rfl, hl, hp⟩ ⟨rfl, rfl⟩ kt kf
      refine ⟨rfl, _, rfl, _, rfl, r, od, rfl, (e10.trans e3) _ _ hR, fun t o H4 e4 cl => kt _ _ e4 ⟨ts ++ [t], os ++ [o], by rw [List.map_append]; rfl, by rw [List.length_append, hl]; rfl, ?_⟩⟩
      exact paired_snoc (Paired.mono hp fun a b g => g.ext fun b o' _ h => e4 _ _ h) (El5Z.of hd e4 cl)
    rintro H11 acc e11 hd11 ⟨ts, os, rfl, hl, hp⟩
    have hp11 : Paired (El5 L H11) ts os := Paired.mono hp fun a b g => g.now
    have e011 := e10.trans e11
    clear hp e10 e11
    have htl : ts.length ≤ 14 := by omega
    have hol : ts.length = os.length := Paired.length hp11
    refine gname_go ?_
    try dsimp only
    refine seq_asg ?_
    refine ⟨_, rfl, D, rfl, ⟨_, SqL.of hd11⟩, fun D2 hD2 => lc_S (walk_list (K := K) (a := D) (xs := ts.map V.ref)) hD2 (by rw [List.length_map]; omega) (fun i acc _ => Paired (ElA L H11) acc (os.take i)) (fun _ _ _ _ _ _ _ h => h) .nil (fun H' e' => SqL.of (e' _ _ hd11)) ?_ ?_⟩
    · rintro i v H3' H3 acc Qt Qf hi e3 hd' hac ⟨rfl, hv⟩ kt kf
      rw [List.getElem?_map] at hv
      obtain ⟨t, ht, rfl⟩ := Option.map_eq_some_iff.mp hv
      obtain ⟨o, ho, hto⟩ := paired_getL _ hp11 ht
      obtain ⟨v, h1, h2⟩ := hto.ex
      refine ⟨rfl, _, rfl, t, _, _, v, rfl, rfl, SqT.of (e3 _ _ h1), rfl, kt _ _ (Same.refl _) ?_⟩
      rw [List.take_add_one, ho]
      exact paired_snoc hac h2
    rintro H12 xs e12 hd12 hxs
    rw [List.length_map, hol, List.take_length] at hxs
    have hxs12 : Paired (ElA L H12) xs os := Paired.mono hxs fun a b g => g.mono e12
    have hxl : xs.length = os.length := Paired.length hxs
    have e012 := e011.trans e12
    refine gname_go ?_
    try dsimp only
    refine seq_asg ?_
    refine ⟨_, rfl, D2, _, rfl, .inl (SqL.of hd12), fun D3 hD3 => ?_⟩
    have e13 := same_new (o := .lst xs) hD3
    have hd13 := upd_same (H := H12) (a := D3) (o := .lst xs)
    generalize (upd H12 D3 (.lst xs)) = H13 at e13 hd13 ⊢
    have e013 := e012.trans e13
    refine gname_go ?_
    try dsimp only
    refine seq_asg ?_
    refine ⟨_, rfl, ?_⟩
    dsimp only [tNil, List.append_nil]
    refine ldu_go ((e12.trans e13) _ _ hd11) (Paired.mono hp11 fun a b g => g.mono (e12.trans e13)) (by omega) fun du H14 e14 hdu => ?_
    refine gname_go ?_
    try dsimp only
    obtain ⟨k1, k2, k3⟩ := okD_sh (due_ok os)
    have e014 := e013.trans e14
    have e1214 := e13.trans e14
    have sm : ∀ z : Str, (!decide (V.str z = V.str z)) = false := fun z => by rw [decide_eq_true rfl]; rfl
    refine ⟨_, rfl, _, rfl, ?_⟩
    dsimp only [tNil, List.append_nil]
    refine ltd_go (.inl (e1214 _ _ hd12)) (Paired.mono hxs12 fun a b g => g.mono e1214) (by omega) fun u1 H15 e15 hu1 => ⟨u1, _, rfl, hu1.ov, k1, k2, k3, _, rfl, du, _, rfl, (hdu.mono e15).ov, k1, k2, k3, rfl, _, rfl, ?_⟩
    rw [sm]
    refine iteF ?_
    refine ⟨_, rfl, _, rfl, D2, _, rfl, .inl ⟨SqL.of ((e1214.trans e15) _ _ hd12), fun pt hpt => ?_⟩⟩
    have e16 := same_new (o := .tup xs) hpt
    have hpt16 := upd_same (H := H15) (a := pt) (o := .tup xs)
    generalize (upd H15 pt (.tup xs)) = H16 at e16 hpt16 ⊢
    have e1216 := e1214.trans (e15.trans e16)
    dsimp only [tNil, List.append_nil]
    refine ltd_go (.inr hpt16) (Paired.mono hxs12 fun a b g => g.mono e1216) (by omega) fun u2 H17 e17 hu2 => ⟨u2, _, rfl, hu2.ov, k1, k2, k3, _, rfl, du, _, rfl, (hdu.mono (e15.trans (e16.trans e17))).ov, k1, k2, k3, rfl, _, rfl, ?_⟩
    rw [sm]
    refine iteF ?_
    have e017 := e012.trans (e1216.trans e17)
    have e1217 := e1216.trans e17
    have h6 := e1217 _ _ hd12
    have h8 := (e14.trans (e15.trans (e16.trans e17))) _ _ hd13
    have hxs17 := Paired.mono hxs12 fun a b g => ElA.mono e1217 g
    clear hu1 hu2 hdu e15 e16 e17 e14 e13 e12 k1 k2 k3 e1214 e1216
    dsimp only [tNext]
    refine seq_asg ?_
    refine ⟨_, rfl, fun d0 hd0 => ⟨by show 0 ≤ sizeLine; decide, fun t0 ht0 => ⟨by show 2 ≤ sizeLine; decide, fun t1 ht1 => ⟨by show 0 ≤ sizeLine; decide, fun l0 hl0 => ⟨by show 1 ≤ sizeLine; decide, fun l1 hl1 => ⟨by show 8 ≤ sizeLine; decide, fun lo hlo => ?_⟩⟩⟩⟩⟩⟩
    have f1 := same_new (o := .dK []) hd0
    have f2 := same_new (o := .tup []) ht0
    have f3 := same_new (o := .tup [.str (Str.ofString "said"), .ref t0]) ht1
    have f4 := same_new (o := .lst []) hl0
    have f5 := same_new (o := .lst [.ref l0]) hl1
    have f6 := same_new (o := .lst [.non, .str (Str.ofString "said"), .int 3, .bl true, .ref d0, .ref t1, .ref l1, .int 0]) hlo
    have f46 := f4.trans (f5.trans f6)
    have o0 := (f2.trans (f3.trans f46)) _ _ upd_same
    have o1 := (f3.trans f46) _ _ upd_same
    have o2 := f46 _ _ upd_same
    have o3 := (f5.trans f6) _ _ upd_same
    have o4 := f6 _ _ upd_same
    have f16 := f1.trans (f2.trans (f3.trans f46))
    refine .inl ⟨r, lo, _, rfl, (e017.trans f16) _ _ hR, SqL.of upd_same, by show 0 < 8; decide, by show 8 < 2000; decide, fun xo H18 hx e18 => ?_⟩
    obtain ⟨b, ho⟩ : ∃ b, Oth H18 xo b := by
      simp only [List.mem_cons, List.not_mem_nil, or_false] at hx
      rcases hx with rfl | rfl | rfl | rfl | rfl | rfl | rfl | rfl
      · exact ⟨false, .inl ⟨rfl, .inl ⟨_, .non, by decide +kernel, rfl⟩⟩⟩
      · exact ⟨false, .inl ⟨rfl, .inl ⟨_, .str _, by decide +kernel, rfl⟩⟩⟩
      · exact ⟨false, .inl ⟨rfl, .inl ⟨_, .int _, by decide +kernel, rfl⟩⟩⟩
      · exact ⟨false, .inl ⟨rfl, .inl ⟨_, .bl _, by decide +kernel, rfl⟩⟩⟩
      · exact ⟨false, .inl ⟨rfl, .inr ⟨_, rfl, e18 _ _ o0⟩⟩⟩
      · exact ⟨true, .inr ⟨rfl, .inl ⟨_, _, rfl, e18 _ _ o2, e18 _ _ o1⟩⟩⟩
      · exact ⟨true, .inr ⟨rfl, .inr ⟨_, _, rfl, e18 _ _ o4, e18 _ _ o3⟩⟩⟩
      · exact ⟨false, .inl ⟨rfl, .inl ⟨_, .int _, by decide +kernel, rfl⟩⟩⟩
    have e1718 := f16.trans e18
    clear hx f1 f2 f3 f4 f5 f6 f46 f16 o0 o1 o2 o3 o4 e18
    have e018 := e017.trans e1718
    have h6b := e1718 _ _ h6
    have h8b := e1718 _ _ h8
    have hxs18 := Paired.mono hxs17 fun a b g => ElA.mono e1718 g
    clear h6 h8 hxs17 e1718
    refine gname_go ?_
    try dsimp only
    refine seq_asg ?_
    refine ⟨_, rfl, by show 0 ≤ sizeLine; decide, fun s0 hs0 => ⟨by show 2 ≤ sizeLine; decide, fun s1 hs1 => ⟨by show 0 ≤ sizeLine; decide, fun m0 hm0 => ⟨by show 1 ≤ sizeLine; decide, fun m1 hm1 => ⟨by show 2 ≤ sizeLine; decide, fun ll hll => ?_⟩⟩⟩⟩⟩
    have f1 := same_new (o := .tup []) hs0
    have f2 := same_new (o := .tup [.str (Str.ofString "said"), .ref s0]) hs1
    have f3 := same_new (o := .lst []) hm0
    have f4 := same_new (o := .lst [.ref m0]) hm1
    have f5 := same_new (o := .lst [.ref s1, .ref m1]) hll
    have f15 := f1.trans (f2.trans (f3.trans (f4.trans f5)))
    refine oth_in (ho.mono f15) upd_same ((f3.trans (f4.trans f5)) _ _ upd_same) ((f2.trans (f3.trans (f4.trans f5))) _ _ upd_same) (f5 _ _ upd_same) ((f4.trans f5) _ _ upd_same) ⟨_, rfl, ?_⟩
    refine ite_wanted fun pw H20 e20 hpw => ?_
    have e1820 := f15.trans e20
    clear f1 f2 f3 f4 f5 f15 e20
    have h6 := e1820 _ _ h6b
    have h8 := e1820 _ _ h8b
    have hxs20 := Paired.mono hxs18 fun a b g => ElA.mono e1820 g
    have e020 := e018.trans e1820
    have ho20 := ho.mono e1820
    clear h6b h8b hxs18 ho e1820 e018
    refine gname_go ?_
    try dsimp only
    refine ⟨_, rfl, D2, _, rfl, .inl (SqL.of h6), _, rfl, D3, _, rfl, .inl (SqL.of h8), rfl, _, rfl, ?_⟩
    rw [show (!decide (V.int ((xs.length : Nat) : Int) = V.int ((xs.length : Nat) : Int))) = false by rw [decide_eq_true rfl]; rfl]
    refine iteF ⟨_, rfl, _, rfl, true, copy_eq hxs20 h6 h8, fun H21 e21 => ⟨_, rfl, iteF ?_⟩⟩
    refine ⟨_, rfl, _, rfl, ?_⟩
    dsimp only [tNil, List.append_nil]
    have e021 : Same H H21 := e020.trans e21
    refine oth_told (ho20.mono e21) fun u3 H22 e22 hu3 => ?_
    have shO : SeqAt.shaped (duD (some (obD b))) = true := by
      have := ob_ok b
      simp only [okD, Bool.and_eq_true] at this
      exact this.2.2.2
    have hw22 : DuAt H22 (.ref pw) (some (obD b)) := ⟨pw, rfl, e22 _ _ (e21 _ _ hpw)⟩
    refine ⟨_, rfl, _, _, (Dh.dpV _ hu3.dh).1, (Dh.dpV _ hw22.dh).1, shO, shO, _, rfl, ?_⟩
    rw [SeqAt.eqv_refl _ (SeqAt.canLay_of_shaped shO)]
    refine iteF ?_
    have e022 := e021.trans e22
    clear hu3 hw22 e21 e22 e021 e020 ho20 hpw h6 h8 hxs20
    dsimp only [tNext]
    refine seq_asg ?_
    refine ⟨_, rfl, 1, rfl, by decide, fun y1 G1 g1 hL1 => ⟨by show 3 ≤ sizeLine; decide, fun q1 hq1 => ⟨by show 1 ≤ sizeLine; decide, fun q2 hq2 => ⟨by show 2 ≤ sizeLine; decide, fun q3 hq3 => ?_⟩⟩⟩⟩
    have f1 := same_new (o := .tup [.str (Str.ofString "slot"), .str (Str.ofString "a"), .ref y1]) hq1
    have f2 := same_new (o := .tup [.str (Str.ofString "mm")]) hq2
    have f3 := same_new (o := .tup [.str (Str.ofString "said"), .ref q2]) hq3
    refine ⟨2, rfl, by decide, fun y2 G2 g2 hL2 => ⟨by show 3 ≤ sizeLine; decide, fun q4 hq4 => ⟨by show 3 ≤ sizeLine; decide, fun lp hlp => ?_⟩⟩⟩
    have f4 := same_new (o := .tup [.str (Str.ofString "slot"), .str (Str.ofString "bb"), .ref y2]) hq4
    have f5 := same_new (o := .lst [.ref q1, .ref q3, .ref q4]) hlp
    have f45 := f4.trans f5
    have f25 := f2.trans (f3.trans (g2.trans f45))
    have hp5 : Paired (PtAt (LanT L) _) [q1, q3, q4] ps3 := .cons ⟨y1, f25 _ _ upd_same, lanM L _ _ _ _ _ _ (f1.trans f25) hL1⟩ (.cons ⟨q2, (g2.trans f45) _ _ upd_same, (f3.trans (g2.trans f45)) _ _ upd_same⟩ (.cons ⟨y2, f5 _ _ upd_same, lanM L _ _ _ _ _ _ f45 hL2⟩ .nil))
    have e023 := e022.trans (g1.trans (f1.trans f25))
    refine fun g dx ng ndx nex => tmp_mkN (ts := [q1, q3, q4]) ng ndx upd_same hp5 tmp3 fun H24 TM e24 => ?_
    have hp24 := Paired.mono hp5 fun a b z => PtAt.mono (lanM L) e24 z
    have e024 : Same H H24 := e023.trans e24
    clear hp5 e24 e023 f1 f2 f3 f4 f5 f45 f25 g1 g2 hL1 hL2
    refine gname_go ?_
    try dsimp only
    refine seq_asg ?_
    refine ⟨by show 1 ≤ sizeLine; decide, fun a1 ha1 => ⟨by show 1 ≤ sizeLine; decide, fun a2 ha2 a3 ha3 => ⟨by show 2 ≤ sizeLine; decide, fun a4 ha4 => ⟨by show 12 ≤ sizeLine; decide, fun lv hlv => ?_⟩⟩⟩⟩
    have f1 := same_new (o := .lst [.str (Str.ofString "a")]) ha1
    have f2 := same_new (o := .tup [.str (Str.ofString "a")]) ha2
    have f3 := same_new (o := .dK []) ha3
    have f4 := same_new (o := .tup [.str (Str.ofString "slot"), .str (Str.ofString "a")]) ha4
    have f5 := same_new (o := .lst [.str (Str.ofString "b"), .str (Str.ofString ""), .str (Str.ofString "A"), .non, .int 0, .bl true, .ref a1, .ref a2, .ref a3, .str (Str.ofString "aa"), .str (Str.ofString "slot"), .ref a4]) hlv
    have f45 := f4.trans f5
    have va := vals_at ((f2.trans (f3.trans f45)) _ _ upd_same) ((f3.trans f45) _ _ upd_same) (f45 _ _ upd_same) (f5 _ _ upd_same)
    have e2425 := f1.trans (f2.trans (f3.trans f45))
    have TM25 := TmpF.mono e2425 TM
    have hp25 := Paired.mono hp24 fun a b z => PtAt.mono (lanM L) e2425 z
    have e025 := e024.trans e2425
    refine gname_go ?_
    try dsimp only
    refine ⟨_, rfl, lv, rfl, ⟨_, SqL.of upd_same⟩, fun Z hZ => lc_S (walk_list (K := K) (a := lv) (xs := [.str (Str.ofString "b"), .str (Str.ofString ""), .str (Str.ofString "A"), .non, .int 0, .bl true, .ref a1, .ref a2, .ref a3, .str (Str.ofString "aa"), .str (Str.ofString "slot"), .ref a4])) hZ (by show 12 ≤ 1000000; decide) (fun i acc _ => acc = (List.replicate i true).map V.bl) (fun _ _ _ _ _ _ _ h => h) rfl (fun H' e' => SqL.of (e' _ _ upd_same)) ?_ ?_⟩
    · rintro i v H3' H3 acc Qt Qf hi e3 hd rfl ⟨rfl, hv⟩ kt kf
      obtain ⟨d, hd', hvd⟩ := paired_getL _ va hv
      refine ⟨rfl, _, rfl, _, rfl, ?_⟩
      dsimp only [tNil, List.append_nil]
      refine ulu_go (TmpF.mono e3 TM25) (Paired.mono hp25 fun a b z => PtAt.mono (lanM L) e3 z) (hvd.mono e3) (List.mem_of_getElem? hd') fun H4 e4 => kt _ _ e4 ?_
      rw [List.replicate_succ', List.map_append]
      rfl
    rintro H26 acc e26 hd26 rfl
    refine ⟨Z, _, rfl, SqL.of hd26, ?_⟩
    rw [all_true]
    have TM26 := TmpF.mono e26 TM25
    have hp26 := Paired.mono hp25 fun a b z => PtAt.mono (lanM L) e26 z
    obtain ⟨dx', pl, fs, t1, t2, t3, t4, t5⟩ := id TM26
    refine ⟨_, rfl, iteT ?_⟩
    refine ⟨_, rfl, g, dx', fs, rfl, t1, t4 _ (by decide) (by decide), g, _, _, ps3, [98, 98], [97, 98], rowsQ, eMQ 2, rfl, TM26, hp26, tmp3, .tail _ (.tail _ (.head _)), fun la H27 e27 hl27 => ?_⟩
    refine ⟨2, rfl, by decide, fun lb H28 e28 hl28 => ?_⟩
    have LB : LanB L la lb true H28 := LanB.same abcQ (lanM L _ _ _ _ _ _ e28 hl27) hl28
    obtain ⟨la', lb', dl, dy, fl', gl, q1, q2, q3, q4, _⟩ := LB.ins
    cases q1
    cases q2
    exact ⟨la, lb, dl, dy, fl', gl, rfl, rfl, q3, q4, lanB_sp _ _ _ _ ⟨la, lb, true, rfl, LB, fun Hd ed => ⟨_, rfl, k _ (e025.trans (e26.trans (e27.trans (e28.trans ed))))⟩⟩⟩
end
end SS
set_option maxRecDepth 100000
set_option maxHeartbeats 4000000
namespace SS
open PySem L2 SR TL
section
variable {P : Program} {w : World} {K : PySem.W.Frag} {mg : Str → Option Value} {base : Heap}
abbrev nLaw : List Str := ["_law_script", "_law_k"]
abbrev psLaw : List Str := ["_law_script"]
theorem scLaw : FnScope nLaw psLaw (defScope sLaw) := ⟨rfl, rfl, rfl, by decide +kernel, rfl, by decide +kernel, by decide +kernel⟩
def spLaw (K : PySem.W.Frag) : Sp := fun vs H Q _ => ∃ (a : Addr) (ns : List Int), vs = [.ref a] ∧ SqL K H a (ns.map V.int) ∧ ns.length ≤ 63 ∧ ∀ H', Q (.bl true) H'
theorem ok_law {f : Addr} {fd : FuncData} (F : Fun K "law" "law" sLaw f fd) (B : Bl mg) (Rn : Cal P w K mg base "_law_rng" 1 ["_law_script", "_law_k"] (spRng K)) (Ri : CalG P w K mg base "_law_right" 13 ["_law_rng_here"] spRg2) : FnG P w K mg base 14 f fd ["_law_script"] (spLaw K) := by
  refine okG F scLaw (fun vs H Q E h => ?_) (fun cdv A outer s H vs Q E hr hgd h => ?_)
  · obtain ⟨a, ns, rfl, _⟩ := h
    rfl
  · obtain ⟨a, ns, rfl, hS, hl, k⟩ := h
    have hr1 := hr.mono (by decide : 1 ≤ 13)
    refine ⟨_, pss_one (ps_ret (pe_callB (cr_all rfl) (by rfl) B.all (by decide +kernel) (pa_cons (pe_lc (own := [("_law_k", 1)]) (g := gName 1) (tt := tYes) (te := tCall spRg2 [] E0 (tCons (tCall (spRng K) [] E0 (tCons (tVar 0) (tCons (tVar 1) tNil))) tNil)) rfl scLaw.nd
      (pi_range1 (by rfl) B.range (pa_cons (pe_callB (call_max2 rfl) (by rfl) B.max (by decide +kernel) (pa_cons pe_int (pa_cons (pe_callB (call_min2 rfl) (by rfl) B.min (by decide +kernel) (pa_cons (pe_callB call_len_seq (by rfl) B.len boot_len (pa_cons (pv 0) pa_nil)) (pa_cons pe_int pa_nil))) pa_nil))) pa_nil)) (blkOk_by (by kernel_rfl))
      (fun _ _ _ _ _ => pg_name (i := 1) scLaw.nd rfl (.inl rfl)) (fun _ _ _ _ _ => pts_nil) (fun _ _ _ _ _ => pe_calG Ri hr hgd (pa_cons (pe_cal Rn hr1 (pa_cons (pv 0) (pa_cons (pv 1) pa_nil))) pa_nil))) pa_nil))), ?_⟩
    refine ⟨_, rfl, a, _, rfl, .inl hS, _, _, rfl, _, _, rfl, ?_⟩
    have hb : ∀ n : Int, 0 ≤ n → ∃ m : Nat, (if (if (6 : Int) < n then 6 else n) > 1 then (if (6 : Int) < n then 6 else n) else 1) = (m : Int) ∧ m ≤ 6 := fun n hn => by
      by_cases h5 : (6 : Int) < n
      · exact ⟨6, by simp [h5], by decide⟩
      · by_cases h1 : n > 1
        · exact ⟨n.toNat, by simp [h5, h1]; omega, by omega⟩
        · exact ⟨1, by simp [h5, h1], by decide⟩
    obtain ⟨m, em, hm⟩ := hb ((ns.map V.int).length : Nat) (by omega)
    rw [em]
    refine ⟨_, rfl, by omega, by omega, fun D hD => lc_S (walk_range (lo := 0) (n := (m : Int).toNat)) hD (by omega) (fun i acc _ => acc = (List.replicate i true).map V.bl) (fun _ _ _ _ _ _ _ h => h) rfl (fun _ _ => trivial) ?_ ?_⟩
    · rintro i v H3 H3' acc Qt Qf hi e3 hd rfl ⟨rfl, rfl⟩ kt kf
      refine ⟨rfl, _, rfl, _, rfl, a, _, ns, rfl, e3.seq hS, by omega, by omega, fun p H4 hp e4 h4 => ⟨p, rfl, h4, fun H5 e5 => kt _ _ (e4.trans e5) ?_⟩⟩
      rw [List.replicate_succ', List.map_append]
      rfl
    · rintro H1 acc e1 hd rfl
      refine ⟨D, _, rfl, SqL.of hd, ?_⟩
      rw [all_true]
      exact k _
end
end SS
set_option maxRecDepth 100000
set_option maxHeartbeats 4000000
namespace SS
open PySem L2 SR
def GF (K : PySem.W.Frag) (x : Str) (st : Stmt) : Prop := ∃ (f : Addr) (oc : Value) (od an : Option Addr) (sl : Array (Option Value)) (kV dc pm cd ct : Value), PySem.W.nsIn K mainGlobals x = some (some (.ref f)) ∧
  K.lookup f = some ⟨oc, od, .func (PySem.W.fnOf x x (defArgs st) (defBody st) (defScope st) .none kV dc pm an cd ct), sl⟩ ∧ PySem.W.codeIn K cd x = true ∧ PySem.W.keepIn K (.ref f) = true
def ME (K : PySem.W.Frag) (C : Addr) (x qual : Str) (st : Stmt) : Prop := ∃ (f : Addr) (oc : Value) (od an : Option Addr) (sl : Array (Option Value)) (kV dc pm cd ct : Value), PySem.W.findIn K (.ref C) x = some (some (.ref f)) ∧ PySem.W.isFn K (.ref f) = true ∧
  K.lookup f = some ⟨oc, od, .func (PySem.W.fnOf x qual (defArgs st) (defBody st) (defScope st) .none kV dc pm an cd ct), sl⟩ ∧ PySem.W.codeIn K cd qual = true ∧ PySem.W.keepIn K (.ref f) = true
def PR (K : PySem.W.Frag) (C : Addr) (x qual : Str) (st : Stmt) : Prop := ∃ (p f : Addr) (rest : List Value) (oc : Value) (od an : Option Addr) (sl : Array (Option Value)) (kV dc pm cd ct : Value), PySem.W.findIn K (.ref C) x = some (some (.ref p)) ∧
  PySem.W.specialIn K (.ref p) "__get__" = some (some (.builtin "property.__get__")) ∧ PySem.W.takesIn K (.ref p) = some true ∧ PySem.W.recIn K p "property" = some (.ref f :: rest) ∧
  K.lookup f = some ⟨oc, od, .func (PySem.W.fnOf x qual (defArgs st) (defBody st) (defScope st) .none kV dc pm an cd ct), sl⟩ ∧ PySem.W.codeIn K cd qual = true ∧ PySem.W.keepIn K (.ref f) = true
def CS (K : PySem.W.Frag) (x : Str) (z : V) : Prop := ∃ v, PySem.W.nsIn K mainGlobals x = some (some v) ∧ RelV z v
def CV (K : PySem.W.Frag) (C : Addr) (x : Str) (z : V) : Prop := ∃ u, PySem.W.findCls K (.ref C) (.type "type") x = some (.val u) ∧ RelV z u
structure CL (K : PySem.W.Frag) (C : Addr) : Prop where
  pg : PySem.W.plainGet K C Str.empty = true
  hd : PySem.W.hasDictIn K C = true
  po : PySem.W.plainOver K C = true
  sa : PySem.W.findIn K (.ref C) "__setattr__" = some (some (.builtin "object.__setattr__"))
  ma : PySem.W.makesIn K C = true
  kc : PySem.W.keepIn K (.ref C) = true
structure TY (K : PySem.W.Frag) (C : Addr) : Prop where
  cls : PySem.W.findIn K (.ref C) "__class__" = some (some (.builtin "object.__class__"))
  getc : PySem.W.specialIn K (.builtin "object.__class__") "__get__" = some (some (.builtin "getset_descriptor.__get__"))
  tak : PySem.W.takesIn K (.builtin "object.__class__") = some true
  mro : PySem.W.mroIn K C (.type "object") = some true
  ne : PySem.W.findIn K (.ref C) "__ne__" = some (some (.builtin "object.__ne__"))
  sub : PySem.W.subIn K (.ref C) (.type "object") = some true
  ic : PySem.W.isClsIn K C = true
  ty : PySem.W.typeIn K (.ref C) = some (.type "type")
  rd : PySem.W.readsIn K C (.type "type") = true
  ga : PySem.W.specialIn K (.ref C) "__getattribute__" = some (some (.builtin "type.__getattribute__"))
structure FR (K : PySem.W.Frag) : Prop where
  len : PySem.W.nsIn K mainGlobals "len" = some none
  range : PySem.W.nsIn K mainGlobals "range" = some none
  int : PySem.W.nsIn K mainGlobals "int" = some none
  list : PySem.W.nsIn K mainGlobals "list" = some none
  dict : PySem.W.nsIn K mainGlobals "dict" = some none
  tuple : PySem.W.nsIn K mainGlobals "tuple" = some none
  set : PySem.W.nsIn K mainGlobals "set" = some none
  sorted : PySem.W.nsIn K mainGlobals "sorted" = some none
  all : PySem.W.nsIn K mainGlobals "all" = some none
  any : PySem.W.nsIn K mainGlobals "any" = some none
  max : PySem.W.nsIn K mainGlobals "max" = some none
  min : PySem.W.nsIn K mainGlobals "min" = some none
  abs : PySem.W.nsIn K mainGlobals "abs" = some none
  divmod : PySem.W.nsIn K mainGlobals "divmod" = some none
  repr : PySem.W.nsIn K mainGlobals "repr" = some none
  isinstance : PySem.W.nsIn K mainGlobals "isinstance" = some none
  enumerate : PySem.W.nsIn K mainGlobals "enumerate" = some none
  str : PySem.W.nsIn K mainGlobals "str" = some none
  bool : PySem.W.nsIn K mainGlobals "bool" = some none
theorem FR.bl {K : PySem.W.Frag} {h : Heap} {mg : Str → Option Value} (fr : FR K) (X : K.In h) (G : h.Ns mainGlobals mg) : Bl mg := ⟨PySem.W.mg_none_of X G fr.len, PySem.W.mg_none_of X G fr.range, PySem.W.mg_none_of X G fr.int, PySem.W.mg_none_of X G fr.list, PySem.W.mg_none_of X G fr.dict, PySem.W.mg_none_of X G fr.tuple, PySem.W.mg_none_of X G fr.set, PySem.W.mg_none_of X G fr.sorted, PySem.W.mg_none_of X G fr.all, PySem.W.mg_none_of X G fr.any, PySem.W.mg_none_of X G fr.max, PySem.W.mg_none_of X G fr.min, PySem.W.mg_none_of X G fr.abs, PySem.W.mg_none_of X G fr.divmod, PySem.W.mg_none_of X G fr.repr, PySem.W.mg_none_of X G fr.isinstance, PySem.W.mg_none_of X G fr.enumerate, PySem.W.mg_none_of X G fr.str, PySem.W.mg_none_of X G fr.bool⟩
theorem GF.cal {P : Program} {w : World} {K : PySem.W.Frag} {h : Heap} {mg : Str → Option Value} {base : Heap} {x : Str} {st : Stmt} {k : Nat} {ps : List Str} {sp : Sp} (g : GF K x st) (X : K.In h) (G : h.Ns mainGlobals mg)
    (hb : ∀ (kV doc pm : Value) (an : Option Addr) (cdv ct : Value) (us : List Value), us.length = ps.length → bindArgs (PySem.W.fnOf x x (defArgs st) (defBody st) (defScope st) .none kV doc pm an cdv ct) ⟨us, []⟩ = pure (ps.zip us))
    (ok : ∀ f fd, Fun K x x st f fd → FnOk P w K mg base CX0 k f fd ps sp) : Cal P w K mg base x k ps sp := by
  obtain ⟨f, oc, od, an, sl, kV, dc, pm, cd, ct, a, l, c, kp⟩ := g
  have F := fun_mk (st := st) l c kp
  exact ⟨⟨f, _, ok f _ F, PySem.W.mg_of X G a, kp, F.binds hb⟩⟩
theorem GF.calG {P : Program} {w : World} {K : PySem.W.Frag} {h : Heap} {mg : Str → Option Value} {base : Heap} {x : Str} {st : Stmt} {k : Nat} {ps : List Str} {sp : Sp} (g : GF K x st) (X : K.In h) (G : h.Ns mainGlobals mg)
    (hb : ∀ (kV doc pm : Value) (an : Option Addr) (cdv ct : Value) (us : List Value), us.length = ps.length → bindArgs (PySem.W.fnOf x x (defArgs st) (defBody st) (defScope st) .none kV doc pm an cdv ct) ⟨us, []⟩ = pure (ps.zip us))
    (ok : ∀ f fd, Fun K x x st f fd → FnG P w K mg base k f fd ps sp) : CalG P w K mg base x k ps sp := by
  obtain ⟨f, oc, od, an, sl, kV, dc, pm, cd, ct, a, l, c, kp⟩ := g
  have F := fun_mk (st := st) l c kp
  exact ⟨⟨f, _, ok f _ F, PySem.W.mg_of X G a, kp, F.binds hb⟩⟩
theorem GF.fun {K : PySem.W.Frag} {h : Heap} {mg : Str → Option Value} {x : Str} {st : Stmt} (g : GF K x st) (X : K.In h) (G : h.Ns mainGlobals mg) : ∃ f fd, Fun K x x st f fd ∧ mg x = some (.ref f) ∧ PySem.W.keepIn K (.ref f) = true := by
  obtain ⟨f, oc, od, an, sl, kV, dc, pm, cd, ct, a, l, c, kp⟩ := g
  exact ⟨f, _, fun_mk (st := st) l c kp, PySem.W.mg_of X G a, kp⟩
theorem ME.fun {K : PySem.W.Frag} {C : Addr} {x qual : Str} {st : Stmt} (g : ME K C x qual st) : ∃ f fd, Fun K x qual st f fd ∧ PySem.W.findIn K (.ref C) x = some (some (.ref f)) ∧ PySem.W.isFn K (.ref f) = true ∧ PySem.W.keepIn K (.ref f) = true := by
  obtain ⟨f, oc, od, an, sl, kV, dc, pm, cd, ct, a, i, l, c, kp⟩ := g
  exact ⟨f, _, fun_mk (st := st) l c kp, a, i, kp⟩
theorem PR.fun {K : PySem.W.Frag} {C : Addr} {x qual : Str} {st : Stmt} (g : PR K C x qual st) : ∃ p f fd, Fun K x qual st f fd ∧ PropOf K C x p f := by
  obtain ⟨p, f, rest, oc, od, an, sl, kV, dc, pm, cd, ct, a, g, t, r, l, c, kp⟩ := g
  exact ⟨p, f, _, fun_mk (st := st) l c kp, ⟨a, g, t, ⟨rest, r⟩⟩⟩
theorem CS.at {K : PySem.W.Frag} {h : Heap} {mg : Str → Option Value} {x : Str} {z : V} (c : CS K x z) (X : K.In h) (G : h.Ns mainGlobals mg) : ∃ v, mg x = some v ∧ RelV z v := by
  obtain ⟨v, a, r⟩ := c
  exact ⟨v, PySem.W.mg_of X G a, r⟩
end SS
set_option maxRecDepth 100000
set_option maxHeartbeats 4000000
namespace Hz
open PySem PySem.W PySem.Calls PyProof.Rows He5
theorem obZ_eq {fs : List (Frag → Bool)} {fn : List DefA} (s : SharedT) : obZ fs fn s = (hookZ fs fn).obs s.abs := by
  have e : HandSHeadRun.getT s = s.abs.heap.get? := funext (HandSHeadRun.getT_eq s)
  unfold obZ
  rw [e] <;> rfl
section
variable {fs : List (Frag → Bool)} {fn : List DefA} {K : Frag}
theorem SaysZ.fact (c : SaysZ fs fn K) (i : Nat) {f : Frag → Bool} (h : fs[i]? = some f := by rfl) : f K = true := by
  have c1 := (He.ba (show ((fs.all fun f => f K) && fn.all fun d => d.ok K) = true from congrArg (fun z : He.AlD => z.1) c)).1
  exact List.all_eq_true.mp c1 f (List.mem_of_getElem? h)
theorem SaysZ.def_ (c : SaysZ fs fn K) (i : Nat) {d : DefA} (h : fn[i]? = some d := by rfl) : ∃ fd, L2.FunD K d.name d.qual d.params d.body d.scope (d.dvs K) (d.kws K) (d.at_ K) fd := by
  have c2 := (He.ba (show ((fs.all fun f => f K) && fn.all fun d => d.ok K) = true from congrArg (fun z : He.AlD => z.1) c)).2
  have e : fn.map (fun d => fnA K (d.at_ K)) = fn.map DefA.val := congrArg (fun z : He.AlD => z.2) c
  have e2 : (fn.map fun d => fnA K (d.at_ K))[i]? = (fn.map DefA.val)[i]? := by rw [e]
  rw [List.getElem?_map, List.getElem?_map, h] at e2
  exact DefA.funD (Option.some.inj e2) (List.all_eq_true.mp c2 d (List.mem_of_getElem? h))
end
end Hz
namespace SS
open PySem L2 SR He5
section
variable {K : PySem.W.Frag} {x m qual : Str} {st : Stmt} {z : V}
theorem free_z (h : bFree x K = true) : PySem.W.nsIn K mainGlobals x = some none := He.eqO_ok h
theorem glo_z (h : bGlo x K = true) : PySem.W.nsIn K mainGlobals x = some (some (.ref (He.ga K x))) := He.eqO_ok h
theorem cl_z (h : bCL x K = true) : CL K (He.ga K x) := by
  obtain ⟨h1, h2⟩ := He.ba h
  obtain ⟨h3, h4⟩ := He.ba h2
  have c := He.cls_ok h1
  obtain ⟨c1, h1⟩ := He.ba h1
  obtain ⟨c2, h1⟩ := He.ba h1
  obtain ⟨c3, c4⟩ := He.ba h1
  exact ⟨c1, c2, c3, He.eqO_ok c4, h3, h4⟩
theorem no_z (h : bNo x m K = true) : PySem.W.findIn K (.ref (He.ga K x)) m = some none := He.eqO_ok h
theorem rd_z (h : bRd x K = true) : PySem.W.readsIn K (He.ga K x) (.type "type") = true := h
theorem ga_z (h : bGa x K = true) : PySem.W.specialIn K (.ref (He.ga K x)) "__getattribute__" = some (some (.builtin "type.__getattribute__")) := He.eqO_ok h
theorem ty_z (h : bTY x K = true) : TY K (He.ga K x) := by
  obtain ⟨a1, h⟩ := He.ba h
  obtain ⟨a2, h⟩ := He.ba h
  obtain ⟨a3, h⟩ := He.ba h
  obtain ⟨a4, h⟩ := He.ba h
  obtain ⟨a5, h⟩ := He.ba h
  obtain ⟨a6, h⟩ := He.ba h
  obtain ⟨a7, h⟩ := He.ba h
  obtain ⟨a8, h⟩ := He.ba h
  obtain ⟨a9, a10⟩ := He.ba h
  exact ⟨He.eqO_ok a1, He.eqO_ok a2, of_decide_eq_true a3, of_decide_eq_true a4, He.eqO_ok a5, of_decide_eq_true a6, a7, of_decide_eq_true a8, a9, He.eqO_ok a10⟩
theorem gf_z (h : bGlo x K = true) (F : ∃ fd, FunD K (dG x st).name (dG x st).qual (dG x st).params (dG x st).body (dG x st).scope ((dG x st).dvs K) ((dG x st).kws K) ((dG x st).at_ K) fd) : GF K x st := by
  obtain ⟨fd, F⟩ := F
  obtain ⟨oc, od, dV, kV, dc, pm, an, cd, ct, sl, rfl, l, c, hd, _⟩ := F.ex
  rcases hd with ⟨_, rfl⟩ | ⟨e, _⟩
  · exact ⟨_, oc, od, an, sl, kV, dc, pm, cd, ct, He.eqO_ok h, l, c, F.kp⟩
  · exact absurd rfl e
theorem me_z {C : Str} (h : bMe C x K = true) (F : ∃ fd, FunD K (dM C x qual st).name (dM C x qual st).qual (dM C x qual st).params (dM C x qual st).body (dM C x qual st).scope ((dM C x qual st).dvs K) ((dM C x qual st).kws K) ((dM C x qual st).at_ K) fd) : ME K (He.ga K C) x qual st := by
  obtain ⟨h1, h2⟩ := He.ba h
  obtain ⟨fd, F⟩ := F
  obtain ⟨oc, od, dV, kV, dc, pm, an, cd, ct, sl, rfl, l, c, hd, _⟩ := F.ex
  rcases hd with ⟨_, rfl⟩ | ⟨e, _⟩
  · exact ⟨_, oc, od, an, sl, kV, dc, pm, cd, ct, He.eqO_ok h1, h2, l, c, F.kp⟩
  · exact absurd rfl e
theorem pr_z {C : Str} (h : bPr C x K = true) (F : ∃ fd, FunD K (dP C x qual st).name (dP C x qual st).qual (dP C x qual st).params (dP C x qual st).body (dP C x qual st).scope ((dP C x qual st).dvs K) ((dP C x qual st).kws K) ((dP C x qual st).at_ K) fd) : PR K (He.ga K C) x qual st := by
  obtain ⟨h1, h2⟩ := He.ba h
  obtain ⟨h2, h3⟩ := He.ba h2
  obtain ⟨h3, h4⟩ := He.ba h3
  have h5 : ∃ rest, PySem.W.recIn K (He.ma K (He.ga K C) x) "property" = some (.ref (pf K (He.ga K C) x) :: rest) := by
    unfold pf
    split at h4
    · rename_i f r e
      exact ⟨r, by rw [e]⟩
    · cases h4
  obtain ⟨rest, h5⟩ := h5
  obtain ⟨fd, F⟩ := F
  obtain ⟨oc, od, dV, kV, dc, pm, an, cd, ct, sl, rfl, l, c, hd, _⟩ := F.ex
  rcases hd with ⟨_, rfl⟩ | ⟨e, _⟩
  · exact ⟨_, _, rest, oc, od, an, sl, kV, dc, pm, cd, ct, He.eqO_ok h1, He.eqO_ok h2, of_decide_eq_true h3, h5, l, c, F.kp⟩
  · exact absurd rfl e
theorem cv_z {C : Str} (h : bCV C x z K = true) : CV K (He.ga K C) x z := by
  unfold bCV at h
  split at h
  · rename_i u e
    exact ⟨u, e, He.relB_ok h⟩
  · cases h
theorem cs_z (h : bCS x z K = true) : CS K x z := by
  unfold bCS at h
  split at h
  · rename_i u e
    exact ⟨u, e, He.relB_ok h⟩
  · cases h
theorem tup_z {p : PySem.W.Frag → Addr} (h : bTup p K = true) : ∃ (o : Obj) (n : Nat), K.lookup (p K) = some o ∧ o.cls = .type "tuple" ∧ o.data = .seq #[] n := by
  unfold bTup at h
  split at h
  · rename_i c od its n sl e
    obtain ⟨h1, h2⟩ := He.ba h
    exact ⟨_, n, e, congrArg Value.type (of_decide_eq_true h1), by rw [Array.isEmpty_iff.mp h2]⟩
  · cases h
theorem fr_z (h : bFR K = true) : FR K := by
  have a : ∀ x ∈ freeN, PySem.W.nsIn K mainGlobals x = some none := fun x hx => He.eqO_ok (List.all_eq_true.mp h x hx)
  exact ⟨a _ (.head _), a _ (.tail _ (.head _)), a _ (.tail _ (.tail _ (.head _))), a _ (.tail _ (.tail _ (.tail _ (.head _)))), a _ (.tail _ (.tail _ (.tail _ (.tail _ (.head _))))), a _ (.tail _ (.tail _ (.tail _ (.tail _ (.tail _ (.head _)))))), a _ (.tail _ (.tail _ (.tail _ (.tail _ (.tail _ (.tail _ (.head _))))))), a _ (.tail _ (.tail _ (.tail _ (.tail _ (.tail _ (.tail _ (.tail _ (.head _)))))))), a _ (.tail _ (.tail _ (.tail _ (.tail _ (.tail _ (.tail _ (.tail _ (.tail _ (.head _))))))))), a _ (.tail _ (.tail _ (.tail _ (.tail _ (.tail _ (.tail _ (.tail _ (.tail _ (.tail _ (.head _)))))))))), a _ (.tail _ (.tail _ (.tail _ (.tail _ (.tail _ (.tail _ (.tail _ (.tail _ (.tail _ (.tail _ (.head _))))))))))), a _ (.tail _ (.tail _ (.tail _ (.tail _ (.tail _ (.tail _ (.tail _ (.tail _ (.tail _ (.tail _ (.tail _ (.head _)))))))))))), a _ (.tail _ (.tail _ (.tail _ (.tail _ (.tail _ (.tail _ (.tail _ (.tail _ (.tail _ (.tail _ (.tail _ (.tail _ (.head _))))))))))))), a _ (.tail _ (.tail _ (.tail _ (.tail _ (.tail _ (.tail _ (.tail _ (.tail _ (.tail _ (.tail _ (.tail _ (.tail _ (.tail _ (.head _)))))))))))))), a _ (.tail _ (.tail _ (.tail _ (.tail _ (.tail _ (.tail _ (.tail _ (.tail _ (.tail _ (.tail _ (.tail _ (.tail _ (.tail _ (.tail _ (.head _))))))))))))))), a _ (.tail _ (.tail _ (.tail _ (.tail _ (.tail _ (.tail _ (.tail _ (.tail _ (.tail _ (.tail _ (.tail _ (.tail _ (.tail _ (.tail _ (.tail _ (.head _)))))))))))))))), a _ (.tail _ (.tail _ (.tail _ (.tail _ (.tail _ (.tail _ (.tail _ (.tail _ (.tail _ (.tail _ (.tail _ (.tail _ (.tail _ (.tail _ (.tail _ (.tail _ (.head _))))))))))))))))), a _ (.tail _ (.tail _ (.tail _ (.tail _ (.tail _ (.tail _ (.tail _ (.tail _ (.tail _ (.tail _ (.tail _ (.tail _ (.tail _ (.tail _ (.tail _ (.tail _ (.tail _ (.head _)))))))))))))))))), a _ (.tail _ (.tail _ (.tail _ (.tail _ (.tail _ (.tail _ (.tail _ (.tail _ (.tail _ (.tail _ (.tail _ (.tail _ (.tail _ (.tail _ (.tail _ (.tail _ (.tail _ (.tail _ (.head _)))))))))))))))))))⟩
end
theorem walk_ofZ {l : PySem.W.OpenLaw} {n k : Nat} {q : Program} {loose : List Str} {XP : (Str → Option Value) → Heap → Prop} {YP : World → Heap → Prop} {d : DefRec} {x : Str}
    (hn : l.most = some n) (hn2 : n ≤ sizeLine) (hdf : d.params.defaults = []) (hr : Room k callerA)
    (F : ∀ (w : World) (mg : Str → Option Value) (fa : Addr) (h : Heap), YP w h → h.Ns mainGlobals mg → mg d.name = some (.ref fa) → ∃ (K : PySem.W.Frag) (fd : FuncData) (sp : Sp), K.In h ∧ (∀ (s : Shared) (u : Value), BindsTo s fd ⟨[u], []⟩ [(x, u)]) ∧
      (∀ (H : Hp) (a : Addr) (ns : List Int), ns.length ≤ n → SqL K H a (ns.map V.int) → sp [.ref a] H (fun v _ => v = .bl true) E0) ∧
      ∀ base : Heap, K.In base → base.Ns mainGlobals mg → FnG l.prog w K mg base k fa fd [x] sp) :
    PySem.W.WalkO q loose XP YP l.row.toRowW d [] (fun f vs => PySem.call f vs) := by
  refine Att.attach_call hn hdf fun w s0 s1 mg mb fa o pm cd doc a vs ns G Y ho hd hcd hmg hobj hints hlen hg => ?_
  obtain ⟨K, fd, sp, KX, hb, hsp, hF⟩ := F w mg fa _ Y G.T.g hmg
  exact law_callG KX G.T.g G.T.b G.T.builtins G.T.nolimit hg hobj hints (Nat.le_trans hlen hn2) hr hF hb fun H hS => hsp H a ns hlen hS
end SS
set_option maxRecDepth 100000
set_option maxHeartbeats 4000000
namespace SS
open PySem L2 SR TL ClX
theorem ktup_mk {K : PySem.W.Frag} {e : Addr} {o : Obj} {n : Nat} (h : K.lookup e = some o) (c : o.cls = .type "tuple") (d : o.data = .seq #[] n) : KTup K e [] := ⟨o, #[], n, h, c, d, Nat.zero_le _, .nil⟩
/-- __init__(self, states, ends=(), *, start=0) -/
def MDK (K : PySem.W.Frag) (C : Addr) (x qual : Str) (st : Stmt) : Prop := ∃ (f T D e : Addr) (oc : Value) (od an : Option Addr) (sl : Array (Option Value)) (dc pm cd ct u : Value) (o : Obj) (n : Nat), PySem.W.findIn K (.ref C) x = some (some (.ref f)) ∧ PySem.W.isFn K (.ref f) = true ∧
  K.lookup f = some ⟨oc, od, .func (PySem.W.fnOf x qual (defArgs st) (defBody st) (defScope st) (.ref T) (.ref D) dc pm an cd ct), sl⟩ ∧ PySem.W.codeIn K cd qual = true ∧ PySem.W.keepIn K (.ref f) = true ∧ K.lookup T = some o ∧ o.data = .seq #[.ref e] n ∧ PySem.W.nsIn K D "start" = some (some u) ∧ RelV (.int 0) u ∧ KTup K e []
theorem MDK.fun {K : PySem.W.Frag} {C : Addr} {x qual : Str} {st : Stmt} (m : MDK K C x qual st) : ∃ (f : Addr) (fd : FuncData) (e : Addr), PySem.W.findIn K (.ref C) x = some (some (.ref f)) ∧ PySem.W.isFn K (.ref f) = true ∧ FunD K x qual (defArgs st) (defBody st) (defScope st) [.ref e] [("start", .int 0)] f fd ∧ KTup K e [] := by
  obtain ⟨f, T, D, e, oc, od, an, sl, dc, pm, cd, ct, u, o, n, a, i, l, c, k, t, d, s, r, kt⟩ := m
  refine ⟨f, _, e, a, i, ⟨⟨oc, od, .ref T, .ref D, dc, pm, an, cd, ct, sl, rfl, l, c, .inr ⟨by simp, T, o, [.ref e], n, rfl, t, d, .cons rfl .nil⟩, .inr ⟨D, rfl, fun q hq => ?_⟩⟩, k⟩, kt⟩
  rw [List.mem_singleton.mp hq]
  exact ⟨u, s, r⟩
structure OD (K : PySem.W.Frag) (C : Addr) : Prop where
  to : ∀ T ∈ odT, PySem.W.subIn K (.type T) (.ref C) = some false
  fro : ∀ T ∈ odT, PySem.W.subIn K (.ref C) (.type T) = some false
theorem OD.odd {K : PySem.W.Frag} {C : Addr} (o : OD K C) (t : TY K C) : OddC K C := ⟨o.to, o.fro, t.ic, t.ty⟩
theorem od_z {K : PySem.W.Frag} {x : Str} (h : bOD x K = true) : OD K (He.ga K x) := by
  obtain ⟨h1, h2⟩ := He.ba h
  exact ⟨fun T hT => of_decide_eq_true (List.all_eq_true.mp h1 T hT), fun T hT => of_decide_eq_true (List.all_eq_true.mp h2 T hT)⟩
theorem mdk_z {K : PySem.W.Frag} {C x qual : Str} {st : Stmt} (h : bMe C x K = true) (h2 : bTup (dfl0 fun K => He.ma K (He.ga K C) x) K = true)
    (F : ∃ fd, FunD K (dD C x qual st [("start", .int 0)]).name (dD C x qual st [("start", .int 0)]).qual (dD C x qual st [("start", .int 0)]).params (dD C x qual st [("start", .int 0)]).body (dD C x qual st [("start", .int 0)]).scope ((dD C x qual st [("start", .int 0)]).dvs K) ((dD C x qual st [("start", .int 0)]).kws K) ((dD C x qual st [("start", .int 0)]).at_ K) fd) : MDK K (He.ga K C) x qual st := by
  obtain ⟨h1, h3⟩ := He.ba h
  obtain ⟨oe, ne, e1, e2, e3⟩ := tup_z h2
  obtain ⟨fd, F⟩ := F
  obtain ⟨oc, od, dV, kV, dc, pm, an, cd, ct, sl, rfl, l, c, hd, hk⟩ := F.ex
  rcases hd with ⟨e, _⟩ | ⟨_, T, o, its, n, rfl, t, d, vs⟩
  · exact nomatch e
  · rcases hk with e | ⟨D, rfl, hk⟩
    · exact nomatch e
    · obtain ⟨u, s, r⟩ := hk ("start", .int 0) List.mem_cons_self
      cases vs with
      | cons q rs => cases rs with
        | nil => cases q; exact ⟨_, T, D, _, oc, od, an, sl, dc, pm, cd, ct, u, o, n, He.eqO_ok h1, h3, l, c, F.kp, t, d, s, r, ktup_mk e1 e2 e3⟩
/-- an own exception's __init__ -/
def MI (K : PySem.W.Frag) (C : Addr) (x qual : Str) (st : Stmt) : Prop := ∃ (f : Addr) (oc : Value) (od an : Option Addr) (sl : Array (Option Value)) (kV dc pm cd ct : Value), PySem.W.findIn K (.ref C) x = some (some (.ref f)) ∧ PySem.W.typeIn K (.ref f) = some (.type "function") ∧
  K.lookup f = some ⟨oc, od, .func (PySem.W.fnOf x qual (defArgs st) (defBody st) (defScope st) .none kV dc pm an cd ct), sl⟩ ∧ PySem.W.codeIn K cd qual = true ∧ PySem.W.keepIn K (.ref f) = true
theorem MI.fun {K : PySem.W.Frag} {C : Addr} {x qual : Str} {st : Stmt} (g : MI K C x qual st) : ∃ f fd, Fun K x qual st f fd ∧ PySem.W.findIn K (.ref C) x = some (some (.ref f)) ∧ PySem.W.typeIn K (.ref f) = some (.type "function") := by
  obtain ⟨f, oc, od, an, sl, kV, dc, pm, cd, ct, a, i, l, c, kp⟩ := g
  exact ⟨f, _, fun_mk (st := st) l c kp, a, i⟩
theorem mi_z {K : PySem.W.Frag} {C x qual : Str} {st : Stmt} (h : bMI C x K = true) (F : ∃ fd, FunD K (dM C x qual st).name (dM C x qual st).qual (dM C x qual st).params (dM C x qual st).body (dM C x qual st).scope ((dM C x qual st).dvs K) ((dM C x qual st).kws K) ((dM C x qual st).at_ K) fd) : MI K (He.ga K C) x qual st := by
  obtain ⟨h1, h2⟩ := He.ba h
  obtain ⟨fd, F⟩ := F
  obtain ⟨oc, od, dV, kV, dc, pm, an, cd, ct, sl, rfl, l, c, hd, _⟩ := F.ex
  rcases hd with ⟨_, rfl⟩ | ⟨e, _⟩
  · exact ⟨_, oc, od, an, sl, kV, dc, pm, cd, ct, He.eqO_ok h1, of_decide_eq_true h2, l, c, F.kp⟩
  · exact absurd rfl e
/-- an exception's class; T: the built-in classes behind it -/
structure EY (K : PySem.W.Frag) (D : Addr) (T : List Value) (nw : String) : Prop where
  ox : OexB nw T K D
  xf : XfC K D
  exc : ExcC K D
  own : PySem.W.subIn K (.ref D) (.ref D) = some true
theorem EY.exm {K : PySem.W.Frag} {D : Addr} {T : List Value} {nw : String} (s : EY K D T nw) {E : Addr} {b : Bool} (h : PySem.W.subIn K (.ref E) (.ref D) = some b) : PySem.W.exmOne K (.ref E) (.ref D) = some b := PySem.W.exm_ref s.ox.exC s.xf.hdC s.ox.tyC h
theorem EY.ne {K : PySem.W.Frag} {D E : Addr} {T : List Value} {nw : String} (s : EY K D T nw) (h : PySem.W.subIn K (.ref D) (.ref E) = some false) : D ≠ E := fun z => by
  have h1 := s.own
  rw [z] at h1
  rw [z, h1] at h
  cases h
theorem abvB_ok {T : List Value} : ∀ {l : List Value}, abvB T l = true → Abv T l
  | [], h => by
    have e : [] = T := of_decide_eq_true h
    rw [← e]
    exact .base
  | v :: r, h => by
    rcases (Bool.or_eq_true _ _).mp h with h | h
    · have e : v :: r = T := of_decide_eq_true h
      rw [← e]
      exact .base
    · cases v with
      | ref a => exact .up (abvB_ok h)
      | _ => cases h
theorem exB_ok {K : PySem.W.Frag} {D : Addr} {T : List Value} {nw : String} (h : exB K D T nw = true) : ∃ nm q N bs bm sn sub ab col dd k0 k1 k2 k3 k5, K.lookup D = some (excClassObj nm q D N bs bm true sn sub ab col dd k0 k1 k2 k3 k5 nw) ∧ Abv T bm := by
  unfold exB at h
  split at h
  · rename_i c dd cd sl e
    split at h
    · rename_i C' bm k0 k1 k2 k3 n k5 e1 e2
      obtain ⟨h0, h⟩ := He.ba h
      obtain ⟨h1, h⟩ := He.ba h
      obtain ⟨h2, h⟩ := He.ba h
      obtain ⟨h3, h⟩ := He.ba h
      obtain ⟨h4, h5⟩ := He.ba h
      have z0 := of_decide_eq_true h0
      have z1 := of_decide_eq_true h1
      have z2 := of_decide_eq_true h2
      subst z0 z1 z2
      obtain ⟨nm, bs, mr, N, q, hdc, sn, sub, ab, col, hdl⟩ := cd
      dsimp only at e1 h3 h4
      subst e1 h4
      have z3 : hdl = false := by cases hdl <;> simp_all
      subst z3
      obtain ⟨sl⟩ := sl
      have e2' : sl = _ := e2
      subst e2'
      exact ⟨nm, q, N, bs, bm, sn, sub, ab, col, dd, k0, k1, k2, k3, k5, e, abvB_ok h5⟩
    · cases h
  · cases h
theorem ey_z {K : PySem.W.Frag} {x : Str} {T : List Value} {nw : String} (h : bEX x T nw K = true) : EY K (He.ga K x) T nw := by
  obtain ⟨a1, h⟩ := He.ba h
  obtain ⟨a2, h⟩ := He.ba h
  obtain ⟨a3, h⟩ := He.ba h
  obtain ⟨a4, h⟩ := He.ba h
  obtain ⟨a5, h⟩ := He.ba h
  obtain ⟨a6, h⟩ := He.ba h
  obtain ⟨a7, h⟩ := He.ba h
  obtain ⟨a8, h⟩ := He.ba h
  obtain ⟨a9, h⟩ := He.ba h
  obtain ⟨b1, h⟩ := He.ba h
  obtain ⟨b2, h⟩ := He.ba h
  obtain ⟨b3, b4⟩ := He.ba h
  exact ⟨⟨exB_ok a1, He.eqO_ok a2, of_decide_eq_true a5, of_decide_eq_true a6, a7⟩, ⟨He.eqO_ok a3, He.eqO_ok a4, of_decide_eq_true a5, a8⟩, ⟨He.eqO_ok a3, He.eqO_ok a4, of_decide_eq_true a5, a8, He.eqO_ok a9, He.eqO_ok b1, of_decide_eq_true b2, of_decide_eq_true b3⟩, of_decide_eq_true b4⟩
section
variable {K : PySem.W.Frag} {x y m : Str} {b : Bool}
theorem fc_z {v : Value} (h : bFC x m v K = true) : PySem.W.findCls K (.ref (He.ga K x)) (.type "type") m = some (.val v) := by
  unfold bFC at h
  split at h
  · rename_i u e
    rw [e, of_decide_eq_true h]
  · cases h
end
theorem ft_z {K : PySem.W.Frag} {t : String} {m : Str} {v : Value} (h : bFT t m v K = true) : PySem.W.findCls K (.type t) (.type "type") m = some (.val v) := by
  unfold bFT at h
  split at h
  · rename_i u e
    rw [e, of_decide_eq_true h]
  · cases h
structure X42 (K : PySem.W.Frag) (U Z IT IR IW N NK : Addr) : Prop where
  uz : PySem.W.kitOne K (.ref U) (.ref Z) = some true
  uv : PySem.W.kitOne K (.ref U) (.type "ValueError") = some true
  ul : PySem.W.kitAny K (.ref U) [.ref IT, .ref IR, .ref IW, .type "LookupError", .type "RuntimeError"] = some false
  nl : PySem.W.kitOne K (.ref N) (.type "LookupError") = some true
  nz : PySem.W.kitAny K (.ref N) [.ref Z, .ref NK, .type "ValueError"] = some false
theorem x42_z {K : PySem.W.Frag} (h : bX42 K = true) : X42 K (He.ga K "InvalidTemplate") (He.ga K "SlotsError") (He.ga K "InvalidTexts") (He.ga K "InvalidReader") (He.ga K "InvalidWord") (He.ga K "UnknownSlot") (He.ga K "UnknownName") := by
  simp only [bX42, Bool.and_eq_true] at h
  exact ⟨of_decide_eq_true h.1, of_decide_eq_true h.2.1, of_decide_eq_true h.2.2.1, of_decide_eq_true h.2.2.2.1, of_decide_eq_true h.2.2.2.2⟩
end SS
set_option maxRecDepth 100000
set_option maxHeartbeats 4000000
namespace SS
open PySem L2 SR TL ClX
theorem all_mk {l : PySem.W.OpenLaw} {w : World} {K : PySem.W.Frag} {h : Heap} {mg : Str → Option Value} {fa C L D U Z IT IR IW N NK : Addr} (X : K.In h) (G : h.Ns mainGlobals mg) (hfa : mg "law" = some (.ref fa))
    (aC : PySem.W.nsIn K mainGlobals "Reader" = some (some (.ref C)))
    (aL' : PySem.W.nsIn K mainGlobals "Language" = some (some (.ref L)))
    (aD : PySem.W.nsIn K mainGlobals "Template" = some (some (.ref D)))
    (aU : PySem.W.nsIn K mainGlobals "InvalidTemplate" = some (some (.ref U)))
    (aZ : PySem.W.nsIn K mainGlobals "SlotsError" = some (some (.ref Z)))
    (aIT : PySem.W.nsIn K mainGlobals "InvalidTexts" = some (some (.ref IT)))
    (aIR : PySem.W.nsIn K mainGlobals "InvalidReader" = some (some (.ref IR)))
    (aIW : PySem.W.nsIn K mainGlobals "InvalidWord" = some (some (.ref IW)))
    (aN : PySem.W.nsIn K mainGlobals "UnknownSlot" = some (some (.ref N)))
    (aNK : PySem.W.nsIn K mainGlobals "UnknownName" = some (some (.ref NK)))
    (clC : CL K C)
    (nC_rows : PySem.W.findIn K (.ref C) "rows" = some none)
    (nC_end_list : PySem.W.findIn K (.ref C) "end_list" = some none)
    (nC_own_start : PySem.W.findIn K (.ref C) "own_start" = some none)
    (rdC : PySem.W.readsIn K C (.type "type") = true)
    (gaC : PySem.W.specialIn K (.ref C) "__getattribute__" = some (some (.builtin "type.__getattribute__")))
    (vC_MAX_STATES : CV K C "MAX_STATES" (.int 12))
    (clL : CL K L)
    (nL_own_signs : PySem.W.findIn K (.ref L) "own_signs" = some none)
    (nL_goals : PySem.W.findIn K (.ref L) "goals" = some none)
    (nL_member_list : PySem.W.findIn K (.ref L) "member_list" = some none)
    (nL_live_list : PySem.W.findIn K (.ref L) "live_list" = some none)
    (tyL : TY K L)
    (mL_init : ME K L "__init__" "Language.__init__" SG.sInit)
    (mL_eq : ME K L "__eq__" "Language.__eq__" SG.sEql)
    (pL_is_empty : PR K L "is_empty" "Language.is_empty" sEmp)
    (clD : CL K D)
    (nD_own_reader : PySem.W.findIn K (.ref D) "own_reader" = some none)
    (nD_part_list : PySem.W.findIn K (.ref D) "part_list" = some none)
    (mD_init : ME K D "__init__" "Template.__init__" sTin)
    (mD_parts : ME K D "parts" "Template.parts" sTpa)
    (mD_language_of : ME K D "language_of" "Template.language_of" sTlo)
    (nU_problem : PySem.W.findIn K (.ref U) "problem" = some none)
    (nU_place : PySem.W.findIn K (.ref U) "place" = some none)
    (rdZ : PySem.W.readsIn K Z (.type "type") = true)
    (gaZ : PySem.W.specialIn K (.ref Z) "__getattribute__" = some (some (.builtin "type.__getattribute__")))
    (nN_name : PySem.W.findIn K (.ref N) "name" = some none)
    (iC : MDK K C "__init__" "Reader.__init__" sIni)
    (oddL : OD K L)
    (veN : PySem.W.nsIn K mainGlobals "ValueError" = some none)
    (leN : PySem.W.nsIn K mainGlobals "LookupError" = some none)
    (reN : PySem.W.nsIn K mainGlobals "RuntimeError" = some none)
    (vZ : PySem.W.findCls K (.ref Z) (.type "type") "__init__" = some (.val (.builtin "ValueError.__init__")))
    (vL : PySem.W.findCls K (.type "LookupError") (.type "type") "__init__" = some (.val (.builtin "LookupError.__init__")))
    (eU : EY K U tlV "ValueError.__new__")
    (iU : MI K U "__init__" "InvalidTemplate.__init__" sIpp)
    (eN : EY K N tlL "LookupError.__new__")
    (iN : MI K N "__init__" "UnknownSlot.__init__" sUnk)
    (x42 : X42 K U Z IT IR IW N NK)
    (fr : FR K)
    (g_is_word : GF K "is_word" sWord)
    (g_is_sign : GF K "is_sign" sSign)
    (g_is_mark : GF K "is_mark" sMark)
    (g_is_name : GF K "is_name" sName)
    (g_is_below : GF K "is_below" sNum)
    (g_are_different : GF K "are_different" sSta)
    (g_is_move : GF K "is_move" sMove)
    (g_is_state_dict : GF K "is_state_dict" sSdi)
    (g_told_in : GF K "told_in" sTol)
    (g_signs_in : GF K "signs_in" sSgi)
    (g_reader_problem : GF K "reader_problem" sPrb)
    (g_is_piece_move : GF K "is_piece_move" sPmv)
    (g_are_moves : GF K "are_moves" sAmv)
    (g_are_marks : GF K "are_marks" sAmk)
    (g_is_part : GF K "is_part" sPrt)
    (g_is_slot : GF K "is_slot" sIsl)
    (g_marks_of : GF K "marks_of" sMof)
    (g_first_not_part : GF K "first_not_part" sFnp)
    (g_first_unmarked : GF K "first_unmarked" sFum)
    (g_slot_problem : GF K "slot_problem" sSpr)
    (g_require_parts : GF K "require_parts" sRqp)
    (g_are_signs : GF K "are_signs" SG.sSigns)
    (g_is_number_below : GF K "is_number_below" SG.sNum)
    (g_is_state_row : GF K "is_state_row" SG.sSrow)
    (g_are_states : GF K "are_states" SG.sSta)
    (g_check_machine : GF K "check_machine" SG.sChk)
    (g_reached : GF K "reached" SG.sRch)
    (g_refined : GF K "refined" SG.sRef)
    (g_least_kinds : GF K "least_kinds" SG.sLek)
    (g_least_machine : GF K "least_machine" SG.sLma)
    (g_live_states : GF K "live_states" SG.sLst)
    (g__law_rng : GF K "_law_rng" sRng)
    (g__law_draw : GF K "_law_draw" sDraw)
    (g__law_choice : GF K "_law_choice" sChoice)
    (g__law_language : GF K "_law_language" sLlg)
    (g__law_odd : GF K "_law_odd" sLod)
    (g__law_element : GF K "_law_element" sLel)
    (g__law_due : GF K "_law_due" sLdu)
    (g__law_told : GF K "_law_told" sLtd)
    (g__law_unknown : GF K "_law_unknown" sUlu)
    (g__law_right : GF K "_law_right" sRg2)
    (g_law : GF K "law" sLaw)
    (c_LETTERS : CS K "LETTERS" (.str (Str.ofString "abcdefghijklmnopqrstuvwxyz")))
    (c_LONGEST_NAME : CS K "LONGEST_NAME" (.int 8))
    (c_MOST_PAGE_SIGNS : CS K "MOST_PAGE_SIGNS" (.int 6))
    (c_MOST_TEXT_SIGNS : CS K "MOST_TEXT_SIGNS" (.int 4))
    (c_MOST_MARKS_readers : CS K "MOST_MARKS_readers" (.int 6))
    (c_MOST_SIGNS : CS K "MOST_SIGNS" (.int 4))
    (c_MOST_GIVEN_STATES : CS K "MOST_GIVEN_STATES" (.int 40))
    (c_MOST_STATES : CS K "MOST_STATES" (.int 6))
    (c_MOST_PARTS : CS K "MOST_PARTS" (.int 12))
    (c_MOST_SLOTS : CS K "MOST_SLOTS" (.int 4))
    (c_MOST_MOVES : CS K "MOST_MOVES" (.int 12))
    (c_MOST_MARKS_templates : CS K "MOST_MARKS_templates" (.int 6))
    : ∃ fd : FuncData, (∀ (s : Shared) (v : Value), BindsTo s fd ⟨[v], []⟩ [("_law_script", v)]) ∧ ∀ base : Heap, K.In base → base.Ns mainGlobals mg → FnG l.prog w K mg base 14 fa fd ["_law_script"] (spLaw K) := by
  obtain ⟨fL, ocL, odL, anL, slL, kVL, dcL, pmL, cdL, ctL, aL, lL, cL, kL⟩ := g_law
  have e := hfa.symm.trans (PySem.W.mg_of X G aL)
  cases e
  have FL := fun_mk (st := sLaw) lL cL kL
  have aLc := aL'
  refine ⟨PySem.W.fnOf "law" "law" (defArgs sLaw) (defBody sLaw) (defScope sLaw) .none kVL dcL pmL anL cdL ctL, fun s v => .of_eq rfl, fun base _ _ => ?_⟩
  have B : Bl mg := fr.bl X G
  have Cc : SS.Cn mg := by
    obtain ⟨_, h1, t1, rfl⟩ := c_LETTERS
    obtain ⟨_, h2, t2, rfl⟩ := c_LONGEST_NAME
    obtain ⟨_, h3, t3, rfl⟩ := c_MOST_PAGE_SIGNS
    obtain ⟨_, h4, t4, rfl⟩ := c_MOST_TEXT_SIGNS
    obtain ⟨_, h5, t5, rfl⟩ := c_MOST_MARKS_readers
    exact ⟨⟨t1, PySem.W.mg_of X G h1⟩, ⟨t2, PySem.W.mg_of X G h2⟩, ⟨t3, PySem.W.mg_of X G h3⟩, ⟨t4, PySem.W.mg_of X G h4⟩, ⟨t5, PySem.W.mg_of X G h5⟩⟩
  have Cg : SG.Cn mg := by
    obtain ⟨_, h1, t1, rfl⟩ := c_LETTERS
    obtain ⟨_, h2, t2, rfl⟩ := c_MOST_SIGNS
    obtain ⟨_, h3, t3, rfl⟩ := c_MOST_GIVEN_STATES
    obtain ⟨_, h4, t4, rfl⟩ := c_MOST_STATES
    exact ⟨⟨t1, PySem.W.mg_of X G h1⟩, ⟨t2, PySem.W.mg_of X G h2⟩, ⟨t3, PySem.W.mg_of X G h3⟩, ⟨t4, PySem.W.mg_of X G h4⟩⟩
  have mC := PySem.W.mg_of X G aC
  have T : RTx K mg C := ⟨⟨clC.pg, clC.hd, clC.po, clC.sa⟩, nC_rows, nC_end_list, nC_own_start, mC⟩
  have TG : SG.LTx K mg L := ⟨⟨clL.pg, clL.hd, clL.po, clL.sa⟩, nL_own_signs, nL_goals, nL_member_list, nL_live_list, PySem.W.mg_of X G aLc⟩
  have TD : TTx K mg D := ⟨⟨clD.pg, clD.hd, clD.po, clD.sa⟩, nD_own_reader, nD_part_list, PySem.W.mg_of X G aD⟩
  have Cm' : Cm mg := by
    obtain ⟨_, h1, t1, rfl⟩ := c_MOST_PARTS
    obtain ⟨_, h2, t2, rfl⟩ := c_MOST_SLOTS
    obtain ⟨_, h3, t3, rfl⟩ := c_MOST_MOVES
    obtain ⟨_, h4, t4, rfl⟩ := c_MOST_MARKS_templates
    exact ⟨⟨t1, PySem.W.mg_of X G h1⟩, ⟨t2, PySem.W.mg_of X G h2⟩, ⟨t3, PySem.W.mg_of X G h3⟩, ⟨t4, PySem.W.mg_of X G h4⟩⟩
  have Gm : RdM K mg C := by
    obtain ⟨u, h6, h7⟩ := vC_MAX_STATES
    exact ⟨mC, .type "type", u, ⟨rdC, gaC⟩, ⟨h6, h7⟩⟩
  have zZ : ZinV K mg "SlotsError" Z := ⟨PySem.W.mg_of X G aZ, ⟨rdZ, gaZ⟩, vZ⟩
  have Wd : Cal l.prog w K mg base "is_word" 1 ["value"] spWord := g_is_word.cal X G (fun _ _ _ _ _ _ us hl => match us, hl with | [_], _ => rfl) fun f fd F => ok_word F B Cc
  have Sg : Cal l.prog w K mg base "is_sign" 2 ["value"] spSign := g_is_sign.cal X G (fun _ _ _ _ _ _ us hl => match us, hl with | [_], _ => rfl) fun f fd F => ok_sign F B Wd
  have Mk : Cal l.prog w K mg base "is_mark" 2 ["value"] spMark := g_is_mark.cal X G (fun _ _ _ _ _ _ us hl => match us, hl with | [_], _ => rfl) fun f fd F => ok_mark F B Cc Wd
  have Nm : Cal l.prog w K mg base "is_name" 3 ["value"] spName := g_is_name.cal X G (fun _ _ _ _ _ _ us hl => match us, hl with | [_], _ => rfl) fun f fd F => ok_name F Sg Mk
  have Nu : Cal l.prog w K mg base "is_below" 1 ["value", "limit"] spNum := g_is_below.cal X G (fun _ _ _ _ _ _ us hl => match us, hl with | [_, _], _ => rfl) fun f fd F => ok_num F B
  have Sa : Cal l.prog w K mg base "are_different" 2 ["value", "limit"] (spSta K) := g_are_different.cal X G (fun _ _ _ _ _ _ us hl => match us, hl with | [_, _], _ => rfl) fun f fd F => ok_sta F B Nu
  have Mo : Cal l.prog w K mg base "is_move" 4 ["value", "many"] spMove := g_is_move.cal X G (fun _ _ _ _ _ _ us hl => match us, hl with | [_, _], _ => rfl) fun f fd F => ok_move F B Nu Nm
  have Sd : Cal l.prog w K mg base "is_state_dict" 5 ["value", "many"] spSdi := g_is_state_dict.cal X G (fun _ _ _ _ _ _ us hl => match us, hl with | [_, _], _ => rfl) fun f fd F => ok_sdi F B Sg Mo
  have To : Cal l.prog w K mg base "told_in" 1 ["rows"] spTol := g_told_in.cal X G (fun _ _ _ _ _ _ us hl => match us, hl with | [_], _ => rfl) fun f fd F => ok_tol F B
  have Si : Cal l.prog w K mg base "signs_in" 1 ["rows"] spSgi := g_signs_in.cal X G (fun _ _ _ _ _ _ us hl => match us, hl with | [_], _ => rfl) fun f fd F => ok_sgi F B
  have Pb : Cal l.prog w K mg base "reader_problem" 6 ["states", "ends", "start"] (spPrb K) := g_reader_problem.cal X G (fun _ _ _ _ _ _ us hl => match us, hl with | [_, _, _], _ => rfl) fun f fd F => ok_prb F B Cc Gm Sd Sa Nu Si To Sg Mk
  have gSg : Cal l.prog w K mg base "are_signs" 2 ["value"] SG.spSigns := g_are_signs.cal X G (fun _ _ _ _ _ _ us hl => match us, hl with | [_], _ => rfl) fun f fd F => SG.ok_signs F B Cg Wd
  have gNu : Cal l.prog w K mg base "is_number_below" 1 ["value", "limit"] spNum := g_is_number_below.cal X G (fun _ _ _ _ _ _ us hl => match us, hl with | [_, _], _ => rfl) fun f fd F => SG.ok_num F B
  have gSr : Cal l.prog w K mg base "is_state_row" 2 ["value", "signs", "many"] SG.spSrow := g_is_state_row.cal X G (fun _ _ _ _ _ _ us hl => match us, hl with | [_, _, _], _ => rfl) fun f fd F => SG.ok_srow F B gNu
  have gSa : Cal l.prog w K mg base "are_states" 2 ["value", "many"] SG.spSta := g_are_states.cal X G (fun _ _ _ _ _ _ us hl => match us, hl with | [_, _], _ => rfl) fun f fd F => SG.ok_sta F B gNu
  have gCk : Cal l.prog w K mg base "check_machine" 3 ["signs", "states", "member_states"] SG.spChk := g_check_machine.cal X G (fun _ _ _ _ _ _ us hl => match us, hl with | [_, _, _], _ => rfl) fun f fd F => SG.ok_chk F B Cg gSg gSr gSa
  have gRc : Cal l.prog w K mg base "reached" 1 ["signs", "rows"] SG.spRch := g_reached.cal X G (fun _ _ _ _ _ _ us hl => match us, hl with | [_, _], _ => rfl) fun f fd F => SG.ok_rch F B
  have gRf : Cal l.prog w K mg base "refined" 1 ["signs", "rows", "kinds"] SG.spRef := g_refined.cal X G (fun _ _ _ _ _ _ us hl => match us, hl with | [_, _, _], _ => rfl) fun f fd F => SG.ok_ref F B
  have gLk : Cal l.prog w K mg base "least_kinds" 2 ["signs", "rows", "kinds"] SG.spLek := g_least_kinds.cal X G (fun _ _ _ _ _ _ us hl => match us, hl with | [_, _, _], _ => rfl) fun f fd F => SG.ok_lek F B Cg gRf
  have gLm : Cal l.prog w K mg base "least_machine" 3 ["signs", "rows", "member_states"] SG.spLma := g_least_machine.cal X G (fun _ _ _ _ _ _ us hl => match us, hl with | [_, _, _], _ => rfl) fun f fd F => SG.ok_lma F B gRc gLk
  have gLs : Cal l.prog w K mg base "live_states" 1 ["table", "member_list"] SG.spLst := g_live_states.cal X G (fun _ _ _ _ _ _ us hl => match us, hl with | [_, _], _ => rfl) fun f fd F => SG.ok_lst F B
  have WdV : Cal l.prog w K mg base "is_word" 1 ["value"] spWordV := g_is_word.cal X G (fun _ _ _ _ _ _ us hl => match us, hl with | [_], _ => rfl) fun f fd F => ok_wordV (ok_word F B Cc)
  have SgO : Cal l.prog w K mg base "is_sign" 2 ["value"] spSgnO := g_is_sign.cal X G (fun _ _ _ _ _ _ us hl => match us, hl with | [_], _ => rfl) fun f fd F => ok_sgnO F B WdV
  have MkO : Cal l.prog w K mg base "is_mark" 2 ["value"] spMrkO := g_is_mark.cal X G (fun _ _ _ _ _ _ us hl => match us, hl with | [_], _ => rfl) fun f fd F => ok_mrkO F B Cc WdV
  obtain ⟨fI, fdI, eI, aI, iI, FI, em⟩ := iC.fun
  have I : RdK l.prog w K mg base C fI fdI eI := rdK_of FI ⟨clC.ma, aI, iI, clC.kc⟩ mC (ok_ini FI B T Pb) em
  obtain ⟨f6, fd6, F6, a6, i6, _⟩ := mL_init.fun
  obtain ⟨f7, fd7, F7, a7, i7, _⟩ := mL_eq.fun
  obtain ⟨f8, fd8, F8, a8, i8, _⟩ := mD_init.fun
  obtain ⟨fa1, fda1, Fa1, aa1, ia1, ka1⟩ := mD_parts.fun
  obtain ⟨fa3, fda3, Fa3, aa3, ia3, ka3⟩ := mD_language_of.fun
  obtain ⟨pEm, fEm, dEm, FEm, PEm⟩ := pL_is_empty.fun
  obtain ⟨fU, dU, FU, wU, tU⟩ := iU.fun
  obtain ⟨fN, dN, FN, wN, tN⟩ := iN.fun
  have oL := oddL.odd tyL
  have YL : SG.LTy K L := ⟨tyL.cls, tyL.getc, tyL.tak, tyL.mro, if_pos (beq_self_eq_true _), tyL.ne, tyL.sub⟩
  have Em : ∃ p f fd, FnOk l.prog w K mg base CX0 1 f fd ["self"] (spEmp L) ∧ PropOf K L "is_empty" p f ∧ Binds K fd ["self"] [] := ⟨pEm, fEm, _, ok_emp FEm TG, PEm, FEm.binds (fun _ _ _ _ _ _ us hl => match us, hl with | [_], _ => rfl)⟩
  have Ln' : LnE l.prog w K mg base L f7 fd7 := ⟨FnG.of (SG.ok_eqA F7 B TG YL oL), a7, i7, F7.binds (fun _ _ _ _ _ _ us hl => match us, hl with | [_, _], _ => rfl)⟩
  have TU : PpT K mg U Z := ⟨eU.ox, nU_problem, nU_place, PySem.W.mg_of X G aU, zZ⟩
  have IU : Ipp l.prog w K mg base U Z := ⟨TU, fU, _, wU, tU, ok_ipp FU TU, FU.binds (fun _ _ _ _ _ _ us hl => match us, hl with | [_, _, _], _ => rfl)⟩
  have TN : UnT K mg N := ⟨eN.ox, nN_name, PySem.W.mg_of X G aN, PySem.W.mg_none_of X G leN, vL⟩
  have IN' : Un l.prog w K mg base N := ⟨TN, fN, _, wN, tN, ok_unk FN TN, FN.binds (fun _ _ _ _ _ _ us hl => match us, hl with | [_, _], _ => rfl)⟩
  have Is : Cal l.prog w K mg base "is_slot" 1 ["part"] (spIsl (LanT L)) := g_is_slot.cal X G (fun _ _ _ _ _ _ us hl => match us, hl with | [_], _ => rfl) fun f fd F => ok_isl F
  have Mof : Cal l.prog w K mg base "marks_of" 1 ["part"] (spMof (LanT L)) := g_marks_of.cal X G (fun _ _ _ _ _ _ us hl => match us, hl with | [_], _ => rfl) fun f fd F => ok_mof F B
  have Pmv : Cal l.prog w K mg base "is_piece_move" 3 ["value"] spPmv := g_is_piece_move.cal X G (fun _ _ _ _ _ _ us hl => match us, hl with | [_], _ => rfl) fun f fd F => ok_pmv F B Sg Mk
  have Amv : Cal l.prog w K mg base "are_moves" 4 ["value"] spAmv := g_are_moves.cal X G (fun _ _ _ _ _ _ us hl => match us, hl with | [_], _ => rfl) fun f fd F => ok_amv F B Cm' Pmv
  have Amk : Cal l.prog w K mg base "are_marks" 3 ["value"] spAmk := g_are_marks.cal X G (fun _ _ _ _ _ _ us hl => match us, hl with | [_], _ => rfl) fun f fd F => ok_amk F B Cm' Mk
  have Prt : Cal l.prog w K mg base "is_part" 5 ["value"] (spPrt L) := g_is_part.cal X G (fun _ _ _ _ _ _ us hl => match us, hl with | [_], _ => rfl) fun f fd F => ok_prt F B TG YL Sg Mk Amv Amk
  have Fnp : Cal l.prog w K mg base "first_not_part" 6 ["parts"] (spFnp L) := g_first_not_part.cal X G (fun _ _ _ _ _ _ us hl => match us, hl with | [_], _ => rfl) fun f fd F => ok_fnp F B Prt
  have Fum : Cal l.prog w K mg base "first_unmarked" 2 ["parts"] (spFum L) := g_first_unmarked.cal X G (fun _ _ _ _ _ _ us hl => match us, hl with | [_], _ => rfl) fun f fd F => ok_fum F B Is Mof
  have Spr : Cal l.prog w K mg base "slot_problem" 3 ["parts"] (spSpr L) := g_slot_problem.cal X G (fun _ _ _ _ _ _ us hl => match us, hl with | [_], _ => rfl) fun f fd F => ok_spr F B TG Is Fum Em
  have Rqp : Cal l.prog w K mg base "require_parts" 7 ["parts"] (spRqp L) := g_require_parts.cal X G (fun _ _ _ _ _ _ us hl => match us, hl with | [_], _ => rfl) fun f fd F => ok_rqp F B Cm' Is Fnp Spr
  have PmvO : Cal l.prog w K mg base "is_piece_move" 3 ["value"] spPmvO := g_is_piece_move.cal X G (fun _ _ _ _ _ _ us hl => match us, hl with | [_], _ => rfl) fun f fd F => ok_pmvO F B SgO MkO
  have AmvO : Cal l.prog w K mg base "are_moves" 4 ["value"] spAmvO := g_are_moves.cal X G (fun _ _ _ _ _ _ us hl => match us, hl with | [_], _ => rfl) fun f fd F => ok_amvO F B Cm' PmvO
  have AmkO : Cal l.prog w K mg base "are_marks" 3 ["value"] spAmkO := g_are_marks.cal X G (fun _ _ _ _ _ _ us hl => match us, hl with | [_], _ => rfl) fun f fd F => ok_amkO F B Cm' MkO
  have PrtO : Cal l.prog w K mg base "is_part" 5 ["value"] (spPrtO L) := g_is_part.cal X G (fun _ _ _ _ _ _ us hl => match us, hl with | [_], _ => rfl) fun f fd F => ok_prtO F B TG YL oL SgO MkO AmvO AmkO
  have FnpX : Cal l.prog w K mg base "first_not_part" 6 ["parts"] (spFnpX L) := g_first_not_part.cal X G (fun _ _ _ _ _ _ us hl => match us, hl with | [_], _ => rfl) fun f fd F => ok_fnpX F B PrtO
  have FumX : Cal l.prog w K mg base "first_unmarked" 2 ["parts"] (spFumX L) := g_first_unmarked.cal X G (fun _ _ _ _ _ _ us hl => match us, hl with | [_], _ => rfl) fun f fd F => ok_fumX F B Is Mof
  have SprX : Cal l.prog w K mg base "slot_problem" 3 ["parts"] (spSprX L) := g_slot_problem.cal X G (fun _ _ _ _ _ _ us hl => match us, hl with | [_], _ => rfl) fun f fd F => ok_sprX F B TG Is FumX Em
  have RqX : CalC l.prog w K mg base "require_parts" 7 psPts (spRqpX L U) := by
    obtain ⟨f, fd, F, m, kp⟩ := g_require_parts.fun X G
    exact ⟨⟨f, fd, ok_rqpX F B IU Cm' Is FnpX SprX, m, kp, F.binds (fun _ _ _ _ _ _ us hl => match us, hl with | [_], _ => rfl)⟩⟩
  have ML : ∃ f fd, L2.Mk K L f ∧ FnOk l.prog w K mg base CX0 4 f fd SG.psI (SG.spInit L) ∧ Binds K fd SG.psI [] := ⟨f6, _, ⟨clL.ma, a6, i6, clL.kc⟩, SG.ok_init F6 TG gCk gLm gLs, F6.binds (fun _ _ _ _ _ _ us hl => match us, hl with | [_, _, _, _], _ => rfl)⟩
  have MT : ∃ f fd, L2.Mk K D f ∧ FnOk l.prog w K mg base CX0 8 f fd psTin (spTin L D) ∧ Binds K fd psTin [] := ⟨f8, _, ⟨clD.ma, a8, i8, clD.kc⟩, ok_tin F8 B TD Rqp, F8.binds (fun _ _ _ _ _ _ us hl => match us, hl with | [_, _, _], _ => rfl)⟩
  have MTX : ∃ f fd, L2.Mk K D f ∧ FnC l.prog w K mg base (L2.CX l.prog w) 8 f fd psTin (spTinX L U D) ∧ Binds K fd psTin [] := ⟨f8, _, ⟨clD.ma, a8, i8, clD.kc⟩, ok_tinX F8 B TD RqX, F8.binds (fun _ _ _ _ _ _ us hl => match us, hl with | [_, _, _], _ => rfl)⟩
  have PA : ∃ f fd, Meth K D "parts" f ∧ FnOk l.prog w K mg base CX0 1 f fd psTs (spTpa D) ∧ Binds K fd psTs [] := ⟨fa1, _, ⟨aa1, ia1, ka1⟩, ok_tpa Fa1 B TD, Fa1.binds (fun _ _ _ _ _ _ us hl => match us, hl with | [_], _ => rfl)⟩
  have LO : ∃ f fd, Meth K D "language_of" f ∧ FnOk l.prog w K mg base CX0 2 f fd psTlo (spTlo L D) ∧ Binds K fd psTlo [] := ⟨fa3, _, ⟨aa3, ia3, ka3⟩, ok_tlo Fa3 TD Is, Fa3.binds (fun _ _ _ _ _ _ us hl => match us, hl with | [_, _], _ => rfl)⟩
  have LOX : ∃ f fd, Meth K D "language_of" f ∧ FnC l.prog w K mg base (L2.CX l.prog w) 3 f fd psTlo (spTloX L D N) ∧ Binds K fd psTlo [] := ⟨fa3, _, ⟨aa3, ia3, ka3⟩, ok_tloX Fa3 TD IN' Is, Fa3.binds (fun _ _ _ _ _ _ us hl => match us, hl with | [_, _], _ => rfl)⟩
  have E42 : Ex42 K mg U Z IT IR IW D := ⟨PySem.W.mg_of X G aU, PySem.W.mg_of X G aZ, PySem.W.mg_of X G aIT, PySem.W.mg_of X G aIR, PySem.W.mg_of X G aIW, PySem.W.mg_of X G aD, PySem.W.mg_none_of X G veN, PySem.W.mg_none_of X G leN, PySem.W.mg_none_of X G reN, eU.exm eU.own, eU.exc, eU.xf, nU_problem, nU_place, x42.uz, x42.uv, x42.ul⟩
  have ENN : ExN K mg N NK Z := ⟨PySem.W.mg_of X G aN, PySem.W.mg_of X G aNK, eN.exm eN.own, eN.exc, eN.xf, nN_name, x42.nl, x42.nz⟩
  have Rn : Cal l.prog w K mg base "_law_rng" 1 ["_law_script", "_law_k"] (spRng K) := g__law_rng.cal X G (fun _ _ _ _ _ _ us hl => match us, hl with | [_, _], _ => rfl) fun f fd F => ok_rng (ok_rng1 F B) rfl
  have Dr : Cal l.prog w K mg base "_law_draw" 1 ["_law_rng_here", "_law_many"] spDraw := g__law_draw.cal X G (fun _ _ _ _ _ _ us hl => match us, hl with | [_, _], _ => rfl) fun f fd F => ok_draw (ok_draw1 F B) rfl
  have Ch : Cal l.prog w K mg base "_law_choice" 2 ["_law_rng_here", "_law_some"] (spChoice K) := g__law_choice.cal X G (fun _ _ _ _ _ _ us hl => match us, hl with | [_, _], _ => rfl) fun f fd F => ok_choice F B Dr
  have Lg : Cal l.prog w K mg base "_law_language" 6 ["_law_many"] (spLlg L) := g__law_language.cal X G (fun _ _ _ _ _ _ us hl => match us, hl with | [_], _ => rfl) fun f fd F => ok_llg F B TG ML
  have Od : Cal l.prog w K mg base "_law_odd" 7 ["_law_rng_here"] (spLod L) := g__law_odd.cal X G (fun _ _ _ _ _ _ us hl => match us, hl with | [_], _ => rfl) fun f fd F => ok_lod F Lg Ch
  have El : Cal l.prog w K mg base "_law_element" 8 ["_law_rng_here", "_law_odds"] (spLel L) := g__law_element.cal X G (fun _ _ _ _ _ _ us hl => match us, hl with | [_, _], _ => rfl) fun f fd F => ok_lel F B Lg Ch Dr Od
  have Du : Cal l.prog w K mg base "_law_due" 1 ["_law_some"] (spLdu L) := g__law_due.cal X G (fun _ _ _ _ _ _ us hl => match us, hl with | [_], _ => rfl) fun f fd F => ok_ldu F B
  have Td : CalG l.prog w K mg base "_law_told" 10 ["_law_told_here", "_law_value"] (spLtd C L) := g__law_told.calG X G (fun _ _ _ _ _ _ us hl => match us, hl with | [_, _], _ => rfl) fun f fd F => FnC.toG (ok_ltd F B E42 TD MTX PA)
  have Ku : CalG l.prog w K mg base "_law_unknown" 5 ["_law_made", "_law_value"] (spUlu L D) := g__law_unknown.calG X G (fun _ _ _ _ _ _ us hl => match us, hl with | [_, _], _ => rfl) fun f fd F => FnC.toG (ok_ulu F B E42 ENN TD LOX)
  have Ri : CalG l.prog w K mg base "_law_right" 13 ["_law_rng_here"] spRg2 := g__law_right.calG X G (fun _ _ _ _ _ _ us hl => match us, hl with | [_], _ => rfl) fun f fd F => ok_rg2 (C := C) F B ⟨Dr, Ch, Lg, El, Du, Td, Ku, I, TD, Ln', MT, LO⟩
  exact ok_law FL B Rn Ri
theorem walk {l : PySem.W.OpenLaw} {q : Program} {loose : List Str} {XP : (Str → Option Value) → Heap → Prop} {YP : World → Heap → Prop} {d : DefRec} {K : Params → PySem.W.Frag} (hn : l.most = some 63) (hdf : d.params.defaults = [])
    (hY : ∀ (w : World) (h : Heap), YP w h → (K w.params).In h)
    (F : ∀ (w : World) (mg : Str → Option Value) (fa : Addr) (h : Heap), (K w.params).In h → h.Ns mainGlobals mg → mg d.name = some (.ref fa) →
      ∃ fd : FuncData, (∀ (s : Shared) (u : Value), BindsTo s fd ⟨[u], []⟩ [("_law_script", u)]) ∧ ∀ base : Heap, (K w.params).In base → base.Ns mainGlobals mg → FnG l.prog w (K w.params) mg base 14 fa fd ["_law_script"] (spLaw (K w.params))) :
    PySem.W.WalkO q loose XP YP l.row.toRowW d [] (fun f vs => PySem.call f vs) :=
  SR.walk_ofG (n := 63) (k := 14) (x := "_law_script") (sp := fun w => spLaw (K w.params)) hn (by decide) hdf ⟨rfl, by decide, by decide⟩ hY F fun _ _ a ns hl hS => ⟨a, ns, rfl, hS, hl, fun _ => rfl⟩
end SS
set_option maxRecDepth 100000
set_option maxHeartbeats 0
namespace SS
open PySem L2 SR TL
theorem zFacts {l : PySem.W.OpenLaw} {w : World} {K : PySem.W.Frag} {h : Heap} {mg : Str → Option Value} {fa : Addr} (X : K.In h) (G : h.Ns mainGlobals mg) (hfa : mg "law" = some (.ref fa)) (c : Hz.SaysZ zFs zFn K) :
    ∃ fd : FuncData, (∀ (s : Shared) (v : Value), BindsTo s fd ⟨[v], []⟩ [("_law_script", v)]) ∧ ∀ base : Heap, K.In base → base.Ns mainGlobals mg → FnG l.prog w K mg base 14 fa fd ["_law_script"] (spLaw K) :=
  all_mk (l := l) (w := w) (h := h) (mg := mg) (fa := fa) (C := He.ga K "Reader") (L := He.ga K "Language") (D := He.ga K "Template") (U := He.ga K "InvalidTemplate") (Z := He.ga K "SlotsError") (IT := He.ga K "InvalidTexts") (IR := He.ga K "InvalidReader") (IW := He.ga K "InvalidWord") (N := He.ga K "UnknownSlot") (NK := He.ga K "UnknownName") X G hfa
    -- aC
    (glo_z (c.fact 0 (f := bGlo "Reader") rfl))
    -- aL
    (glo_z (c.fact 1 (f := bGlo "Language") rfl))
    -- aD
    (glo_z (c.fact 2 (f := bGlo "Template") rfl))
    -- aU
    (glo_z (c.fact 3 (f := bGlo "InvalidTemplate") rfl))
    -- aZ
    (glo_z (c.fact 4 (f := bGlo "SlotsError") rfl))
    -- aIT
    (glo_z (c.fact 5 (f := bGlo "InvalidTexts") rfl))
    -- aIR
    (glo_z (c.fact 6 (f := bGlo "InvalidReader") rfl))
    -- aIW
    (glo_z (c.fact 7 (f := bGlo "InvalidWord") rfl))
    -- aN
    (glo_z (c.fact 8 (f := bGlo "UnknownSlot") rfl))
    -- aNK
    (glo_z (c.fact 9 (f := bGlo "UnknownName") rfl))
    -- clC
    (cl_z (c.fact 10 (f := bCL "Reader") rfl))
    -- no
    (no_z (c.fact 11 (f := bNo "Reader" "rows") rfl))
    -- no
    (no_z (c.fact 12 (f := bNo "Reader" "end_list") rfl))
    -- no
    (no_z (c.fact 13 (f := bNo "Reader" "own_start") rfl))
    -- rd
    (rd_z (c.fact 14 (f := bRd "Reader") rfl))
    -- ga
    (ga_z (c.fact 15 (f := bGa "Reader") rfl))
    -- v
    (cv_z (c.fact 16 (f := bCV "Reader" "MAX_STATES" (.int 12)) rfl))
    -- clL
    (cl_z (c.fact 17 (f := bCL "Language") rfl))
    -- no
    (no_z (c.fact 18 (f := bNo "Language" "own_signs") rfl))
    -- no
    (no_z (c.fact 19 (f := bNo "Language" "goals") rfl))
    -- no
    (no_z (c.fact 20 (f := bNo "Language" "member_list") rfl))
    -- no
    (no_z (c.fact 21 (f := bNo "Language" "live_list") rfl))
    -- ty
    (ty_z (c.fact 22 (f := bTY "Language") rfl))
    -- m
    (me_z (qual := "Language.__init__") (st := SG.sInit) (c.fact 23 (f := bMe "Language" "__init__") rfl) (c.def_ 0 (d := dM "Language" "__init__" "Language.__init__" SG.sInit) rfl))
    -- m
    (me_z (qual := "Language.__eq__") (st := SG.sEql) (c.fact 24 (f := bMe "Language" "__eq__") rfl) (c.def_ 1 (d := dM "Language" "__eq__" "Language.__eq__" SG.sEql) rfl))
    -- p
    (pr_z (qual := "Language.is_empty") (st := sEmp) (c.fact 25 (f := bPr "Language" "is_empty") rfl) (c.def_ 2 (d := dP "Language" "is_empty" "Language.is_empty" sEmp) rfl))
    -- clD
    (cl_z (c.fact 26 (f := bCL "Template") rfl))
    -- no
    (no_z (c.fact 27 (f := bNo "Template" "own_reader") rfl))
    -- no
    (no_z (c.fact 28 (f := bNo "Template" "part_list") rfl))
    -- m
    (me_z (qual := "Template.__init__") (st := sTin) (c.fact 29 (f := bMe "Template" "__init__") rfl) (c.def_ 3 (d := dM "Template" "__init__" "Template.__init__" sTin) rfl))
    -- m
    (me_z (qual := "Template.parts") (st := sTpa) (c.fact 30 (f := bMe "Template" "parts") rfl) (c.def_ 4 (d := dM "Template" "parts" "Template.parts" sTpa) rfl))
    -- m
    (me_z (qual := "Template.language_of") (st := sTlo) (c.fact 31 (f := bMe "Template" "language_of") rfl) (c.def_ 5 (d := dM "Template" "language_of" "Template.language_of" sTlo) rfl))
    -- no
    (no_z (c.fact 32 (f := bNo "InvalidTemplate" "problem") rfl))
    -- no
    (no_z (c.fact 33 (f := bNo "InvalidTemplate" "place") rfl))
    -- rd
    (rd_z (c.fact 34 (f := bRd "SlotsError") rfl))
    -- ga
    (ga_z (c.fact 35 (f := bGa "SlotsError") rfl))
    -- no
    (no_z (c.fact 36 (f := bNo "UnknownSlot" "name") rfl))
    -- iC
    (mdk_z (qual := "Reader.__init__") (st := sIni) (c.fact 37 (f := bMe "Reader" "__init__") rfl) (c.fact 38 (f := bTup (dfl0 fun K => He.ma K (He.ga K "Reader") "__init__")) rfl) (c.def_ 6 (d := dD "Reader" "__init__" "Reader.__init__" sIni [("start", .int 0)]) rfl))
    -- oddL
    (od_z (c.fact 39 (f := bOD "Language") rfl))
    -- veN
    (free_z (c.fact 40 (f := bFree "ValueError") rfl))
    -- leN
    (free_z (c.fact 41 (f := bFree "LookupError") rfl))
    -- reN
    (free_z (c.fact 42 (f := bFree "RuntimeError") rfl))
    -- vZ
    (fc_z (c.fact 43 (f := bFC "SlotsError" "__init__" (.builtin "ValueError.__init__")) rfl))
    -- vL
    (ft_z (c.fact 44 (f := bFT "LookupError" "__init__" (.builtin "LookupError.__init__")) rfl))
    -- eU
    (ey_z (c.fact 45 (f := bEX "InvalidTemplate" tlV "ValueError.__new__") rfl))
    -- iU
    (mi_z (qual := "InvalidTemplate.__init__") (st := sIpp) (c.fact 46 (f := bMI "InvalidTemplate" "__init__") rfl) (c.def_ 7 (d := dM "InvalidTemplate" "__init__" "InvalidTemplate.__init__" sIpp) rfl))
    -- eN
    (ey_z (c.fact 47 (f := bEX "UnknownSlot" tlL "LookupError.__new__") rfl))
    -- iN
    (mi_z (qual := "UnknownSlot.__init__") (st := sUnk) (c.fact 48 (f := bMI "UnknownSlot" "__init__") rfl) (c.def_ 8 (d := dM "UnknownSlot" "__init__" "UnknownSlot.__init__" sUnk) rfl))
    -- x42
    (x42_z (c.fact 49 (f := bX42) rfl))
    -- fr
    (fr_z (c.fact 50 (f := bFR) rfl))
    -- g_is_word
    (gf_z (st := sWord) (c.fact 51 (f := bGlo "is_word") rfl) (c.def_ 9 (d := dG "is_word" sWord) rfl))
    -- g_is_sign
    (gf_z (st := sSign) (c.fact 52 (f := bGlo "is_sign") rfl) (c.def_ 10 (d := dG "is_sign" sSign) rfl))
    -- g_is_mark
    (gf_z (st := sMark) (c.fact 53 (f := bGlo "is_mark") rfl) (c.def_ 11 (d := dG "is_mark" sMark) rfl))
    -- g_is_name
    (gf_z (st := sName) (c.fact 54 (f := bGlo "is_name") rfl) (c.def_ 12 (d := dG "is_name" sName) rfl))
    -- g_is_below
    (gf_z (st := sNum) (c.fact 55 (f := bGlo "is_below") rfl) (c.def_ 13 (d := dG "is_below" sNum) rfl))
    -- g_are_different
    (gf_z (st := sSta) (c.fact 56 (f := bGlo "are_different") rfl) (c.def_ 14 (d := dG "are_different" sSta) rfl))
    -- g_is_move
    (gf_z (st := sMove) (c.fact 57 (f := bGlo "is_move") rfl) (c.def_ 15 (d := dG "is_move" sMove) rfl))
    -- g_is_state_dict
    (gf_z (st := sSdi) (c.fact 58 (f := bGlo "is_state_dict") rfl) (c.def_ 16 (d := dG "is_state_dict" sSdi) rfl))
    -- g_told_in
    (gf_z (st := sTol) (c.fact 59 (f := bGlo "told_in") rfl) (c.def_ 17 (d := dG "told_in" sTol) rfl))
    -- g_signs_in
    (gf_z (st := sSgi) (c.fact 60 (f := bGlo "signs_in") rfl) (c.def_ 18 (d := dG "signs_in" sSgi) rfl))
    -- g_reader_problem
    (gf_z (st := sPrb) (c.fact 61 (f := bGlo "reader_problem") rfl) (c.def_ 19 (d := dG "reader_problem" sPrb) rfl))
    -- g_is_piece_move
    (gf_z (st := sPmv) (c.fact 62 (f := bGlo "is_piece_move") rfl) (c.def_ 20 (d := dG "is_piece_move" sPmv) rfl))
    -- g_are_moves
    (gf_z (st := sAmv) (c.fact 63 (f := bGlo "are_moves") rfl) (c.def_ 21 (d := dG "are_moves" sAmv) rfl))
    -- g_are_marks
    (gf_z (st := sAmk) (c.fact 64 (f := bGlo "are_marks") rfl) (c.def_ 22 (d := dG "are_marks" sAmk) rfl))
    -- g_is_part
    (gf_z (st := sPrt) (c.fact 65 (f := bGlo "is_part") rfl) (c.def_ 23 (d := dG "is_part" sPrt) rfl))
    -- g_is_slot
    (gf_z (st := sIsl) (c.fact 66 (f := bGlo "is_slot") rfl) (c.def_ 24 (d := dG "is_slot" sIsl) rfl))
    -- g_marks_of
    (gf_z (st := sMof) (c.fact 67 (f := bGlo "marks_of") rfl) (c.def_ 25 (d := dG "marks_of" sMof) rfl))
    -- g_first_not_part
    (gf_z (st := sFnp) (c.fact 68 (f := bGlo "first_not_part") rfl) (c.def_ 26 (d := dG "first_not_part" sFnp) rfl))
    -- g_first_unmarked
    (gf_z (st := sFum) (c.fact 69 (f := bGlo "first_unmarked") rfl) (c.def_ 27 (d := dG "first_unmarked" sFum) rfl))
    -- g_slot_problem
    (gf_z (st := sSpr) (c.fact 70 (f := bGlo "slot_problem") rfl) (c.def_ 28 (d := dG "slot_problem" sSpr) rfl))
    -- g_require_parts
    (gf_z (st := sRqp) (c.fact 71 (f := bGlo "require_parts") rfl) (c.def_ 29 (d := dG "require_parts" sRqp) rfl))
    -- g_are_signs
    (gf_z (st := SG.sSigns) (c.fact 72 (f := bGlo "are_signs") rfl) (c.def_ 30 (d := dG "are_signs" SG.sSigns) rfl))
    -- g_is_number_below
    (gf_z (st := SG.sNum) (c.fact 73 (f := bGlo "is_number_below") rfl) (c.def_ 31 (d := dG "is_number_below" SG.sNum) rfl))
    -- g_is_state_row
    (gf_z (st := SG.sSrow) (c.fact 74 (f := bGlo "is_state_row") rfl) (c.def_ 32 (d := dG "is_state_row" SG.sSrow) rfl))
    -- g_are_states
    (gf_z (st := SG.sSta) (c.fact 75 (f := bGlo "are_states") rfl) (c.def_ 33 (d := dG "are_states" SG.sSta) rfl))
    -- g_check_machine
    (gf_z (st := SG.sChk) (c.fact 76 (f := bGlo "check_machine") rfl) (c.def_ 34 (d := dG "check_machine" SG.sChk) rfl))
    -- g_reached
    (gf_z (st := SG.sRch) (c.fact 77 (f := bGlo "reached") rfl) (c.def_ 35 (d := dG "reached" SG.sRch) rfl))
    -- g_refined
    (gf_z (st := SG.sRef) (c.fact 78 (f := bGlo "refined") rfl) (c.def_ 36 (d := dG "refined" SG.sRef) rfl))
    -- g_least_kinds
    (gf_z (st := SG.sLek) (c.fact 79 (f := bGlo "least_kinds") rfl) (c.def_ 37 (d := dG "least_kinds" SG.sLek) rfl))
    -- g_least_machine
    (gf_z (st := SG.sLma) (c.fact 80 (f := bGlo "least_machine") rfl) (c.def_ 38 (d := dG "least_machine" SG.sLma) rfl))
    -- g_live_states
    (gf_z (st := SG.sLst) (c.fact 81 (f := bGlo "live_states") rfl) (c.def_ 39 (d := dG "live_states" SG.sLst) rfl))
    -- g__law_rng
    (gf_z (st := sRng) (c.fact 82 (f := bGlo "_law_rng") rfl) (c.def_ 40 (d := dG "_law_rng" sRng) rfl))
    -- g__law_draw
    (gf_z (st := sDraw) (c.fact 83 (f := bGlo "_law_draw") rfl) (c.def_ 41 (d := dG "_law_draw" sDraw) rfl))
    -- g__law_choice
    (gf_z (st := sChoice) (c.fact 84 (f := bGlo "_law_choice") rfl) (c.def_ 42 (d := dG "_law_choice" sChoice) rfl))
    -- g__law_language
    (gf_z (st := sLlg) (c.fact 85 (f := bGlo "_law_language") rfl) (c.def_ 43 (d := dG "_law_language" sLlg) rfl))
    -- g__law_odd
    (gf_z (st := sLod) (c.fact 86 (f := bGlo "_law_odd") rfl) (c.def_ 44 (d := dG "_law_odd" sLod) rfl))
    -- g__law_element
    (gf_z (st := sLel) (c.fact 87 (f := bGlo "_law_element") rfl) (c.def_ 45 (d := dG "_law_element" sLel) rfl))
    -- g__law_due
    (gf_z (st := sLdu) (c.fact 88 (f := bGlo "_law_due") rfl) (c.def_ 46 (d := dG "_law_due" sLdu) rfl))
    -- g__law_told
    (gf_z (st := sLtd) (c.fact 89 (f := bGlo "_law_told") rfl) (c.def_ 47 (d := dG "_law_told" sLtd) rfl))
    -- g__law_unknown
    (gf_z (st := sUlu) (c.fact 90 (f := bGlo "_law_unknown") rfl) (c.def_ 48 (d := dG "_law_unknown" sUlu) rfl))
    -- g__law_right
    (gf_z (st := sRg2) (c.fact 91 (f := bGlo "_law_right") rfl) (c.def_ 49 (d := dG "_law_right" sRg2) rfl))
    -- g_law
    (gf_z (st := sLaw) (c.fact 92 (f := bGlo "law") rfl) (c.def_ 50 (d := dG "law" sLaw) rfl))
    -- c_LETTERS
    (cs_z (c.fact 93 (f := bCS "LETTERS" (.str (Str.ofString "abcdefghijklmnopqrstuvwxyz"))) rfl))
    -- c_LONGEST_NAME
    (cs_z (c.fact 94 (f := bCS "LONGEST_NAME" (.int 8)) rfl))
    -- c_MOST_PAGE_SIGNS
    (cs_z (c.fact 95 (f := bCS "MOST_PAGE_SIGNS" (.int 6)) rfl))
    -- c_MOST_TEXT_SIGNS
    (cs_z (c.fact 96 (f := bCS "MOST_TEXT_SIGNS" (.int 4)) rfl))
    -- c_MOST_MARKS_readers
    (cs_z (c.fact 97 (f := bCS "MOST_MARKS_readers" (.int 6)) rfl))
    -- c_MOST_SIGNS
    (cs_z (c.fact 98 (f := bCS "MOST_SIGNS" (.int 4)) rfl))
    -- c_MOST_GIVEN_STATES
    (cs_z (c.fact 99 (f := bCS "MOST_GIVEN_STATES" (.int 40)) rfl))
    -- c_MOST_STATES
    (cs_z (c.fact 100 (f := bCS "MOST_STATES" (.int 6)) rfl))
    -- c_MOST_PARTS
    (cs_z (c.fact 101 (f := bCS "MOST_PARTS" (.int 12)) rfl))
    -- c_MOST_SLOTS
    (cs_z (c.fact 102 (f := bCS "MOST_SLOTS" (.int 4)) rfl))
    -- c_MOST_MOVES
    (cs_z (c.fact 103 (f := bCS "MOST_MOVES" (.int 12)) rfl))
    -- c_MOST_MARKS_templates
    (cs_z (c.fact 104 (f := bCS "MOST_MARKS_templates" (.int 6)) rfl))
end SS
open PySem PySem.W PySem.Calls PyProof.Rows
theorem PySem.Challenge.cw_sealedslots_k42_templates_refused_holds : PySem.Challenge.rw_sealedslots_k42_templates_refused.Holds := by
  w_on; o_law
  refine HandSHeadRun.head_any (r := OpenLaw.row PySem.Challenge.rw_sealedslots_k42_templates_refused) (q := view (OpenLaw.row PySem.Challenge.rw_sealedslots_k42_templates_refused).prog [77]) (H := Hz.hookZ SS.zFs SS.zFn) (ob := Hz.obZ SS.zFs SS.zFn) (M := 20000) (loose := SS.zNames) (d := HandSHeadRun.topDef (OpenLaw.row PySem.Challenge.rw_sealedslots_k42_templates_refused).prog 77) (kwd := []) Hz.obZ_eq
    (by kernel_rfl) (fun s => by kernel_rfl) SS.zRun (by kernel_rfl) (by kernel_rfl) (by kernel_rfl) (by rfl) (by first | assumption | decide +kernel) (by decide +kernel) ⟨rfl, rfl, rfl, rfl, rfl, by decide +kernel⟩ ?hw ?hc
  case hw => w_witness2
  case hc =>
    refine SS.walk_ofZ (l := PySem.Challenge.rw_sealedslots_k42_templates_refused) (n := 63) (k := 14) (x := "_law_script") rfl (by decide) (by kernel_rfl) ⟨rfl, by decide, by decide⟩ ?F
    intro w mg fa h Y G hmg0
    obtain ⟨K, KX, c⟩ := Y
    have hmg : mg ("law" : PySem.Str) = some (.ref fa) := by
      have e : (HandSHeadRun.topDef (OpenLaw.row PySem.Challenge.rw_sealedslots_k42_templates_refused).prog 77).name = ("law" : PySem.Str) := by kernel_rfl
      rw [← e]
      exact hmg0
    obtain ⟨fd, hb, hF⟩ := SS.zFacts (l := PySem.Challenge.rw_sealedslots_k42_templates_refused) (w := w) KX G hmg c
    exact ⟨K, fd, SS.spLaw K, KX, hb, fun H a ns hl hS => ⟨a, ns, rfl, hS, hl, fun _ => rfl⟩, hF⟩
