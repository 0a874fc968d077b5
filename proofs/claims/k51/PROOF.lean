import PyProof.Rows.All
import HandS.HeadHook2
import HandS.EndBits
import HandS.ExcField
import HandS.ExcInit
import HandS.ExcValue
import KE.KExcSuper
import KE.KExcIs
import KE.KExcMake
import HandS.Words
import HandS.ForMost
import KE.KStateDown
import HandS.Head0
import HandS.Head1
import HandS.Head2
import Wide.All
import OpenK.AllK
import Wide.FinOn
import HandS.ForExc
import HandS.Wide
import KE.DataEq
import KE.DataCmp
import HandS.Flow
import HandS.IsInst
import HandS.Text
import PyProof.StrBlock2
import HandS.Replace
import HandS.StrMore
import HandS.RevTup
import HandS.Rev
import HandS.Dict
import HandS.WordsDict
import HandS.Codes
import PySem.Challenge.RW_storelife_k51_values_codes_and_pads
set_option Elab.async false
set_option linter.all false
set_option maxRecDepth 100000
set_option maxHeartbeats 0
/-! PM: the data of a text, the Bool that holds behind the top: definitions. -/
namespace PM
open PySem PySem.Spec PyProof.Rows L2 He
def oexB (K : PySem.W.Frag) (C : Addr) : Bool := match K.lookup C with
  | some ⟨.type t, _, .cls cd, sl⟩ => decide (t = "type") && (match cd.mro, sl.toList with
    | .ref C' :: bm, [_, _, _, _, some (.builtin n), _] => decide (C' = C) && (decide (n = "ValueError.__new__") && (!cd.hasDel && (cd.hasDict && PySem.HandSPX.refsVE bm)))
    | _, _ => false)
  | _ => false
def excB (K : PySem.W.Frag) (C : Addr) : Bool := oexB K C && (eqO (PySem.W.findIn K (.ref C) "__setattr__") (some (some (.builtin "object.__setattr__"))) && (decide (PySem.W.typeIn K (.ref C) = some (.type "type")) && (PySem.W.keepIn K (.ref C) && (xfB K C &&
  ((PySem.W.clsIn K C).isSome && (eqO (PySem.W.findIn K (.ref C) "__class__") (some (some (.builtin "object.__class__"))) && (decide (PySem.W.specialIn K (.builtin "object.__class__") "__get__" = some (some (.builtin "getset_descriptor.__get__"))) &&
  (decide (PySem.W.takesIn K (.builtin "object.__class__") = some true) && (decide (PySem.W.mroIn K C (.type "object") = some true) && decide (PySem.W.subIn K (.ref C) (.type "ValueError") = some true))))))))))
structure PD where
  at_ : Str × Option Str
  name : Str
  qual : Str
  st : Stmt
  clo : List Str
abbrev FnS : Type := Option (Str × Str × Arguments × FuncBody × Scope × Addr × List Str × Addr)
def fnS (K : PySem.W.Frag) (p : Str × Option Str) : FnS := match K.lookup (fAd K p) with
  | some ⟨_, _, .func fd, _⟩ => some (fd.name, fd.qualname, fd.params, fd.body, fd.scope, fd.globals, fd.closure.map (·.1), fd.builtins)
  | _ => none
def PD.val (d : PD) : FnS := some (d.name, d.qual, defArgs d.st, .stmts (defBody d.st), defScope d.st, mainGlobals, d.clo, builtinsNs)
def noneV : Value → Bool
  | .none => true
  | _ => false
/-- the cell holds the class of the name x, the code object names the file -/
def cellB (K : PySem.W.Frag) (file : Str) (D : Addr) (fd : FuncData) : Bool := match fd.closure, fd.code with
  | [(_, cc)], .ref cda => (match K.lookup cc with
    | some ⟨_, _, .cell (some (.ref D')), _⟩ => decide (D' = D)
    | _ => false) && (match K.lookup cda with
    | some ⟨_, _, .fields vs, _⟩ => (match (vs[2]? : Option Value) with
      | some (Value.str f _) => file == f
      | _ => false)
    | _ => false)
  | _, _ => false
def PD.ok (K : PySem.W.Frag) (file : Str) (d : PD) : Bool := PySem.W.keepIn K (.ref (fAd K d.at_)) && (PySem.W.isFn K (.ref (fAd K d.at_)) && (match K.lookup (fAd K d.at_) with
  | some ⟨_, _, .func fd, _⟩ => PySem.W.codeIn K fd.code d.qual && (noneV fd.defaults && (d.clo.isEmpty || cellB K file (ga K d.at_.1) fd))
  | _ => false))
structure Dat where
  file : Str
  fns : List PD
  exs : List Str
  inits : List Str
  plainEx : List Str
  pI : List (Str × Int)
  pS : List (Str × Str)
  pF : List Str
  pA : List (Str × Str)
  isC : List Str
  isD : List Str
  sub : Str → Str → Bool
def noList (K : PySem.W.Frag) : Bool := K.all fun p => match p.2.cls with
  | .type t => !(t == "list")
  | _ => true
def initB (K : PySem.W.Frag) (C : Addr) : Bool := decide (PySem.W.ks_superIn K C C "__init__" = some (some (.builtin "ValueError.__init__"))) && (decide (PySem.W.mroIn K C (.ref C) = some true) && eqO (PySem.W.findIn K (.ref C) "__init__") (some (some (.ref (ma K C "__init__")))))
def Dat.chk (D : Dat) (K : PySem.W.Frag) : Bool :=
  (D.fns.all fun d => d.ok K D.file) && ((D.exs.all fun x => eqO (PySem.W.nsIn K mainGlobals x) (some (some (.ref (ga K x)))) && excB K (ga K x)) && ((D.inits.all fun x => initB K (ga K x)) && ((D.plainEx.all fun x => eqO (PySem.W.findIn K (.ref (ga K x)) "__init__") (some (some (.builtin "ValueError.__init__")))) &&
  ((D.pI.all fun q => (Fa.int q.1 q.2).ok K) && ((D.pS.all fun q => (Fa.str q.1 q.2).ok K) && ((D.pF.all fun x => eqO (PySem.W.nsIn K mainGlobals x) (some none)) && ((D.pA.all fun q => eqO (PySem.W.findIn K (.ref (ga K q.1)) q.2) (some none)) &&
  ((D.isC.all fun c => decide (PySem.W.kitOne K (.ref (ga K c)) (.type "ValueError") = some true) && D.isD.all fun d => decide (PySem.W.kitOne K (.ref (ga K c)) (.ref (ga K d)) = some (D.sub c d))) && (eqO (PySem.W.nsIn K cStatics "thirdparty.any") (some none) &&
  ((D.fns.all fun d => eqO (PySem.W.nsIn K mainGlobals d.at_.1) (some (some (.ref (ga K d.at_.1))))) && noList K))))))))))
abbrev AlE : Type := Bool × List FnS
def refsE (o : Obj) : List Addr := match o.data with
  | .dict es _ => es.toList.flatMap fun e => refV e.val
  | .func fd => refV fd.code ++ fd.closure.map (·.2)
  | .cls cd => [cd.ns]
  | _ => []
def nextE (g : Addr → Option Obj) (as : List Addr) : List Addr := as.flatMap fun a => match g a with
  | some o => refsE o
  | none => []
def asE (g : Addr → Option Obj) : List Addr :=
  let l0 := [mainGlobals, cStatics]
  let l1 := nextE g [mainGlobals]
  let l2 := nextE g l1
  let l3 := nextE g l2
  let l4 := nextE g l3
  l0 ++ (l1 ++ (l2 ++ (l3 ++ l4)))
def obsK (D : Dat) (K : PySem.W.Frag) : AlE := (D.chk K, D.fns.map fun d => fnS K d.at_)
def valE (D : Dat) : AlE := (true, D.fns.map PD.val)
def obsE (D : Dat) (g : Addr → Option Obj) : AlE := obsK D (frG g (asE g))
def hookE (D : Dat) : PySem.W.Hook where
  α := AlE
  obs := fun s => obsE D s.heap.get?
  val := fun _ => valE D
  says := fun _ h => ∃ K : PySem.W.Frag, K.In h ∧ obsK D K = valE D
  of := fun _ _ e => ⟨_, frG_in, e⟩
  keeps := fun _ _ _ ⟨K, hK, c⟩ k => ⟨K, PySem.W.Frag.In.keeps hK k, c⟩
end PM

namespace L51
open PySem PySem.Spec PyProof.Rows L2 He PM
def top (i : Nat) : Stmt := PySem.Challenge.pw_storelife_k51_values_codes_and_pads.main.body.getD i (.Pass ⟨0, 0, 0, 0⟩)
abbrev P0 : Program := (PySem.Challenge.rw_storelife_k51_values_codes_and_pads).prog
abbrev s_is_text : Stmt := top 6
abbrev s_is_value : Stmt := top 7
abbrev s_is_name : Stmt := top 8
abbrev s_size_of : Stmt := top 12
abbrev s_first_code : Stmt := top 13
abbrev s_code_of : Stmt := top 14
abbrev s_text_of : Stmt := top 15
abbrev s_value_of : Stmt := top 16
abbrev s_sealed : Stmt := top 17
abbrev s_opened : Stmt := top 18
abbrev s_other_pad : Stmt := top 19
abbrev s__law_size : Stmt := top 62
abbrev s__law_mixed : Stmt := top 63
abbrev s__law_rest : Stmt := top 64
abbrev s__law_draw : Stmt := top 65
abbrev s__law_same : Stmt := top 66
abbrev s__law_text : Stmt := top 67
abbrev s__law_pick : Stmt := top 68
abbrev s__law_value : Stmt := top 69
abbrev s__law_alphabet : Stmt := top 70
abbrev s__law_code : Stmt := top 71
abbrev s__law_pool : Stmt := top 72
abbrev s__law_next : Stmt := top 73
abbrev s__law_drawn_code : Stmt := top 74
abbrev s__law_codes_right : Stmt := top 75
abbrev s__law_cells_right : Stmt := top 76
abbrev s__law_near : Stmt := top 77
abbrev s__law_due_value : Stmt := top 78
abbrev s__law_names_right : Stmt := top 79
abbrev s__law_kinds : Stmt := top 80
abbrev s__law_errors_right : Stmt := top 81
abbrev s_law : Stmt := top 82
abbrev i_BadFile : Stmt := inClass (top 23) 0
abbrev i_NoTable : Stmt := inClass (top 24) 0
abbrev i_NoColumn : Stmt := inClass (top 25) 0
abbrev i_NameTaken : Stmt := inClass (top 26) 0
abbrev i_WrongKind : Stmt := inClass (top 27) 0
abbrev i_WrongMark : Stmt := inClass (top 28) 0
abbrev i_WrongValue : Stmt := inClass (top 29) 0
abbrev i_NoVersion : Stmt := inClass (top 30) 0
abbrev i_Hidden : Stmt := inClass (top 31) 0
abbrev i_Unsayable : Stmt := inClass (top 32) 0
abbrev i_BadOps : Stmt := inClass (top 33) 0
abbrev i_Mismatch : Stmt := inClass (top 34) 0
abbrev i_NoMoment : Stmt := inClass (top 35) 0
abbrev i_Unsafe : Stmt := inClass (top 36) 0
abbrev i_NoNode : Stmt := inClass (top 37) 0
abbrev i_NodeDown : Stmt := inClass (top 38) 0
abbrev i_NotLeading : Stmt := inClass (top 39) 0
abbrev i_StampBack : Stmt := inClass (top 40) 0
abbrev i_TooNew : Stmt := inClass (top 41) 0
abbrev i_StillNeeded : Stmt := inClass (top 42) 0
abbrev i_NotCommitted : Stmt := inClass (top 43) 0
abbrev i_NoItem : Stmt := inClass (top 44) 0
abbrev i_NoRoad : Stmt := inClass (top 45) 0
abbrev i_Forked : Stmt := inClass (top 46) 0
abbrev i_WrongPads : Stmt := inClass (top 47) 0
abbrev i_NoHolder : Stmt := inClass (top 48) 0
abbrev i_LastHolder : Stmt := inClass (top 50) 0
abbrev i_Held : Stmt := inClass (top 51) 0
abbrev i_NoLine : Stmt := inClass (top 52) 0
abbrev i_NoTenant : Stmt := inClass (top 53) 0
abbrev i_NoLeader : Stmt := inClass (top 54) 0
abbrev i_Behind : Stmt := inClass (top 55) 0
abbrev i_NoTicket : Stmt := inClass (top 56) 0
abbrev i_MoveOpen : Stmt := inClass (top 57) 0
abbrev i_NoMove : Stmt := inClass (top 58) 0
abbrev i_WrongPhase : Stmt := inClass (top 59) 0
abbrev i_StillUsed : Stmt := inClass (top 60) 0
abbrev p_is_text : PD := ⟨("is_text", none), "is_text", "is_text", s_is_text, []⟩
abbrev p_is_value : PD := ⟨("is_value", none), "is_value", "is_value", s_is_value, []⟩
abbrev p_is_name : PD := ⟨("is_name", none), "is_name", "is_name", s_is_name, []⟩
abbrev p_size_of : PD := ⟨("size_of", none), "size_of", "size_of", s_size_of, []⟩
abbrev p_first_code : PD := ⟨("first_code", none), "first_code", "first_code", s_first_code, []⟩
abbrev p_code_of : PD := ⟨("code_of", none), "code_of", "code_of", s_code_of, []⟩
abbrev p_text_of : PD := ⟨("text_of", none), "text_of", "text_of", s_text_of, []⟩
abbrev p_value_of : PD := ⟨("value_of", none), "value_of", "value_of", s_value_of, []⟩
abbrev p_sealed : PD := ⟨("sealed", none), "sealed", "sealed", s_sealed, []⟩
abbrev p_opened : PD := ⟨("opened", none), "opened", "opened", s_opened, []⟩
abbrev p_other_pad : PD := ⟨("other_pad", none), "other_pad", "other_pad", s_other_pad, []⟩
abbrev p__law_size : PD := ⟨("_law_size", none), "_law_size", "_law_size", s__law_size, []⟩
abbrev p__law_mixed : PD := ⟨("_law_mixed", none), "_law_mixed", "_law_mixed", s__law_mixed, []⟩
abbrev p__law_rest : PD := ⟨("_law_rest", none), "_law_rest", "_law_rest", s__law_rest, []⟩
abbrev p__law_draw : PD := ⟨("_law_draw", none), "_law_draw", "_law_draw", s__law_draw, []⟩
abbrev p__law_same : PD := ⟨("_law_same", none), "_law_same", "_law_same", s__law_same, []⟩
abbrev p__law_text : PD := ⟨("_law_text", none), "_law_text", "_law_text", s__law_text, []⟩
abbrev p__law_pick : PD := ⟨("_law_pick", none), "_law_pick", "_law_pick", s__law_pick, []⟩
abbrev p__law_value : PD := ⟨("_law_value", none), "_law_value", "_law_value", s__law_value, []⟩
abbrev p__law_alphabet : PD := ⟨("_law_alphabet", none), "_law_alphabet", "_law_alphabet", s__law_alphabet, []⟩
abbrev p__law_code : PD := ⟨("_law_code", none), "_law_code", "_law_code", s__law_code, []⟩
abbrev p__law_pool : PD := ⟨("_law_pool", none), "_law_pool", "_law_pool", s__law_pool, []⟩
abbrev p__law_next : PD := ⟨("_law_next", none), "_law_next", "_law_next", s__law_next, []⟩
abbrev p__law_drawn_code : PD := ⟨("_law_drawn_code", none), "_law_drawn_code", "_law_drawn_code", s__law_drawn_code, []⟩
abbrev p__law_codes_right : PD := ⟨("_law_codes_right", none), "_law_codes_right", "_law_codes_right", s__law_codes_right, []⟩
abbrev p__law_cells_right : PD := ⟨("_law_cells_right", none), "_law_cells_right", "_law_cells_right", s__law_cells_right, []⟩
abbrev p__law_near : PD := ⟨("_law_near", none), "_law_near", "_law_near", s__law_near, []⟩
abbrev p__law_due_value : PD := ⟨("_law_due_value", none), "_law_due_value", "_law_due_value", s__law_due_value, []⟩
abbrev p__law_names_right : PD := ⟨("_law_names_right", none), "_law_names_right", "_law_names_right", s__law_names_right, []⟩
abbrev p__law_kinds : PD := ⟨("_law_kinds", none), "_law_kinds", "_law_kinds", s__law_kinds, []⟩
abbrev p__law_errors_right : PD := ⟨("_law_errors_right", none), "_law_errors_right", "_law_errors_right", s__law_errors_right, []⟩
abbrev p_law : PD := ⟨("law", none), "law", "law", s_law, []⟩
abbrev q_BadFile : PD := ⟨("BadFile", some "__init__"), "__init__", "BadFile.__init__", i_BadFile, [("__class__" : Str)]⟩
abbrev q_NoTable : PD := ⟨("NoTable", some "__init__"), "__init__", "NoTable.__init__", i_NoTable, [("__class__" : Str)]⟩
abbrev q_NoColumn : PD := ⟨("NoColumn", some "__init__"), "__init__", "NoColumn.__init__", i_NoColumn, [("__class__" : Str)]⟩
abbrev q_NameTaken : PD := ⟨("NameTaken", some "__init__"), "__init__", "NameTaken.__init__", i_NameTaken, [("__class__" : Str)]⟩
abbrev q_WrongKind : PD := ⟨("WrongKind", some "__init__"), "__init__", "WrongKind.__init__", i_WrongKind, [("__class__" : Str)]⟩
abbrev q_WrongMark : PD := ⟨("WrongMark", some "__init__"), "__init__", "WrongMark.__init__", i_WrongMark, [("__class__" : Str)]⟩
abbrev q_WrongValue : PD := ⟨("WrongValue", some "__init__"), "__init__", "WrongValue.__init__", i_WrongValue, [("__class__" : Str)]⟩
abbrev q_NoVersion : PD := ⟨("NoVersion", some "__init__"), "__init__", "NoVersion.__init__", i_NoVersion, [("__class__" : Str)]⟩
abbrev q_Hidden : PD := ⟨("Hidden", some "__init__"), "__init__", "Hidden.__init__", i_Hidden, [("__class__" : Str)]⟩
abbrev q_Unsayable : PD := ⟨("Unsayable", some "__init__"), "__init__", "Unsayable.__init__", i_Unsayable, [("__class__" : Str)]⟩
abbrev q_BadOps : PD := ⟨("BadOps", some "__init__"), "__init__", "BadOps.__init__", i_BadOps, [("__class__" : Str)]⟩
abbrev q_Mismatch : PD := ⟨("Mismatch", some "__init__"), "__init__", "Mismatch.__init__", i_Mismatch, [("__class__" : Str)]⟩
abbrev q_NoMoment : PD := ⟨("NoMoment", some "__init__"), "__init__", "NoMoment.__init__", i_NoMoment, [("__class__" : Str)]⟩
abbrev q_Unsafe : PD := ⟨("Unsafe", some "__init__"), "__init__", "Unsafe.__init__", i_Unsafe, [("__class__" : Str)]⟩
abbrev q_NoNode : PD := ⟨("NoNode", some "__init__"), "__init__", "NoNode.__init__", i_NoNode, [("__class__" : Str)]⟩
abbrev q_NodeDown : PD := ⟨("NodeDown", some "__init__"), "__init__", "NodeDown.__init__", i_NodeDown, [("__class__" : Str)]⟩
abbrev q_NotLeading : PD := ⟨("NotLeading", some "__init__"), "__init__", "NotLeading.__init__", i_NotLeading, [("__class__" : Str)]⟩
abbrev q_StampBack : PD := ⟨("StampBack", some "__init__"), "__init__", "StampBack.__init__", i_StampBack, [("__class__" : Str)]⟩
abbrev q_TooNew : PD := ⟨("TooNew", some "__init__"), "__init__", "TooNew.__init__", i_TooNew, [("__class__" : Str)]⟩
abbrev q_StillNeeded : PD := ⟨("StillNeeded", some "__init__"), "__init__", "StillNeeded.__init__", i_StillNeeded, [("__class__" : Str)]⟩
abbrev q_NotCommitted : PD := ⟨("NotCommitted", some "__init__"), "__init__", "NotCommitted.__init__", i_NotCommitted, [("__class__" : Str)]⟩
abbrev q_NoItem : PD := ⟨("NoItem", some "__init__"), "__init__", "NoItem.__init__", i_NoItem, [("__class__" : Str)]⟩
abbrev q_NoRoad : PD := ⟨("NoRoad", some "__init__"), "__init__", "NoRoad.__init__", i_NoRoad, [("__class__" : Str)]⟩
abbrev q_Forked : PD := ⟨("Forked", some "__init__"), "__init__", "Forked.__init__", i_Forked, [("__class__" : Str)]⟩
abbrev q_WrongPads : PD := ⟨("WrongPads", some "__init__"), "__init__", "WrongPads.__init__", i_WrongPads, [("__class__" : Str)]⟩
abbrev q_NoHolder : PD := ⟨("NoHolder", some "__init__"), "__init__", "NoHolder.__init__", i_NoHolder, [("__class__" : Str)]⟩
abbrev q_LastHolder : PD := ⟨("LastHolder", some "__init__"), "__init__", "LastHolder.__init__", i_LastHolder, [("__class__" : Str)]⟩
abbrev q_Held : PD := ⟨("Held", some "__init__"), "__init__", "Held.__init__", i_Held, [("__class__" : Str)]⟩
abbrev q_NoLine : PD := ⟨("NoLine", some "__init__"), "__init__", "NoLine.__init__", i_NoLine, [("__class__" : Str)]⟩
abbrev q_NoTenant : PD := ⟨("NoTenant", some "__init__"), "__init__", "NoTenant.__init__", i_NoTenant, [("__class__" : Str)]⟩
abbrev q_NoLeader : PD := ⟨("NoLeader", some "__init__"), "__init__", "NoLeader.__init__", i_NoLeader, [("__class__" : Str)]⟩
abbrev q_Behind : PD := ⟨("Behind", some "__init__"), "__init__", "Behind.__init__", i_Behind, [("__class__" : Str)]⟩
abbrev q_NoTicket : PD := ⟨("NoTicket", some "__init__"), "__init__", "NoTicket.__init__", i_NoTicket, [("__class__" : Str)]⟩
abbrev q_MoveOpen : PD := ⟨("MoveOpen", some "__init__"), "__init__", "MoveOpen.__init__", i_MoveOpen, [("__class__" : Str)]⟩
abbrev q_NoMove : PD := ⟨("NoMove", some "__init__"), "__init__", "NoMove.__init__", i_NoMove, [("__class__" : Str)]⟩
abbrev q_WrongPhase : PD := ⟨("WrongPhase", some "__init__"), "__init__", "WrongPhase.__init__", i_WrongPhase, [("__class__" : Str)]⟩
abbrev q_StillUsed : PD := ⟨("StillUsed", some "__init__"), "__init__", "StillUsed.__init__", i_StillUsed, [("__class__" : Str)]⟩
def exL : List Str := (["StoreError", "BadText", "BadFile", "NoTable", "NoColumn", "NameTaken", "WrongKind", "WrongMark", "WrongValue", "NoVersion", "Hidden", "Unsayable", "BadOps", "Mismatch", "NoMoment", "Unsafe", "NoNode", "NodeDown", "NotLeading", "StampBack", "TooNew", "StillNeeded", "NotCommitted", "NoItem", "NoRoad", "Forked", "WrongPads", "NoHolder", "HoldersDown", "LastHolder"] : List Str) ++ (["Held", "NoLine", "NoTenant", "NoLeader", "Behind", "NoTicket", "MoveOpen", "NoMove", "WrongPhase", "StillUsed"] : List Str)
def pdL : List PD := ([p_is_text, p_is_value, p_is_name, p_size_of, p_first_code, p_code_of, p_text_of, p_value_of, p_sealed, p_opened, p_other_pad, p__law_size, p__law_mixed, p__law_rest, p__law_draw, p__law_same, p__law_text, p__law_pick, p__law_value, p__law_alphabet, p__law_code, p__law_pool, p__law_next, p__law_drawn_code, p__law_codes_right, p__law_cells_right, p__law_near, p__law_due_value, p__law_names_right, p__law_kinds] : List PD) ++ ([p__law_errors_right, p_law, q_BadFile, q_NoTable, q_NoColumn, q_NameTaken, q_WrongKind, q_WrongMark, q_WrongValue, q_NoVersion, q_Hidden, q_Unsayable, q_BadOps, q_Mismatch, q_NoMoment, q_Unsafe, q_NoNode, q_NodeDown, q_NotLeading, q_StampBack, q_TooNew, q_StillNeeded, q_NotCommitted, q_NoItem, q_NoRoad, q_Forked, q_WrongPads, q_NoHolder, q_LastHolder, q_Held] : List PD) ++ ([q_NoLine, q_NoTenant, q_NoLeader, q_Behind, q_NoTicket, q_MoveOpen, q_NoMove, q_WrongPhase, q_StillUsed] : List PD)
def D0 : Dat where
  file := P0.main.file
  fns := pdL
  exs := exL
  inits := (["BadFile", "NoTable", "NoColumn", "NameTaken", "WrongKind", "WrongMark", "WrongValue", "NoVersion", "Hidden", "Unsayable", "BadOps", "Mismatch", "NoMoment", "Unsafe", "NoNode", "NodeDown", "NotLeading", "StampBack", "TooNew", "StillNeeded", "NotCommitted", "NoItem", "NoRoad", "Forked", "WrongPads", "NoHolder", "LastHolder", "Held", "NoLine", "NoTenant"] : List Str) ++ (["NoLeader", "Behind", "NoTicket", "MoveOpen", "NoMove", "WrongPhase", "StillUsed"] : List Str)
  plainEx := (["BadText", "HoldersDown"] : List Str)
  pI := [("INT_MOST", 1000000000), ("INT_SIZE", 2000000001), ("NAME_MOST", 12), ("TEXT_MOST", 20), ("TEXT_SIZE", 2932256630791119505061064402082674519051)]
  pS := [("ALPHABET", " !\"#$&'()*+,-./0123456789:;<=>?@ABCDEFGHIJKLMNOPQRSTUVWXYZ[\\]^_`abcdefghijklmnopqrstuvwxyz{|}~"), ("LETTERS", "abcdefghijklmnopqrstuvwxyz")]
  pF := ["ValueError", "bool", "dict", "int", "isinstance", "len", "list", "max", "min", "range", "reversed", "str", "tuple", "super"]
  pA := ([("BadFile", "row"), ("NoTable", "name"), ("NoColumn", "name"), ("NameTaken", "name"), ("WrongKind", "name"), ("WrongMark", "name"), ("WrongValue", "name"), ("NoVersion", "version"), ("Hidden", "table"), ("Unsayable", "table"), ("Unsayable", "column"), ("Unsayable", "key"), ("BadOps", "place"), ("Mismatch", "slot"), ("NoMoment", "position"), ("Unsafe", "one"), ("Unsafe", "other"), ("NoNode", "name"), ("NodeDown", "name"), ("NotLeading", "name"), ("StampBack", "stamp"), ("TooNew", "names"), ("StillNeeded", "name"), ("StillNeeded", "position"), ("NotCommitted", "position"), ("NoItem", "number"), ("NoRoad", "line"), ("NoRoad", "position"), ("Forked", "line"), ("WrongPads", "needed")] : List (Str × Str)) ++ ([("NoHolder", "name"), ("LastHolder", "name"), ("Held", "person"), ("NoLine", "name"), ("NoTenant", "name"), ("NoLeader", "name"), ("Behind", "moment"), ("NoTicket", "number"), ("MoveOpen", "tenant"), ("NoMove", "tenant"), ("WrongPhase", "phase"), ("StillUsed", "name")] : List (Str × Str))
  isC := exL
  isD := exL
  sub := fun c d => decide (c = d) || decide (d = "StoreError")
end L51

namespace L51
open PySem PySem.W PySem.Calls PyProof.Rows PM
abbrev R0 : OpenRow := OpenLaw.row PySem.Challenge.rw_storelife_k51_values_codes_and_pads
abbrev qv : Program := view R0.prog [82]
def names0 : List PySem.Str := ["ALPHABET", "LETTERS", "INT_MOST", "TEXT_MOST", "NAME_MOST", "is_text", "is_value", "is_name", "INT_SIZE", "TEXT_SIZE", "size_of", "first_code", "code_of", "text_of", "value_of", "sealed", "opened", "other_pad", "StoreError", "BadText", "BadFile", "NoTable", "NoColumn", "NameTaken", "WrongKind", "WrongMark", "WrongValue", "NoVersion", "Hidden", "Unsayable"]
def names1 : List PySem.Str := ["BadOps", "Mismatch", "NoMoment", "Unsafe", "NoNode", "NodeDown", "NotLeading", "StampBack", "TooNew", "StillNeeded", "NotCommitted", "NoItem", "NoRoad", "Forked", "WrongPads", "NoHolder", "HoldersDown", "LastHolder", "Held", "NoLine", "NoTenant", "NoLeader", "Behind", "NoTicket", "MoveOpen", "NoMove", "WrongPhase", "StillUsed", "_law_size", "_law_mixed"]
def names2 : List PySem.Str := ["_law_rest", "_law_draw", "_law_same", "_law_text", "_law_pick", "_law_value", "_law_alphabet", "_law_code", "_law_pool", "_law_next", "_law_drawn_code", "_law_codes_right", "_law_cells_right", "_law_near", "_law_due_value", "_law_names_right", "_law_kinds", "_law_errors_right"]
def names : List PySem.Str := names0 ++ names1 ++ names2
def ob0 (s : SharedT) : AlE := obsE D0 (HandSHeadRun.getT s)
open HandSHeadRun in
theorem run_ec (w : World) : ∀ os : OsState, (endF (stepQ (denQ tabQ) R0.prog w) 12000 R0.prog w os).map (fun s => ob0 s) = some ((hookE D0).val w) := by
  intro os
  kernel_rfl
open HandSHeadRun in
theorem run_ea (w : World) : ∀ os : OsState, (endF (stepQ (denQ tabQ) R0.prog w) 12000 R0.prog w os).map (fun s => looksF R0.prog (boot_heap w.params) s.abs) = some (true) := by
  intro os
  kernel_rfl
open HandSHeadRun in
theorem run_eb (w : World) : ∀ os : OsState, (endF (stepQ (denQ tabQ) R0.prog w) 12000 R0.prog w os).map (fun s => seenQ qv names (importedModules R0.prog.main.body) (fun s => xlAt qv [] s && recOk R0.toRowW.records s) s.abs) = some (openGood qv names) := by
  intro os
  kernel_rfl
end L51

/-! PM: clean values and a clean heap, the mirrors' monad; how they stand for HandS's abstract heap. -/
namespace PM
open PySem PySem.Spec PyProof.Rows L2

/-- a clean value: tuples are values, all that may change is a reference -/
inductive CV where
  | non | bl (b : Bool) | int (i : Int) | str (x : Str) | tup (xs : List CV) | ref (n : Nat)

mutual
def CV.beq : CV → CV → Bool
  | .non, .non => true
  | .bl a, .bl b => a == b
  | .int a, .int b => decide (a = b)
  | .str a, .str b => decide (a = b)
  | .ref a, .ref b => decide (a = b)
  | .tup a, .tup b => CV.beqs a b
  | _, _ => false
def CV.beqs : List CV → List CV → Bool
  | [], [] => true
  | a :: as, b :: bs => CV.beq a b && CV.beqs as bs
  | _, _ => false
end
mutual
theorem CV.beq_iff : ∀ a b : CV, CV.beq a b = true ↔ a = b
  | .non, b => by cases b <;> simp [CV.beq]
  | .bl x, b => by cases b <;> simp [CV.beq]
  | .int x, b => by cases b <;> simp [CV.beq]
  | .str x, b => by cases b <;> simp [CV.beq]
  | .ref x, b => by cases b <;> simp [CV.beq]
  | .tup xs, b => by
    cases b with
    | tup ys => simp [CV.beq, CV.beqs_iff xs ys]
    | _ => simp [CV.beq]
theorem CV.beqs_iff : ∀ as bs : List CV, CV.beqs as bs = true ↔ as = bs
  | [], bs => by cases bs <;> simp [CV.beqs]
  | a :: as, bs => by
    cases bs with
    | nil => simp [CV.beqs]
    | cons b bs => simp [CV.beqs, CV.beq_iff a b, CV.beqs_iff as bs]
end
instance : DecidableEq CV := fun a b => decidable_of_iff (CV.beq a b = true) (CV.beq_iff a b)
instance : Inhabited CV := ⟨.non⟩

/-- what stands at a reference -/
inductive CO where
  | dead
  | lst (xs : List CV)
  | rol (xs : List CV)
  | dct (kvs : List (CV × CV))
  | ins (C : Str) (fs : List (Str × CV))
  | exn (C : Str) (fs : List (Str × CV))
structure CS where
  next : Nat
  obj : Nat → CO
def CS.set (c : CS) (n : Nat) (o : CO) : CS := ⟨c.next, fun m => if m = n then o else c.obj m⟩
def CS.new (c : CS) (o : CO) : CS := ⟨c.next + 1, fun m => if m = c.next then o else c.obj m⟩
@[simp] theorem CS.set_next (c : CS) (n : Nat) (o : CO) : (c.set n o).next = c.next := rfl
@[simp] theorem CS.new_next (c : CS) (o : CO) : (c.new o).next = c.next + 1 := rfl
theorem CS.set_obj (c : CS) (n m : Nat) (o : CO) : (c.set n o).obj m = if m = n then o else c.obj m := rfl
theorem CS.new_obj (c : CS) (m : Nat) (o : CO) : (c.new o).obj m = if m = c.next then o else c.obj m := rfl
@[simp] theorem CS.set_same (c : CS) (n : Nat) (o : CO) : (c.set n o).obj n = o := if_pos rfl
@[simp] theorem CS.new_same (c : CS) (o : CO) : (c.new o).obj c.next = o := if_pos rfl
theorem CS.set_ne {c : CS} {n m : Nat} {o : CO} (h : m ≠ n) : (c.set n o).obj m = c.obj m := if_neg h
theorem CS.new_ne {c : CS} {m : Nat} {o : CO} (h : m ≠ c.next) : (c.new o).obj m = c.obj m := if_neg h

/-- an exception in flight -/
structure CE where
  cls : Str
  fs : List (Str × CV)
/-- outcomes -/
inductive R (α : Type) where
  | ok (a : α) (c : CS)
  | exc (e : CE) (c : CS)
  | stuck
def R.bind {α β : Type} (r : R α) (f : α → CS → R β) : R β := match r with
  | .ok a c => f a c
  | .exc e c => .exc e c
  | .stuck => .stuck
@[simp] theorem R.bind_ok {α β : Type} (a : α) (c : CS) (f : α → CS → R β) : (R.ok a c).bind f = f a c := rfl
@[simp] theorem R.bind_exc {α β : Type} (e : CE) (c : CS) (f : α → CS → R β) : (R.exc e c : R α).bind f = .exc e c := rfl
@[simp] theorem R.bind_stuck {α β : Type} (f : α → CS → R β) : (R.stuck : R α).bind f = .stuck := rfl
def Rok {α : Type} (r : R α) (X : CE → CS → Prop) (P : α → CS → Prop) : Prop := match r with
  | .ok a c => P a c
  | .exc e c => X e c
  | .stuck => False
theorem Rok.bind {α β : Type} {r : R α} {f : α → CS → R β} {X : CE → CS → Prop} {P : β → CS → Prop} (h : Rok (r.bind f) X P) : Rok r X fun a c => Rok (f a c) X P := by
  cases r with
  | ok a c => exact h
  | exc e c => exact h
  | stuck => exact h
theorem Rok.mono {α : Type} {r : R α} {X X' : CE → CS → Prop} {P P' : α → CS → Prop} (h : Rok r X P) (hx : ∀ e c, X e c → X' e c) (hp : ∀ a c, P a c → P' a c) : Rok r X' P' := by
  cases r with
  | ok a c => exact hp _ _ h
  | exc e c => exact hx _ _ h
  | stuck => exact h

abbrev CEnv := List (Option CV)
/-- mirrors: of an expression, of a test, of an argument list -/
abbrev ME := CEnv → CS → R CV
abbrev MT := CEnv → CS → R Bool
abbrev MA := CEnv → CS → R (List CV)
/-- .. of a statement -/
inductive RS where
  | nx (ρ : CEnv) (c : CS)
  | ret (v : CV) (c : CS)
  | bk (ρ : CEnv) (c : CS)
  | ct (ρ : CEnv) (c : CS)
  | exc (e : CE) (ρ : CEnv) (c : CS)
  | stuck
abbrev MS := CEnv → CS → RS

/-! ### the relation -/
abbrev Mu := Nat → Option Addr
/-- the text's own classes -/
structure Cfg where
  cl : Str → Option Addr
mutual
def RV (μ : Mu) (H : Hp) : CV → V → Prop
  | .non, v => v = .non
  | .bl b, v => v = .bl b
  | .int i, v => v = .int i
  | .str x, v => v = .str x
  | .ref n, v => ∃ a, μ n = some a ∧ v = .ref a
  | .tup xs, v => ∃ a vs, v = .ref a ∧ H a = some (.tup vs) ∧ RVs μ H xs vs
def RVs (μ : Mu) (H : Hp) : List CV → List V → Prop
  | [], vs => vs = []
  | x :: xs, vs => ∃ v r, vs = v :: r ∧ RV μ H x v ∧ RVs μ H xs r
end
structure Ext (μ : Mu) (H : Hp) (μ' : Mu) (H' : Hp) : Prop where
  mu : ∀ n a, μ n = some a → μ' n = some a
  tup : ∀ b xs, H b = some (.tup xs) → H' b = some (.tup xs)
theorem Ext.refl {μ : Mu} {H : Hp} : Ext μ H μ H := ⟨fun _ _ h => h, fun _ _ h => h⟩
theorem Ext.trans {μ μ1 μ2 : Mu} {H H1 H2 : Hp} (a : Ext μ H μ1 H1) (b : Ext μ1 H1 μ2 H2) : Ext μ H μ2 H2 :=
  ⟨fun n x h => b.mu n x (a.mu n x h), fun n x h => b.tup n x (a.tup n x h)⟩
mutual
theorem RV.ext {μ μ' : Mu} {H H' : Hp} (e : Ext μ H μ' H') : ∀ {x : CV} {v : V}, RV μ H x v → RV μ' H' x v
  | .non, _, h => h
  | .bl _, _, h => h
  | .int _, _, h => h
  | .str _, _, h => h
  | .ref _, _, h => let ⟨a, h1, h2⟩ := h; ⟨a, e.mu _ _ h1, h2⟩
  | .tup _, _, h => let ⟨a, vs, h1, h2, h3⟩ := h; ⟨a, vs, h1, e.tup _ _ h2, RVs.ext e h3⟩
theorem RVs.ext {μ μ' : Mu} {H H' : Hp} (e : Ext μ H μ' H') : ∀ {xs : List CV} {vs : List V}, RVs μ H xs vs → RVs μ' H' xs vs
  | [], _, h => h
  | _ :: _, _, h => let ⟨v, r, h1, h2, h3⟩ := h; ⟨v, r, h1, RV.ext e h2, RVs.ext e h3⟩
end
theorem RVs.length {μ : Mu} {H : Hp} : ∀ {xs : List CV} {vs : List V}, RVs μ H xs vs → vs.length = xs.length
  | [], _, h => by rw [show _ = [] from h]; rfl
  | _ :: _, _, ⟨v, r, h1, _, h3⟩ => by rw [h1, List.length_cons, List.length_cons, RVs.length h3]
theorem RVs.nil {μ : Mu} {H : Hp} : RVs μ H [] [] := rfl
theorem RVs.cons {μ : Mu} {H : Hp} {x : CV} {v : V} {xs : List CV} {vs : List V} (h : RV μ H x v) (t : RVs μ H xs vs) : RVs μ H (x :: xs) (v :: vs) := ⟨v, vs, rfl, h, t⟩
theorem RVs.append {μ : Mu} {H : Hp} : ∀ {xs ys : List CV} {vs ws : List V}, RVs μ H xs vs → RVs μ H ys ws → RVs μ H (xs ++ ys) (vs ++ ws)
  | [], _, _, _, h, t => by rw [show _ = [] from h]; exact t
  | _ :: _, _, _, _, ⟨v, r, h1, h2, h3⟩, t => by rw [h1]; exact ⟨v, _, rfl, h2, RVs.append h3 t⟩
theorem RVs.get {μ : Mu} {H : Hp} : ∀ {xs : List CV} {vs : List V} {i : Nat} {x : CV}, RVs μ H xs vs → xs[i]? = some x → ∃ v, vs[i]? = some v ∧ RV μ H x v
  | [], _, _, _, _, e => by simp at e
  | _ :: _, _, 0, _, ⟨v, r, h1, h2, h3⟩, e => by simp at e; subst e; exact ⟨v, by rw [h1]; rfl, h2⟩
  | _ :: _, _, i + 1, _, ⟨v, r, h1, h2, h3⟩, e => by
    obtain ⟨u, q1, q2⟩ := RVs.get (i := i) h3 (by simpa using e)
    exact ⟨u, by rw [h1]; simpa using q1, q2⟩
theorem RVs.back {μ : Mu} {H : Hp} : ∀ {xs : List CV} {vs : List V} {i : Nat} {v : V}, RVs μ H xs vs → vs[i]? = some v → ∃ x, xs[i]? = some x ∧ RV μ H x v
  | [], _, _, _, h, e => by rw [show _ = [] from h] at e; simp at e
  | x :: _, _, 0, _, ⟨v, r, h1, h2, h3⟩, e => by rw [h1] at e; simp at e; subst e; exact ⟨x, rfl, h2⟩
  | _ :: _, _, i + 1, _, ⟨v, r, h1, h2, h3⟩, e => by
    rw [h1] at e
    obtain ⟨u, q1, q2⟩ := RVs.back (i := i) h3 (by simpa using e)
    exact ⟨u, by simpa using q1, q2⟩
theorem RVs.set {μ : Mu} {H : Hp} {x : CV} {v : V} (hv : RV μ H x v) : ∀ {xs : List CV} {vs : List V} (i : Nat), RVs μ H xs vs → RVs μ H (xs.set i x) (vs.set i v)
  | [], _, _, h => by rw [show _ = [] from h]; exact rfl
  | _ :: _, _, 0, ⟨u, r, h1, h2, h3⟩ => by rw [h1]; exact ⟨v, r, rfl, hv, h3⟩
  | _ :: _, _, i + 1, ⟨u, r, h1, h2, h3⟩ => by rw [h1]; exact ⟨u, _, rfl, h2, RVs.set hv i h3⟩
theorem RVs.take {μ : Mu} {H : Hp} : ∀ {xs : List CV} {vs : List V} (n : Nat), RVs μ H xs vs → RVs μ H (xs.take n) (vs.take n)
  | _, _, 0, _ => rfl
  | [], _, _ + 1, h => by rw [show _ = [] from h]; exact rfl
  | _ :: _, _, n + 1, ⟨v, r, h1, h2, h3⟩ => by rw [h1]; exact ⟨v, _, rfl, h2, RVs.take n h3⟩
theorem RVs.drop {μ : Mu} {H : Hp} : ∀ {xs : List CV} {vs : List V} (n : Nat), RVs μ H xs vs → RVs μ H (xs.drop n) (vs.drop n)
  | _, _, 0, h => h
  | [], _, _ + 1, h => by rw [show _ = [] from h]; exact rfl
  | _ :: _, _, n + 1, ⟨v, r, h1, h2, h3⟩ => by rw [h1]; exact RVs.drop n h3
theorem RVs.reverse {μ : Mu} {H : Hp} : ∀ {xs : List CV} {vs : List V}, RVs μ H xs vs → RVs μ H xs.reverse vs.reverse
  | [], _, h => by rw [show _ = [] from h]; exact rfl
  | _ :: _, _, ⟨v, r, h1, h2, h3⟩ => by rw [h1, List.reverse_cons, List.reverse_cons]; exact (RVs.reverse h3).append (.cons h2 .nil)

/-- fields, keys -/
def RF (μ : Mu) (H : Hp) : List (Str × CV) → List (Str × V) → Prop
  | [], vs => vs = []
  | x :: xs, vs => ∃ v r, vs = (x.1, v) :: r ∧ RV μ H x.2 v ∧ RF μ H xs r
/-- a key of a dict of ints and texts; a tuple of such -/
def kC : L2.Key → CV
  | .inl i => .int i
  | .inr x => .str x
def RK (μ : Mu) (H : Hp) : List (CV × CV) → List (L2.Key × V) → Prop
  | [], vs => vs = []
  | x :: xs, vs => ∃ k v r, vs = (k, v) :: r ∧ x.1 = kC k ∧ RV μ H x.2 v ∧ RK μ H xs r
def RT (μ : Mu) (H : Hp) : List (CV × CV) → List (List L2.Key × V) → Prop
  | [], vs => vs = []
  | x :: xs, vs => ∃ k v r, vs = (k, v) :: r ∧ x.1 = .tup (k.map kC) ∧ RV μ H x.2 v ∧ RT μ H xs r
theorem RF.ext {μ μ' : Mu} {H H' : Hp} (e : Ext μ H μ' H') : ∀ {xs : List (Str × CV)} {vs : List (Str × V)}, RF μ H xs vs → RF μ' H' xs vs
  | [], _, h => h
  | _ :: _, _, ⟨v, r, h1, h2, h3⟩ => ⟨v, r, h1, h2.ext e, RF.ext e h3⟩
theorem RK.ext {μ μ' : Mu} {H H' : Hp} (e : Ext μ H μ' H') : ∀ {xs : List (CV × CV)} {vs : List (L2.Key × V)}, RK μ H xs vs → RK μ' H' xs vs
  | [], _, h => h
  | _ :: _, _, ⟨k, v, r, h1, h0, h2, h3⟩ => ⟨k, v, r, h1, h0, h2.ext e, RK.ext e h3⟩
theorem RT.ext {μ μ' : Mu} {H H' : Hp} (e : Ext μ H μ' H') : ∀ {xs : List (CV × CV)} {vs : List (List L2.Key × V)}, RT μ H xs vs → RT μ' H' xs vs
  | [], _, h => h
  | _ :: _, _, ⟨k, v, r, h1, h0, h2, h3⟩ => ⟨k, v, r, h1, h0, h2.ext e, RT.ext e h3⟩

def RO (G : Cfg) (μ : Mu) (H : Hp) : CO → Addr → Prop
  | .dead, a => ∃ o, H a = some o ∧ ∀ xs, o ≠ .tup xs
  | .lst xs, a => ∃ vs, RVs μ H xs vs ∧ H a = some (.lst vs)
  | .rol xs, a => ∃ vs o, RVs μ H xs vs ∧ H a = some (.frz o (.lst vs))
  | .dct kvs, a => (∃ ks, RK μ H kvs ks ∧ H a = some (.dK ks)) ∨ (kvs ≠ [] ∧ ∃ ks, RT μ H kvs ks ∧ H a = some (.dT ks))
  | .ins C fs, a => ∃ A dx vs, G.cl C = some A ∧ RF μ H fs vs ∧ H a = some (.ins A dx vs)
  | .exn C fs, a => ∃ A vs d, G.cl C = some A ∧ RF μ H fs vs ∧ H a = some (exo a A d) ∧ ((fs = [] ∧ d = none) ∨ ∃ dx, d = some dx ∧ H dx = some (exd dx vs))
theorem RO.there {G : Cfg} {μ : Mu} {H : Hp} : ∀ {o : CO} {a : Addr}, RO G μ H o a → ∃ u, H a = some u ∧ ∀ xs, u ≠ .tup xs
  | .dead, _, h => h
  | .lst _, _, ⟨_, _, h⟩ => ⟨_, h, fun _ z => nomatch z⟩
  | .rol _, _, ⟨_, _, _, h⟩ => ⟨_, h, fun _ z => nomatch z⟩
  | .dct _, _, .inl ⟨_, _, h⟩ => ⟨_, h, fun _ z => nomatch z⟩
  | .dct _, _, .inr ⟨_, _, _, h⟩ => ⟨_, h, fun _ z => nomatch z⟩
  | .ins _ _, _, ⟨_, _, _, _, _, h⟩ => ⟨_, h, fun _ z => nomatch z⟩
  | .exn _ _, _, ⟨_, _, _, _, _, h, _⟩ => ⟨_, h, fun _ z => nomatch z⟩
end PM

/-! PM: the heap's lemmas; the readings. -/
namespace PM
open PySem PySem.Spec PyProof.Rows L2

structure Rl (G : Cfg) (μ : Mu) (c : CS) (H : Hp) : Prop where
  dom : ∀ n a, μ n = some a → n < c.next
  all : ∀ n, n < c.next → ∃ a, μ n = some a
  inj : ∀ i j a, μ i = some a → μ j = some a → i = j
  obj : ∀ n a, μ n = some a → RO G μ H (c.obj n) a

theorem RO.keep {G : Cfg} {μ μ' : Mu} {H H' : Hp} (e : Ext μ H μ' H') {a : Addr} (ha : H' a = H a) (hx : ∀ dx φ, H dx = some (.ext φ) → H' dx = H dx) : ∀ {o : CO}, RO G μ H o a → RO G μ' H' o a
  | .dead, h => by rw [RO, ha]; exact h
  | .lst _, ⟨vs, h1, h2⟩ => ⟨vs, h1.ext e, by rw [ha]; exact h2⟩
  | .rol _, ⟨vs, o, h1, h2⟩ => ⟨vs, o, h1.ext e, by rw [ha]; exact h2⟩
  | .dct _, .inl ⟨ks, h1, h2⟩ => .inl ⟨ks, h1.ext e, by rw [ha]; exact h2⟩
  | .dct _, .inr ⟨h0, ks, h1, h2⟩ => .inr ⟨h0, ks, h1.ext e, by rw [ha]; exact h2⟩
  | .ins _ _, ⟨A, dx, vs, h1, h2, h3⟩ => ⟨A, dx, vs, h1, h2.ext e, by rw [ha]; exact h3⟩
  | .exn _ _, ⟨A, vs, d, h1, h2, h3, h4⟩ => ⟨A, vs, d, h1, h2.ext e, by rw [ha]; exact h3, by
      rcases h4 with h4 | ⟨dx, h5, h6⟩
      · exact .inl h4
      · exact .inr ⟨dx, h5, by rw [hx dx _ h6]; exact h6⟩⟩

theorem ext_new {μ : Mu} {H : Hp} {p : Addr} {o : HO} (hp : H p = none) : Ext μ H μ (upd H p o) :=
  ⟨fun _ _ h => h, fun b xs h => by rw [upd_ne (ne_of_none h hp)]; exact h⟩
/-- a new object that no reference names (a tuple, an own dict, ..) -/
theorem Rl.laid {G : Cfg} {μ : Mu} {c : CS} {H : Hp} {p : Addr} {o : HO} (r : Rl G μ c H) (hp : H p = none) : Rl G μ c (upd H p o) where
  dom := r.dom
  all := r.all
  inj := r.inj
  obj := fun n a h => by
    obtain ⟨u, hu, _⟩ := (r.obj n a h).there
    exact RO.keep (ext_new hp) (upd_ne (ne_of_none hu hp)) (fun dx φ q => upd_ne (ne_of_none q hp)) (r.obj n a h)
def muNew (μ : Mu) (n : Nat) (p : Addr) : Mu := fun m => if m = n then some p else μ m
/-- a new reference -/
theorem Rl.new {G : Cfg} {μ : Mu} {c : CS} {H : Hp} {p : Addr} {o : HO} {co : CO} (r : Rl G μ c H) (hp : H p = none)
    (ho : ∀ μ', Ext μ H μ' (upd H p o) → RO G μ' (upd H p o) co p) :
    Ext μ H (muNew μ c.next p) (upd H p o) ∧ Rl G (muNew μ c.next p) (c.new co) (upd H p o) ∧ muNew μ c.next p c.next = some p := by
  have lt : ∀ n a, μ n = some a → n ≠ c.next := fun n a h => Nat.ne_of_lt (r.dom n a h)
  have e : Ext μ H (muNew μ c.next p) (upd H p o) := ⟨fun n a h => by unfold muNew; rw [if_neg (lt n a h)]; exact h, (ext_new (μ := μ) hp).tup⟩
  have nt : ∀ n a, μ n = some a → a ≠ p := fun n a h => by
    obtain ⟨u, hu, _⟩ := (r.obj n a h).there
    exact ne_of_none hu hp
  have cases' : ∀ n a, muNew μ c.next p n = some a → (n = c.next ∧ a = p) ∨ (n ≠ c.next ∧ μ n = some a) := fun n a h => by
    unfold muNew at h
    by_cases q : n = c.next
    · rw [if_pos q] at h; exact .inl ⟨q, (Option.some.inj h).symm⟩
    · rw [if_neg q] at h; exact .inr ⟨q, h⟩
  refine ⟨e, ⟨fun n a h => ?_, fun n h => ?_, fun i j a h1 h2 => ?_, fun n a h => ?_⟩, if_pos rfl⟩
  · rcases cases' n a h with ⟨q, _⟩ | ⟨_, q⟩
    · rw [q]; exact Nat.lt_succ_self _
    · exact Nat.lt_succ_of_lt (r.dom n a q)
  · by_cases q : n = c.next
    · exact ⟨p, if_pos q⟩
    · obtain ⟨a, ha⟩ := r.all n (by have : n < c.next + 1 := h; omega)
      exact ⟨a, by unfold muNew; rw [if_neg q]; exact ha⟩
  · rcases cases' i a h1 with ⟨q1, q2⟩ | ⟨q1, q2⟩
    · rcases cases' j a h2 with ⟨q3, _⟩ | ⟨_, q4⟩
      · rw [q1, q3]
      · exact absurd q2 (nt j a q4)
    · rcases cases' j a h2 with ⟨_, q4⟩ | ⟨_, q4⟩
      · exact absurd q4 (nt i a q2)
      · exact r.inj i j a q2 q4
  · rcases cases' n a h with ⟨q1, q2⟩ | ⟨q1, q2⟩
    · rw [q1, q2, CS.new_same]; exact ho _ e
    · rw [CS.new_ne q1]
      exact RO.keep e (upd_ne (nt n a q2)) (fun dx φ q => upd_ne (ne_of_none q hp)) (r.obj n a q2)
/-- an object is changed -/
theorem ext_set {μ : Mu} {H : Hp} {a : Addr} {u o : HO} (ha : H a = some u) (hu : ∀ xs, u ≠ .tup xs) : Ext μ H μ (upd H a o) :=
  ⟨fun _ _ h => h, fun b xs h => by rw [upd_ne (fun z => by rw [z, ha] at h; exact hu _ (Option.some.inj h))]; exact h⟩
theorem Rl.set {G : Cfg} {μ : Mu} {c : CS} {H : Hp} {n : Nat} {a : Addr} {u o : HO} {co : CO} (r : Rl G μ c H) (hn : μ n = some a) (ha : H a = some u) (hu : ∀ xs, u ≠ .tup xs) (hx : ∀ φ, u ≠ .ext φ)
    (ho : Ext μ H μ (upd H a o) → RO G μ (upd H a o) co a) : Ext μ H μ (upd H a o) ∧ Rl G μ (c.set n co) (upd H a o) := by
  have e : Ext μ H μ (upd H a o) := ext_set ha hu
  refine ⟨e, ⟨r.dom, r.all, r.inj, fun m b h => ?_⟩⟩
  by_cases q : m = n
  · subst q
    rw [hn] at h; cases h
    rw [CS.set_same]; exact ho e
  · rw [CS.set_ne q]
    have hb : b ≠ a := fun z => q (r.inj m n a (by rw [← z]; exact h) hn)
    exact RO.keep e (upd_ne hb) (fun dx φ z => upd_ne (fun y => by rw [y, ha] at z; exact hx _ (Option.some.inj z))) (r.obj m b h)

/-! ### slots -/
def RE (μ : Mu) (H : Hp) : CEnv → L2.St → Prop
  | [], σ => σ = []
  | o :: ρ, σ => ∃ v r, σ = v :: r ∧ (∀ x, o = some x → ∃ y, v = some y ∧ RV μ H x y) ∧ RE μ H ρ r
theorem RE.ext {μ μ' : Mu} {H H' : Hp} (e : Ext μ H μ' H') : ∀ {ρ : CEnv} {σ : L2.St}, RE μ H ρ σ → RE μ' H' ρ σ
  | [], _, h => h
  | _ :: _, _, ⟨v, r, h1, h2, h3⟩ => ⟨v, r, h1, fun x q => let ⟨y, a, b⟩ := h2 x q; ⟨y, a, b.ext e⟩, RE.ext e h3⟩
theorem RE.get {μ : Mu} {H : Hp} : ∀ {ρ : CEnv} {σ : L2.St} {i : Nat} {x : CV}, RE μ H ρ σ → ρ[i]? = some (some x) → ∃ y, σ[i]? = some (some y) ∧ RV μ H x y
  | [], _, _, _, _, e => by simp at e
  | _ :: _, _, 0, x, ⟨v, r, h1, h2, h3⟩, e => by
    simp at e
    obtain ⟨y, q1, q2⟩ := h2 x e
    exact ⟨y, by rw [h1]; simp [q1], q2⟩
  | _ :: _, _, i + 1, _, ⟨v, r, h1, h2, h3⟩, e => by
    obtain ⟨y, q1, q2⟩ := RE.get (i := i) h3 (by simpa using e)
    exact ⟨y, by rw [h1]; simpa using q1, q2⟩
theorem RE.set {μ : Mu} {H : Hp} {x : CV} {y : V} (hv : RV μ H x y) : ∀ {ρ : CEnv} {σ : L2.St} (i : Nat), RE μ H ρ σ → RE μ H (ρ.set i (some x)) (σ.set i (some y))
  | [], _, _, h => by rw [show _ = [] from h]; exact rfl
  | _ :: _, _, 0, ⟨v, r, h1, h2, h3⟩ => by rw [h1]; exact ⟨some y, r, rfl, (fun z q => ⟨y, rfl, by cases q; exact hv⟩), h3⟩
  | _ :: _, _, i + 1, ⟨v, r, h1, h2, h3⟩ => by rw [h1]; exact ⟨v, _, rfl, h2, RE.set hv i h3⟩
/-- a slot is forgotten -/
theorem RE.forget {μ : Mu} {H : Hp} {y : Option V} : ∀ {ρ : CEnv} {σ : L2.St} (i : Nat), RE μ H ρ σ → RE μ H (ρ.set i none) (σ.set i y)
  | [], _, _, h => by rw [show _ = [] from h]; exact rfl
  | _ :: _, _, 0, ⟨v, r, h1, h2, h3⟩ => by rw [h1]; exact ⟨y, r, rfl, (fun z q => by cases q), h3⟩
  | _ :: _, _, i + 1, ⟨v, r, h1, h2, h3⟩ => by rw [h1]; exact ⟨v, _, rfl, h2, RE.forget i h3⟩
theorem RE.length {μ : Mu} {H : Hp} : ∀ {ρ : CEnv} {σ : L2.St}, RE μ H ρ σ → σ.length = ρ.length
  | [], _, h => by rw [show _ = [] from h]; rfl
  | _ :: _, _, ⟨v, r, h1, _, h3⟩ => by rw [h1, List.length_cons, List.length_cons, RE.length h3]

/-! ### readings -/
/-- what stands for an exception in flight -/
def KE (G : Cfg) (μ : Mu) (H : Hp) (e : CE) (cls : Value) (d : Option Addr) : Prop :=
  ∃ A vs, G.cl e.cls = some A ∧ cls = .ref A ∧ RF μ H e.fs vs ∧ ((e.fs = [] ∧ d = none) ∨ ∃ dx, d = some dx ∧ H dx = some (.xd vs))
def PX (G : Cfg) (W : WX) (μ : Mu) (H : Hp) (σ : L2.St) (e : CE) (c : CS) : Prop := ∀ μ' H' cls d, Ext μ H μ' H' → Rl G μ' c H' → KE G μ' H' e cls d → W cls d σ H'
def PV (G : Cfg) (Q : VK) (μ : Mu) (H : Hp) (x : CV) (c : CS) : Prop := ∀ μ' H' v, Ext μ H μ' H' → Rl G μ' c H' → RV μ' H' x v → Q v H'
def PB (G : Cfg) (Q : Bool → Hp → Prop) (μ : Mu) (H : Hp) (b : Bool) (c : CS) : Prop := ∀ μ' H', Ext μ H μ' H' → Rl G μ' c H' → Q b H'
def PVs (G : Cfg) (Q : List V → Hp → Prop) (μ : Mu) (H : Hp) (xs : List CV) (c : CS) : Prop := ∀ μ' H' vs, Ext μ H μ' H' → Rl G μ' c H' → RVs μ' H' xs vs → Q vs H'
theorem PX.ext {G : Cfg} {W : WX} {μ μ' : Mu} {H H' : Hp} {σ : L2.St} {e : CE} {c : CS} (h : PX G W μ H σ e c) (x : Ext μ H μ' H') : PX G W μ' H' σ e c := fun _ _ _ _ y => h _ _ _ _ (x.trans y)
theorem PV.ext {G : Cfg} {Q : VK} {μ μ' : Mu} {H H' : Hp} {x : CV} {c : CS} (h : PV G Q μ H x c) (e : Ext μ H μ' H') : PV G Q μ' H' x c := fun _ _ _ y => h _ _ _ (e.trans y)
theorem PB.ext {G : Cfg} {Q : Bool → Hp → Prop} {μ μ' : Mu} {H H' : Hp} {x : Bool} {c : CS} (h : PB G Q μ H x c) (e : Ext μ H μ' H') : PB G Q μ' H' x c := fun _ _ y => h _ _ (e.trans y)
theorem PVs.ext {G : Cfg} {Q : List V → Hp → Prop} {μ μ' : Mu} {H H' : Hp} {x : List CV} {c : CS} (h : PVs G Q μ H x c) (e : Ext μ H μ' H') : PVs G Q μ' H' x c := fun _ _ _ y => h _ _ _ (e.trans y)
def rE (G : Cfg) (W : WX) (m : ME) : TE := fun σ H Q => ∃ μ ρ c, Rl G μ c H ∧ RE μ H ρ σ ∧ Rok (m ρ c) (PX G W μ H σ) (PV G Q μ H)
def rT (G : Cfg) (W : WX) (m : MT) : TT := fun σ H Q => ∃ μ ρ c, Rl G μ c H ∧ RE μ H ρ σ ∧ Rok (m ρ c) (PX G W μ H σ) (PB G Q μ H)
def rA (G : Cfg) (W : WX) (m : MA) : TA := fun σ H Q => ∃ μ ρ c, Rl G μ c H ∧ RE μ H ρ σ ∧ Rok (m ρ c) (PX G W μ H σ) (PVs G Q μ H)
def RSok (r : RS) (nx : CEnv → CS → Prop) (ret : CV → CS → Prop) (bk ct : CEnv → CS → Prop) (X : CE → CEnv → CS → Prop) : Prop := match r with
  | .nx ρ c => nx ρ c
  | .ret v c => ret v c
  | .bk ρ c => bk ρ c
  | .ct ρ c => ct ρ c
  | .exc e ρ c => X e ρ c
  | .stuck => False
def PN (G : Cfg) (P : L2.St → Hp → Prop) (μ : Mu) (H : Hp) (ρ : CEnv) (c : CS) : Prop := ∀ μ' H' σ, Ext μ H μ' H' → Rl G μ' c H' → RE μ' H' ρ σ → P σ H'
def PXS (G : Cfg) (W : WX) (μ : Mu) (H : Hp) (e : CE) (ρ : CEnv) (c : CS) : Prop := ∀ μ' H' σ cls d, Ext μ H μ' H' → Rl G μ' c H' → RE μ' H' ρ σ → KE G μ' H' e cls d → W cls d σ H'
theorem PN.ext {G : Cfg} {P : L2.St → Hp → Prop} {μ μ' : Mu} {H H' : Hp} {ρ : CEnv} {c : CS} (h : PN G P μ H ρ c) (e : Ext μ H μ' H') : PN G P μ' H' ρ c := fun _ _ _ y => h _ _ _ (e.trans y)
theorem PXS.ext {G : Cfg} {W : WX} {μ μ' : Mu} {H H' : Hp} {e : CE} {ρ : CEnv} {c : CS} (h : PXS G W μ H e ρ c) (x : Ext μ H μ' H') : PXS G W μ' H' e ρ c := fun _ _ _ _ _ y => h _ _ _ _ _ (x.trans y)
abbrev RSat (G : Cfg) (W : WX) (D : Ends) (μ : Mu) (H : Hp) (r : RS) : Prop := RSok r (PN G D.nx μ H) (PV G D.rt μ H) (PN G D.bk μ H) (PN G D.ct μ H) (PXS G W μ H)
theorem RSat.ext {G : Cfg} {W : WX} {D : Ends} {μ μ' : Mu} {H H' : Hp} {r : RS} (h : RSat G W D μ H r) (e : Ext μ H μ' H') : RSat G W D μ' H' r := by
  cases r with
  | nx ρ c => exact PN.ext h e
  | ret v c => exact PV.ext h e
  | bk ρ c => exact PN.ext h e
  | ct ρ c => exact PN.ext h e
  | exc x ρ c => exact PXS.ext h e
  | stuck => exact h
def rS (G : Cfg) (W : WX) (m : MS) : TS := fun D σ H => ∃ μ ρ c, Rl G μ c H ∧ RE μ H ρ σ ∧ RSat G W D μ H (m ρ c)

theorem Rok.e {α : Type} {G : Cfg} {W : WX} {μ μ' : Mu} {H H' : Hp} {σ : L2.St} {r : R α} {P P' : α → CS → Prop} (h : Rok r (PX G W μ H σ) P) (e : Ext μ H μ' H') (hp : ∀ a c, P a c → P' a c) : Rok r (PX G W μ' H' σ) P' :=
  h.mono (fun _ _ q => PX.ext q e) hp
end PM

/-! PM: expressions: names, constants, operators, tests. -/
namespace PM
open PySem PySem.Spec PyProof.Rows L2

section
variable {X : Cx} {G : Cfg} {W : WX} {e a b : Expr} {pos : Pos}
theorem PEimp {t t' : TE} (h : PE X e t) (i : ∀ pins s σ H Q, Inv X pins σ H s → t' σ H Q → t σ H Q) : PE X e t' := ⟨fun pins s σ H Q I q => h.run pins s σ H Q I (i pins s σ H Q I q)⟩
theorem PTimp {t t' : TT} (h : PT X e t) (i : ∀ pins s σ H Q, Inv X pins σ H s → t' σ H Q → t σ H Q) : PT X e t' := ⟨fun pins s σ H Q I q => h.run pins s σ H Q I (i pins s σ H Q I q)⟩
theorem PWimp {t t' : TT} (h : PW X e t) (i : ∀ pins s σ H Q, Inv X pins σ H s → t' σ H Q → t σ H Q) : PW X e t' := ⟨fun w pins s σ H Q I q => h.run w pins s σ H Q I (i pins s σ H Q I q)⟩
theorem PAimp {es : List Expr} {t t' : TA} (h : PA X es t) (i : ∀ pins s σ H Q, Inv X pins σ H s → t' σ H Q → t σ H Q) : PA X es t' := ⟨fun p pins s σ H Q I q => h.run p pins s σ H Q I (i pins s σ H Q I q)⟩
theorem PSimp {st : Stmt} {t t' : TS} (h : PS X st t) (i : ∀ pins s σ H D, Inv X pins σ H s → t' D σ H → t D σ H) : PS X st t' := ⟨fun pins s σ H D I q => h.run pins s σ H D I (i pins s σ H D I q)⟩
theorem PSsimp {st : List Stmt} {t t' : TS} (h : PSs X st t) (i : ∀ pins s σ H D, Inv X pins σ H s → t' D σ H → t D σ H) : PSs X st t' := ⟨fun pins s σ H D I q => h.run pins s σ H D I (i pins s σ H D I q)⟩

/-! ### names, constants -/
def mVar (i : Nat) : ME := fun ρ c => match ρ[i]? with
  | some (some v) => .ok v c
  | _ => .stuck
theorem ce_var {i : Nat} (h : PE X e (tVar i)) : PE X e (rE G W (mVar i)) := PEimp h fun pins s σ H Q I ⟨μ, ρ, c, hl, he, q⟩ => by
  unfold mVar at q
  split at q
  · rename_i v hv
    obtain ⟨y, h1, h2⟩ := he.get hv
    exact ⟨y, h1, q μ H y .refl hl h2⟩
  · exact False.elim q
def mC (v : CV) : ME := fun _ c => .ok v c
theorem ce_c {v : CV} {v' : V} (hv : ∀ μ H, RV μ H v v') (h : PE X e (tC v')) : PE X e (rE G W (mC v)) := PEimp h fun pins s σ H Q I ⟨μ, ρ, c, hl, he, q⟩ => q μ H v' .refl hl (hv μ H)
theorem ce_int {i j} : PE X (.Constant (.int i) j pos) (rE G W (mC (.int i))) := ce_c (fun _ _ => rfl) pe_int
theorem ce_bl {i j} : PE X (.Constant (.bool i) j pos) (rE G W (mC (.bl i))) := ce_c (fun _ _ => rfl) pe_bl
theorem ce_non {j} : PE X (.Constant .none j pos) (rE G W (mC .non)) := ce_c (fun _ _ => rfl) pe_non
theorem ce_str {i j} : PE X (.Constant (.str i) j pos) (rE G W (mC (.str i))) := ce_c (fun _ _ => rfl) pe_str

/-! ### operators -/
abbrev O1 := CV → CS → Option (CV × CS)
abbrev O2 := CV → CV → CS → Option (CV × CS)
abbrev OC := List CV → CS → Option (CV × CS)
def lift {α : Type} : Option (α × CS) → R α
  | some p => .ok p.1 p.2
  | none => .stuck
@[simp] theorem lift_some {α : Type} (a : α) (c : CS) : lift (some (a, c)) = .ok a c := rfl
@[simp] theorem lift_none {α : Type} : (lift none : R α) = .stuck := rfl
theorem Rok.lift {α : Type} {o : Option (α × CS)} {Y : CE → CS → Prop} {P : α → CS → Prop} (h : Rok (lift o) Y P) : ∃ a c, o = some (a, c) ∧ P a c := by
  cases o with
  | none => exact False.elim h
  | some p => exact ⟨p.1, p.2, rfl, h⟩
def mOp (f : O2) (ma mb : ME) : ME := fun ρ c => (ma ρ c).bind fun x c1 => (mb ρ c1).bind fun y c2 => lift (f x y c2)
def mUn (f : O1) (ma : ME) : ME := fun ρ c => (ma ρ c).bind fun x c1 => lift (f x c1)
def rOp (G : Cfg) (f : O2) : R2 := fun x y H Q => ∃ μ c a d z c', Rl G μ c H ∧ RV μ H a x ∧ RV μ H d y ∧ f a d c = some (z, c') ∧ PV G Q μ H z c'
def rUn (G : Cfg) (f : O1) : V → Hp → VK → Prop := fun x H Q => ∃ μ c a z c', Rl G μ c H ∧ RV μ H a x ∧ f a c = some (z, c') ∧ PV G Q μ H z c'
theorem rE_op {f : O2} {ma mb : ME} {σ : L2.St} {H : Hp} {Q : VK} (h : rE G W (mOp f ma mb) σ H Q) : tOp (rOp G f) (rE G W ma) (rE G W mb) σ H Q := by
  obtain ⟨μ, ρ, c, hl, he, q⟩ := h
  refine ⟨μ, ρ, c, hl, he, (Rok.bind q).mono (fun _ _ h => h) fun x c1 q1 μ1 H1 v1 e1 l1 r1 => ?_⟩
  refine ⟨μ1, ρ, c1, l1, he.ext e1, (Rok.bind q1).e e1 fun y c2 q2 μ2 H2 v2 e2 l2 r2 => ?_⟩
  obtain ⟨z, c3, hz, q3⟩ := q2.lift
  exact ⟨μ2, c2, x, y, z, c3, l2, r1.ext e2, r2, hz, PV.ext q3 (e1.trans e2)⟩
theorem ce_op {op : Operator} {f : O2} {ma mb : ME} (ho : OpR X (binaryOp op) (rOp G f)) (ha : PE X a (rE G W ma)) (hb : PE X b (rE G W mb)) : PE X (.BinOp a op b pos) (rE G W (mOp f ma mb)) :=
  PEimp (pe_op ho ha hb) fun _ _ _ _ _ _ q => rE_op q
theorem ce_un {op : UnaryOp} {f : O1} {ma : ME} (ho : UnR X (unaryOp op) (rUn G f)) (ha : PE X a (rE G W ma)) : PE X (.UnaryOp op a pos) (rE G W (mUn f ma)) :=
  PEimp (pe_un ho ha) fun _ _ σ H Q _ ⟨μ, ρ, c, hl, he, q⟩ => ⟨μ, ρ, c, hl, he, (Rok.bind q).mono (fun _ _ h => h) fun x c1 q1 μ1 H1 v1 e1 l1 r1 => by
    obtain ⟨z, c3, hz, q3⟩ := q1.lift
    exact ⟨μ1, c1, x, z, c3, l1, r1, hz, PV.ext q3 e1⟩⟩
theorem ce_cmp {op : CmpOp} {f : O2} {ma mb : ME} (ho : OpR X (compareOp op) (rOp G f)) (ha : PE X a (rE G W ma)) (hb : PE X b (rE G W mb)) (hm : behindInMarks op b = false) : PE X (.Compare a [op] [b] pos) (rE G W (mOp f ma mb)) :=
  PEimp (pe_cmpR ho ha hb hm) fun _ _ _ _ _ _ q => rE_op q
/-- a comparison's bool as a test -/
def mT (m : ME) : MT := fun ρ c => (m ρ c).bind fun v c1 => match v with
  | .bl k => .ok k c1
  | _ => .stuck
theorem rT_to {m : ME} {σ : L2.St} {H : Hp} {Q : Bool → Hp → Prop} (h : rT G W (mT m) σ H Q) : rE G W m σ H fun x H' => ∃ k, x = .bl k ∧ Q k H' := by
  obtain ⟨μ, ρ, c, hl, he, q⟩ := h
  refine ⟨μ, ρ, c, hl, he, (Rok.bind q).mono (fun _ _ h => h) fun x c1 q1 μ1 H1 v1 e1 l1 r1 => ?_⟩
  cases x with
  | bl k => exact ⟨k, r1, q1 μ1 H1 e1 l1⟩
  | _ => exact False.elim q1
theorem ct_cmp {op : CmpOp} {f : O2} {ma mb : ME} (ho : OpR X (compareOp op) (rOp G f)) (ha : PE X a (rE G W ma)) (hb : PE X b (rE G W mb)) (hm : behindInMarks op b = false) : PT X (.Compare a [op] [b] pos) (rT G W (mT (mOp f ma mb))) :=
  PTimp (pt_cmpR ho ha hb hm) fun _ _ _ _ _ _ q => rE_op (rT_to q)
/-- a op b op' c -/
def mChain (f g : O2) (ma mb mc : ME) : ME := fun ρ c => (ma ρ c).bind fun x c1 => (mb ρ c1).bind fun y c2 => (lift (f x y c2)).bind fun z c3 => match z with
  | .bl true => (mc ρ c3).bind fun w c4 => lift (g y w c4)
  | .bl false => .ok (.bl false) c3
  | _ => .stuck
theorem rE_chain {f g : O2} {ma mb mc : ME} {σ : L2.St} {H : Hp} {Q : VK} (h : rE G W (mChain f g ma mb mc) σ H Q) : tChain (rOp G f) (rOp G g) (rE G W ma) (rE G W mb) (rE G W mc) σ H Q := by
  obtain ⟨μ, ρ, c, hl, he, q⟩ := h
  refine ⟨μ, ρ, c, hl, he, (Rok.bind q).mono (fun _ _ h => h) fun x c1 q1 μ1 H1 v1 e1 l1 r1 => ?_⟩
  refine ⟨μ1, ρ, c1, l1, he.ext e1, (Rok.bind q1).e e1 fun y c2 q2 μ2 H2 v2 e2 l2 r2 => ?_⟩
  obtain ⟨z, c3, hz, q3⟩ := (Rok.bind q2).lift
  refine ⟨μ2, c2, x, y, z, c3, l2, r1.ext e2, r2, hz, fun μ3 H3 v3 e3 l3 r3 => ?_⟩
  have e13 := (e1.trans e2).trans e3
  cases z with
  | bl k =>
    refine ⟨k, r3, ?_⟩
    cases k with
    | false => rw [if_neg Bool.false_ne_true]; exact q3 μ3 H3 _ e13 l3 rfl
    | true =>
      rw [if_pos rfl]
      refine ⟨μ3, ρ, c3, l3, he.ext e13, (Rok.bind q3).e e13 fun w c4 q4 μ4 H4 v4 e4 l4 r4 => ?_⟩
      obtain ⟨u, c5, hu, q5⟩ := q4.lift
      exact ⟨μ4, c4, y, w, u, c5, l4, (r2.ext e3).ext e4, r4, hu, PV.ext q5 (e13.trans e4)⟩
  | _ => exact False.elim q3
theorem ce_chain {op op' : CmpOp} {f g : O2} {ma mb mc : ME} {c : Expr} (ho : OpR X (compareOp op) (rOp G f)) (ho' : OpR X (compareOp op') (rOp G g)) (ha : PE X a (rE G W ma)) (hb : PE X b (rE G W mb)) (hc : PE X c (rE G W mc))
    (hm : lastMarks [op, op'] [b, c] = false := by with_unfolding_all rfl) : PE X (.Compare a [op, op'] [b, c] pos) (rE G W (mChain f g ma mb mc)) := PEimp (pe_chain ho ho' ha hb hc hm) fun _ _ _ _ _ _ q => rE_chain q
theorem ct_chain {op op' : CmpOp} {f g : O2} {ma mb mc : ME} {c : Expr} (ho : OpR X (compareOp op) (rOp G f)) (ho' : OpR X (compareOp op') (rOp G g)) (ha : PE X a (rE G W ma)) (hb : PE X b (rE G W mb)) (hc : PE X c (rE G W mc))
    (hm : lastMarks [op, op'] [b, c] = false := by with_unfolding_all rfl) : PT X (.Compare a [op, op'] [b, c] pos) (rT G W (mT (mChain f g ma mb mc))) := PTimp (pt_chain ho ho' ha hb hc hm) fun _ _ _ _ _ _ q => rE_chain (rT_to q)

/-! ### truth -/
def vTruth : CV → CS → Option Bool
  | .non, _ => some false
  | .bl b, _ => some b
  | .int i, _ => some (i != 0)
  | .str x, _ => if x.length ≤ sizeLine then some ((x.length : Int) != 0) else none
  | .tup xs, _ => some (!xs.isEmpty)
  | .ref n, c => match c.obj n with
    | .lst xs => some (!xs.isEmpty)
    | .rol xs => some (!xs.isEmpty)
    | _ => none
theorem RVs.isEmpty {μ : Mu} {H : Hp} : ∀ {xs : List CV} {vs : List V}, RVs μ H xs vs → vs.isEmpty = xs.isEmpty
  | [], _, h => by rw [show _ = [] from h] <;> rfl
  | _ :: _, _, ⟨v, r, h1, _, _⟩ => by rw [h1]; rfl
theorem truV_of {K : PySem.W.Frag} {μ : Mu} {c : CS} {H : Hp} (hl : Rl G μ c H) : ∀ {x : CV} {v : V} {k : Bool}, RV μ H x v → vTruth x c = some k → TruV K v H k
  | .non, _, k, h, q => by rw [show _ = V.non from h]; exact (Option.some.inj q).symm
  | .bl b, _, k, h, q => by rw [show _ = V.bl b from h]; exact (Option.some.inj q).symm
  | .int i, _, k, h, q => by rw [show _ = V.int i from h]; exact (Option.some.inj q).symm
  | .str x, _, k, h, q => by
    rw [show _ = V.str x from h]
    rw [vTruth] at q
    by_cases hz : x.length ≤ sizeLine
    · rw [if_pos hz] at q; exact ⟨hz, (Option.some.inj q).symm⟩
    · rw [if_neg hz] at q; cases q
  | .tup xs, _, k, ⟨a, vs, h1, h2, h3⟩, q => by
    rw [h1]
    exact .inr (.inl ⟨vs, SqT.of h2, by rw [h3.isEmpty]; exact (Option.some.inj q).symm⟩)
  | .ref n, _, k, ⟨a, h1, h2⟩, q => by
    rw [h2]
    rw [vTruth] at q
    have ro := hl.obj n a h1
    cases ho : c.obj n with
    | lst xs =>
      rw [ho] at ro q
      obtain ⟨vs, r1, r2⟩ := ro
      exact .inl ⟨vs, SqL.of r2, by rw [r1.isEmpty]; exact (Option.some.inj q).symm⟩
    | rol xs =>
      rw [ho] at ro q
      obtain ⟨vs, o, r1, r2⟩ := ro
      exact .inl ⟨vs, .inl (.inr ⟨o, r2⟩), by rw [r1.isEmpty]; exact (Option.some.inj q).symm⟩
    | _ => rw [ho] at q; cases q
def mTr (m : ME) : MT := fun ρ c => (m ρ c).bind fun v c1 => match vTruth v c1 with
  | some k => .ok k c1
  | none => .stuck
theorem ct_truth {m : ME} (h : PE X e (rE G W m)) (he : ∀ whole, isTrue e X.env whole = (do let v ← whole; standAt e.pos; holding [v] (truthy v)) := by intro _; rfl) : PT X e (rT G W (mTr m)) :=
  PTimp (pt_truth h he) fun _ _ σ H Q _ ⟨μ, ρ, c, hl, he, q⟩ => ⟨μ, ρ, c, hl, he, (Rok.bind q).mono (fun _ _ h => h) fun x c1 q1 μ1 H1 v1 e1 l1 r1 => by
    cases hk : vTruth x c1 with
    | none => rw [hk] at q1; exact False.elim q1
    | some k => rw [hk] at q1; exact ⟨k, truV_of l1 r1 hk, q1 μ1 H1 e1 l1⟩⟩
def mAnd (a b : MT) : MT := fun ρ c => (a ρ c).bind fun k c1 => if k = true then b ρ c1 else .ok false c1
def mOr (a b : MT) : MT := fun ρ c => (a ρ c).bind fun k c1 => if k = true then .ok true c1 else b ρ c1
def mNot (a : MT) : MT := fun ρ c => (a ρ c).bind fun k c1 => .ok (!k) c1
variable {rest : List Expr} {ta tb : MT}
theorem cw_and (ha : PT X a (rT G W ta)) (hb : PW X (.BoolOp .And (b :: rest) pos) (rT G W tb)) : PW X (.BoolOp .And (a :: b :: rest) pos) (rT G W (mAnd ta tb)) :=
  PWimp (pw_and ha hb) fun _ _ σ H Q _ ⟨μ, ρ, c, hl, he, q⟩ => ⟨μ, ρ, c, hl, he, (Rok.bind q).mono (fun _ _ h => h) fun k c1 q1 μ1 H1 e1 l1 => by
    cases k with
    | true => rw [if_pos rfl] at q1 ⊢; exact ⟨μ1, ρ, c1, l1, he.ext e1, q1.e e1 fun _ _ z => PB.ext z e1⟩
    | false => rw [if_neg Bool.false_ne_true] at q1 ⊢; exact q1 μ1 H1 e1 l1⟩
theorem cw_or (ha : PT X a (rT G W ta)) (hb : PW X (.BoolOp .Or (b :: rest) pos) (rT G W tb)) : PW X (.BoolOp .Or (a :: b :: rest) pos) (rT G W (mOr ta tb)) :=
  PWimp (pw_or ha hb) fun _ _ σ H Q _ ⟨μ, ρ, c, hl, he, q⟩ => ⟨μ, ρ, c, hl, he, (Rok.bind q).mono (fun _ _ h => h) fun k c1 q1 μ1 H1 e1 l1 => by
    cases k with
    | false => rw [if_neg Bool.false_ne_true] at q1 ⊢; exact ⟨μ1, ρ, c1, l1, he.ext e1, q1.e e1 fun _ _ z => PB.ext z e1⟩
    | true => rw [if_pos rfl] at q1 ⊢; exact q1 μ1 H1 e1 l1⟩
theorem ct_not (ha : PT X a (rT G W ta)) : PT X (.UnaryOp .Not a pos) (rT G W (mNot ta)) :=
  PTimp (pt_not ha) fun _ _ σ H Q _ ⟨μ, ρ, c, hl, he, q⟩ => ⟨μ, ρ, c, hl, he, (Rok.bind q).mono (fun _ _ h => h) fun k c1 q1 μ1 H1 e1 l1 => q1 μ1 H1 e1 l1⟩
/-! .. as values -/
def mAndV (a b : ME) : ME := fun ρ c => (a ρ c).bind fun x c1 => match vTruth x c1 with
  | some true => b ρ c1
  | some false => .ok x c1
  | none => .stuck
def mOrV (a b : ME) : ME := fun ρ c => (a ρ c).bind fun x c1 => match vTruth x c1 with
  | some true => .ok x c1
  | some false => b ρ c1
  | none => .stuck
def mNotV (a : ME) : ME := fun ρ c => (a ρ c).bind fun x c1 => match vTruth x c1 with
  | some k => .ok (.bl (!k)) c1
  | none => .stuck
variable {ma mb : ME}
theorem ce_one {op} (h : PE X a (rE G W ma)) : PE X (.BoolOp op [a] pos) (rE G W ma) := pe_one h
theorem ce_and (ha : PE X a (rE G W ma)) (hb : PE X (.BoolOp .And (b :: rest) pos) (rE G W mb)) : PE X (.BoolOp .And (a :: b :: rest) pos) (rE G W (mAndV ma mb)) :=
  PEimp (pe_andT ha hb) fun _ _ σ H Q _ ⟨μ, ρ, c, hl, he, q⟩ => ⟨μ, ρ, c, hl, he, (Rok.bind q).mono (fun _ _ h => h) fun x c1 q1 μ1 H1 v1 e1 l1 r1 => by
    cases hk : vTruth x c1 with
    | none => rw [hk] at q1; exact False.elim q1
    | some k =>
      rw [hk] at q1
      refine ⟨k, truV_of l1 r1 hk, ?_⟩
      cases k with
      | true => rw [if_pos rfl]; exact ⟨μ1, ρ, c1, l1, he.ext e1, q1.e e1 fun _ _ z => PV.ext z e1⟩
      | false => rw [if_neg Bool.false_ne_true]; exact q1 μ1 H1 v1 e1 l1 r1⟩
theorem ce_or (ha : PE X a (rE G W ma)) (hb : PE X (.BoolOp .Or (b :: rest) pos) (rE G W mb)) : PE X (.BoolOp .Or (a :: b :: rest) pos) (rE G W (mOrV ma mb)) :=
  PEimp (pe_orT ha hb) fun _ _ σ H Q _ ⟨μ, ρ, c, hl, he, q⟩ => ⟨μ, ρ, c, hl, he, (Rok.bind q).mono (fun _ _ h => h) fun x c1 q1 μ1 H1 v1 e1 l1 r1 => by
    cases hk : vTruth x c1 with
    | none => rw [hk] at q1; exact False.elim q1
    | some k =>
      rw [hk] at q1
      refine ⟨k, truV_of l1 r1 hk, ?_⟩
      cases k with
      | false => rw [if_neg Bool.false_ne_true]; exact ⟨μ1, ρ, c1, l1, he.ext e1, q1.e e1 fun _ _ z => PV.ext z e1⟩
      | true => rw [if_pos rfl]; exact q1 μ1 H1 v1 e1 l1 r1⟩
theorem ce_not (ha : PE X a (rE G W ma)) : PE X (.UnaryOp .Not a pos) (rE G W (mNotV ma)) :=
  PEimp (pe_notT ha) fun _ _ σ H Q _ ⟨μ, ρ, c, hl, he, q⟩ => ⟨μ, ρ, c, hl, he, (Rok.bind q).mono (fun _ _ h => h) fun x c1 q1 μ1 H1 v1 e1 l1 r1 => by
    cases hk : vTruth x c1 with
    | none => rw [hk] at q1; exact False.elim q1
    | some k => rw [hk] at q1; exact ⟨k, truV_of l1 r1 hk, q1 μ1 H1 (.bl (!k)) e1 l1 rfl⟩⟩
def mIf (t : MT) (a b : ME) : ME := fun ρ c => (t ρ c).bind fun k c1 => if k = true then a ρ c1 else b ρ c1
theorem ce_if {c : Expr} {mt : MT} (hc : PT X c (rT G W mt)) (ha : PE X a (rE G W ma)) (hb : PE X b (rE G W mb)) : PE X (.IfExp c a b pos) (rE G W (mIf mt ma mb)) :=
  PEimp (pe_ifExp hc ha hb) fun _ _ σ H Q _ ⟨μ, ρ, c, hl, he, q⟩ => ⟨μ, ρ, c, hl, he, (Rok.bind q).mono (fun _ _ h => h) fun k c1 q1 μ1 H1 e1 l1 => by
    cases k with
    | true => rw [if_pos rfl] at q1 ⊢; exact ⟨μ1, ρ, c1, l1, he.ext e1, q1.e e1 fun _ _ z => PV.ext z e1⟩
    | false => rw [if_neg Bool.false_ne_true] at q1 ⊢; exact ⟨μ1, ρ, c1, l1, he.ext e1, q1.e e1 fun _ _ z => PV.ext z e1⟩⟩

/-! ### argument lists, displays -/
def mNil : MA := fun _ c => .ok [] c
def mCons (a : ME) (r : MA) : MA := fun ρ c => (a ρ c).bind fun x c1 => (r ρ c1).bind fun xs c2 => .ok (x :: xs) c2
variable {es : List Expr} {ms : MA}
theorem ca_nil : PA X [] (rA G W mNil) := PAimp pa_nil fun _ _ σ H Q _ ⟨μ, ρ, c, hl, he, q⟩ => q μ H [] .refl hl rfl
theorem ca_cons (ha : PE X a (rE G W ma)) (hr : PA X es (rA G W ms)) (hs : starEach (a :: es) X.env = (false, eval a X.env) :: starEach es X.env := by rfl) : PA X (a :: es) (rA G W (mCons ma ms)) :=
  PAimp (pa_cons ha hr hs) fun _ _ σ H Q _ ⟨μ, ρ, c, hl, he, q⟩ => ⟨μ, ρ, c, hl, he, (Rok.bind q).mono (fun _ _ h => h) fun x c1 q1 μ1 H1 v1 e1 l1 r1 =>
    ⟨μ1, ρ, c1, l1, he.ext e1, (Rok.bind q1).e e1 fun xs c2 q2 μ2 H2 vs e2 l2 r2 => q2 μ2 H2 (v1 :: vs) (e1.trans e2) l2 (.cons (r1.ext e2) r2)⟩⟩
def mTup (m : MA) : ME := fun ρ c => (m ρ c).bind fun xs c1 => if xs.length ≤ sizeLine then .ok (.tup xs) c1 else .stuck
def mLst (m : MA) : ME := fun ρ c => (m ρ c).bind fun xs c1 => if xs.length ≤ sizeLine then .ok (.ref c1.next) (c1.new (.lst xs)) else .stuck
theorem new_tup {μ : Mu} {c : CS} {H : Hp} {p : Addr} {xs : List CV} {vs : List V} (hl : Rl G μ c H) (r : RVs μ H xs vs) (hp : H p = none) : Ext μ H μ (upd H p (.tup vs)) ∧ Rl G μ c (upd H p (.tup vs)) ∧ RV μ (upd H p (.tup vs)) (.tup xs) (.ref p) :=
  ⟨ext_new hp, hl.laid hp, p, vs, rfl, upd_same, r.ext (ext_new hp)⟩
theorem new_lst {μ : Mu} {c : CS} {H : Hp} {p : Addr} {xs : List CV} {vs : List V} (hl : Rl G μ c H) (r : RVs μ H xs vs) (hp : H p = none) :
    ∃ μ', Ext μ H μ' (upd H p (.lst vs)) ∧ Rl G μ' (c.new (.lst xs)) (upd H p (.lst vs)) ∧ RV μ' (upd H p (.lst vs)) (.ref c.next) (.ref p) := by
  obtain ⟨h1, h2, h3⟩ := hl.new (co := .lst xs) (o := .lst vs) hp fun μ' x => ⟨vs, r.ext x, upd_same⟩
  exact ⟨_, h1, h2, p, h3, rfl⟩
theorem ce_tup {x1} (h : PA X es (rA G W ms)) : PE X (.Tuple es x1 pos) (rE G W (mTup ms)) :=
  PEimp (pe_tup h) fun _ _ σ H Q _ ⟨μ, ρ, c, hl, he, q⟩ => ⟨μ, ρ, c, hl, he, (Rok.bind q).mono (fun _ _ h => h) fun xs c1 q1 μ1 H1 vs e1 l1 r1 => by
    by_cases hz : xs.length ≤ sizeLine
    · rw [if_pos hz] at q1
      refine ⟨by rw [r1.length]; exact hz, fun p hp => ?_⟩
      obtain ⟨e2, l2, r2⟩ := new_tup l1 r1 hp
      exact q1 _ _ _ (e1.trans e2) l2 r2
    · rw [if_neg hz] at q1; exact False.elim q1⟩
theorem ce_lst (h : PA X es (rA G W ms)) : PE X (.List es pos) (rE G W (mLst ms)) :=
  PEimp (pe_lst h) fun _ _ σ H Q _ ⟨μ, ρ, c, hl, he, q⟩ => ⟨μ, ρ, c, hl, he, (Rok.bind q).mono (fun _ _ h => h) fun xs c1 q1 μ1 H1 vs e1 l1 r1 => by
    by_cases hz : xs.length ≤ sizeLine
    · rw [if_pos hz] at q1
      refine ⟨by rw [r1.length]; exact hz, fun p hp => ?_⟩
      obtain ⟨μ2, e2, l2, r2⟩ := new_lst l1 r1 hp
      exact q1 _ _ _ (e1.trans e2) l2 r2
    · rw [if_neg hz] at q1; exact False.elim q1⟩

/-! ### calls of built-ins by values -/
def rC (G : Cfg) (f : OC) : List V → Hp → VK → Prop := fun vs H Q => ∃ μ c xs z c', Rl G μ c H ∧ RVs μ H xs vs ∧ f xs c = some (z, c') ∧ PV G Q μ H z c'
def mCB (f : OC) (ms : MA) : ME := fun ρ c => (ms ρ c).bind fun xs c1 => lift (f xs c1)
theorem rE_cb {f : OC} {σ : L2.St} {H : Hp} {Q : VK} (h : rE G W (mCB f ms) σ H Q) : tCB (rC G f) (rA G W ms) σ H Q := by
  obtain ⟨μ, ρ, c, hl, he, q⟩ := h
  refine ⟨μ, ρ, c, hl, he, (Rok.bind q).mono (fun _ _ h => h) fun xs c1 q1 μ1 H1 vs e1 l1 r1 => ?_⟩
  obtain ⟨z, c3, hz, q3⟩ := q1.lift
  exact ⟨μ1, c1, xs, z, c3, l1, r1, hz, PV.ext q3 e1⟩
theorem ce_callB {f : OC} {id : String} {x : Str} {p : Pos} (hc : CallR X (.builtin id) (rC G f)) (hg : Gl X x) (hm : X.mg x = none) (hv : bootBuiltins x = some (.builtin id)) (ha : PA X (a :: es) (rA G W ms)) (hn : x ≠ "__name__" := by decide) (hdb : (x == ("__debug__" : Str)) = false := by decide)
    (he : starEach (a :: es) X.env = (false, eval a X.env) :: starEach es X.env := by rfl) (hpl : (backTo pos (starEach es X.env)).any (·.1) = false := by rfl) : PE X (.Call (.Name x p) (a :: es) [] pos) (rE G W (mCB f ms)) :=
  PEimp (pe_callB hc hg hm hv ha hn hdb he hpl) fun _ _ _ _ _ _ q => rE_cb q
theorem ce_callTy {f : OC} {T : String} {x : Str} {p : Pos} (hc : CallR X (.type T) (rC G f)) (hg : Gl X x) (hm : X.mg x = none) (hv : bootBuiltins x = some (.type T)) (ha : PA X (a :: es) (rA G W ms)) (hn : x ≠ "__name__" := by decide) (hdb : (x == ("__debug__" : Str)) = false := by decide)
    (he : starEach (a :: es) X.env = (false, eval a X.env) :: starEach es X.env := by rfl) (hpl : (backTo pos (starEach es X.env)).any (·.1) = false := by rfl) : PE X (.Call (.Name x p) (a :: es) [] pos) (rE G W (mCB f ms)) :=
  PEimp (pe_callTy hc hg hm hv ha hn hdb he hpl) fun _ _ _ _ _ _ q => rE_cb q
end
end PM

/-! PM: operators by values. -/
namespace PM
open PySem PySem.Spec PyProof.Rows L2

/-! ### data -/
def toDs (f : CV → Option PyData) : List CV → Option (List PyData)
  | [] => some []
  | x :: xs => (f x).bind fun d => (toDs f xs).bind fun ds => some (d :: ds)
def toD : Nat → CS → CV → Option PyData
  | _, _, .non => some .none
  | _, _, .bl b => some (.bool b)
  | _, _, .int i => some (.int i)
  | _, _, .str x => some (.str x)
  | 0, _, _ => none
  | k + 1, c, .tup xs => (toDs (toD k c) xs).bind fun ds => some (.tuple ds)
  | k + 1, c, .ref n => match c.obj n with
    | .lst xs => (toDs (toD k c) xs).bind fun ds => some (.list ds)
    | .rol xs => (toDs (toD k c) xs).bind fun ds => some (.list ds)
    | _ => none
section
variable {K : PySem.W.Frag} {G : Cfg} {μ : Mu} {c : CS} {H : Hp}
structure DOk (K : PySem.W.Frag) (H : Hp) (k : Nat) (v : V) (d : PyData) : Prop where
  dp : Dp K H v d
  plain : d.plain = true
  deep : d.depth ≤ k
theorem toDs_ok {f : CV → Option PyData} {k : Nat} (hf : ∀ x v d, RV μ H x v → f x = some d → DOk K H k v d) : ∀ {xs : List CV} {vs : List V} {ds : List PyData}, RVs μ H xs vs → toDs f xs = some ds →
    DpAll K H vs ds ∧ PyData.plainAll ds = true ∧ PyData.depthAll ds ≤ k
  | [], _, ds, h, q => by
    cases q
    rw [show _ = [] from h]
    exact ⟨.nil, rfl, Nat.zero_le _⟩
  | x :: xs, _, ds, ⟨v, r, h1, h2, h3⟩, q => by
    rw [toDs] at q
    cases e : f x with
    | none => rw [e] at q; cases q
    | some d =>
      rw [e] at q
      cases e2 : toDs f xs with
      | none => rw [e2] at q; cases q
      | some ds' =>
        rw [e2] at q
        cases q
        obtain ⟨a1, a2, a3⟩ := hf x v d h2 e
        obtain ⟨b1, b2, b3⟩ := toDs_ok hf h3 e2
        rw [h1]
        refine ⟨.cons a1 b1, ?_, ?_⟩
        · rw [PyData.plainAll, a2, b2]; rfl
        · rw [PyData.depthAll]; exact Nat.max_le.mpr ⟨a3, b3⟩
theorem toD_ok (hl : Rl G μ c H) : ∀ (k : Nat) (x : CV) (v : V) (d : PyData), RV μ H x v → toD k c x = some d → DOk K H k v d
  | k, .non, v, d, h, q => by cases k <;> (rw [toD] at q; cases q; rw [show v = _ from h]; exact ⟨.non, rfl, Nat.zero_le _⟩)
  | k, .bl b, v, d, h, q => by cases k <;> (rw [toD] at q; cases q; rw [show v = _ from h]; exact ⟨.bl b, rfl, Nat.zero_le _⟩)
  | k, .int i, v, d, h, q => by cases k <;> (rw [toD] at q; cases q; rw [show v = _ from h]; exact ⟨.int i, rfl, Nat.zero_le _⟩)
  | k, .str x, v, d, h, q => by cases k <;> (rw [toD] at q; cases q; rw [show v = _ from h]; exact ⟨.str x, rfl, Nat.zero_le _⟩)
  | 0, .tup xs, v, d, h, q => by rw [toD] at q <;> first | cases q | (intro z; cases z) | (intro _ z; cases z)
  | 0, .ref n, v, d, h, q => by rw [toD] at q <;> first | cases q | (intro z; cases z) | (intro _ z; cases z)
  | k + 1, .tup xs, v, d, ⟨a, vs, h1, h2, h3⟩, q => by
    rw [toD] at q
    cases e : toDs (toD k c) xs with
    | none => rw [e] at q; cases q
    | some ds =>
      rw [e] at q; cases q
      obtain ⟨a1, a2, a3⟩ := toDs_ok (toD_ok hl k) h3 e
      rw [h1]
      exact ⟨.tup (SqT.of h2) a1, a2, by rw [PyData.depth]; omega⟩
  | k + 1, .ref n, v, d, ⟨a, h1, h2⟩, q => by
    rw [toD] at q
    have ro := hl.obj n a h1
    cases ho : c.obj n with
    | lst xs =>
      rw [ho] at ro q
      obtain ⟨vs, r1, r2⟩ := ro
      replace q : (toDs (toD k c) xs).bind (fun ds => some (PyData.list ds)) = some d := q
      cases e : toDs (toD k c) xs with
      | none => rw [e] at q; cases q
      | some ds =>
        rw [e] at q; cases q
        obtain ⟨a1, a2, a3⟩ := toDs_ok (toD_ok hl k) r1 e
        rw [h2]
        exact ⟨.lst (SqL.of r2) a1, a2, by rw [PyData.depth]; omega⟩
    | rol xs =>
      rw [ho] at ro q
      obtain ⟨vs, o, r1, r2⟩ := ro
      replace q : (toDs (toD k c) xs).bind (fun ds => some (PyData.list ds)) = some d := q
      cases e : toDs (toD k c) xs with
      | none => rw [e] at q; cases q
      | some ds =>
        rw [e] at q; cases q
        obtain ⟨a1, a2, a3⟩ := toDs_ok (toD_ok hl k) r1 e
        rw [h2]
        exact ⟨.lst (.inl (.inr ⟨o, r2⟩)) a1, a2, by rw [PyData.depth]; omega⟩
    | _ => rw [ho] at q; cases q
end
/-- depth that is looked into -/
def dK : Nat := 40
def vEq : O2 := fun x y c => match toD dK c x, toD dK c y with
  | some d, some e => some (.bl (PyData.eqv d e), c)
  | _, _ => none
def vNe : O2 := fun x y c => match toD dK c x, toD dK c y with
  | some d, some e => some (.bl (!PyData.eqv d e), c)
  | _, _ => none
def isN : PyData → Bool
  | .none => true
  | _ => false
theorem ne_none_of_isN {d : PyData} (h : isN d = false) : d ≠ .none := fun z => by rw [z] at h; cases h
def vRel (f : PyData → PyData → Bool) : O2 := fun x y c => match toD dK c x, toD dK c y with
  | some d, some e => if W.alike d e = true ∧ isN d = false then some (.bl (f d e), c) else none
  | _, _ => none
def vLt : O2 := vRel fun d e => W.dataLt d e
def vGt : O2 := vRel fun d e => W.dataLt e d
def vLe : O2 := vRel fun d e => !W.dataLt e d
def vGe : O2 := vRel fun d e => !W.dataLt d e
section
variable {X : Cx} {G : Cfg} {W : WX} {k : Nat}
theorem units40 (hr : Room k X.A) {a b : Nat} (h : a ≤ dK) : X.A.units + min a b < cLine := by
  have := hr.units
  unfold dK at h
  have := Nat.min_le_left a b
  omega
theorem op_vEq (hr : Room k X.A) : OpR X (compareOp .Eq) (rOp G vEq) := by
  intro pins s σ H x y v u Q I rx ry h
  obtain ⟨μ, c, a, b, z, c', hl, r1, r2, hz, q⟩ := h
  unfold vEq at hz
  cases e1 : toD dK c a with
  | none => rw [e1] at hz; cases hz
  | some d =>
    cases e2 : toD dK c b with
    | none => rw [e1, e2] at hz; cases hz
    | some e =>
      rw [e1, e2] at hz
      cases hz
      have A := toD_ok (K := X.K) hl _ _ _ _ r1 e1
      have B := toD_ok (K := X.K) hl _ _ _ _ r2 e2
      obtain ⟨as, A1⟩ := Dp.reads I _ _ _ A.dp rx
      obtain ⟨bs, B1⟩ := Dp.reads I _ _ _ B.dp ry
      exact PySem.SeqAt.eq_plain A1 B1 A.plain B.plain (units40 hr A.deep) ⟨.bl _, H, I, rfl, q μ H _ .refl hl rfl⟩
theorem op_vNe (hr : Room k X.A) : OpR X (compareOp .NotEq) (rOp G vNe) := by
  intro pins s σ H x y v u Q I rx ry h
  obtain ⟨μ, c, a, b, z, c', hl, r1, r2, hz, q⟩ := h
  unfold vNe at hz
  cases e1 : toD dK c a with
  | none => rw [e1] at hz; cases hz
  | some d =>
    cases e2 : toD dK c b with
    | none => rw [e1, e2] at hz; cases hz
    | some e =>
      rw [e1, e2] at hz
      cases hz
      have A := toD_ok (K := X.K) hl _ _ _ _ r1 e1
      have B := toD_ok (K := X.K) hl _ _ _ _ r2 e2
      obtain ⟨as, A1⟩ := Dp.reads I _ _ _ A.dp rx
      obtain ⟨bs, B1⟩ := Dp.reads I _ _ _ B.dp ry
      exact PySem.SeqAt.ne_plain A1 B1 A.plain B.plain (units40 hr A.deep) ⟨.bl _, H, I, rfl, q μ H _ .refl hl rfl⟩
theorem op_vRel {op : CmpOp} {f : PyData → PyData → Bool} (hr : Room k X.A)
    (rule : ∀ (s : Shared) (v u : Value) (d e : PyData) (as bs : List Addr) (Q : Value → Shared → Prop), Reads s.heap v d as → Reads s.heap u e bs → PySem.W.alike d e = true → d ≠ .none → X.A.units + min d.depth e.depth < cLine → Q (.bool (f d e)) s → wpAny (model X.prog X.w) X.A (compareOp op v u) Q X.xe s) :
    OpR X (compareOp op) (rOp G (vRel f)) := by
  intro pins s σ H x y v u Q I rx ry h
  obtain ⟨μ, c, a, b, z, c', hl, r1, r2, hz, q⟩ := h
  unfold vRel at hz
  cases e1 : toD dK c a with
  | none => rw [e1] at hz; cases hz
  | some d =>
    cases e2 : toD dK c b with
    | none => rw [e1, e2] at hz; cases hz
    | some e =>
      rw [e1, e2] at hz
      by_cases g : PySem.W.alike d e = true ∧ isN d = false
      · replace hz : (if PySem.W.alike d e = true ∧ isN d = false then some (CV.bl (f d e), c) else none) = some (z, c') := hz
        rw [if_pos g] at hz
        cases hz
        have A := toD_ok (K := X.K) hl _ _ _ _ r1 e1
        have B := toD_ok (K := X.K) hl _ _ _ _ r2 e2
        obtain ⟨as, A1⟩ := Dp.reads I _ _ _ A.dp rx
        obtain ⟨bs, B1⟩ := Dp.reads I _ _ _ B.dp ry
        exact rule s v u d e as bs _ A1 B1 g.1 (ne_none_of_isN g.2) (units40 hr A.deep) ⟨.bl _, H, I, rfl, q μ H _ .refl hl rfl⟩
      · replace hz : (if PySem.W.alike d e = true ∧ isN d = false then some (CV.bl (f d e), c) else none) = some (z, c') := hz
        rw [if_neg g] at hz; cases hz
theorem op_vLt (hr : Room k X.A) : OpR X (compareOp .Lt) (rOp G vLt) := op_vRel hr fun _ _ _ _ _ _ _ _ a b h n u q => PySem.W.lt_data a b h n u q
theorem op_vGt (hr : Room k X.A) : OpR X (compareOp .Gt) (rOp G vGt) := op_vRel hr fun _ _ _ _ _ _ _ _ a b h n u q => PySem.W.gt_data a b h n u q
theorem op_vLe (hr : Room k X.A) : OpR X (compareOp .LtE) (rOp G vLe) := op_vRel hr fun _ _ _ _ _ _ _ _ a b h n u q => PySem.W.le_data a b h n u q
theorem op_vGe (hr : Room k X.A) : OpR X (compareOp .GtE) (rOp G vGe) := op_vRel hr fun _ _ _ _ _ _ _ _ a b h n u q => PySem.W.ge_data a b h n u q

/-! ### is, is not: None, True, False on the right -/
def isK : CV → Bool
  | .non => true
  | .bl _ => true
  | _ => false
def vIs : O2 := fun x y c => if isK y = true then some (.bl (CV.beq x y), c) else none
def vIsNot : O2 := fun x y c => if isK y = true then some (.bl (!CV.beq x y), c) else none
theorem is_rel {μ : Mu} {H : Hp} : ∀ {a b : CV} {x y : V} {v u : Value}, RV μ H a x → RV μ H b y → RelV x v → RelV y u → isK b = true → plainIs v u = true ∧ (v == u) = CV.beq a b := by
  intro a b x y v u ra rb rx ry h
  cases b with
  | non =>
    cases (show y = V.non from rb); cases (show u = Value.none from ry)
    cases a with
    | non => cases (show x = V.non from ra); cases (show v = Value.none from rx); exact ⟨rfl, by decide⟩
    | bl i => cases (show x = V.bl i from ra); cases (show v = Value.bool i from rx); exact ⟨rfl, by cases i <;> decide⟩
    | int i => cases (show x = V.int i from ra); obtain ⟨t, e⟩ := (show ∃ t, v = Value.int i t from rx); cases e; exact ⟨rfl, rfl⟩
    | str i => cases (show x = V.str i from ra); obtain ⟨t, e⟩ := (show ∃ t, v = Value.str i t from rx); cases e; exact ⟨rfl, rfl⟩
    | tup i => obtain ⟨p, vs, e, _⟩ := ra; cases e; cases (show v = Value.ref p from rx); exact ⟨rfl, rfl⟩
    | ref i => obtain ⟨p, _, e⟩ := ra; cases e; cases (show v = Value.ref p from rx); exact ⟨rfl, rfl⟩
  | bl j =>
    cases (show y = V.bl j from rb); cases (show u = Value.bool j from ry)
    cases a with
    | non => cases (show x = V.non from ra); cases (show v = Value.none from rx); exact ⟨rfl, by cases j <;> decide⟩
    | bl i => cases (show x = V.bl i from ra); cases (show v = Value.bool i from rx); exact ⟨rfl, by cases i <;> cases j <;> decide⟩
    | int i => cases (show x = V.int i from ra); obtain ⟨t, e⟩ := (show ∃ t, v = Value.int i t from rx); cases e; exact ⟨rfl, rfl⟩
    | str i => cases (show x = V.str i from ra); obtain ⟨t, e⟩ := (show ∃ t, v = Value.str i t from rx); cases e; exact ⟨rfl, rfl⟩
    | tup i => obtain ⟨p, vs, e, _⟩ := ra; cases e; cases (show v = Value.ref p from rx); exact ⟨rfl, rfl⟩
    | ref i => obtain ⟨p, _, e⟩ := ra; cases e; cases (show v = Value.ref p from rx); exact ⟨rfl, rfl⟩
  | _ => cases h
theorem op_vIs : OpR X (compareOp .Is) (rOp G vIs) := by
  intro pins s σ H x y v u Q I rx ry h
  obtain ⟨μ, c, a, b, z, c', hl, r1, r2, hz, q⟩ := h
  unfold vIs at hz
  by_cases g : isK b = true
  · rw [if_pos g] at hz; cases hz
    obtain ⟨h1, h2⟩ := is_rel r1 r2 rx ry g
    exact wpAny_is_plain h1 ⟨.bl _, H, I, by rw [h2]; rfl, q μ H _ .refl hl rfl⟩
  · rw [if_neg g] at hz; cases hz
theorem op_vIsNot : OpR X (compareOp .IsNot) (rOp G vIsNot) := by
  intro pins s σ H x y v u Q I rx ry h
  obtain ⟨μ, c, a, b, z, c', hl, r1, r2, hz, q⟩ := h
  unfold vIsNot at hz
  by_cases g : isK b = true
  · rw [if_pos g] at hz; cases hz
    obtain ⟨h1, h2⟩ := is_rel r1 r2 rx ry g
    exact wpAny_isNot_plain h1 ⟨.bl _, H, I, by rw [h2]; rfl, q μ H _ .refl hl rfl⟩
  · rw [if_neg g] at hz; cases hz

/-! ### arithmetic -/
def getL (c : CS) (n : Nat) : Option (List CV) := match c.obj n with
  | .lst xs => some xs
  | .rol xs => some xs
  | _ => none
def getW (c : CS) (n : Nat) : Option (List CV) := match c.obj n with
  | .lst xs => some xs
  | _ => none
theorem getL_ok {K : PySem.W.Frag} {μ : Mu} {c : CS} {H : Hp} {n : Nat} {a : Addr} {xs : List CV} (hl : Rl G μ c H) (hn : μ n = some a) (h : getL c n = some xs) : ∃ vs, RVs μ H xs vs ∧ SqL K H a vs := by
  have ro := hl.obj n a hn
  unfold getL at h
  cases ho : c.obj n with
  | lst ys => rw [ho] at ro h; cases h; obtain ⟨vs, r1, r2⟩ := ro; exact ⟨vs, r1, SqL.of r2⟩
  | rol ys => rw [ho] at ro h; cases h; obtain ⟨vs, o, r1, r2⟩ := ro; exact ⟨vs, r1, .inl (.inr ⟨o, r2⟩)⟩
  | _ => rw [ho] at h; cases h
theorem getW_ok {μ : Mu} {c : CS} {H : Hp} {n : Nat} {a : Addr} {xs : List CV} (hl : Rl G μ c H) (hn : μ n = some a) (h : getW c n = some xs) : ∃ vs, RVs μ H xs vs ∧ H a = some (.lst vs) := by
  have ro := hl.obj n a hn
  unfold getW at h
  cases ho : c.obj n with
  | lst ys => rw [ho] at ro h; cases h; exact ro
  | _ => rw [ho] at h; cases h
def mulOk (i j : Int) : Bool := decide (i.natAbs < 2 ^ 64) || decide (j.natAbs < 2 ^ 64) || decide (i.natAbs.log2 + j.natAbs.log2 < 1000000)
def repOk (x : Str) (n : Int) : Bool := decide (n < 1000000) && decide (-1000000 < n) && decide (x.length * n.toNat ≤ sizeLine) && decide (x.length ≤ 1000000)
def vAdd : O2 := fun x y c => match x, y with
  | .int i, .int j => some (.int (i + j), c)
  | .str a, .str b => if a.length + b.length ≤ sizeLine then some (.str (a ++ b), c) else none
  | .ref m, .ref n => match getW c m, getW c n with
    | some xs, some ys => if xs.length + ys.length ≤ sizeLine then some (.ref c.next, c.new (.lst (xs ++ ys))) else none
    | _, _ => none
  | _, _ => none
def vSub : O2 := fun x y c => match x, y with
  | .int i, .int j => some (.int (i - j), c)
  | _, _ => none
def vMul : O2 := fun x y c => match x, y with
  | .int i, .int j => if mulOk i j = true then some (.int (i * j), c) else none
  | .str a, .int n => if repOk a n = true then some (.str (Txt.mul a n), c) else none
  | .ref m, .int n => match getW c m with
    | some xs => if -(2 ^ 63) ≤ n ∧ n < 2 ^ 63 ∧ xs.length * n.toNat ≤ sizeLine then some (.ref c.next, c.new (.lst (List.replicate n.toNat xs).flatten)) else none
    | none => none
  | _, _ => none
def vMod : O2 := fun x y c => match x, y with
  | .int i, .int j => if 0 < j then some (.int (i % j), c) else none
  | _, _ => none
def vFdiv : O2 := fun x y c => match x, y with
  | .int i, .int j => if 0 < j ∧ j.natAbs.log2 < 9000 then some (.int (i / j), c) else none
  | _, _ => none
def vPow : O2 := fun x y c => match x, y with
  | .int i, .int j => if 0 ≤ j ∧ j ≤ 1000000 ∧ i.natAbs < 2 ^ 64 then some (.int (i ^ j.toNat), c) else none
  | _, _ => none
def vNeg : O1 := fun x c => match x with
  | .int i => some (.int (-i), c)
  | _ => none
theorem mulOk_ok {i j : Int} (h : mulOk i j = true) : IntMulOk i j := by
  unfold mulOk at h
  rw [Bool.or_eq_true, Bool.or_eq_true] at h
  rcases h with (h | h) | h
  · have := of_decide_eq_true h
    exact .of_left (intBits_le_64 (by omega) (by omega))
  · have := of_decide_eq_true h
    exact .of_right (intBits_le_64 (by omega) (by omega))
  · exact CMulW.ok (show i.natAbs.log2 + j.natAbs.log2 < 1000000 from of_decide_eq_true h)
theorem repOk_ok {x : Str} {n : Int} (h : repOk x n = true) : MulOk x n := by
  unfold repOk at h
  simp only [Bool.and_eq_true, decide_eq_true_eq] at h
  obtain ⟨⟨⟨h1, h2⟩, h3⟩, h4⟩ := h
  refine ⟨?_, fun g _ => ?_, fun g _ => ?_⟩
  · rw [Bool.or_eq_false_iff]
    exact ⟨decide_eq_false (by omega), decide_eq_false (by omega)⟩
  · have e : (1000000 : Int) ≤ (2 ^ 63 - 1) / n := by
      rw [Int.le_ediv_iff_mul_le (by omega)]
      omega
    omega
  · show decide (_ > sizeLine) = false
    exact decide_eq_false (by omega)
theorem op_vAdd : OpR X (binaryOp .Add) (rOp G vAdd) := by
  intro pins s σ H x y v u Q I rx ry h
  obtain ⟨μ, c, a, b, z, c', hl, r1, r2, hz, q⟩ := h
  unfold vAdd at hz
  split at hz
  · cases hz
    exact op_add pins s σ H _ _ v u Q I rx ry ⟨_, _, r1, r2, q μ H _ .refl hl rfl⟩
  · split at hz
    · cases hz
      rename_i hz
      exact op_add_str pins s σ H _ _ v u Q I rx ry ⟨_, _, r1, r2, hz, q μ H _ .refl hl rfl⟩
    · cases hz
  · split at hz
    · rename_i g1 g2
      split at hz
      · rename_i hs
        cases hz
        obtain ⟨p, e1, e2⟩ := r1
        obtain ⟨p', e3, e4⟩ := r2
        obtain ⟨vs, w1, w2⟩ := getW_ok hl e1 g1
        obtain ⟨us, w3, w4⟩ := getW_ok hl e3 g2
        refine op_cat pins s σ H _ _ v u Q I rx ry ⟨p, p', vs, us, e2, e4, w2, w4, by rw [w1.length, w3.length]; exact hs, fun l hn => ?_⟩
        obtain ⟨μ', n1, n2, n3⟩ := new_lst hl (w1.append w3) hn
        exact q _ _ _ n1 n2 n3
      · cases hz
    · cases hz
  · cases hz
theorem op_vSub : OpR X (binaryOp .Sub) (rOp G vSub) := by
  intro pins s σ H x y v u Q I rx ry h
  obtain ⟨μ, c, a, b, z, c', hl, r1, r2, hz, q⟩ := h
  unfold vSub at hz
  split at hz
  · cases hz; exact op_sub pins s σ H _ _ v u Q I rx ry ⟨_, _, r1, r2, q μ H _ .refl hl rfl⟩
  · cases hz
theorem op_vMul : OpR X (binaryOp .Mult) (rOp G vMul) := by
  intro pins s σ H x y v u Q I rx ry h
  obtain ⟨μ, c, a, b, z, c', hl, r1, r2, hz, q⟩ := h
  unfold vMul at hz
  split at hz
  · split at hz
    · rename_i hm
      cases hz
      cases (show x = _ from r1); cases (show y = _ from r2)
      obtain ⟨t, e⟩ := rx; cases e
      obtain ⟨t', e⟩ := ry; cases e
      exact mul_int ⟨.int _, H, I.tok _, ⟨_, rfl⟩, q μ H _ .refl hl rfl⟩ (mulOk_ok hm)
    · cases hz
  · split at hz
    · rename_i hm
      cases hz
      cases (show x = _ from r1); cases (show y = _ from r2)
      obtain ⟨t, e⟩ := rx; cases e
      obtain ⟨t', e⟩ := ry; cases e
      exact SB.mul (repOk_ok hm) fun t' k' => ⟨.str _, H, I.tok _, ⟨_, rfl⟩, q μ H _ .refl hl rfl⟩
    · cases hz
  · split at hz
    · rename_i g1
      split at hz
      · rename_i hs
        cases hz
        obtain ⟨p, e1, e2⟩ := r1
        obtain ⟨vs, w1, w2⟩ := getW_ok hl e1 g1
        refine op_rep pins s σ H _ _ v u Q I rx ry ⟨p, _, vs, e2, r2, w2, hs.1, hs.2.1, by rw [w1.length]; exact hs.2.2, fun l hn => ?_⟩
        have wr : ∀ m : Nat, RVs μ H (List.replicate m _).flatten (List.replicate m vs).flatten := fun m => by
          induction m with
          | zero => exact .nil
          | succ m ih => rw [List.replicate_succ, List.replicate_succ, List.flatten_cons, List.flatten_cons]; exact w1.append ih
        obtain ⟨μ', n1, n2, n3⟩ := new_lst hl (wr _) hn
        exact q _ _ _ n1 n2 n3
      · cases hz
    · cases hz
  · cases hz
theorem op_vMod : OpR X (binaryOp .Mod) (rOp G vMod) := by
  intro pins s σ H x y v u Q I rx ry h
  obtain ⟨μ, c, a, b, z, c', hl, r1, r2, hz, q⟩ := h
  unfold vMod at hz
  split at hz
  · split at hz
    · rename_i hm; cases hz; exact op_mod pins s σ H _ _ v u Q I rx ry ⟨_, _, r1, r2, hm, q μ H _ .refl hl rfl⟩
    · cases hz
  · cases hz
theorem op_vFdiv : OpR X (binaryOp .FloorDiv) (rOp G vFdiv) := by
  intro pins s σ H x y v u Q I rx ry h
  obtain ⟨μ, c, a, b, z, c', hl, r1, r2, hz, q⟩ := h
  unfold vFdiv at hz
  split at hz
  · split at hz
    · rename_i hm; cases hz; exact op_fdivW pins s σ H _ _ v u Q I rx ry ⟨_, _, r1, r2, hm, q μ H _ .refl hl rfl⟩
    · cases hz
  · cases hz
theorem op_vPow : OpR X (binaryOp .Pow) (rOp G vPow) := by
  intro pins s σ H x y v u Q I rx ry h
  obtain ⟨μ, c, a, b, z, c', hl, r1, r2, hz, q⟩ := h
  unfold vPow at hz
  split at hz
  · split at hz
    · rename_i hm; cases hz; exact op_pow pins s σ H _ _ v u Q I rx ry ⟨_, _, r1, r2, hm, q μ H _ .refl hl rfl⟩
    · cases hz
  · cases hz
theorem un_vNeg : UnR X (unaryOp .USub) (rUn G vNeg) := by
  intro pins s σ H x v Q I rx h
  obtain ⟨μ, c, a, z, c', hl, r1, hz, q⟩ := h
  unfold vNeg at hz
  split at hz
  · cases hz; exact un_neg pins s σ H _ v Q I rx ⟨_, r1, q μ H _ .refl hl rfl⟩
  · cases hz
end
end PM

/-! PM: in, subscripts, slices, built-in calls and methods, dict displays. -/
namespace PM
open PySem PySem.Spec PyProof.Rows L2
section
variable {X : Cx} {G : Cfg} {W : WX} {k : Nat} {e a b : Expr} {pos : Pos} {ma mb : ME} {es : List Expr} {ms : MA}

/-! ### in -/
/-- the one text within the other -/
def strIn (i j : Str) : Bool := !(Builtin.Str.occurrences j i 0 j.length 1).isEmpty
theorem strIn_sign (c : Nat) (z : Str) : strIn ⟨#[c]⟩ z = decide (c ∈ z.cps.toList) := (PySem.StrLaws.found_one z c)
def vIn (neg : Bool) : O2 := fun x y c => match x, y with
  | .str i, .str j => some (.bl (xor neg (strIn i j)), c)
  | _, _ => match toD dK c x, toD dK c y with
    | some d, some (.list es) => some (.bl (xor neg (es.any fun z => PyData.eqv z d)), c)
    | some d, some (.tuple es) => some (.bl (xor neg (es.any fun z => PyData.eqv z d)), c)
    | _, _ => none
theorem units41 (hr : Room k X.A) {a b : Nat} (h : b ≤ dK) : X.A.units + 1 + min a b < cLine := by
  have := hr.units
  unfold dK at h
  have := Nat.min_le_right a b
  omega
theorem plain_items {ds : List PyData} (h : (PyData.list ds).plain = true) : PyData.plainAll ds = true := h
theorem plain_itemsT {ds : List PyData} (h : (PyData.tuple ds).plain = true) : PyData.plainAll ds = true := h
theorem op_vIn (hr : Room k X.A) : OpR X (compareOp .In) (rOp G (vIn false)) := by
  intro pins s σ H x y v u Q I rx ry h
  obtain ⟨μ, c, a, b, z, c', hl, r1, r2, hz, q⟩ := h
  unfold vIn at hz
  split at hz
  · cases hz
    exact op_in_str pins s σ H _ _ v u Q I rx ry ⟨_, _, r1, r2, by have := q μ H _ .refl hl rfl; rwa [Bool.false_xor] at this⟩
  · split at hz
    · rename_i d es e1 e2
      cases hz
      have A := toD_ok (K := X.K) hl _ _ _ _ r1 e1
      have B := toD_ok (K := X.K) hl _ _ _ _ r2 e2
      obtain ⟨as, A1⟩ := Dp.reads I _ _ _ A.dp rx
      obtain ⟨bs, B1⟩ := Dp.reads I _ _ _ B.dp ry
      exact PySem.SeqAt.in_list_data B1 A1 (plain_items B.plain) A.plain (units41 hr A.deep) ⟨.bl _, H, I, rfl, by have := q μ H _ .refl hl rfl; rwa [Bool.false_xor] at this⟩
    · rename_i d es e1 e2
      cases hz
      have A := toD_ok (K := X.K) hl _ _ _ _ r1 e1
      have B := toD_ok (K := X.K) hl _ _ _ _ r2 e2
      obtain ⟨as, A1⟩ := Dp.reads I _ _ _ A.dp rx
      obtain ⟨bs, B1⟩ := Dp.reads I _ _ _ B.dp ry
      exact PySem.SeqAt.in_tuple_data B1 A1 (plain_itemsT B.plain) A.plain (units41 hr A.deep) ⟨.bl _, H, I, rfl, by have := q μ H _ .refl hl rfl; rwa [Bool.false_xor] at this⟩
    · cases hz
theorem op_vNotIn (hr : Room k X.A) : OpR X (compareOp .NotIn) (rOp G (vIn true)) := by
  intro pins s σ H x y v u Q I rx ry h
  obtain ⟨μ, c, a, b, z, c', hl, r1, r2, hz, q⟩ := h
  unfold vIn at hz
  split at hz
  · cases hz
    exact op_notin_str pins s σ H _ _ v u Q I rx ry ⟨_, _, r1, r2, by have := q μ H _ .refl hl rfl; rwa [Bool.true_xor] at this⟩
  · split at hz
    · rename_i d es e1 e2
      cases hz
      have A := toD_ok (K := X.K) hl _ _ _ _ r1 e1
      have B := toD_ok (K := X.K) hl _ _ _ _ r2 e2
      obtain ⟨as, A1⟩ := Dp.reads I _ _ _ A.dp rx
      obtain ⟨bs, B1⟩ := Dp.reads I _ _ _ B.dp ry
      exact PySem.SeqAt.notIn_list_data B1 A1 (plain_items B.plain) A.plain (units41 hr A.deep) ⟨.bl _, H, I, rfl, by have := q μ H _ .refl hl rfl; rwa [Bool.true_xor] at this⟩
    · rename_i d es e1 e2
      cases hz
      have A := toD_ok (K := X.K) hl _ _ _ _ r1 e1
      have B := toD_ok (K := X.K) hl _ _ _ _ r2 e2
      obtain ⟨as, A1⟩ := Dp.reads I _ _ _ A.dp rx
      obtain ⟨bs, B1⟩ := Dp.reads I _ _ _ B.dp ry
      exact PySem.SeqAt.notIn_tuple_data B1 A1 (plain_itemsT B.plain) A.plain (units41 hr A.deep) ⟨.bl _, H, I, rfl, by have := q μ H _ .refl hl rfl; rwa [Bool.true_xor] at this⟩
    · cases hz

/-! ### subscripts -/
def dget (kvs : List (CV × CV)) (k : CV) : Option CV := (kvs.find? fun kv => decide (kv.1 = k)).map (·.2)
theorem RK.get {μ : Mu} {H : Hp} {j : L2.Key} : ∀ {kvs : List (CV × CV)} {ks : List (L2.Key × V)}, RK μ H kvs ks → match dget kvs (kC j) with
    | some x => ∃ v, valV ks j = some v ∧ RV μ H x v
    | none => valV ks j = none
  | [], _, h => by rw [show _ = [] from h]; rfl
  | x :: xs, _, ⟨i, v, r, h1, h2, h3, h4⟩ => by
    have ih := RK.get (j := j) h4
    have inj : ∀ a b : L2.Key, kC a = kC b → a = b := fun a b z => by
      cases a with
      | inl i => cases b with
        | inl i' => cases z; rfl
        | inr _ => cases z
      | inr i => cases b with
        | inl _ => cases z
        | inr i' => cases z; rfl
    rw [h1]
    by_cases g : i = j
    · have e : dget (x :: xs) (kC j) = some x.2 := by unfold dget; rw [List.find?_cons_of_pos (by simp [h2, g])]; rfl
      rw [e, valV_pos (p := (i, v)) (r := r) g]
      exact ⟨v, rfl, h3⟩
    · have e : dget (x :: xs) (kC j) = dget xs (kC j) := by unfold dget; rw [List.find?_cons_of_neg (by rw [h2]; simp; exact fun z => g (inj _ _ z))]
      rw [e, valV_neg (p := (i, v)) (r := r) g]
      exact ih
def kOf : CV → Option L2.Key
  | .int i => some (.inl i)
  | .str x => some (.inr x)
  | _ => none
theorem kOf_ok {x : CV} {j : L2.Key} (h : kOf x = some j) : x = kC j := by
  cases x <;> first | (cases h; rfl) | cases h
theorem kC_rel {μ : Mu} {H : Hp} {j : L2.Key} {v : V} (h : RV μ H (kC j) v) : v = kV j := by
  cases j with
  | inl i => exact h
  | inr i => exact h
def ksOf : List CV → Option (List L2.Key)
  | [] => some []
  | x :: xs => (kOf x).bind fun j => (ksOf xs).bind fun js => some (j :: js)
theorem ksOf_ok : ∀ {xs : List CV} {js : List L2.Key}, ksOf xs = some js → xs = js.map kC
  | [], js, h => by cases h; rfl
  | x :: xs, js, h => by
    rw [ksOf] at h
    cases e : kOf x with
    | none => rw [e] at h; cases h
    | some j =>
      rw [e] at h
      cases e2 : ksOf xs with
      | none => rw [e2] at h; cases h
      | some js' => rw [e2] at h; cases h; rw [List.map_cons, ← kOf_ok e, ← ksOf_ok e2]
theorem kCs_rel {μ : Mu} {H : Hp} : ∀ {js : List L2.Key} {vs : List V}, RVs μ H (js.map kC) vs → vs = js.map kV
  | [], _, h => h
  | j :: js, _, ⟨v, r, h1, h2, h3⟩ => by rw [h1, List.map_cons, kC_rel h2, kCs_rel h3]
theorem kC_inj : ∀ {a b : L2.Key}, kC a = kC b → a = b := fun {a b} z => by
  cases a with
  | inl i => cases b with
    | inl i' => cases z; rfl
    | inr _ => cases z
  | inr i => cases b with
    | inl _ => cases z
    | inr i' => cases z; rfl
theorem kCs_inj : ∀ {a b : List L2.Key}, a.map kC = b.map kC → a = b
  | [], [], _ => rfl
  | [], _ :: _, e => by simp at e
  | _ :: _, [], e => by simp at e
  | x :: xs, y :: ys, e => by
    simp only [List.map_cons, List.cons.injEq] at e
    rw [kC_inj e.1, kCs_inj e.2]
theorem RT.get {μ : Mu} {H : Hp} {j : List L2.Key} : ∀ {kvs : List (CV × CV)} {ks : List (List L2.Key × V)}, RT μ H kvs ks → match dget kvs (.tup (j.map kC)) with
    | some x => ∃ v, valV ks j = some v ∧ RV μ H x v
    | none => valV ks j = none
  | [], _, h => by rw [show _ = [] from h]; rfl
  | x :: xs, _, ⟨i, v, r, h1, h2, h3, h4⟩ => by
    have ih := RT.get (j := j) h4
    rw [h1]
    by_cases g : i = j
    · have e : dget (x :: xs) (.tup (j.map kC)) = some x.2 := by unfold dget; rw [List.find?_cons_of_pos (by simp [h2, g])]; rfl
      rw [e, valV_pos (p := (i, v)) (r := r) g]
      exact ⟨v, rfl, h3⟩
    · have e : dget (x :: xs) (.tup (j.map kC)) = dget xs (.tup (j.map kC)) := by unfold dget; rw [List.find?_cons_of_neg (by rw [h2]; simp; exact fun z => g (kCs_inj z))]
      rw [e, valV_neg (p := (i, v)) (r := r) g]
      exact ih
/-- the key of a dict: an int, a text, or a tuple of such; the dict has keys of that kind -/
def isT : CV → Bool
  | .tup _ => true
  | _ => false
def keyOk (kvs : List (CV × CV)) (x : CV) : Bool := match x with
  | .tup xs => (ksOf xs).isSome && kvs.any fun kv => isT kv.1
  | x => (kOf x).isSome && !(kvs.any fun kv => isT kv.1)
theorem RK.noT {μ : Mu} {H : Hp} : ∀ {kvs : List (CV × CV)} {ks : List (L2.Key × V)}, RK μ H kvs ks → (kvs.any fun kv => isT kv.1) = false
  | [], _, _ => rfl
  | x :: xs, _, ⟨i, v, r, h1, h2, h3, h4⟩ => by rw [List.any_cons, h2, RK.noT h4]; cases i <;> rfl
theorem RT.allT {μ : Mu} {H : Hp} : ∀ {kvs : List (CV × CV)} {ks : List (List L2.Key × V)}, kvs ≠ [] → RT μ H kvs ks → (kvs.any fun kv => isT kv.1) = true
  | [], _, h, _ => absurd rfl h
  | x :: xs, _, _, ⟨i, v, r, h1, h2, h3, h4⟩ => by rw [List.any_cons, h2]; rfl
/-- a dict's look-up -/
theorem dget_ok {μ : Mu} {c : CS} {H : Hp} {n : Nat} {p : Addr} {kvs : List (CV × CV)} {x : CV} {y : V} (hl : Rl G μ c H) (hn : μ n = some p) (ho : c.obj n = .dct kvs) (hk : keyOk kvs x = true) (ry : RV μ H x y) :
    match dget kvs x with
    | some z => ∃ v, DGet H p y (some v) ∧ RV μ H z v
    | none => DGet H p y none := by
  have ro := hl.obj n p hn
  rw [ho] at ro
  rcases ro with ⟨ks, r1, r2⟩ | ⟨h0, ks, r1, r2⟩
  · have nt := r1.noT
    cases x with
    | tup xs => simp [keyOk, nt] at hk
    | non => cases hk
    | bl _ => cases hk
    | ref _ => cases hk
    | int i =>
      have g := RK.get (j := .inl i) r1
      cases (show y = V.int i from ry)
      revert g
      show (match dget kvs (.int i) with | some x => _ | none => _) → _
      cases dget kvs (.int i) with
      | none => intro g; rw [← g]; exact DGet.k (k := .inl i) r2
      | some z => intro g; obtain ⟨v, g1, g2⟩ := g; exact ⟨v, by rw [← g1]; exact DGet.k (k := .inl i) r2, g2⟩
    | str i =>
      have g := RK.get (j := .inr i) r1
      cases (show y = V.str i from ry)
      revert g
      show (match dget kvs (.str i) with | some x => _ | none => _) → _
      cases dget kvs (.str i) with
      | none => intro g; rw [← g]; exact DGet.k (k := .inr i) r2
      | some z => intro g; obtain ⟨v, g1, g2⟩ := g; exact ⟨v, by rw [← g1]; exact DGet.k (k := .inr i) r2, g2⟩
  · have nt := r1.allT h0
    cases x with
    | tup xs =>
      replace hk : (ksOf xs).isSome = true := by simpa [keyOk, nt] using hk
      cases e : ksOf xs with
      | none => rw [e] at hk; cases hk
      | some js =>
        have ex := ksOf_ok e
        subst ex
        obtain ⟨q, vs, e1, e2, e3⟩ := ry
        have ev := kCs_rel e3
        subst ev
        subst e1
        have g := RT.get (j := js) r1
        revert g
        cases dget kvs (.tup (js.map kC)) with
        | none => intro g; rw [← g]; exact DGet.t r2 e2
        | some z => intro g; obtain ⟨v, g1, g2⟩ := g; exact ⟨v, by rw [← g1]; exact DGet.t r2 e2, g2⟩
    | int i => simp only [keyOk, nt] at hk; simp at hk
    | str i => simp only [keyOk, nt] at hk; simp at hk
    | non => cases hk
    | bl _ => cases hk
    | ref _ => cases hk

/-- a[i] -/
def vIx : O2 := fun x y c => match x, y with
  | .tup xs, .int i => (atI xs i).map fun v => (v, c)
  | .str z, .int i => if z.length ≤ sizeLine then (atI z.cps.toList i).map fun v => (.str ⟨#[v]⟩, c) else none
  | .ref n, y => match c.obj n with
    | .lst xs => match y with
      | .int i => (atI xs i).map fun v => (v, c)
      | _ => none
    | .rol xs => match y with
      | .int i => (atI xs i).map fun v => (v, c)
      | _ => none
    | .dct kvs => if keyOk kvs y = true then (dget kvs y).map fun v => (v, c) else none
    | _ => none
  | _, _ => none
theorem atI_rel {μ : Mu} {H : Hp} {xs : List CV} {vs : List V} {i : Int} {x : CV} (r : RVs μ H xs vs) (h : atI xs i = some x) : ∃ v, atI vs i = some v ∧ RV μ H x v := by
  unfold atI at h ⊢
  rw [r.length]
  cases e : ixN xs.length i with
  | none => rw [e] at h; cases h
  | some j => rw [e] at h; exact r.get h
theorem IxRor {r r' : R2} (h : IxR X r) (h' : IxR X r') : IxR X (fun x y H Q => r x y H Q ∨ r' x y H Q) := by
  intro va sl pins s σ H x y v u Q I rx ry q hs
  rcases q with q | q
  · exact h va sl pins s σ H x y v u Q I rx ry q hs
  · exact h' va sl pins s σ H x y v u Q I rx ry q hs
def rIxD : R2 := fun x y H Q => ∃ p v, x = .ref p ∧ DGet H p y (some v) ∧ Q v H
theorem ix_dict (hr : Room k X.A) : IxR X rIxD := by
  intro va sl pins s σ H x y v u Q I rx ry ⟨p, z, ex, g, q⟩ hs
  subst ex
  obtain rfl : v = Value.ref p := rx
  exact tail_any (dict_typeIs I g) PySem.F.slot_dict_getitem.lookup (d_getItem (by have := hr.units; omega) I g ry fun w' s' I' rw' => ⟨z, H, I', rw', q⟩) hs
theorem ix_v (hr : Room k X.A) : IxR X (rOp G vIx) := by
  intro va sl pins s σ H x y v u Q I rx ry h hs
  obtain ⟨μ, c, a, b, z, c', hl, r1, r2, hz, q⟩ := h
  unfold vIx at hz
  split at hz
  · cases e : atI _ _ with
    | none => rw [e] at hz; cases hz
    | some w =>
      rw [e] at hz; cases hz
      obtain ⟨p, vs, e1, e2, e3⟩ := r1
      obtain ⟨w', e4, e5⟩ := atI_rel e3 e
      exact ix_tup va sl pins s σ H x y v u Q I rx ry ⟨p, vs, _, w', e1, r2, SqT.of e2, e4, q μ H _ .refl hl e5⟩ hs
  · split at hz
    · rename_i hs0
      cases e : atI _ _ with
      | none => rw [e] at hz; cases hz
      | some w =>
        rw [e] at hz; cases hz
        exact ix_str va sl pins s σ H x y v u Q I rx ry ⟨_, _, w, r1, r2, hs0, e, q μ H _ .refl hl rfl⟩ hs
    · cases hz
  · rename_i n y0 _
    obtain ⟨p, e1, e2⟩ := r1
    split at hz
    · rename_i xs ho
      split at hz
      · cases e : atI _ _ with
        | none => rw [e] at hz; cases hz
        | some w =>
          rw [e] at hz; cases hz
          obtain ⟨vs, w1, w2⟩ := getL_ok (K := X.K) hl e1 (by unfold getL; rw [ho])
          obtain ⟨w', e4, e5⟩ := atI_rel w1 e
          exact ix_list va sl pins s σ H x y v u Q I rx ry ⟨p, vs, _, w', e2, r2, w2, e4, q μ H _ .refl hl e5⟩ hs
      · cases hz
    · rename_i xs ho
      split at hz
      · cases e : atI _ _ with
        | none => rw [e] at hz; cases hz
        | some w =>
          rw [e] at hz; cases hz
          obtain ⟨vs, w1, w2⟩ := getL_ok (K := X.K) hl e1 (by unfold getL; rw [ho])
          obtain ⟨w', e4, e5⟩ := atI_rel w1 e
          exact ix_list va sl pins s σ H x y v u Q I rx ry ⟨p, vs, _, w', e2, r2, w2, e4, q μ H _ .refl hl e5⟩ hs
      · cases hz
    · rename_i kvs ho
      split at hz
      · rename_i hk
        have g := dget_ok hl e1 ho hk r2
        cases e : dget kvs b with
        | none => rw [e] at hz; cases hz
        | some w =>
          rw [e] at hz g; cases hz
          obtain ⟨w', g1, g2⟩ := g
          exact ix_dict hr va sl pins s σ H x y v u Q I rx ry ⟨p, w', e2, g1, q μ H _ .refl hl g2⟩ hs
      · cases hz
    · cases hz
  · cases hz
theorem ce_ix (hr : Room k X.A) (ha : PE X a (rE G W ma)) (hb : PE X b (rE G W mb)) (hs : PlainIx b) : PE X (.Subscript a b pos) (rE G W (mOp vIx ma mb)) := PEimp (pe_ix (ix_v hr) ha hb hs) fun _ _ _ _ _ _ q => rE_op q

/-! ### slices -/
def cutC {α : Type} (xs : List α) (lo hi : Option Int) : List α := (xs.drop (HT.sIx xs.length 0 lo)).take (HT.sIx xs.length xs.length hi - HT.sIx xs.length 0 lo)
abbrev MO := CEnv → CS → R (Option Int)
def mNoPart : MO := fun _ c => .ok none c
def mPart (m : ME) : MO := fun ρ c => (m ρ c).bind fun v c1 => match v with
  | .int i => .ok (some i) c1
  | _ => .stuck
def rO (G : Cfg) (W : WX) (m : MO) : TO := fun σ H Q => ∃ μ ρ c, Rl G μ c H ∧ RE μ H ρ σ ∧ Rok (m ρ c) (PX G W μ H σ) fun o c' => ∀ μ' H', Ext μ H μ' H' → Rl G μ' c' H' → Q o H'
theorem POimp {o : Option Expr} {t t' : TO} (h : PO X o t) (i : ∀ pins s σ H Q, Inv X pins σ H s → t' σ H Q → t σ H Q) : PO X o t' := ⟨fun pins s σ H Q I q => h.run pins s σ H Q I (i pins s σ H Q I q)⟩
theorem co_none : PO X none (rO G W mNoPart) := POimp po_none fun _ _ σ H Q _ ⟨μ, ρ, c, hl, he, q⟩ => q μ H .refl hl
theorem co_some {m : ME} (h : PE X e (rE G W m)) : PO X (some e) (rO G W (mPart m)) := POimp (po_some h) fun _ _ σ H Q _ ⟨μ, ρ, c, hl, he, q⟩ => ⟨μ, ρ, c, hl, he, (Rok.bind q).mono (fun _ _ h => h) fun x c1 q1 μ1 H1 v1 e1 l1 r1 => by
  cases x with
  | int i => exact ⟨i, r1, q1 μ1 H1 e1 l1⟩
  | _ => exact False.elim q1⟩
def vSlice (x : CV) (lo hi : Option Int) (c : CS) : Option (CV × CS) := match x with
  | .str z => if z.length ≤ sizeLine then some (.str (cutS z lo hi), c) else none
  | .tup xs => if HT.sIx xs.length 0 lo = 0 ∧ HT.sIx xs.length xs.length hi = xs.length then none else some (.tup (cutC xs lo hi), c)
  | .ref n => match getL c n with
    | some xs => some (.ref c.next, c.new (.lst (cutC xs lo hi)))
    | none => none
  | _ => none
def mSlice (ma : ME) (lo hi : MO) : ME := fun ρ c => (ma ρ c).bind fun x c1 => (lo ρ c1).bind fun l c2 => (hi ρ c2).bind fun h c3 => lift (vSlice x l h c3)
theorem cut_rel {μ : Mu} {H : Hp} {xs : List CV} {vs : List V} (r : RVs μ H xs vs) (lo hi : Option Int) : RVs μ H (cutC xs lo hi) (cutV vs lo hi) := by
  unfold cutC cutV
  rw [r.length]
  exact (r.drop _).take _
def rSlice (G : Cfg) : V → Option Int → Option Int → Hp → VK → Prop := fun x lo hi H Q => ∃ μ c a z c', Rl G μ c H ∧ RV μ H a x ∧ vSlice a lo hi c = some (z, c') ∧ PV G Q μ H z c'
theorem SlRor {r r' : V → Option Int → Option Int → Hp → VK → Prop} (h : SlR X r) (h' : SlR X r') : SlR X (fun x lo hi H Q => r x lo hi H Q ∨ r' x lo hi H Q) := SlR.or h h'
theorem sl_v : SlR X (rSlice G) := by
  intro pins s σ H x v vl vu lo hi sl Q I rx hs pl pu h
  obtain ⟨μ, c, a, z, c', hl, r1, hz, q⟩ := h
  unfold vSlice at hz
  split at hz
  · split at hz
    · rename_i g
      cases hz
      exact sl_str pins s σ H x v vl vu lo hi sl Q I rx hs pl pu ⟨_, r1, g, q μ H _ .refl hl rfl⟩
    · cases hz
  · split at hz
    · cases hz
    · rename_i g
      cases hz
      obtain ⟨p, vs, e1, e2, e3⟩ := r1
      refine sl_tup pins s σ H x v vl vu lo hi sl Q I rx hs pl pu ⟨p, vs, e1, SqT.of e2, by rw [e3.length]; exact g, fun p' hp => ?_⟩
      obtain ⟨n1, n2, n3⟩ := new_tup hl (cut_rel e3 lo hi) hp
      exact q _ _ _ n1 n2 n3
  · split at hz
    · rename_i g
      cases hz
      obtain ⟨p, e1, e2⟩ := r1
      obtain ⟨vs, w1, w2⟩ := getL_ok (K := X.K) hl e1 g
      refine sl_list pins s σ H x v vl vu lo hi sl Q I rx hs pl pu ⟨p, vs, e2, w2, fun p' hp => ?_⟩
      obtain ⟨μ', n1, n2, n3⟩ := new_lst hl (cut_rel w1 lo hi) hp
      exact q _ _ _ n1 n2 n3
    · cases hz
  · cases hz
theorem ce_slice {lo hi : Option Expr} {ml mh : MO} {p2 : Pos} (ha : PE X a (rE G W ma)) (h1 : PO X lo (rO G W ml)) (h2 : PO X hi (rO G W mh)) : PE X (.Subscript a (.Slice lo hi none p2) pos) (rE G W (mSlice ma ml mh)) :=
  PEimp (pe_slice sl_v ha h1 h2) fun _ _ σ H Q _ ⟨μ, ρ, c, hl, he, q⟩ => ⟨μ, ρ, c, hl, he, (Rok.bind q).mono (fun _ _ h => h) fun x c1 q1 μ1 H1 v1 e1 l1 r1 =>
    ⟨μ1, ρ, c1, l1, he.ext e1, (Rok.bind q1).e e1 fun l c2 q2 μ2 H2 e2 l2 => ⟨μ2, ρ, c2, l2, he.ext (e1.trans e2), (Rok.bind q2).e (e1.trans e2) fun h c3 q3 μ3 H3 e3 l3 => by
      obtain ⟨z, c4, hz, q4⟩ := q3.lift
      exact ⟨μ3, c3, x, z, c4, l3, (r1.ext e2).ext e3, hz, PV.ext q4 ((e1.trans e2).trans e3)⟩⟩⟩⟩

/-! ### built-in functions -/
theorem rvs1 {μ : Mu} {H : Hp} {x : CV} {vs : List V} (h : RVs μ H [x] vs) : ∃ v, vs = [v] ∧ RV μ H x v := by
  obtain ⟨v, r, h1, h2, h3⟩ := h
  rw [show r = [] from h3] at h1
  exact ⟨v, h1, h2⟩
theorem rvs2 {μ : Mu} {H : Hp} {x y : CV} {vs : List V} (h : RVs μ H [x, y] vs) : ∃ v u, vs = [v, u] ∧ RV μ H x v ∧ RV μ H y u := by
  obtain ⟨v, r, h1, h2, h3⟩ := h
  obtain ⟨u, e, h4⟩ := rvs1 h3
  rw [e] at h1
  exact ⟨v, u, h1, h2, h4⟩
def vLen : OC := fun xs c => match xs with
  | [.str x] => if x.length ≤ sizeLine then some (.int x.length, c) else none
  | [.tup xs] => some (.int xs.length, c)
  | [.ref n] => match getL c n with
    | some xs => some (.int xs.length, c)
    | none => none
  | _ => none
theorem cr_len : CallR X (.builtin "len") (rC G vLen) := by
  intro pins s σ H vs us Q I r h
  obtain ⟨μ, c, xs, z, c', hl, rr, hz, q⟩ := h
  unfold vLen at hz
  split at hz
  · split at hz
    · rename_i g
      cases hz
      obtain ⟨v, e, r1⟩ := rvs1 rr
      exact call_len pins s σ H vs us Q I r ⟨v, _, e, by rw [show v = _ from r1]; exact ⟨g, rfl⟩, q μ H _ .refl hl rfl⟩
    · cases hz
  · cases hz
    obtain ⟨v, e, p, ws, e1, e2, e3⟩ := rvs1 rr
    exact call_len pins s σ H vs us Q I r ⟨v, _, e, by rw [e1]; exact .inr ⟨ws, SqT.of e2, e3.length.symm⟩, q μ H _ .refl hl rfl⟩
  · split at hz
    · rename_i g
      cases hz
      obtain ⟨v, e, p, e1, e2⟩ := rvs1 rr
      obtain ⟨ws, w1, w2⟩ := getL_ok (K := X.K) hl e1 g
      exact call_len pins s σ H vs us Q I r ⟨v, _, e, by rw [e2]; exact .inl ⟨ws, w2, w1.length.symm⟩, q μ H _ .refl hl rfl⟩
    · cases hz
  · cases hz
def vInt : OC := fun xs c => match xs with
  | [.int i] => some (.int i, c)
  | [.bl k] => some (.int (if k then 1 else 0), c)
  | _ => none
theorem cr_int : CallR X (.type "int") (rC G vInt) := by
  intro pins s σ H vs us Q I r h
  obtain ⟨μ, c, xs, z, c', hl, rr, hz, q⟩ := h
  unfold vInt at hz
  split at hz
  · cases hz
    obtain ⟨v, e, r1⟩ := rvs1 rr
    exact call_int1 pins s σ H vs us Q I r (.inl ⟨_, by rw [e, show v = _ from r1], q μ H _ .refl hl rfl⟩)
  · cases hz
    obtain ⟨v, e, r1⟩ := rvs1 rr
    exact call_int1 pins s σ H vs us Q I r (.inr ⟨_, by rw [e, show v = _ from r1], q μ H _ .refl hl rfl⟩)
  · cases hz
def vMax : OC := fun xs c => match xs with
  | [.int i, .int j] => some (.int (if j > i then j else i), c)
  | _ => none
def vMin : OC := fun xs c => match xs with
  | [.int i, .int j] => some (.int (if j < i then j else i), c)
  | _ => none
theorem cr_max (hc : X.calm = true) : CallR X (.builtin "max") (rC G vMax) := by
  intro pins s σ H vs us Q I r h
  obtain ⟨μ, c, xs, z, c', hl, rr, hz, q⟩ := h
  unfold vMax at hz
  split at hz
  · cases hz
    obtain ⟨v, u, e, r1, r2⟩ := rvs2 rr
    exact call_max2 hc pins s σ H vs us Q I r ⟨_, _, by rw [e, show v = _ from r1, show u = _ from r2], q μ H _ .refl hl rfl⟩
  · cases hz
theorem cr_min (hc : X.calm = true) : CallR X (.builtin "min") (rC G vMin) := by
  intro pins s σ H vs us Q I r h
  obtain ⟨μ, c, xs, z, c', hl, rr, hz, q⟩ := h
  unfold vMin at hz
  split at hz
  · cases hz
    obtain ⟨v, u, e, r1, r2⟩ := rvs2 rr
    exact call_min2 hc pins s σ H vs us Q I r ⟨_, _, by rw [e, show v = _ from r1, show u = _ from r2], q μ H _ .refl hl rfl⟩
  · cases hz

/-! ### isinstance with built-in classes -/
def tyName : CV → CS → Option String
  | .non, _ => some "NoneType"
  | .bl _, _ => some "bool"
  | .int _, _ => some "int"
  | .str _, _ => some "str"
  | .tup _, _ => some "tuple"
  | .ref n, c => match c.obj n with
    | .lst _ => some "list"
    | .dct _ => some "dict"
    | _ => none
theorem tyName_ok {K : PySem.W.Frag} {μ : Mu} {c : CS} {H : Hp} {x : CV} {v : V} {t : String} (hl : Rl G μ c H) (r : RV μ H x v) (h : tyName x c = some t) : TyX K H v (.type t) := by
  cases x with
  | non => cases h; cases (show v = _ from r); exact .base .non
  | bl b => cases h; cases (show v = _ from r); exact .base (.bl b)
  | int b => cases h; cases (show v = _ from r); exact .base (.int b)
  | str b => cases h; cases (show v = _ from r); exact .base (.str b)
  | tup b => cases h; obtain ⟨p, vs, e1, e2, _⟩ := r; subst e1; exact .base (.tup e2)
  | ref n =>
    obtain ⟨p, e1, e2⟩ := r
    subst e2
    rw [tyName] at h
    have ro := hl.obj n p e1
    cases ho : c.obj n with
    | lst xs => rw [ho] at ro h; cases h; obtain ⟨vs, _, r2⟩ := ro; exact .base (.lst r2)
    | dct xs =>
      rw [ho] at ro h; cases h
      rcases ro with ⟨ks, _, r2⟩ | ⟨_, ks, _, r2⟩
      · exact .base (.dK r2)
      · exact .base (.dT r2)
    | _ => rw [ho] at h; cases h
/-- whether the built-in type t stands under T -/
def isB (t T : String) : Bool := t == T || (t == "bool" && T == "int")
def tyKnown : List String := ["NoneType", "bool", "int", "str", "tuple", "list", "dict"]
def tyAsked : List String := ["bool", "int", "str", "tuple", "list", "dict"]
theorem kitB_all : (tyKnown.all fun t => tyAsked.all fun T => decide (kitB t T = some (isB t T))) = true := by decide +kernel
theorem tyName_known {x : CV} {c : CS} {t : String} (h : tyName x c = some t) : t ∈ tyKnown := by
  cases x with
  | ref n =>
    rw [tyName] at h
    cases ho : c.obj n <;> rw [ho] at h <;> cases h <;> decide
  | _ => cases h; decide
theorem kitB_ok {t T : String} (h1 : t ∈ tyKnown) (h2 : T ∈ tyAsked) : kitB t T = some (isB t T) := by
  have h := kitB_all
  rw [List.all_eq_true] at h
  have h' := h t h1
  rw [List.all_eq_true] at h'
  exact of_decide_eq_true (h' T h2)
def mIsi (T : String) (m : ME) : ME := fun ρ c => (m ρ c).bind fun x c1 => match tyName x c1 with
  | some t => .ok (.bl (isB t T)) c1
  | none => .stuck
/-- isinstance(e, T) -/
theorem ce_isi {T : String} {x : Str} {p p2 : Pos} (hT : T ∈ tyAsked) (hg : Gl X "isinstance") (hm : X.mg "isinstance" = none) (hg2 : Gl X x) (hm2 : X.mg x = none) (hv2 : bootBuiltins x = some (.type T)) (ha : PE X a (rE G W ma))
    (hn : x ≠ "__name__" := by decide) (hdb : (x == ("__debug__" : Str)) = false := by decide)
    (he : starEach [a, .Name x p2] X.env = (false, eval a X.env) :: starEach [.Name x p2] X.env := by rfl) (hpl : (backTo pos (starEach [Expr.Name x p2] X.env)).any (·.1) = false := by rfl) (he2 : starEach [.Name x p2] X.env = (false, eval (.Name x p2) X.env) :: starEach [] X.env := by rfl) :
    PE X (.Call (.Name "isinstance" p) [a, .Name x p2] [] pos) (rE G W (mIsi T ma)) :=
  PEimp (pe_callB call_isi hg hm (by decide +kernel) (pa_cons ha (pa_cons (pe_bltn (v := .ty T) hg2 hm2 hv2 rfl hn hdb) pa_nil he2) he) (he := he) (hpl := hpl)) fun _ _ σ H Q _ ⟨μ, ρ, c, hl, he, q⟩ =>
    ⟨μ, ρ, c, hl, he, (Rok.bind q).mono (fun _ _ h => h) fun x c1 q1 μ1 H1 v1 e1 l1 r1 => by
      cases ht : tyName x c1 with
      | none => rw [ht] at q1; exact False.elim q1
      | some t =>
        rw [ht] at q1
        exact ⟨v1, .ty T, .type t, .type T, _, rfl, .ty T, tyName_ok l1 r1 ht, kit_ty (kitB_ok (tyName_known ht) hT), q1 μ1 H1 _ e1 l1 rfl⟩⟩
end
end PM

/-! PM: methods of built-in values, join of a reversed list, dict displays, calls of own defs, statements. -/
namespace PM
open PySem PySem.Spec PyProof.Rows L2
section
variable {X : Cx} {G : Cfg} {W : WX} {k : Nat} {e a b o : Expr} {pos : Pos} {ma mb mo : ME} {es : List Expr} {ms : MA}
abbrev OM := CV → List CV → CS → Option (CV × CS)
def rM (G : Cfg) (f : OM) : V → List V → Hp → VK → Prop := fun x vs H Q => ∃ μ c a xs z c', Rl G μ c H ∧ RV μ H a x ∧ RVs μ H xs vs ∧ f a xs c = some (z, c') ∧ PV G Q μ H z c'
def tyIs (T : String) (x : CV) (c : CS) : Bool := match x with
  | .str _ => T == "str"
  | .ref n => match c.obj n with
    | .lst _ => T == "list"
    | .rol _ => T == "list"
    | .dct _ => T == "dict"
    | _ => false
  | _ => false
theorem tyIs_ok {K : PySem.W.Frag} {μ : Mu} {c : CS} {H : Hp} {x : CV} {v : V} {T : String} (hl : Rl G μ c H) (r : RV μ H x v) (h : tyIs T x c = true) : tyV K T v H := by
  cases x with
  | str z => cases (show v = _ from r); exact beq_iff_eq.mp h
  | ref n =>
    obtain ⟨p, e1, e2⟩ := r
    subst e2
    rw [tyIs] at h
    have ro := hl.obj n p e1
    cases ho : c.obj n with
    | lst xs => rw [ho] at ro h; obtain ⟨vs, _, r2⟩ := ro; exact .inl ⟨beq_iff_eq.mp h, vs, SqL.of r2⟩
    | rol xs => rw [ho] at ro h; obtain ⟨vs, o, _, r2⟩ := ro; exact .inl ⟨beq_iff_eq.mp h, vs, .inl (.inr ⟨o, r2⟩)⟩
    | dct xs =>
      rw [ho] at ro h
      rcases ro with ⟨ks, _, r2⟩ | ⟨_, ks, _, r2⟩
      · exact .inr (.inr (.inl ⟨beq_iff_eq.mp h, .inl ⟨ks, r2⟩⟩))
      · exact .inr (.inr (.inl ⟨beq_iff_eq.mp h, .inr ⟨ks, r2⟩⟩))
    | _ => rw [ho] at h; cases h
  | _ => cases h
def mMeth (T : String) (f : OM) (mo : ME) (ms : MA) : ME := fun ρ c => (mo ρ c).bind fun x c1 => if tyIs T x c1 = true then (ms ρ c1).bind fun xs c2 => lift (f x xs c2) else .stuck
theorem rE_meth {T : String} {f : OM} {σ : L2.St} {H : Hp} {Q : VK} (h : rE G W (mMeth T f mo ms) σ H Q) : tBM X.K T (rM G f) (rE G W mo) (rA G W ms) σ H Q := by
  obtain ⟨μ, ρ, c, hl, he, q⟩ := h
  refine ⟨μ, ρ, c, hl, he, (Rok.bind q).mono (fun _ _ h => h) fun x c1 q1 μ1 H1 v1 e1 l1 r1 => ?_⟩
  by_cases g : tyIs T x c1 = true
  · rw [if_pos g] at q1
    refine ⟨tyIs_ok l1 r1 g, μ1, ρ, c1, l1, he.ext e1, (Rok.bind q1).e e1 fun xs c2 q2 μ2 H2 vs e2 l2 r2 => ?_⟩
    obtain ⟨z, c3, hz, q3⟩ := q2.lift
    exact ⟨μ2, c2, x, xs, z, c3, l2, r1.ext e2, r2, hz, PV.ext q3 (e1.trans e2)⟩
  · rw [if_neg g] at q1; exact False.elim q1
theorem ce_bm {T id : String} {name : Str} {f : OM} {apos cpos : Pos} (pa : PlainAttrs T) (slot : Slot T name id) (hty : typeOf (.builtin id) = pure (.type "method_descriptor")) (hm : MtR X id (rM G f)) (ho : PE X o (rE G W mo)) (ha : PA X (e :: es) (rA G W ms))
    (hbase : attributeBase o name X.env (eval o X.env) = eval o X.env := by rfl)
    (hfew : ((backTo cpos (starEach (e :: es) X.env)).all (fun x => !x.1) && (backToKw cpos (keywordEach [] X.env)).all (fun x => x.1.isSome)
      && decide ((e :: es).length + ([] : List Keyword).length + (if ([] : List Keyword).isEmpty then 0 else 1) < 30)) = true := by rfl)
    (hline : (apos.endLine == cpos.line) = true := by rfl) (hs : starEach (e :: es) X.env = (false, eval e X.env) :: starEach es X.env := by rfl) (hplain : (backTo cpos (starEach es X.env)).any (·.1) = false := by rfl) :
    PE X (.Call (.Attribute o name apos) (e :: es) [] cpos) (rE G W (mMeth T f mo ms)) := PEimp (pe_bm pa slot hty hm ho ha hbase hfew hline hs hplain) fun _ _ _ _ _ _ q => rE_meth q
def oAppend : OM := fun x xs c => match x, xs with
  | .ref n, [y] => match getW c n with
    | some zs => if zs.length < sizeLine then some (.non, c.set n (.lst (zs ++ [y]))) else none
    | none => none
  | _, _ => none
theorem mt_oAppend : MtR X "list.append" (rM G oAppend) := by
  intro pins s σ H x vs v us Q I rx rv h
  obtain ⟨μ, c, a, xs, z, c', hl, r1, r2, hz, q⟩ := h
  unfold oAppend at hz
  split at hz
  · rename_i n y
    split at hz
    · rename_i zs g
      split at hz
      · rename_i gl
        cases hz
        obtain ⟨p, e1, e2⟩ := r1
        obtain ⟨y', ey, ry⟩ := rvs1 r2
        obtain ⟨ws, w1, w2⟩ := getW_ok hl e1 g
        refine mt_append pins s σ H x vs v us Q I rx rv ⟨p, ws, y', e2, ey, w2, by rw [w1.length]; exact gl, ?_⟩
        obtain ⟨x1, x2⟩ := hl.set (co := .lst (zs ++ [y])) (o := .lst (ws ++ [y'])) e1 w2 (fun _ z => nomatch z) (fun _ z => nomatch z) fun ex => ⟨_, (w1.ext ex).append (.cons (ry.ext ex) .nil), upd_same⟩
        exact q μ _ _ x1 x2 rfl
      · cases hz
    · cases hz
  · cases hz
def strsOf : List CV → Option (List Str)
  | [] => some []
  | .str x :: xs => (strsOf xs).bind fun ys => some (x :: ys)
  | _ :: _ => none
theorem strsOf_ok : ∀ {xs : List CV} {ys : List Str}, strsOf xs = some ys → xs = ys.map CV.str
  | [], ys, h => by cases h; rfl
  | x :: xs, ys, h => by
    cases x with
    | str z =>
      rw [strsOf] at h
      cases e : strsOf xs with
      | none => rw [e] at h; cases h
      | some zs => rw [e] at h; cases h; rw [List.map_cons, ← strsOf_ok e]
    | _ => cases h
theorem strs_rel {μ : Mu} {H : Hp} : ∀ {ys : List Str} {vs : List V}, RVs μ H (ys.map CV.str) vs → vs = ys.map V.str
  | [], _, h => h
  | y :: ys, _, ⟨v, r, h1, h2, h3⟩ => by rw [h1, List.map_cons, show v = _ from h2, strs_rel h3]
def joinFits (a : Str) (ys : List Str) : Bool := decide ((ys.map (·.length)).sum + ys.length * a.length ≤ 16777216)
def oJoin : OM := fun x xs c => match x, xs with
  | .str a, [.ref n] => match getL c n with
    | some zs => match strsOf zs with
      | some ys => if joinFits a ys = true then some (.str (Txt.join a ys), c) else none
      | none => none
    | none => none
  | _, _ => none
theorem mt_oJoin : MtR X "str.join" (rM G oJoin) := by
  intro pins s σ H x vs v us Q I rx rv h
  obtain ⟨μ, c, a, xs, z, c', hl, r1, r2, hz, q⟩ := h
  unfold oJoin at hz
  split at hz
  · split at hz
    · rename_i g
      split at hz
      · rename_i ys gs
        split at hz
        · rename_i gf
          cases hz
          obtain ⟨y', ey, p, e1, e2⟩ := rvs1 r2
          obtain ⟨ws, w1, w2⟩ := getL_ok (K := X.K) hl e1 g
          rw [strsOf_ok gs] at w1
          have ew := strs_rel w1
          subst ew
          exact mt_join pins s σ H x vs v us Q I rx rv ⟨_, p, ys, r1, by rw [ey, e2], .inl w2, of_decide_eq_true gf, q μ H _ .refl hl rfl⟩
        · cases hz
      · cases hz
    · cases hz
  · cases hz
def oFind : OM := fun x xs c => match x, xs with
  | .str a, [.str b] => some (.int (Txt.find a b), c)
  | _, _ => none
theorem mt_oFind : MtR X "str.find" (rM G oFind) := by
  intro pins s σ H x vs v us Q I rx rv h
  obtain ⟨μ, c, a, xs, z, c', hl, r1, r2, hz, q⟩ := h
  unfold oFind at hz
  split at hz
  · cases hz
    obtain ⟨y', ey, ry⟩ := rvs1 r2
    exact mt_find pins s σ H x vs v us Q I rx rv ⟨_, _, r1, by rw [ey, show y' = _ from ry], q μ H _ .refl hl rfl⟩
  · cases hz
def oIndex : OM := fun x xs c => match x, xs with
  | .str a, [.str b] => match Builtin.Str.occurrences a b 0 a.length 1 with
    | i :: _ => some (.int (i : Nat), c)
    | [] => none
  | _, _ => none
theorem mt_oIndex : MtR X "str.index" (rM G oIndex) := by
  intro pins s σ H x vs v us Q I rx rv h
  obtain ⟨μ, c, a, xs, z, c', hl, r1, r2, hz, q⟩ := h
  unfold oIndex at hz
  split at hz
  · split at hz
    · rename_i i rest g
      cases hz
      obtain ⟨y', ey, ry⟩ := rvs1 r2
      exact mt_sindex pins s σ H x vs v us Q I rx rv ⟨_, _, i, rest, r1, by rw [ey, show y' = _ from ry], g, q μ H _ .refl hl rfl⟩
    · cases hz
  · cases hz

/-! ### sep.join(reversed(xs)) -/
theorem join_rev {prog : Program} {w : World} {A : Around} {E : Value → Shared → Prop} {s : Shared} {x : Str} {t : Tok} {it l : Addr} {items : Array Value} {ys : List Str} {Q : Value → Shared → Prop} (hh : A.handled = none)
    (hit : s.heap.IsRevIter it l ((items.size : Int) - 1)) (hl : s.heap.IsList l items) (hne : l ≠ it) (hn : items.size ≤ sizeLine)
    (hP : ∀ acc : Array Value, ItemsOf (fun i v => items[items.size - 1 - i]? = some v) acc items.size → StrsAre acc.toList ys) (hok : (ys.map (·.length)).sum + ys.length * x.length ≤ 16777216)
    (hq : ∀ h' t' k, (∀ b o, b ≠ it → s.heap.get? b = some o → h'.get? b = some o) → Q (.str (Txt.join x ys) t') { s with heap := h', toks := k }) :
    wpAny (model prog w) A (call (.builtin "str.join") [.str x t, .ref it]) Q E s := by
  refine wpAny_call (codeAny_call_builtin F.slot_str_join.plain F.entry_str_join (F.slot_str_join.check _ _ _ _ _ _ _ _ (typeIs_str _ _ _) (F.args_str_join_2 _ _) ?_))
  rw [join_tree_other]
  refine wpAny_bind (wpAny_typeOf hit.typeIs ?_)
  show wpAny _ A.in1 ((pyIter (.ref it)).tryCatch _ >>= fun it => collect it >>= fun items => joinTail x items) _ _ s
  refine wpAny_bind (wpAny_tryCatch (wpAny_pyIter_revIter hit ?_))
  refine wpAny_bind (RT.collect_rev (A := A.in1) hh hit hl hne hn fun h' tk acc hk hacc => ?_)
  obtain ⟨l, hl', ht⟩ := strsAre_values (hP acc hacc)
  subst ht
  rw [hl']
  have hok' := joinOk_of hok
  unfold JoinOk at hok'
  rw [Bool.not_eq_true'] at hok'
  have g : Gives (joinTail x (strValues l)) (joinMade x l) := by
    have g0 := gives_joinTail x l hok'
    cases l with
    | nil => exact g0
    | cons p r => cases r with
      | nil => exact g0
      | cons q r' => exact g0
  exact g prog w A (wants Q E) _ (post_join l ⟨joinFit_length hok', fun t' k => hq h' t' k hk⟩)
/-- sep.join(reversed(xs)): the mirror -/
def mJoinRev (sep : Str) (m : ME) : ME := fun ρ c => (m ρ c).bind fun x c1 => match x with
  | .ref n => match getL c1 n with
    | some zs => match strsOf zs with
      | some ys => if joinFits sep ys.reverse = true then .ok (.str (Txt.join sep ys.reverse)) c1 else .stuck
      | none => .stuck
    | none => .stuck
  | _ => .stuck
theorem strsAre_rev {ys : List Str} {its : List Value} {acc : Array Value} (r : Vals (ys.map V.str) its) (h : ItemsOf (fun i v => its.toArray[its.toArray.size - 1 - i]? = some v) acc its.toArray.size) : StrsAre acc.toList ys.reverse := by
  have h1 := RT.vals_rev r h
  rw [← List.map_reverse] at h1
  exact strs_of_vals h1
theorem ce_joinRev {sep : Str} {j : Nat} {p0 apos p2 pos2 : Pos} (hc : X.calm = true) (hg2 : Gl X "reversed") (hm2 : X.mg "reversed" = none) (he : PE X e (rE G W ma))
    (hs : starEach [e] X.env = (false, eval e X.env) :: starEach [] X.env := by rfl)
    (hs1 : starEach [.Call (.Name "reversed" p2) [e] [] pos2] X.env = [(false, eval (.Call (.Name "reversed" p2) [e] [] pos2) X.env)] := by rfl)
    (hbase : attributeBase (.Constant (.str sep) j p0) "join" X.env (eval (.Constant (.str sep) j p0) X.env) = eval (.Constant (.str sep) j p0) X.env := by rfl) (hline : (apos.endLine == pos.line) = true := by rfl) :
    PE X (.Call (.Attribute (.Constant (.str sep) j p0) "join" apos) [.Call (.Name "reversed" p2) [e] [] pos2] [] pos) (rE G W (mJoinRev sep ma)) := by
  refine ⟨fun pins s σ H Q I h => ?_⟩
  obtain ⟨μ, ρ, c, hl, he', q⟩ := h
  refine PySem.Call_method1 hbase hs1 hline (Calls.Constant_str ?_)
  refine ⟨"str", _, F.plainAttrs_str, F.slot_str_join, F.type_str_join, typeIs_str _ _ _, (fun _ e => nomatch e), Calls.callWith_builtin rfl (Calls.evalArgs_plain (Calls.spliced_cons ?_))⟩
  have I0 : Inv X pins σ H { s with toks := s.toks + 1 } := I.tok _
  refine Call_ (ld_blt I0 hg2 hm2 PyProof.Rows.boot_reversed (PyProof.Rows.callWith_type1 (args_cons (thn (he.run pins _ σ H (fun v H1 => ∃ x c1 μ1, Ext μ H μ1 H1 ∧ Rl G μ1 c1 H1 ∧ RV μ1 H1 x v ∧ Rok (match x with
  | .ref n => match getL c1 n with
    | some zs => match strsOf zs with
      | some ys => if joinFits sep ys.reverse = true then R.ok (.str (Txt.join sep ys.reverse)) c1 else .stuck
      | none => .stuck
    | none => .stuck
  | _ => .stuck) (PX G W μ H σ) (PV G Q μ H)) I0 ⟨μ, ρ, c, hl, he', (Rok.bind q).mono (fun _ _ h => h) fun x c1 q1 μ1 H1 v1 e1 l1 r1 => ⟨x, c1, μ1, e1, l1, r1, q1⟩⟩) fun u s1 ⟨v, H1, I1, r1, q1⟩ => args_nil ?_) hs) hs rfl))
  obtain ⟨x, c1, μ1, e1, l1, rv, q1⟩ := q1
  cases x with
  | ref n =>
    dsimp only at q1
    cases eg : getL c1 n with
    | none => rw [eg] at q1; exact False.elim q1
    | some zs =>
      rw [eg] at q1
      dsimp only at q1
      cases es : strsOf zs with
      | none => rw [es] at q1; exact False.elim q1
      | some ys =>
        rw [es] at q1
        dsimp only at q1
        by_cases gf : joinFits sep ys.reverse = true
        · rw [if_pos gf] at q1
          obtain ⟨a, a1, a2⟩ := rv
          subst a2
          obtain rfl : u = Value.ref a := r1
          obtain ⟨ws, w1, w2⟩ := getL_ok (K := X.K) l1 a1 eg
          rw [strsOf_ok es] at w1
          have ew := strs_rel w1
          subst ew
          obtain ⟨its, rvv, p', hz⟩ := I1.list w2
          refine call_reversed_list p'.isList (Calls.spliced_nil ?_)
          have k0 : ∀ b o, s1.heap.get? b = some o → (s1.heap.push (revObj a ((its.toArray.size : Int) - 1))).get? b = some o := fun b o e => Heap.get?_push_of_some _ e
          have I2 : Inv X pins σ H1 { s1 with heap := s1.heap.push (revObj a ((its.toArray.size : Int) - 1)) } := I1.kept (t' := s1.toks) k0
          obtain ⟨f0, f1, f2, f3, f4, f5⟩ := I1.fpOk (H' := H1) (b := s1.heap.objs.size) (Nat.le_refl _) (I1.hok.fresh (Nat.le_refl _))
          have hl' := p'.isList
          obtain ⟨ol, hol, _⟩ := id hl'
          have hne : a ≠ s1.heap.objs.size := Nat.ne_of_lt (Heap.lt_size hol)
          have hn : its.toArray.size ≤ sizeLine := by rw [List.size_toArray, ← rvv.length]; exact hz
          refine join_rev (s := { s1 with heap := s1.heap.push (revObj a ((its.toArray.size : Int) - 1)) }) (I1.ok.hd hc) ⟨_, Heap.get?_push_size _ rfl, rfl, rfl⟩ (hl'.push _) hne hn (fun acc hacc => strsAre_rev rvv hacc) (of_decide_eq_true gf) fun h' t' k' hk => ?_
          exact ⟨.str _, H1, I2.turned (t' := k') (fun b o hb e => hk b o hb e) f0 f1 f3 f4 f5, ⟨t', rfl⟩, q1 μ1 H1 _ e1 l1 rfl⟩
        · rw [if_neg gf] at q1; exact False.elim q1
  | _ => exact False.elim q1
end
end PM

/-! PM: statements, loops, comprehensions, calls of own defs. -/
namespace PM
open PySem PySem.Spec PyProof.Rows L2
section
variable {X : Cx} {G : Cfg} {W : WX} {k : Nat} {e a b o : Expr} {pos : Pos} {ma mb mo : ME} {mt : MT} {es : List Expr} {ms : MA} {st : Stmt} {sts rest : List Stmt} {sa sb : MS} {D : Ends} {σ : L2.St} {H : Hp}
def liftE {α : Type} (r : R α) (ρ : CEnv) (f : α → CS → RS) : RS := match r with
  | .ok a c => f a c
  | .exc e c => .exc e ρ c
  | .stuck => .stuck
@[simp] theorem liftE_ok {α : Type} (a : α) (c : CS) (ρ : CEnv) (f : α → CS → RS) : liftE (.ok a c) ρ f = f a c := rfl
theorem PXS.at {μ : Mu} {x : CE} {ρ : CEnv} {c : CS} (h : PXS G W μ H x ρ c) (he : RE μ H ρ σ) : PX G W μ H σ x c := fun μ' H' cls d y l kx => h μ' H' σ cls d y l (he.ext y) kx
theorem RSat.lift {α : Type} {r : R α} {ρ : CEnv} {f : α → CS → RS} {μ : Mu} (h : RSat G W D μ H (liftE r ρ f)) (he : RE μ H ρ σ) : Rok r (PX G W μ H σ) fun a c => RSat G W D μ H (f a c) := by
  cases r with
  | ok a c => exact h
  | exc x c => exact PXS.at h he
  | stuck => exact h
def sNil : MS := fun ρ c => .nx ρ c
def sSeq (a b : MS) : MS := fun ρ c => match a ρ c with
  | .nx ρ1 c1 => b ρ1 c1
  | r => r
theorem rS_seq (h : rS G W (sSeq sa sb) D σ H) : tSeq (rS G W sa) (rS G W sb) D σ H := by
  obtain ⟨μ, ρ, c, hl, he, q⟩ := h
  refine ⟨μ, ρ, c, hl, he, ?_⟩
  unfold sSeq at q
  cases hr : sa ρ c with
  | nx ρ1 c1 => rw [hr] at q; exact fun μ1 H1 σ1 e1 l1 r1 => ⟨μ1, ρ1, c1, l1, r1, RSat.ext q e1⟩
  | ret v c1 => rw [hr] at q; exact q
  | bk ρ1 c1 => rw [hr] at q; exact q
  | ct ρ1 c1 => rw [hr] at q; exact q
  | exc x ρ1 c1 => rw [hr] at q; exact q
  | stuck => rw [hr] at q; exact q
theorem cs_nil : PSs X [] (rS G W sNil) := PSsimp pss_nil fun _ _ σ H D _ ⟨μ, ρ, c, hl, he, q⟩ => q μ H σ .refl hl he
theorem cs_cons (h1 : PS X st (rS G W sa)) (h2 : PSs X rest (rS G W sb)) : PSs X (st :: rest) (rS G W (sSeq sa sb)) := PSsimp (pss_cons h1 h2) fun _ _ _ _ _ _ q => rS_seq q
theorem cs_one (h1 : PS X st (rS G W sa)) : PSs X [st] (rS G W sa) := pss_one h1
theorem cs_pass : PS X (.Pass pos) (rS G W sNil) := PSimp ps_pass fun _ _ σ H D _ ⟨μ, ρ, c, hl, he, q⟩ => q μ H σ .refl hl he
def sBk : MS := fun ρ c => .bk ρ c
def sCt : MS := fun ρ c => .ct ρ c
theorem cs_break : PS X (.Break pos) (rS G W sBk) := PSimp ps_break fun _ _ σ H D _ ⟨μ, ρ, c, hl, he, q⟩ => q μ H σ .refl hl he
theorem cs_continue : PS X (.Continue pos) (rS G W sCt) := PSimp ps_continue fun _ _ σ H D _ ⟨μ, ρ, c, hl, he, q⟩ => q μ H σ .refl hl he
def sExpr (m : ME) : MS := fun ρ c => liftE (m ρ c) ρ fun _ c1 => .nx ρ c1
theorem cs_expr (h : PE X e (rE G W ma)) (hs : swapsWith e none pos.line X.env = pure false := by rfl) : PS X (.Expr e pos) (rS G W (sExpr ma)) :=
  PSimp (ps_expr h hs) fun _ _ σ H D _ ⟨μ, ρ, c, hl, he, q⟩ => ⟨μ, ρ, c, hl, he, (RSat.lift q he).mono (fun _ _ h => h) fun x c1 q1 μ1 H1 v1 e1 l1 r1 => q1 μ1 H1 σ e1 l1 (he.ext e1)⟩
def sRet (m : ME) : MS := fun ρ c => liftE (m ρ c) ρ fun v c1 => .ret v c1
theorem cs_ret (h : PE X e (rE G W ma)) : PS X (.Return (some e) pos) (rS G W (sRet ma)) :=
  PSimp (ps_ret h) fun _ _ σ H D _ ⟨μ, ρ, c, hl, he, q⟩ => ⟨μ, ρ, c, hl, he, (RSat.lift q he).mono (fun _ _ h => h) fun x c1 q1 => q1⟩
def sRetN : MS := fun ρ c => .ret .non c
theorem cs_retN : PS X (.Return none pos) (rS G W sRetN) := PSimp ps_retN fun _ _ σ H D _ ⟨μ, ρ, c, hl, he, q⟩ => q μ H .non .refl hl rfl
def sIf (t : MT) (a b : MS) : MS := fun ρ c => liftE (t ρ c) ρ fun k c1 => if k = true then a ρ c1 else b ρ c1
theorem cs_if {c : Expr} {as bs : List Stmt} (hc : PT X c (rT G W mt)) (ha : PSs X as (rS G W sa)) (hb : PSs X bs (rS G W sb)) : PS X (.If c as bs pos) (rS G W (sIf mt sa sb)) :=
  PSimp (ps_if hc ha hb) fun _ _ σ H D _ ⟨μ, ρ, c, hl, he, q⟩ => ⟨μ, ρ, c, hl, he, (RSat.lift q he).mono (fun _ _ h => h) fun k c1 q1 μ1 H1 e1 l1 => by
    cases k with
    | true => rw [if_pos rfl] at q1 ⊢; exact ⟨μ1, ρ, c1, l1, he.ext e1, RSat.ext q1 e1⟩
    | false => rw [if_neg Bool.false_ne_true] at q1 ⊢; exact ⟨μ1, ρ, c1, l1, he.ext e1, RSat.ext q1 e1⟩⟩
/-! ### assignments -/
def sSet (i : Nat) (m : ME) : MS := fun ρ c => liftE (m ρ c) ρ fun v c1 => .nx (ρ.set i (some v)) c1
theorem rS_set {i : Nat} (h : rS G W (sSet i ma) D σ H) : tAsg (rE G W ma) (gName i) D σ H := by
  obtain ⟨μ, ρ, c, hl, he, q⟩ := h
  exact ⟨μ, ρ, c, hl, he, (RSat.lift q he).mono (fun _ _ h => h) fun x c1 q1 μ1 H1 v1 e1 l1 r1 => q1 μ1 H1 _ e1 l1 (RE.set r1 i (he.ext e1))⟩
theorem cs_set {i : Nat} {x : Str} {pos' : Pos} (hN : X.N.Nodup) (hi : X.N[i]? = some x) (hx : Loc X.env.scope x) (h : PE X e (rE G W ma)) (hs : swapsWith e (some (.Name x pos')) pos.line X.env = pure false := by rfl) (hf : X.fn x = true ∨ X.env.scope.names.lookup x = some .local := by first | exact .inl rfl | exact .inr rfl | assumption) :
    PS X (.Assign [.Name x pos'] e pos) (rS G W (sSet i ma)) := PSimp (ps_set hN hi hx h hs hf) fun _ _ _ _ _ _ q => rS_set q
/-- a[i] = v -/
abbrev O3 := CV → CV → CV → CS → Option CS
def vSet (x i v : CV) (c : CS) : Option CS := match x, i with
  | .ref n, .int j => match getW c n with
    | some xs => match ixN xs.length j with
      | some p => some (c.set n (.lst (xs.set p v)))
      | none => none
    | none => none
  | _, _ => none
def sSub (mo mi mv : ME) : MS := fun ρ c => liftE (mv ρ c) ρ fun v c1 => liftE (mo ρ c1) ρ fun x c2 => liftE (mi ρ c2) ρ fun i c3 => match vSet x i v c3 with
  | some c4 => .nx ρ c4
  | none => .stuck
def rSet (G : Cfg) : V → V → V → Hp → (Hp → Prop) → Prop := fun o i v H Q => ∃ μ c x j y c', Rl G μ c H ∧ RV μ H x o ∧ RV μ H j i ∧ RV μ H y v ∧ vSet x j y c = some c' ∧ ∀ μ' H', Ext μ H μ' H' → Rl G μ' c' H' → Q H'
theorem set_v : PSet X (rSet G) := by
  intro pins s σ H o i v ov iv u Q I ro ri rv h
  obtain ⟨μ, c, x, j, y, c', hl, r1, r2, r3, hz, q⟩ := h
  unfold vSet at hz
  split at hz
  · rename_i n j'
    split at hz
    · rename_i xs g
      split at hz
      · rename_i p hp
        cases hz
        obtain ⟨a, e1, e2⟩ := r1
        obtain ⟨ws, w1, w2⟩ := getW_ok hl e1 g
        refine set_list pins s σ H o i v ov iv u Q I ro ri rv ⟨a, ws, j', p, e2, r2, w2, by rw [w1.length]; exact hp, ?_⟩
        obtain ⟨x1, x2⟩ := hl.set (co := .lst (xs.set p y)) (o := .lst (ws.set p v)) e1 w2 (fun _ z => nomatch z) (fun _ z => nomatch z) fun ex => ⟨_, RVs.set (r3.ext ex) p (w1.ext ex), upd_same⟩
        exact q μ _ x1 x2
      · cases hz
    · cases hz
  · cases hz
theorem cs_sub {i : Expr} {mi mv : ME} {tpos : Pos} (hv : PE X e (rE G W mv)) (ho : PE X o (rE G W mo)) (hi : PE X i (rE G W mi)) (hs : swapsWithSole [.Subscript o i tpos] e pos.line X.env = pure false := by rfl) (hw : swappedStores [.Subscript o i tpos] e X.env = pure none := by rfl)
    (ha : ∀ v, assign (.Subscript o i tpos) X.env v = (do
      let ov ← holding [v] (eval o X.env)
      let iv ← holding [v, ov] (eval i X.env)
      standAt tpos
      holding [v, ov, iv] (setItem ov iv v)
      release [v, ov, iv] []) := by intro _; rfl) :
    PS X (.Assign [.Subscript o i tpos] e pos) (rS G W (sSub mo mi mv)) :=
  PSimp (ps_asg hv (pg_sub ho hi set_v ha) hs hw) fun _ _ σ H D _ ⟨μ, ρ, c, hl, he, q⟩ => ⟨μ, ρ, c, hl, he, (RSat.lift q he).mono (fun _ _ h => h) fun v c1 q1 μ1 H1 v1 e1 l1 r1 =>
    ⟨μ1, ρ, c1, l1, he.ext e1, (RSat.lift (RSat.ext q1 e1) (he.ext e1)).mono (fun _ _ h => h) fun x c2 q2 μ2 H2 v2 e2 l2 r2 =>
      ⟨μ2, ρ, c2, l2, (he.ext e1).ext e2, (RSat.lift (RSat.ext q2 e2) ((he.ext e1).ext e2)).mono (fun _ _ h => h) fun j c3 q3 μ3 H3 v3 e3 l3 r3 => by
        cases hz : vSet x j v c3 with
        | none => rw [hz] at q3; exact False.elim q3
        | some c4 =>
          rw [hz] at q3
          exact ⟨μ3, c3, x, j, v, c4, l3, r2.ext e3, r3, (r1.ext e2).ext e3, hz, fun μ4 H4 e4 l4 => q3 μ4 H4 σ (e3.trans e4) l4 ((((he.ext e1).ext e2).ext e3).ext e4)⟩⟩⟩⟩

/-! ### targets -/
abbrev MG := CV → CEnv → Option CEnv
def gN (i : Nat) : MG := fun v ρ => some (ρ.set i (some v))
structure CG (X : Cx) (G : Cfg) (tg : Expr) (t : MG) (ts : List Nat) : Prop where
  ex : ∃ g : TG, PG X tg g ∧ ∀ (μ : Mu) (c : CS) (H : Hp) (x : CV) (v : V) (ρ ρ' : CEnv) (σ : L2.St) (Q : L2.St → Hp → Prop), Rl G μ c H → RV μ H x v → RE μ H ρ σ → t x ρ = some ρ' →
    (∀ σ', RE μ H ρ' σ' → (∀ vs, (∀ i ∈ ts, i ∈ vs) → wipe σ' vs = wipe σ vs) → Q σ' H) → g v σ H Q
theorem wipe_set {y : Option V} : ∀ (vs : List Nat) (σ : L2.St) (i : Nat), i ∈ vs → wipe (σ.set i y) vs = wipe σ vs
  | [], _, _, h => by cases h
  | v :: vs, σ, i, h => by
    have comm : ∀ us : List Nat, ∀ τ : L2.St, wipe (τ.set i y) us = (if i ∈ us then wipe τ us else (wipe τ us).set i y) := by
      intro us
      induction us with
      | nil => intro τ; simp [wipe]
      | cons u us ih =>
        intro τ
        rw [wipe, wipe, ih τ]
        by_cases hu : i ∈ us
        · rw [if_pos hu, if_pos (List.mem_cons_of_mem _ hu)]
        · rw [if_neg hu]
          by_cases hi : i = u
          · subst hi
            rw [if_pos List.mem_cons_self, List.set_set]
          · rw [if_neg (by simp [hi, hu]), List.set_comm _ _ hi]
    rw [comm (v :: vs) σ, if_pos h]
theorem cg_name {i : Nat} {x : Str} (hN : X.N.Nodup) (hi : X.N[i]? = some x) (hx : Loc X.env.scope x) (hf : X.fn x = true ∨ X.env.scope.names.lookup x = some .local := by first | exact .inl rfl | exact .inr rfl | assumption) : CG X G (.Name x pos) (gN i) [i] :=
  ⟨gName i, pg_name hN hi hx hf, fun μ c H x v ρ ρ' σ Q hl r he h q => by
    cases h
    exact q _ (RE.set r i he) fun vs hv => wipe_set vs σ i (hv i (List.mem_cons_self))⟩

/-! ### what a loop walks -/
structure IC where
  xs : List CV
  chk : CS → Prop
abbrev MI := CEnv → CS → R IC
structure ItM (G : Cfg) (K : PySem.W.Frag) (J : It) (it : IC) (μ0 : Mu) (H0 : Hp) : Prop where
  go : ∀ i μ c H, Ext μ0 H0 μ H → Rl G μ c H → it.chk c → i < it.xs.length → J.go i H
  stop : ∀ i μ c H, Ext μ0 H0 μ H → Rl G μ c H → it.chk c → it.xs.length ≤ i → J.stop i H
  yld : ∀ i x μ c H v H', Ext μ0 H0 μ H → Rl G μ c H → it.chk c → it.xs[i]? = some x → J.yld i H v H' → ∃ μ', Ext μ H μ' H' ∧ Rl G μ' c H' ∧ RV μ' H' x v
def rI (K : PySem.W.Frag) (G : Cfg) (W : WX) (im : MI) : TI := fun σ H R => ∃ μ ρ c, Rl G μ c H ∧ RE μ H ρ σ ∧ Rok (im ρ c) (PX G W μ H σ) fun it c' => ∀ μ' H', Ext μ H μ' H' → Rl G μ' c' H' → ∀ J, ItM G K J it μ' H' → R J H'
theorem PIor {tg : Expr} {w1 w2 : TI} (h1 : PI X tg e w1) (h2 : PI X tg e w2) : PI X tg e (fun σ H R => w1 σ H R ∨ w2 σ H R) := ⟨fun pins s σ H R I q => by
  rcases q with q | q
  · exact h1.run pins s σ H R I q
  · exact h2.run pins s σ H R I q⟩
theorem PIimp {tg : Expr} {w1 w2 : TI} (h : PI X tg e w1) (i : ∀ pins s σ H R, Inv X pins σ H s → w2 σ H R → w1 σ H R) : PI X tg e w2 := ⟨fun pins s σ H R I q => h.run pins s σ H R I (i pins s σ H R I q)⟩
def iterC (v : CV) (c : CS) : Option IC := match v with
  | .str z => some ⟨z.cps.toList.map fun p => .str ⟨#[p]⟩, fun _ => True⟩
  | .tup xs => some ⟨xs, fun _ => True⟩
  | .ref n => match getL c n with
    | some xs => some ⟨xs, fun c' => getL c' n = some xs⟩
    | none => none
  | _ => none
def mIter (m : ME) : MI := fun ρ c => (m ρ c).bind fun v c1 => match iterC v c1 with
  | some it => .ok it c1
  | none => .stuck
theorem itm_list {K : PySem.W.Frag} {n : Nat} {a : Addr} {xs : List CV} {μ0 : Mu} {H0 : Hp} (hn : μ0 n = some a) : ItM G K (Itl K a) ⟨xs, fun c' => getL c' n = some xs⟩ μ0 H0 where
  go := fun i μ c H ex hl hc hi => by
    obtain ⟨vs, w1, w2⟩ := getL_ok (K := K) hl (ex.mu _ _ hn) hc
    obtain ⟨v, q, _⟩ := w1.get (i := i) (x := xs[i]) (List.getElem?_eq_getElem hi)
    exact ⟨vs, v, w2, q⟩
  stop := fun i μ c H ex hl hc hi => by
    obtain ⟨vs, w1, w2⟩ := getL_ok (K := K) hl (ex.mu _ _ hn) hc
    exact ⟨vs, w2, by rw [w1.length]; exact hi⟩
  yld := fun i x μ c H v H' ex hl hc hx y => by
    obtain ⟨vs, w1, w2⟩ := getL_ok (K := K) hl (ex.mu _ _ hn) hc
    obtain ⟨v', q, r⟩ := w1.get (i := i) hx
    obtain ⟨y1, y2⟩ := y
    subst y1
    have e := y2 vs w2
    rw [q] at e
    cases e
    exact ⟨μ, .refl, hl, r⟩
theorem itm_tup {K : PySem.W.Frag} {a : Addr} {xs : List CV} {vs : List V} {μ0 : Mu} {H0 : Hp} (ha : H0 a = some (.tup vs)) (hv : RVs μ0 H0 xs vs) : ItM G K (Itt K a) ⟨xs, fun _ => True⟩ μ0 H0 where
  go := fun i μ c H ex hl hc hi => by
    obtain ⟨v, q, _⟩ := hv.get (i := i) (x := xs[i]) (List.getElem?_eq_getElem hi)
    exact ⟨vs, v, SqT.of (ex.tup _ _ ha), q⟩
  stop := fun i μ c H ex hl hc hi => ⟨vs, SqT.of (ex.tup _ _ ha), by rw [hv.length]; exact hi⟩
  yld := fun i x μ c H v H' ex hl hc hx y => by
    obtain ⟨v', q, r⟩ := hv.get (i := i) hx
    obtain ⟨y1, y2⟩ := y
    subst y1
    have e := y2 vs (SqT.of (ex.tup _ _ ha))
    rw [q] at e
    cases e
    exact ⟨μ, .refl, hl, r.ext ex⟩
theorem itm_str {K : PySem.W.Frag} {z : Str} {μ0 : Mu} {H0 : Hp} : ItM G K (Its z) ⟨z.cps.toList.map fun p => .str ⟨#[p]⟩, fun _ => True⟩ μ0 H0 where
  go := fun i μ c H ex hl hc hi => by
    have : i < z.cps.size := by simpa using hi
    exact this
  stop := fun i μ c H ex hl hc hi => by
    have : z.cps.size ≤ i := by simpa using hi
    exact this
  yld := fun i x μ c H v H' ex hl hc hx y => by
    obtain ⟨y1, p, y2, y3⟩ := y
    subst y1
    have e : x = .str ⟨#[p]⟩ := by
      rw [List.getElem?_map] at hx
      have : z.cps.toList[i]? = some p := by simpa using y2
      rw [this] at hx
      exact (Option.some.inj hx).symm
    exact ⟨μ, .refl, hl, by rw [e, y3]; rfl⟩
def iInt (lo : Int) (n : Nat) : List CV := (List.range n).map fun i => .int (lo + (i : Nat))
theorem itm_range {K : PySem.W.Frag} {lo : Int} {n : Nat} {μ0 : Mu} {H0 : Hp} : ItM G K (Itr lo n) ⟨iInt lo n, fun _ => True⟩ μ0 H0 where
  go := fun i μ c H ex hl hc hi => by
    have : i < n := by simpa [iInt] using hi
    exact this
  stop := fun i μ c H ex hl hc hi => by
    have : n ≤ i := by simpa [iInt] using hi
    exact this
  yld := fun i x μ c H v H' ex hl hc hx y => by
    obtain ⟨y1, y2⟩ := y
    subst y1
    have e : x = .int (lo + (i : Nat)) := by
      have hx' : (iInt lo n)[i]? = some x := hx
      unfold iInt at hx'
      rw [List.getElem?_map] at hx'
      cases hr : (List.range n)[i]? with
      | none => rw [hr] at hx'; cases hx'
      | some j =>
        rw [hr] at hx'
        have := (List.getElem?_eq_some_iff.mp hr).2
        rw [List.getElem_range] at this
        rw [← this] at hx'
        exact (Option.some.inj hx').symm
    exact ⟨μ, .refl, hl, by rw [e, y2]; rfl⟩
theorem ci_any {tg : Expr} (h : PE X e (rE G W ma)) : PI X tg e (rI X.K G W (mIter ma)) := by
  refine PIimp (PIor (pi_list h) (PIor (pi_tup h) (pi_str h))) fun _ _ σ H R _ ⟨μ, ρ, c, hl, he, q⟩ => ?_
  unfold mIter at q
  cases hm : ma ρ c with
  | stuck => rw [hm] at q; exact False.elim q
  | exc x c1 => rw [hm] at q; exact .inl ⟨μ, ρ, c, hl, he, by rw [hm]; exact q⟩
  | ok v c1 =>
    rw [hm] at q
    replace q : Rok (match iterC v c1 with | some it => PM.R.ok it c1 | none => .stuck) (PX G W μ H σ) _ := q
    cases hi : iterC v c1 with
    | none => rw [hi] at q; exact False.elim q
    | some it =>
      rw [hi] at q
      cases v with
      | str z =>
        cases hi
        exact .inr (.inr ⟨μ, ρ, c, hl, he, by rw [hm]; exact fun μ' H' v' ex l r => ⟨z, r, q μ' H' ex l _ itm_str⟩⟩)
      | tup xs =>
        cases hi
        exact .inr (.inl ⟨μ, ρ, c, hl, he, by
          rw [hm]
          intro μ' H' v' ex l r
          obtain ⟨a, vs, e1, e2, e3⟩ := r
          exact ⟨a, e1, ⟨vs, SqT.of e2⟩, q μ' H' ex l _ (itm_tup e2 e3)⟩⟩)
      | ref n =>
        unfold iterC at hi
        dsimp only at hi
        cases hg : getL c1 n with
        | none => rw [hg] at hi; cases hi
        | some xs =>
          rw [hg] at hi
          cases hi
          exact .inl ⟨μ, ρ, c, hl, he, by
            rw [hm]
            intro μ' H' v' ex l r
            obtain ⟨a, e1, e2⟩ := r
            obtain ⟨vs, w1, w2⟩ := getL_ok (K := X.K) l e1 hg
            exact ⟨a, e2, ⟨vs, w2⟩, q μ' H' ex l _ (itm_list e1)⟩⟩
      | _ => cases hi
def rgOk (i : Int) : Bool := decide (-(2 ^ 62) ≤ i) && decide (i < 2 ^ 62)
def mRange1 (ms : MA) : MI := fun ρ c => (ms ρ c).bind fun xs c1 => match xs with
  | [.int j] => if rgOk j = true then .ok ⟨iInt 0 j.toNat, fun _ => True⟩ c1 else .stuck
  | _ => .stuck
def mRange2 (ms : MA) : MI := fun ρ c => (ms ρ c).bind fun xs c1 => match xs with
  | [.int i, .int j] => if rgOk i = true ∧ rgOk j = true then .ok ⟨iInt i (j - i).toNat, fun _ => True⟩ c1 else .stuck
  | _ => .stuck
theorem rgOk_ok {i : Int} (h : rgOk i = true) : -(2 ^ 62) ≤ i ∧ i < 2 ^ 62 := by
  unfold rgOk at h
  rw [Bool.and_eq_true] at h
  exact ⟨of_decide_eq_true h.1, of_decide_eq_true h.2⟩
theorem ci_range1 {tg : Expr} {p : Pos} (hg : Gl X "range") (hm : X.mg "range" = none) (ha : PA X [a] (rA G W ms)) (hs : starEach [a] X.env = [(false, eval a X.env)] := by rfl) : PI X tg (.Call (.Name "range" p) [a] [] pos) (rI X.K G W (mRange1 ms)) :=
  PIimp (pi_range1 hg hm ha hs) fun _ _ σ H R _ ⟨μ, ρ, c, hl, he, q⟩ => ⟨μ, ρ, c, hl, he, (Rok.bind q).mono (fun _ _ h => h) fun xs c1 q1 μ1 H1 vs e1 l1 r1 => by
    split at q1
    · split at q1
      · rename_i j hr
        obtain ⟨v, ev, rv⟩ := rvs1 r1
        obtain ⟨h1, h2⟩ := rgOk_ok hr
        exact ⟨j, by rw [ev, show v = _ from rv], h1, h2, q1 μ1 H1 e1 l1 _ itm_range⟩
      · exact False.elim q1
    · exact False.elim q1⟩
theorem ci_range2 {tg : Expr} {p : Pos} (hg : Gl X "range") (hm : X.mg "range" = none) (ha : PA X [a, b] (rA G W ms)) (hs : starEach [a, b] X.env = [(false, eval a X.env), (false, eval b X.env)] := by rfl) (hs2 : starEach [b] X.env = [(false, eval b X.env)] := by rfl) :
    PI X tg (.Call (.Name "range" p) [a, b] [] pos) (rI X.K G W (mRange2 ms)) :=
  PIimp (pi_range2 hg hm ha hs hs2) fun _ _ σ H R _ ⟨μ, ρ, c, hl, he, q⟩ => ⟨μ, ρ, c, hl, he, (Rok.bind q).mono (fun _ _ h => h) fun xs c1 q1 μ1 H1 vs e1 l1 r1 => by
    split at q1
    · split at q1
      · rename_i i j hr
        obtain ⟨v, u, ev, rv, ru⟩ := rvs2 r1
        obtain ⟨h1, h2⟩ := rgOk_ok hr.1
        obtain ⟨h3, h4⟩ := rgOk_ok hr.2
        exact ⟨i, j, by rw [ev, show v = _ from rv, show u = _ from ru], ⟨h1, h2, h3, h4⟩, q1 μ1 H1 e1 l1 _ itm_range⟩
      · exact False.elim q1
    · exact False.elim q1⟩

/-! ### for -/
open Classical in
noncomputable def forL (chk : CS → Prop) (tg : MG) (body : MS) : List CV → CEnv → CS → RS
  | [], ρ, c => if chk c then .nx ρ c else .stuck
  | x :: xs, ρ, c => if chk c then (match tg x ρ with
    | none => .stuck
    | some ρ1 => match body ρ1 c with
      | .nx ρ2 c2 => forL chk tg body xs ρ2 c2
      | .ct ρ2 c2 => forL chk tg body xs ρ2 c2
      | .bk ρ2 c2 => .nx ρ2 c2
      | r => r) else .stuck
noncomputable def sFor (im : MI) (tg : MG) (body : MS) : MS := fun ρ c => liftE (im ρ c) ρ fun it c1 => forL it.chk tg body it.xs ρ c1
theorem cs_for {tg iter : Expr} {body : List Stmt} {im : MI} {t : MG} {ts : List Nat} (hp : PassesOwn (model X.prog X.w) X.A X.env X.xe) (hc : X.calm = true) (hi : PI X tg iter (rI X.K G W im)) (hg : CG X G tg t ts) (hb : PSs X body (rS G W sb))
    (hs : ∀ x, foldedSetIterable iter X.env x = pure x := by intro _; rfl) : PS X (.For tg iter body [] pos) (rS G W (sFor im t sb)) := by
  obtain ⟨g, hpg, hgi⟩ := hg.ex
  refine PSimp (ps_for hp hc hi hpg hb hs) fun _ _ σ H D _ ⟨μ, ρ, c, hl, he, q⟩ => ⟨μ, ρ, c, hl, he, (RSat.lift q he).mono (fun _ _ h => h) fun it c1 q1 μ1 H1 e1 l1 J hJ => ?_⟩
  let Pv : Nat → L2.St → Hp → Prop := fun i σ H2 => ∃ μ2 ρ2 c2, Ext μ1 H1 μ2 H2 ∧ Rl G μ2 c2 H2 ∧ RE μ2 H2 ρ2 σ ∧ RSat G W D μ2 H2 (forL it.chk t sb (it.xs.drop i) ρ2 c2)
  refine ⟨fun i m σ H2 => m = it.xs.length - i ∧ i ≤ it.xs.length ∧ Pv i σ H2, ⟨it.xs.length, by simp, Nat.zero_le _, μ1, ρ, c1, .refl, l1, he.ext e1, by rw [List.drop_zero]; exact RSat.ext q1 e1⟩, ?_⟩
  rintro i m σ2 H2 ⟨rfl, hi2, μ2, ρ2, c2, e2, l2, r2, q2⟩
  by_cases hlt : i < it.xs.length
  · have hx : it.xs[i]? = some it.xs[i] := List.getElem?_eq_getElem hlt
    rw [List.drop_eq_getElem_cons hlt, forL] at q2
    by_cases hck : it.chk c2
    · rw [if_pos hck] at q2
      refine .inr ⟨hJ.go i μ2 c2 H2 e2 l2 hck hlt, Pv (i + 1), fun σ' H' p' => ⟨it.xs.length - (i + 1), by omega, rfl, hlt, p'⟩, fun x H' y => ?_⟩
      obtain ⟨μ3, e3, l3, r3⟩ := hJ.yld i _ μ2 c2 H2 x H' e2 l2 hck hx y
      cases ht : t it.xs[i] ρ2 with
      | none => rw [ht] at q2; exact False.elim q2
      | some ρ3 =>
        rw [ht] at q2
        dsimp only at q2
        refine hgi μ3 c2 H' _ x ρ2 ρ3 σ2 _ l3 r3 (r2.ext e3) ht fun σ' re' _ => ⟨μ3, ρ3, c2, l3, re', ?_⟩
        cases hbd : sb ρ3 c2 with
        | nx ρ4 c4 => rw [hbd] at q2; exact fun μ4 H4 σ4 e4 l4 r4 => ⟨μ4, ρ4, c4, (e2.trans e3).trans e4, l4, r4, RSat.ext q2 (e3.trans e4)⟩
        | ct ρ4 c4 => rw [hbd] at q2; exact fun μ4 H4 σ4 e4 l4 r4 => ⟨μ4, ρ4, c4, (e2.trans e3).trans e4, l4, r4, RSat.ext q2 (e3.trans e4)⟩
        | bk ρ4 c4 => rw [hbd] at q2; exact PN.ext q2 e3
        | ret v c4 => rw [hbd] at q2; exact PV.ext q2 e3
        | exc x ρ4 c4 => rw [hbd] at q2; exact PXS.ext q2 e3
        | stuck => rw [hbd] at q2; exact False.elim q2
    · rw [if_neg hck] at q2; exact False.elim q2
  · have e : i = it.xs.length := by omega
    subst e
    rw [List.drop_length, forL] at q2
    by_cases hck : it.chk c2
    · rw [if_pos hck] at q2
      exact .inl ⟨hJ.stop _ μ2 c2 H2 e2 l2 hck (Nat.le_refl _), q2 μ2 H2 σ2 .refl l2 r2⟩
    · rw [if_neg hck] at q2; exact False.elim q2

/-! ### while -/
def whileN (t : MT) (body : MS) : Nat → CEnv → CS → RS
  | 0, _, _ => .stuck
  | n + 1, ρ, c => liftE (t ρ c) ρ fun k c1 => if k = true then (match body ρ c1 with
    | .nx ρ2 c2 => whileN t body n ρ2 c2
    | .ct ρ2 c2 => whileN t body n ρ2 c2
    | .bk ρ2 c2 => .nx ρ2 c2
    | r => r) else .nx ρ c1
def sWhile (n : Nat) (t : MT) (body : MS) : MS := fun ρ c => whileN t body n ρ c
theorem cs_while {n : Nat} {c : Expr} {body : List Stmt} (hp : PassesOwn (model X.prog X.w) X.A X.env X.xe) (hc : PT X c (rT G W mt)) (hb : PSs X body (rS G W sb)) : PS X (.While c body [] pos) (rS G W (sWhile n mt sb)) := by
  refine PSimp (ps_while hp hc hb) fun _ _ σ H D _ ⟨μ, ρ, c, hl, he, q⟩ => ?_
  refine ⟨fun m σ H2 => ∃ μ2 ρ2 c2, Rl G μ2 c2 H2 ∧ RE μ2 H2 ρ2 σ ∧ RSat G W D μ2 H2 (whileN mt sb m ρ2 c2), ⟨n, μ, ρ, c, hl, he, q⟩, ?_⟩
  rintro m σ2 H2 ⟨μ2, ρ2, c2, l2, r2, q2⟩
  cases m with
  | zero => exact False.elim q2
  | succ m =>
    rw [whileN] at q2
    refine ⟨μ2, ρ2, c2, l2, r2, (RSat.lift q2 r2).mono (fun _ _ h => h) fun k c3 q3 μ3 H3 e3 l3 => ?_⟩
    cases k with
    | false => rw [if_neg Bool.false_ne_true] at q3 ⊢; exact q3 μ3 H3 σ2 e3 l3 (r2.ext e3)
    | true =>
      rw [if_pos rfl] at q3 ⊢
      refine ⟨fun σ H4 => ∃ μ4 ρ4 c4, Rl G μ4 c4 H4 ∧ RE μ4 H4 ρ4 σ ∧ RSat G W D μ4 H4 (whileN mt sb m ρ4 c4), fun σ' H' p' => ⟨m, Nat.lt_succ_self m, p'⟩, μ3, ρ2, c3, l3, r2.ext e3, ?_⟩
      cases hbd : sb ρ2 c3 with
      | nx ρ4 c4 => rw [hbd] at q3; exact fun μ4 H4 σ4 e4 l4 r4 => ⟨μ4, ρ4, c4, l4, r4, RSat.ext q3 (e3.trans e4)⟩
      | ct ρ4 c4 => rw [hbd] at q3; exact fun μ4 H4 σ4 e4 l4 r4 => ⟨μ4, ρ4, c4, l4, r4, RSat.ext q3 (e3.trans e4)⟩
      | bk ρ4 c4 => rw [hbd] at q3; exact PN.ext q3 e3
      | ret v c4 => rw [hbd] at q3; exact PV.ext q3 e3
      | exc x ρ4 c4 => rw [hbd] at q3; exact PXS.ext q3 e3
      | stuck => rw [hbd] at q3; exact False.elim q3
end
end PM

/-! PM: comprehensions, own defs. -/
namespace PM
open PySem PySem.Spec PyProof.Rows L2
section
variable {X : Cx} {G : Cfg} {W : WX} {k : Nat} {e a b o : Expr} {pos : Pos} {ma mb mo : ME} {mt : MT} {es : List Expr} {ms : MA} {st : Stmt} {sts rest : List Stmt} {sa sb : MS}
/-- no exception may leave -/
abbrev W0 : WX := fun _ _ _ _ => False
def wipeC (ρ : CEnv) : List Nat → CEnv
  | [] => ρ
  | v :: vs => (wipeC ρ vs).set v none
theorem RE.wipe {μ : Mu} {H : Hp} {ρ : CEnv} {σ : L2.St} (h : RE μ H ρ σ) : ∀ vs : List Nat, RE μ H (wipeC ρ vs) (wipe σ vs)
  | [] => h
  | v :: vs => RE.forget v (RE.wipe h vs)
theorem wipe_wipe (σ : L2.St) (vs : List Nat) : wipe (wipe σ vs) vs = wipe σ vs := by
  have sub : ∀ us : List Nat, (∀ u ∈ us, u ∈ vs) → ∀ τ : L2.St, wipe (wipe τ us) vs = wipe τ vs := by
    intro us
    induction us with
    | nil => intro _ τ; rfl
    | cons u us ih =>
      intro hs τ
      show wipe ((wipe τ us).set u none) vs = wipe τ vs
      rw [wipe_set vs _ u (hs u List.mem_cons_self)]
      exact ih (fun x hx => hs x (List.mem_cons_of_mem _ hx)) τ
  exact sub vs (fun _ h => h) σ
/-- [elt for tg in iter if tests]: n is the new list -/
noncomputable def lcL (chk : CS → Prop) (tg : MG) (tt : MT) (elt : ME) (ρ0 : CEnv) (n : Nat) : List CV → CS → Option CS
  | [], c => open Classical in if chk c then some c else none
  | x :: xs, c => open Classical in if chk c then (match tg x ρ0 with
    | none => none
    | some ρ1 => match tt ρ1 c with
      | .ok true c1 => (match elt ρ1 c1 with
        | .ok y c2 => (match getW c2 n with
          | some acc => if acc.length < sizeLine then lcL chk tg tt elt ρ0 n xs (c2.set n (.lst (acc ++ [y]))) else none
          | none => none)
        | _ => none)
      | .ok false c1 => lcL chk tg tt elt ρ0 n xs c1
      | _ => none) else none
noncomputable def mLc (im : MI) (tg : MG) (tt : MT) (elt : ME) (vs : List Nat) : ME := fun ρ c => (im ρ c).bind fun it c1 => match lcL it.chk tg tt elt (wipeC ρ vs) c1.next it.xs (c1.new (.lst [])) with
  | some c2 => .ok (.ref c1.next) c2
  | none => .stuck
def tYesM : MT := fun _ c => .ok true c
theorem ct_yes : PTs X [] (rT G W tYesM) := ⟨fun pins s σ H Q I ⟨μ, ρ, c, hl, he, q⟩ => pts_nil.run pins s σ H Q I (q μ H .refl hl)⟩
theorem ct_oneS {c : Expr} (h : PT X c (rT G W mt)) : PTs X [c] (rT G W mt) := pts_one h
theorem rE_lc {im : MI} {t : MG} {ts vs : List Nat} {g : TG} (hts : ∀ i ∈ ts, i ∈ vs)
    (hgi : ∀ (μ : Mu) (c : CS) (H : Hp) (x : CV) (v : V) (ρ ρ' : CEnv) (σ : L2.St) (Q : L2.St → Hp → Prop), Rl G μ c H → RV μ H x v → RE μ H ρ σ → t x ρ = some ρ' → (∀ σ', RE μ H ρ' σ' → (∀ vs, (∀ i ∈ ts, i ∈ vs) → wipe σ' vs = wipe σ vs) → Q σ' H) → g v σ H Q)
    {σ : L2.St} {H : Hp} {Q : VK} (h : rE G W (mLc im t mt ma vs) σ H Q) : tLc (rI X.K G W im) g (rT G W0 mt) (rE G W0 ma) vs σ H Q := by
  obtain ⟨μ, ρ, c, hl, he, q⟩ := h
  refine ⟨μ, ρ, c, hl, he, (Rok.bind q).mono (fun _ _ h => h) fun it c1 q1 μ1 H1 e1 l1 J hJ D hD => ?_⟩
  obtain ⟨μ2, e2, l2, d0, d2, d3⟩ := new_lst l1 RVs.nil hD
  cases d3
  cases hr : lcL it.chk t mt ma (wipeC ρ vs) c1.next it.xs (c1.new (.lst [])) with
  | none => rw [hr] at q1; exact False.elim q1
  | some cz =>
    rw [hr] at q1
    let Pv : Nat → Hp → Prop := fun i H2 => ∃ μ3 c3, Ext μ2 (upd H1 D (.lst [])) μ3 H2 ∧ Rl G μ3 c3 H2 ∧ lcL it.chk t mt ma (wipeC ρ vs) c1.next (it.xs.drop i) c3 = some cz
    refine ⟨fun i m H2 => m = it.xs.length - i ∧ i ≤ it.xs.length ∧ Pv i H2, ⟨it.xs.length, by simp, Nat.zero_le _, μ2, _, .refl, l2, by rw [List.drop_zero]; exact hr⟩, ?_⟩
    rintro i m H2 ⟨rfl, hi2, μ3, c3, e3, l3, q3⟩
    have e13 := e2.trans e3
    by_cases hlt : i < it.xs.length
    · have hx : it.xs[i]? = some it.xs[i] := List.getElem?_eq_getElem hlt
      rw [List.drop_eq_getElem_cons hlt, lcL] at q3
      by_cases hck : it.chk c3
      · rw [if_pos hck] at q3
        refine .inr ⟨hJ.go i μ3 c3 H2 e13 l3 hck hlt, Pv (i + 1), fun H' p' => ⟨it.xs.length - (i + 1), by omega, rfl, hlt, p'⟩, fun x H' y => ?_⟩
        obtain ⟨μ4, e4, l4, r4⟩ := hJ.yld i _ μ3 c3 H2 x H' e13 l3 hck hx y
        cases ht : t it.xs[i] (wipeC ρ vs) with
        | none => rw [ht] at q3; cases q3
        | some ρ3 =>
          rw [ht] at q3
          dsimp only at q3
          refine hgi μ4 c3 H' _ x (wipeC ρ vs) ρ3 _ _ l4 r4 (((he.ext e1).ext (e13.trans e4)).wipe vs) ht fun σ' re' hw => ⟨(hw vs hts).trans (wipe_wipe σ vs), μ4, ρ3, c3, l4, re', ?_⟩
          cases htt : mt ρ3 c3 with
          | stuck => rw [htt] at q3; cases q3
          | exc _ _ => rw [htt] at q3; cases q3
          | ok b c4 =>
            rw [htt] at q3
            cases b with
            | false =>
              intro μ5 H5 e5 l5
              rw [if_neg Bool.false_ne_true]
              exact ⟨μ5, c4, (e3.trans e4).trans e5, l5, q3⟩
            | true =>
              intro μ5 H5 e5 l5
              rw [if_pos rfl]
              dsimp only at q3
              refine ⟨μ5, ρ3, c4, l5, re'.ext e5, ?_⟩
              cases hel : ma ρ3 c4 with
              | stuck => rw [hel] at q3; cases q3
              | exc _ _ => rw [hel] at q3; cases q3
              | ok y' c5 =>
                rw [hel] at q3
                dsimp only at q3
                intro μ6 H6 v6 e6 l6 r6
                have ex : Ext μ2 (upd H1 D (.lst [])) μ6 H6 := ((e3.trans e4).trans e5).trans e6
                cases hg : getW c5 c1.next with
                | none => rw [hg] at q3; cases q3
                | some acc =>
                  rw [hg] at q3
                  dsimp only at q3
                  by_cases hs : acc.length < sizeLine
                  · rw [if_pos hs] at q3
                    obtain ⟨ws, w1, w2⟩ := getW_ok l6 (ex.mu _ _ d2) hg
                    obtain ⟨x1, x2⟩ := l6.set (co := .lst (acc ++ [y'])) (o := .lst (ws ++ [v6])) (ex.mu _ _ d2) w2 (fun _ z => nomatch z) (fun _ z => nomatch z) fun ex => ⟨_, (w1.ext ex).append (.cons (r6.ext ex) .nil), upd_same⟩
                    exact ⟨ws, w2, by rw [w1.length]; exact hs, μ6, _, ex.trans x1, x2, q3⟩
                  · rw [if_neg hs] at q3; cases q3
      · rw [if_neg hck] at q3; cases q3
    · have e : i = it.xs.length := by omega
      subst e
      rw [List.drop_length, lcL] at q3
      by_cases hck : it.chk c3
      · rw [if_pos hck] at q3
        cases q3
        exact .inl ⟨hJ.stop _ μ3 _ H2 e13 l3 hck (Nat.le_refl _), q1 μ3 H2 _ (e1.trans e13) l3 ⟨D, e3.mu _ _ d2, rfl⟩⟩
      · rw [if_neg hck] at q3; cases q3
theorem ce_lc {elt tg iter : Expr} {ifs : List Expr} {scope : Scope} {own : List (Str × Nat)} {im : MI} {t : MG} {ts : List Nat} (hc : X.calm = true) (hN : X.N.Nodup) (hi : PI X tg iter (rI X.K G W im)) (ok : BlkOk X.N X.env.scope scope own)
    (g : TG) (hg : ∀ (s : Shared) (H : Hp) (C : Addr) (cl : List (Str × Addr)) (fp : List Addr), PG (X.blk s H scope (compEnvC scope cl C X.env) fp) tg g)
    (hgi : ∀ (μ : Mu) (c : CS) (H : Hp) (x : CV) (v : V) (ρ ρ' : CEnv) (σ : L2.St) (Q : L2.St → Hp → Prop), Rl G μ c H → RV μ H x v → RE μ H ρ σ → t x ρ = some ρ' → (∀ σ', RE μ H ρ' σ' → (∀ vs, (∀ i ∈ ts, i ∈ vs) → wipe σ' vs = wipe σ vs) → Q σ' H) → g v σ H Q)
    (hts : ∀ i ∈ ts, i ∈ own.map (·.2)) (ht : ∀ (s : Shared) (H : Hp) (C : Addr) (cl : List (Str × Addr)) (fp : List Addr), PTs (X.blk s H scope (compEnvC scope cl C X.env) fp) ifs (rT G W0 mt))
    (he : ∀ (s : Shared) (H : Hp) (C : Addr) (cl : List (Str × Addr)) (fp : List Addr), PE (X.blk s H scope (compEnvC scope cl C X.env) fp) elt (rE G W0 ma)) (hs : ∀ x, foldedSetIterable iter X.env x = pure x := by intro _; rfl) :
    PE X (.ListComp elt [⟨tg, iter, ifs, 0⟩] scope pos) (rE G W (mLc im t mt ma (own.map (·.2)))) := PEimp (pe_lc hc hN hi ok hg ht he hs) fun _ _ _ _ _ _ q => rE_lc hts hgi q
/-- the comprehension's one name -/
theorem gN_ok {i : Nat} : ∀ (μ : Mu) (c : CS) (H : Hp) (x : CV) (v : V) (ρ ρ' : CEnv) (σ : L2.St) (Q : L2.St → Hp → Prop), Rl G μ c H → RV μ H x v → RE μ H ρ σ → gN i x ρ = some ρ' → (∀ σ', RE μ H ρ' σ' → (∀ vs, (∀ j ∈ [i], j ∈ vs) → wipe σ' vs = wipe σ vs) → Q σ' H) → gName i v σ H Q :=
  fun μ c H x v ρ ρ' σ Q hl r he h q => by
    cases h
    exact q _ (RE.set r i he) fun vs hv => wipe_set vs σ i (hv i (List.mem_cons_self))
/-- name = [..] on one line -/
theorem cs_setLc {i : Nat} {y : Str} {py : Pos} {elt tg iter : Expr} {ifs : List Expr} {scope : Scope} {own : List (Str × Nat)} {lpos spos : Pos} {im : MI} {t : MG} {ts : List Nat} (hc : X.calm = true) (hN : X.N.Nodup) (hy : X.N[i]? = some y) (hyl : X.env.scope.names.lookup y = some .local)
    (hsw : swapsWith (.ListComp elt [⟨tg, iter, ifs, 0⟩] scope lpos) (some (.Name y py)) spos.line X.env = pure true) (hi : PI X tg iter (rI X.K G W im)) (ok : BlkOk X.N X.env.scope scope own)
    (g : TG) (hg : ∀ (s : Shared) (H : Hp) (C : Addr) (cl : List (Str × Addr)) (fp : List Addr), PG (X.blk s H scope (compEnvC scope cl C X.env) fp) tg g)
    (hgi : ∀ (μ : Mu) (c : CS) (H : Hp) (x : CV) (v : V) (ρ ρ' : CEnv) (σ : L2.St) (Q : L2.St → Hp → Prop), Rl G μ c H → RV μ H x v → RE μ H ρ σ → t x ρ = some ρ' → (∀ σ', RE μ H ρ' σ' → (∀ vs, (∀ i ∈ ts, i ∈ vs) → wipe σ' vs = wipe σ vs) → Q σ' H) → g v σ H Q)
    (hts : ∀ i ∈ ts, i ∈ own.map (·.2)) (ht : ∀ (s : Shared) (H : Hp) (C : Addr) (cl : List (Str × Addr)) (fp : List Addr), PTs (X.blk s H scope (compEnvC scope cl C X.env) fp) ifs (rT G W0 mt))
    (he : ∀ (s : Shared) (H : Hp) (C : Addr) (cl : List (Str × Addr)) (fp : List Addr), PE (X.blk s H scope (compEnvC scope cl C X.env) fp) elt (rE G W0 ma)) (hs : ∀ x, foldedSetIterable iter X.env x = pure x := by intro _; rfl) :
    PS X (.Assign [.Name y py] (.ListComp elt [⟨tg, iter, ifs, 0⟩] scope lpos) spos) (rS G W (sSet i (mLc im t mt ma (own.map (·.2))))) :=
  PSimp (ps_setLc hc hN hy hyl hsw hi ok hg ht he hs) fun _ _ σ H D _ q => by
    have q' := rS_set q
    exact rE_lc (W := W) hts hgi q'

/-! ### own defs -/
abbrev MF := List CV → CS → R CV
def spM (G : Cfg) (n : Nat) (m : MF) : Sp := fun vs H Q E => ∃ μ c xs, Rl G μ c H ∧ RVs μ H xs vs ∧ xs.length = n ∧ Rok (m xs c) (fun e c' => ∀ μ' H' cls d, Ext μ H μ' H' → Rl G μ' c' H' → KE G μ' H' e cls d → E cls d H') (PV G Q μ H)
theorem spM_len {G : Cfg} {n : Nat} {m : MF} {vs : List V} {H : Hp} {Q : VK} {E : XK} (h : spM G n m vs H Q E) : vs.length = n := by
  obtain ⟨_, _, _, _, r, l, _⟩ := h
  rw [r.length, l]
def endB : RS → R CV
  | .nx _ c => .ok .non c
  | .ret v c => .ok v c
  | .exc e _ c => .exc e c
  | _ => .stuck
def runB (N : Nat) (b : MS) : MF := fun xs c => endB (b (xs.map some ++ List.replicate (N - xs.length) none) c)
theorem start_rel {μ : Mu} {H : Hp} (N : List Str) : ∀ {xs : List CV} {vs : List V}, RVs μ H xs vs → RE μ H (xs.map some ++ List.replicate (N.length - xs.length) none) (L2.start N vs) := fun {xs vs} h => by
  unfold L2.start
  rw [h.length]
  have h1 : ∀ m : Nat, RE μ H (List.replicate m none) (List.replicate m none) := fun m => by
    induction m with
    | zero => rfl
    | succ m ih => rw [List.replicate_succ, List.replicate_succ]; exact ⟨none, _, rfl, (fun z q => by cases q), ih⟩
  have h2 : ∀ {xs : List CV} {vs : List V} (m : Nat), RVs μ H xs vs → RE μ H (xs.map some ++ List.replicate m none) (vs.map some ++ List.replicate m none) := fun {xs} => by
    induction xs with
    | nil => intro vs m h; rw [show vs = [] from h]; exact h1 m
    | cons x xs ih =>
      intro vs m h
      obtain ⟨v, r, e1, e2, e3⟩ := h
      rw [e1]
      exact ⟨some v, _, rfl, (fun z q => ⟨v, rfl, by cases q; exact e2⟩), ih m e3⟩
  exact h2 _ h
/-- the wish of a def's body: what its caller wants of an exception -/
abbrev WE0 (E : XK) : WX := fun cls d _ H => E cls d H
theorem fnM {P : Program} {w : World} {K : PySem.W.Frag} {mg : Str → Option Value} {base : Heap} {x qual : Str} {st : Stmt} {f : Addr} {fd : FuncData} {N ps : List Str} {b : MS} (F : Fun K x qual st f fd) (S : FnScope N ps (defScope st))
    (hbody : ∀ (cdv : Value) (A : Around) (outer : List Env) (s : Shared) (H : Hp) (E : XK), Room k (A.deeper (envOfC qual (defScope st) s.heap.objs.size f cdv)) →
      PSs (cxOf (L2.CX P w) P w K mg base N qual (defScope st) f cdv A outer s H E) (defBody st) (rS G (WE0 E) b)) :
    FnOk P w K mg base (L2.CX P w) (k + 1) f fd ps (spM G ps.length (runB N.length b)) := by
  refine F.okX S (fun vs H Q E h => spM_len h) fun cdv A outer s H vs Q E hr h => ⟨_, hbody cdv A outer s H E hr, ?_⟩
  obtain ⟨μ, c, xs, hl, r, _, q⟩ := h
  refine ⟨μ, _, c, hl, start_rel N r, ?_⟩
  unfold runB at q
  cases hb : b (xs.map some ++ List.replicate (N.length - xs.length) none) c with
  | nx ρ1 c1 => rw [hb] at q; exact fun μ' H' σ e l _ => q μ' H' .non e l rfl
  | ret v c1 => rw [hb] at q; exact q
  | bk ρ1 c1 => rw [hb] at q; exact False.elim q
  | ct ρ1 c1 => rw [hb] at q; exact False.elim q
  | exc x ρ1 c1 => rw [hb] at q; exact fun μ' H' σ cls d e l _ kx => q μ' H' cls d e l kx
  | stuck => rw [hb] at q; exact False.elim q
/-- a def that may be called by its name: at most level k, n arguments -/
structure Dep (P : Program) (w : World) (K : PySem.W.Frag) (mg : Str → Option Value) (base : Heap) (G : Cfg) (x : Str) (k n : Nat) (m : MF) : Prop where
  ex : ∃ f fd ps, FnOk P w K mg base (L2.CX P w) k f fd ps (spM G n m) ∧ mg x = some (.ref f) ∧ PySem.W.keepIn K (.ref f) = true ∧ Binds K fd ps []
theorem Dep.mono {P : Program} {w : World} {K : PySem.W.Frag} {mg : Str → Option Value} {base : Heap} {x : Str} {j k n : Nat} {m : MF} (d : Dep P w K mg base G x j n m) (h : j ≤ k) : Dep P w K mg base G x k n m :=
  let ⟨f, fd, ps, h1, h2⟩ := d.ex
  ⟨f, fd, ps, h1.mono h, h2⟩
def mCall (n : Nat) (m : MF) (ms : MA) : ME := fun ρ c => (ms ρ c).bind fun xs c1 => if xs.length = n then m xs c1 else .stuck
theorem rE_call {n : Nat} {m : MF} {σ : L2.St} {H : Hp} {Q : VK} (h : rE G W (mCall n m ms) σ H Q) : rA G W ms σ H fun vs H1 => spM G n m vs H1 Q (WE W σ) := by
  obtain ⟨μ, ρ, c, hl, he, q⟩ := h
  refine ⟨μ, ρ, c, hl, he, (Rok.bind q).mono (fun _ _ h => h) fun xs c1 q1 μ1 H1 vs e1 l1 r1 => ?_⟩
  by_cases g : xs.length = n
  · rw [if_pos g] at q1
    exact ⟨μ1, c1, xs, l1, r1, g, q1.mono (fun e c' h μ' H' cls d e' l' k' => h μ' H' cls d (e1.trans e') l' k') fun v c' h => PV.ext h e1⟩
  · rw [if_neg g] at q1; exact False.elim q1
theorem ce_call {x : Str} {p : Pos} {n : Nat} {m : MF} (d : Dep X.prog X.w X.K X.mg X.base G x k n m) (tk : Takes X W) (hr : Room k X.A) (hg : Gl X x) (ha : PA X (a :: es) (rA G W ms)) (hdb : (x == ("__debug__" : Str)) = false := by decide)
    (he : starEach (a :: es) X.env = (false, eval a X.env) :: starEach es X.env := by rfl) (hpl : (backTo pos (starEach es X.env)).any (·.1) = false := by rfl) : PE X (.Call (.Name x p) (a :: es) [] pos) (rE G W (mCall n m ms)) := by
  obtain ⟨f, fd, ps, F, hm, hk, hb⟩ := d.ex
  exact PEimp (pe_callS F hr hg hm hk hb (fun σ => passAt tk σ) ha hdb he hpl) fun _ _ _ _ _ _ q => rE_call q
theorem ce_call0 {x : Str} {p : Pos} {m : MF} (d : Dep X.prog X.w X.K X.mg X.base G x k 0 m) (tk : Takes X W) (hr : Room k X.A) (hg : Gl X x) (hdb : (x == ("__debug__" : Str)) = false := by decide) : PE X (.Call (.Name x p) [] [] pos) (rE G W (mCall 0 m mNil)) := by
  obtain ⟨f, fd, ps, F, hm, hk, hb⟩ := d.ex
  refine ⟨fun pins s σ H Q I h => ?_⟩
  refine wpAny_Call_Name_kw (ld_glob I hg hm ?_ hdb)
  obtain ⟨μ, ρ, c, hl, he, q⟩ := rE_call h
  exact PySem.W.callWith_K0 I.kIn hk (run_fnS (us := []) F hr hb (passAt tk σ) I .nil (q μ H [] .refl hl rfl))
end
end PM

/-! PM: own exceptions as values: __init__ that says super(), making one, its fields, isinstance. -/
namespace PM
open PySem PySem.Spec PyProof.Rows L2

/-- what an own exception class over ValueError must say -/
structure ExC (K : PySem.W.Frag) (A : Addr) : Prop where
  oex : OexC K A
  xf : XfC K A
  cl : (PySem.W.clsIn K A).isSome = true
  ha : PySem.W.findIn K (.ref A) "__class__" = some (some (.builtin "object.__class__"))
  hn : PySem.W.specialIn K (.builtin "object.__class__") "__get__" = some (some (.builtin "getset_descriptor.__get__"))
  ht : PySem.W.takesIn K (.builtin "object.__class__") = some true
  hm : PySem.W.mroIn K A (.type "object") = some true
  hV : PySem.W.subIn K (.ref A) (.type "ValueError") = some true

/-! ### an __init__ that begins with super().__init__(text) -/
/-- what is seen of the text and the written part -/
structure SupC (P : Program) (K : PySem.W.Frag) (mg : Str → Option Value) (D cc cda : Addr) (scope : Scope) : Prop where
  cell : ∃ cl cld csl, K.lookup cc = some ⟨cl, cld, .cell (some (.ref D)), csl⟩
  code : ∃ ccl cdd vs ccs file tf, K.lookup cda = some ⟨ccl, cdd, .fields vs, ccs⟩ ∧ vs[2]? = some (.str file tf) ∧ ((P.main.file : Str) == file) = true
  mgS : mg "super" = none
  top : (P.main.scope.names.lookup ("super" : Str)).isSome = false
  ks : scope.names.lookup ("super" : Str) = some .globalImplicit
  kc : scope.names.lookup ("__class__" : Str) = some .free
  nocell : ∀ x ∈ scope.names, x.2 ≠ .cell
  onlyc : ∀ x, scope.names.lookup x = some .free → x = "__class__"
  sup : PySem.W.ks_superIn K D D "__init__" = some (some (.builtin "ValueError.__init__"))
  opq : PySem.W.nsIn K cStatics "thirdparty.any" = some none
  selfsub : PySem.W.mroIn K D (.ref D) = some true
structure SupScope (N P : List Str) (sc : Scope) : Prop where
  kind : sc.kind = .function
  co : sc.isCoroutine = false
  gen : sc.isGenerator = false
  nd : N.Nodup
  pre : N.take P.length = P
  par : ∀ x ∈ P, sc.names.lookup x = some .local

def cxS (CX : CXT) (P : Program) (w : World) (K : PySem.W.Frag) (mg : Str → Option Value) (base : Heap) (N : List Str) (qual : Str) (scope : Scope) (f : Addr) (cd : Value) (cc : Addr) (A : Around) (outer : List Env) (s : Shared) (H : Hp) (E : XK) : Cx where
  prog := P
  w := w
  K := K
  mg := mg
  base := base
  A := A.deeper (PySem.W.ksEnv qual scope s.heap.objs.size f cd cc)
  N := N
  s_0 := s
  H_0 := H
  env := PySem.W.ksEnv qual scope s.heap.objs.size f cd cc
  outer := outer
  stack := PySem.W.ksEnv qual scope s.heap.objs.size f cd cc :: outer
  ex := []
  calm := true
  fn := fun _ => false
  pn := []
  xe := fun e s' => wpAny (model P w) (A.deeper (PySem.W.ksEnv qual scope s.heap.objs.size f cd cc)) (leaving (PySem.W.ksEnv qual scope s.heap.objs.size f cd cc) e) (fun _ s'' => CX outer H s E e s'') (fun e' s'' => CX outer H s E e' s'') s'

theorem zip_fst : ∀ (ps : List Str) (us : List Value), (ps.zip us).map (fun x => x.1) = ps.take us.length
  | [], us => by simp
  | p :: ps, [] => by simp
  | p :: ps, u :: us => by rw [List.zip_cons_cons, List.map_cons, List.length_cons, List.take_succ_cons, zip_fst ps us]
theorem rev_lookup : ∀ {ps : List Str} {us : List Value} {i : Nat} {y : Str} {u : Value}, ps.Nodup → ps[i]? = some y → us[i]? = some u → (ps.zip us).reverse.lookup y = some u := by
  intro ps us i y u nd hp hu
  have key : ∀ {l : List (Str × Value)}, (l.map (·.1)).Nodup → (y, u) ∈ l → l.lookup y = some u := by
    intro l
    induction l with
    | nil => intro _ h; cases h
    | cons p l ih =>
      intro hn hm
      obtain ⟨a, b⟩ := p
      rw [List.map_cons, List.nodup_cons] at hn
      rw [List.lookup_cons]
      rcases List.mem_cons.mp hm with h | h
      · cases h; simp
      · have : (y == a) = false := by
          rw [beq_eq_false_iff_ne]
          intro z
          exact hn.1 (by rw [← z]; exact List.mem_map.mpr ⟨_, h, rfl⟩)
        rw [this]
        exact ih hn.2 h
  apply key
  · rw [List.map_reverse]
    refine List.pairwise_reverse.mpr (List.Pairwise.imp (fun h z => h z.symm) (?_ : (List.map (fun x => x.1) (ps.zip us)).Nodup))
    rw [zip_fst]
    exact nd.sublist (List.take_sublist _ _)
  · rw [List.mem_reverse]
    exact List.mem_of_getElem? (i := i) (by rw [List.getElem?_zip_eq_some]; exact ⟨hp, hu⟩)

section
variable {P : Program} {w : World} {K : PySem.W.Frag} {mg : Str → Option Value} {base : Heap} {N ps : List Str} {qual : Str} {scope : Scope} {f D cc cda : Addr} {A : Around} {outer : List Env} {s : Shared} {H : Hp} {E : XK} {CX : CXT}
theorem inv_sup (S : SupScope N ps scope) (C : SupC P K mg D cc cda scope) (hd : A.handled = none) (e0 : Env0 P w K mg base A outer s H) {vs : List V} {us : List Value} (hl : vs.length = ps.length) (r : Vals vs us)
    {h1 : Heap} {tk : Nat} (hns : h1.Ns s.heap.objs.size (fun x => (ps.zip us).reverse.lookup x)) (hk : ∀ b o, s.heap.get? b = some o → h1.get? b = some o) :
    Inv (cxS CX P w K mg base N qual scope f (.ref cda) cc A outer s H E) [] (L2.start N vs) H { s with heap := h1, toks := tk } := by
  have hpl : ps.length ≤ N.length := by have := congrArg List.length S.pre; rw [List.length_take] at this; omega
  have KX : K.In s.heap := e0.mod.kin.keeps fun b o e => (e0.bs b o e).1
  obtain ⟨cl, cld, csl, hcell⟩ := C.cell
  have hcb : base.get? cc = some ⟨cl, cld, .cell (some (.ref D)), csl⟩ := e0.mod.kin _ _ hcell
  have hcn : H cc = none := (e0.bs _ _ hcb).2
  have hcs := (e0.bs _ _ hcb).1
  have look : ∀ {y : Str} {c : Addr}, (([(("__class__" : Str), cc)] : List (Str × Addr)).lookup y) = some c → y = "__class__" ∧ c = cc := fun {y c} h => by
    rw [List.lookup_cons] at h
    cases e : (y == ("__class__" : Str)) with
    | true => rw [e] at h; exact ⟨beq_iff_eq.mp e, (Option.some.inj h).symm⟩
    | false => rw [e] at h; cases h
  refine ⟨⟨e0.mod, S.kind, rfl, rfl, Nat.le_refl _, fun y z c h1 h2 => ?_, fun y hy => ?_, fun y c h => Bool.noConfusion h, fun _ => hd, Around.frames_deeper e0.frames, .inr ⟨rfl, rfl⟩, fun b z => absurd z List.not_mem_nil, e0.bs, e0.bsz, fun b _ _ => List.not_mem_nil, fun b z => absurd z List.not_mem_nil, e0.funs, e0.frf⟩,
    rfl, e0.bare, Un.kept hk, ⟨_, hns, fun i y v h1 h2 h3 => ?_⟩, fun y c h => ?_, e0.hok.fresh (Nat.le_refl _), fun y c h => ?_, fun p hp => absurd (show p ∈ ([] : List (Addr × Obj)) from hp) List.not_mem_nil, e0.hok.kept hk, ?_⟩
  · rw [(look h1).1, (look h2).1]
  · have hy : scope.names.lookup y = some .cell ∨ scope.names.lookup y = some .free := hy
    rcases hy with hy | hy
    · exact absurd rfl (C.nocell _ (PySem.mem_of_lookup hy))
    · exact ⟨cc, by rw [C.onlyc y hy]; show (([(("__class__" : Str), cc)] : List (Str × Addr)).lookup ("__class__" : Str)) = some cc; rw [List.lookup_cons, beq_self_eq_true]⟩
  · have hi : i < vs.length := by
      unfold L2.start at h2
      by_cases hi : i < vs.length
      · exact hi
      · rw [List.getElem?_append_right (by simpa using hi)] at h2
        rw [List.getElem?_replicate] at h2
        split at h2 <;> cases h2
    have ha : vs[i]? = some v := by
      unfold L2.start at h2
      rw [List.getElem?_append_left (by simpa using hi), List.getElem?_map] at h2
      cases e : vs[i]? with
      | none => rw [e] at h2; cases h2
      | some a => rw [e] at h2; cases h2; rfl
    obtain ⟨u, hu, rv⟩ := r.get ha
    have hp : ps[i]? = some y := by
      rw [← S.pre, List.getElem?_take_of_lt (by omega)]; exact h1
    have ndP : ps.Nodup := by rw [← S.pre]; exact S.nd.sublist (List.take_sublist _ _)
    exact ⟨u, rv, .inl ⟨S.par y (List.mem_of_getElem? hp), rev_lookup ndP hp hu⟩⟩
  · rw [(look h).2]
    exact ⟨some (.ref D), _, hk _ _ hcs, rfl⟩
  · rw [(look h).2]
    exact hcn
  · unfold L2.start
    show _ = N.length
    rw [List.length_append, List.length_map, List.length_replicate]
    omega

/-- the exception a made at D, before its fields: what the super call leaves -/
theorem sup_call {X : Cx} {pins : List (Addr × Obj)} {σ : L2.St} {H : Hp} {s : Shared} {a u D : Addr} {us : List Value} {Q : Value → Shared → Prop} {E : Value → Shared → Prop} {B : Around} (T : OexC X.K D) (I : Inv X pins σ H s) (e : H a = some (exo a D none))
    (hu : s.heap.get? u = some (PySem.W.kxs_mw "ValueError.__init__" a)) (hz : us.length ≤ sizeLine) (h : ∀ s', Inv X pins σ H s' → Q .none s') : wpAny (model X.prog X.w) B (call (.ref u) us) Q E s := by
  obtain ⟨nm, q, N, bs, bm, sn, sub, ab, col, dd, k0, k1, k2, k3, k5, hC, hbm⟩ := T.cls
  obtain ⟨t1, ho⟩ := exo_at I.hok e
  obtain ⟨hp, g, d, t, os⟩ := s
  have hCh := I.kIn _ _ hC
  refine wpAny_call (codeAny_of_tree ?_)
  show wpAny _ B.in1 (callAny (.ref u) ⟨us, []⟩) _ _ _
  simp only [callAny]
  refine wpAny_bind (wpAny_load hu ?_)
  simp only [PySem.W.kxs_mw, show (Value.type "method-wrapper" == Value.type "method" || Value.type "method-wrapper" == Value.type "builtin_function_or_method" || Value.type "method-wrapper" == Value.type "method-wrapper") = true by decide, if_true]
  refine PySem.W.KFB.if_so (by decide) ?_
  refine wpAny_bind (PySem.W.check_bound_init F.excBase_ValueError.toExcCallFacts hCh ho rfl ?_)
  refine wpAny_bind (wpAny_pure (wpAny_pure ?_))
  refine ⟨plainId_quiet F.excBase_ValueError.init.plain _, codeAny_builtin F.excBase_ValueError.initEntry ?_⟩
  refine PySem.W.exc_init_tree (cls := .ref D) (t0 := t1) (dv := none) (c2 := .none) (c3 := .none) (b4 := .bool false) ho hz fun h' k e' _ => ?_
  have J := I.write (t' := t) (x := a) (e := a) (o := exo a D none) (by rw [e]; exact True.intro) (.inl rfl) k ⟨_, e'⟩ (exo_ok e')
  have eu : upd H a (exo a D none) = H := by
    funext b
    by_cases hb : b = a
    · rw [hb, upd_same, e]
    · rw [upd_ne hb]
  rw [eu] at J
  exact h _ J

variable {name : Str} {params : Arguments} {rest : List Stmt} {dV kV doc pm ct oc : Value} {an od : Option Addr} {osl : Array (Option Value)} {self msg : Str} {j : Nat} {p0 p1 p2 p3 p4 p5 : Pos} {k : Nat} {sp : Sp} {t : TS}
theorem fn_sup (lk : K.lookup f = some ⟨oc, od, .func (PySem.W.ksFn name qual params (.Expr (.Call (.Attribute (.Call (.Name "super" p0) [] [] p1) "__init__" p2) [.Constant (.str msg) j p3] [] p4) p5 :: rest) scope dV kV doc pm an (.ref cda) ct cc), osl⟩)
    (hcd : PySem.W.codeIn K (.ref cda) qual = true) (S : SupScope N ps scope) (C : SupC P K mg D cc cda scope) (X : ExC K D) (ar : Arg) (har : (params.posonlyargs ++ params.args).head? = some ar) (har0 : ps.head? = some ar.arg)
    (len : ∀ vs H Q E, sp vs H Q E → vs.length = ps.length)
    (hbody : ∀ (A : Around) (outer : List Env) (s : Shared) (H : Hp) (E : XK), Room k (A.deeper (PySem.W.ksEnv qual scope s.heap.objs.size f (.ref cda) cc)) → PSs (cxS CX P w K mg base N qual scope f (.ref cda) cc A outer s H E) rest t)
    (hsp : ∀ vs H Q E, sp vs H Q E → ∃ a ys, vs = .ref a :: ys ∧ H a = some (exo a D none) ∧ t { nx := fun _ H' => Q .non H', rt := Q } (L2.start N vs) H)
    (hs1 : ∀ env : Env, swapsWith (.Call (.Attribute (.Call (.Name "super" p0) [] [] p1) "__init__" p2) [.Constant (.str msg) j p3] [] p4) none p5.line env = pure false := by intro _; rfl) (pl : Env → Sem Bool)
    (hcall : ∀ env : Env, eval (.Call (.Attribute (.Call (.Name "super" p0) [] [] p1) "__init__" p2) [.Constant (.str msg) j p3] [] p4) env = (do
      let ov ← attributeBase (.Call (.Name "super" p0) [] [] p1) "__init__" env (eval (.Call (.Name "super" p0) [] [] p1) env)
      standAt p2.atName
      let (f, first) ← holding [ov] (getMethod ov "__init__" (pl env))
      callWith p4 f first (backTo p4 (starEach [.Constant (.str msg) j p3] env)) []) := by intro _; rfl) :
    FnOk P w K mg base CX (k + 1) f (PySem.W.ksFn name qual params (.Expr (.Call (.Attribute (.Call (.Name "super" p0) [] [] p1) "__init__" p2) [.Constant (.str msg) j p3] [] p4) p5 :: rest) scope dV kV doc pm an (.ref cda) ct cc) ps sp := by
  refine ⟨len, fun A outer s H args us vs Q E hr e0 hb r hq => ?_⟩
  have hl := len _ _ _ _ hq
  have KX : K.In s.heap := e0.mod.kin.keeps fun b o e => (e0.bs b o e).1
  have lim : s.heap.NoLimit := e0.mod.nolimit.keeps fun b o e => (e0.bs b o e).1
  obtain ⟨a, ys, ev, ha, ht⟩ := hsp vs H Q E hq
  refine PySem.ks_codeAny_call_defAt (binds := ps.zip us) hr.depth (KX _ _ lk) rfl lim (PySem.W.codeRec_of KX hcd) rfl hb C.nocell (fun y hy => S.par y.1 (List.of_mem_zip (show (y.1, y.2) ∈ ps.zip us from hy)).1) (fun h1 hns hk => ?_) S.co S.gen S.kind
  have I := inv_sup (CX := CX) (E := E) (f := f) (qual := qual) (tk := s.toks + (ps.zip us).length) S C hr.hd e0 hl r hns hk
  show _root_.PySem.wpAt (model P w) (A.deeper (PySem.W.ksEnv qual scope s.heap.objs.size f (.ref cda) cc)) (.func _ (PySem.W.ksEnv qual scope s.heap.objs.size f (.ref cda) cc)) (execs _ (PySem.W.ksEnv qual scope s.heap.objs.size f (.ref cda) cc)) _ _ _
  refine PySem.ks_wpAt_mono (Q := fun fl s' => CR CX outer P w H s Q E (.ok (.ret (match fl with | .ret v => v | _ => .none))) s') (E := fun e s' => wpAny (model P w) (A.deeper (PySem.W.ksEnv qual scope s.heap.objs.size f (.ref cda) cc)) (leaving (PySem.W.ksEnv qual scope s.heap.objs.size f (.ref cda) cc) e) (fun _ s'' => CX outer H s E e s'') (fun e' s'' => CX outer H s E e' s'') s') ?_ (fun _ _ z => z) fun _ _ z => z
  have hint : interactive (PySem.W.ksEnv qual scope s.heap.objs.size f (.ref cda) cc) = false := by
    unfold interactive
    rw [show (PySem.W.ksEnv qual scope s.heap.objs.size f (.ref cda) cc).scope.kind = .function from S.kind] <;> rfl
  refine PySem.ks_wpAt_execs_cons (PySem.ks_wpAt_Expr_any (PySem.ks_wpAt_MethodCall ?_ (hcall _)) hint (hs1 _))
  obtain ⟨cl, cld, csl, hcell⟩ := C.cell
  obtain ⟨ccl, cdd, fvs, ccs, file, tf, hcode, hfv, hfile⟩ := C.code
  have T := X.oex
  obtain ⟨nm, q, N', bs, bm, sn, sub, ab, col, dd, k0, k1, k2, k3, k5, hC, hbm⟩ := T.cls
  have hcd0 : ∃ oD cdD, K.lookup D = some oD ∧ oD.data = .cls cdD := ⟨_, _, hC, rfl⟩
  obtain ⟨oD, cdD, hD1, hD2⟩ := hcd0
  obtain ⟨t1, ho⟩ := exo_at I.hok ha
  have X1 : K.In h1 := fun b o e => hk _ _ (KX b o e)
  have Ia : PySem.W.InstAt h1 a ({ cls := .ref D, dict := none, data := .fields #[.ref t1, .none, .none, .none, .bool false, .none] } : Obj) D none := ⟨ho, rfl, rfl, trivial⟩
  have hself : (ps.zip us).reverse.lookup ar.arg = some (.ref a) := by
    subst ev
    cases r with
    | @cons _ u0 _ ur ra rw' =>
      obtain rfl : u0 = Value.ref a := ra
      refine rev_lookup (i := 0) (by rw [← S.pre]; exact S.nd.sublist (List.take_sublist _ _)) ?_ rfl
      rw [← List.head?_eq_getElem?]; exact har0
  have hka : scope.names.lookup ar.arg = some .local := S.par _ (List.mem_of_mem_head? (by rw [har0]; rfl))
  refine PySem.ks_wpAt_super_base (env := PySem.W.ksEnv qual scope s.heap.objs.size f (.ref cda) cc) C.ks C.kc (by decide) rfl (X1 _ _ lk) rfl har rfl (X1 _ _ hcode) rfl hfv hfile C.top ?_
  obtain ⟨mb, b1, b2⟩ := e0.mod.blt
  have kb : ∀ b o, base.get? b = some o → h1.get? b = some o := fun b o e => hk _ _ (e0.bs b o e).1
  refine PySem.W.ks_loadName_global S.kind C.ks (Calls.loadGlobal_builtin (env := PySem.W.ksEnv qual scope s.heap.objs.size f (.ref cda) cc) (e0.mod.glob.keeps kb) C.mgS (b1.keeps kb) ((b2 _ (by decide)).trans (by first | rfl | kernel_rfl)) ⟨rfl, ?_⟩)
  refine wpAny_loadName_free S.kind C.kc rfl ⟨_, X1 _ _ hcell, rfl⟩ ?_
  refine wpAny_loadName_local S.kind hka hns hself ?_
  refine PySem.ks_wpAny_isType_cls (X1 _ _ hD1) hD2 ⟨rfl, ?_⟩
  refine PySem.ks_wpAny_call_super (X1 _ _ hD1) hD2 ho rfl (fun c e => by cases e) (PySem.W.looks_mroIn X1 C.selfsub) (fun h2 hso k2 => ?_)
  have X2 : K.In h2 := fun b o e => k2 _ _ (X1 _ _ e)
  have I2 : PySem.W.InstAt h2 a ({ cls := .ref D, dict := none, data := .fields #[.ref t1, .none, .none, .none, .bool false, .none] } : Obj) D none := ⟨k2 _ _ ho, rfl, rfl, trivial⟩
  have hcD : PySem.W.clsIn K D = some cdD := by
    unfold PySem.W.clsIn
    rw [hC] at hD1 ⊢
    cases hD1
    cases hD2
    rfl
  have hsup := C.sup
  unfold PySem.W.ks_superIn at hsup
  rw [hcD] at hsup
  refine PySem.W.kxs_getMethod PySem.W.kxs_ValueError hso (PySem.W.looks_opaque X2 C.opq) (l₀ := cdD.mro) (fun A Q E s k q => wpAny_bind ((PySem.W.looks_clsIn X2 hcD) A _ E s k (wpAny_pure q))) rfl X2 hsup (I2.type.andThen (PySem.W.looks_subIn X2 X.hV)) (PySem.W.ks_ne X2 I2 hcD) (by decide) ?_
  have k3 : ∀ b o, h1.get? b = some o → (h2.push (PySem.W.kxs_mw "ValueError.__init__" a)).get? b = some o := fun b o e => Heap.get?_push_of_some _ (k2 _ _ e)
  have J := I.kept (h' := h2.push (PySem.W.kxs_mw "ValueError.__init__" a)) (t' := s.toks + (ps.zip us).length + 1) k3
  have hu : (h2.push (PySem.W.kxs_mw "ValueError.__init__" a)).get? h2.objs.size = some (PySem.W.kxs_mw "ValueError.__init__" a) := Heap.get?_push_size _ rfl
  have est : starEach [Expr.Constant (.str msg) j p3] (PySem.W.ksEnv qual scope s.heap.objs.size f (.ref cda) cc) = (false, eval (Expr.Constant (.str msg) j p3) (PySem.W.ksEnv qual scope s.heap.objs.size f (.ref cda) cc)) :: starEach [] (PySem.W.ksEnv qual scope s.heap.objs.size f (.ref cda) cc) := by rfl
  dsimp only
  rw [est]
  refine PySem.W.kxs_callWith (i := "ValueError.__init__") (x := a) rfl (Calls.evalArgs_plain (Calls.spliced_cons (Calls.Constant_str (k := j) (pos := p3) (Calls.spliced_nil ⟨Heap.get?_push_size _ rfl, ?_⟩))))
  have J1 := J.tok (s.toks + (ps.zip us).length + 1 + 1)
  refine sup_call (u := h2.objs.size) T J1 ha hu (by show 1 ≤ sizeLine; rw [sizeLine_eq]; omega) fun s' J2 => ?_
  show _root_.PySem.wpAt _ _ _ _ _ _ s'
  refine PySem.wpAt_of_wpAny ?_
  refine wpAny_mono ((hbody A outer s H E (hr.deeper _)).run [] s' (L2.start N vs) H _ J2 ht) (fun fl s' hs => ?_) fun e s' hs => hs
  cases fl with
  | ret u =>
    obtain ⟨v, σ', H', J, rv, q⟩ := hs
    exact ⟨v, H', J.os, J.bare, J.base, J.hok, rv, q⟩
  | next =>
    obtain ⟨σ', H', J, q⟩ := hs
    exact ⟨.non, H', J.os, J.bare, J.base, J.hok, rfl, q⟩
  | brk => exact False.elim hs.choose_spec.choose_spec.2
  | cont => exact False.elim hs.choose_spec.choose_spec.2
end
end PM

/-! PM: what the top has left, as one Bool and a list of the functions' texts; the end of a law. -/
namespace PM
open PySem PySem.Spec PyProof.Rows L2 He

/-! ### exception classes -/
theorem oexB_ok {K : PySem.W.Frag} {C : Addr} (h : oexB K C = true) : ∃ nm q N bs bm sn sub ab col dd k0 k1 k2 k3 k5, K.lookup C = some (excClassObj nm q C N bs bm true sn sub ab col dd k0 k1 k2 k3 k5 "ValueError.__new__") ∧ PySem.HandSPX.refsVE bm = true := by
  unfold oexB at h
  split at h
  · rename_i t dd cd sl ho
    obtain ⟨h1, h2⟩ := ba h
    split at h2
    · rename_i C' bm k0 k1 k2 k3 n k5 hm hs
      obtain ⟨a1, h2⟩ := ba h2
      obtain ⟨a2, h2⟩ := ba h2
      obtain ⟨a3, h2⟩ := ba h2
      obtain ⟨a4, a5⟩ := ba h2
      obtain rfl := of_decide_eq_true h1
      obtain rfl := of_decide_eq_true a1
      obtain rfl := of_decide_eq_true a2
      obtain ⟨nm, bs, mro, ns, qn, hd, sn, sub, ab, col, del⟩ := cd
      dsimp only at hm a3 a4
      rw [Bool.not_eq_true'] at a3
      subst hm a3 a4
      obtain ⟨l⟩ := sl
      simp only at hs
      subst hs
      exact ⟨nm, qn, ns, bs, bm, sn, sub, ab, col, dd, k0, k1, k2, k3, k5, ho, a5⟩
    · cases h2
  · cases h
theorem excB_ok {K : PySem.W.Frag} {C : Addr} (h : excB K C = true) : ExC K C := by
  obtain ⟨h1, h⟩ := ba h
  obtain ⟨h2, h⟩ := ba h
  obtain ⟨h3, h⟩ := ba h
  obtain ⟨h4, h⟩ := ba h
  obtain ⟨h5, h⟩ := ba h
  obtain ⟨h6, h⟩ := ba h
  obtain ⟨h7, h⟩ := ba h
  obtain ⟨h8, h⟩ := ba h
  obtain ⟨h9, h⟩ := ba h
  obtain ⟨h10, h11⟩ := ba h
  have X := xfB_ok h5
  exact ⟨⟨oexB_ok h1, eqO_ok h2, X.exC, of_decide_eq_true h3, h4⟩, X, h6, eqO_ok h7, of_decide_eq_true h8, of_decide_eq_true h9, of_decide_eq_true h10, of_decide_eq_true h11⟩

/-! ### functions: defs (clo = []), __init__s that say super() (clo = ["__class__"]) -/
theorem PD.fun_ {K : PySem.W.Frag} {file : Str} {d : PD} (e : fnS K d.at_ = d.val) (c : d.ok K file = true) (h0 : d.clo = []) :
    ∃ fd, Fun K d.name d.qual d.st (fAd K d.at_) fd := by
  obtain ⟨kp, c⟩ := ba c
  obtain ⟨fn, c2⟩ := ba c
  unfold fnS at e
  cases q : K.lookup (fAd K d.at_) with
  | none => rw [q] at c2; cases c2
  | some o =>
    obtain ⟨oc, od, dt, osl⟩ := o
    rw [q] at c2 e
    cases dt with
    | func fd =>
      obtain ⟨n1, n2, n3, n4, n5, n6, n7, n8, n9, n10, n11, n12, n13, n14, n15⟩ := fd
      have e2 : (some (n1, n2, n3, n4, n5, n6, n7.map (·.1), n15) : FnS) = some (d.name, d.qual, defArgs d.st, .stmts (defBody d.st), defScope d.st, mainGlobals, d.clo, builtinsNs) := e
      simp only [Option.some.injEq, Prod.mk.injEq] at e2
      obtain ⟨h1, h2, h3, h4, h5, h6, h7, h8⟩ := e2
      rw [h0, List.map_eq_nil_iff] at h7
      subst h1 h2 h3 h4 h5 h6 h7 h8
      have c3 : (PySem.W.codeIn K n13 d.qual && (noneV n8 && (d.clo.isEmpty || cellB K file (ga K d.at_.1) _))) = true := c2
      obtain ⟨k1, k2⟩ := ba c3
      obtain ⟨k3, k4⟩ := ba k2
      have e8 : n8 = .none := by cases n8 <;> first | rfl | cases k3
      subst e8
      exact ⟨_, ⟨oc, od, n9, n10, n11, n12, n13, n14, osl, rfl, q, k1⟩, kp⟩
    | _ => cases c2
/-- an __init__ that says super() -/
theorem PD.init {K : PySem.W.Frag} {file : Str} {d : PD} (e : fnS K d.at_ = d.val) (c : d.ok K file = true) (h0 : d.clo = [("__class__" : Str)]) :
    ∃ (oc : Value) (od : Option Addr) (kV doc pm : Value) (an : Option Addr) (cda : Addr) (ct : Value) (cc : Addr) (osl : Array (Option Value)), K.lookup (fAd K d.at_) = some ⟨oc, od, .func (PySem.W.ksFn d.name d.qual (defArgs d.st) (defBody d.st) (defScope d.st) .none kV doc pm an (.ref cda) ct cc), osl⟩ ∧
      PySem.W.codeIn K (.ref cda) d.qual = true ∧ PySem.W.isFn K (.ref (fAd K d.at_)) = true ∧ (∃ cl cld csl, K.lookup cc = some ⟨cl, cld, .cell (some (.ref (ga K d.at_.1))), csl⟩) ∧
      (∃ ccl cdd vs ccs f tf, K.lookup cda = some ⟨ccl, cdd, .fields vs, ccs⟩ ∧ vs[2]? = some (.str f tf) ∧ (file == f) = true) := by
  obtain ⟨kp, c⟩ := ba c
  obtain ⟨fn, c2⟩ := ba c
  unfold fnS at e
  cases q : K.lookup (fAd K d.at_) with
  | none => rw [q] at c2; cases c2
  | some o =>
    obtain ⟨oc, od, dt, osl⟩ := o
    rw [q] at c2 e
    cases dt with
    | func fd =>
      obtain ⟨n1, n2, n3, n4, n5, n6, n7, n8, n9, n10, n11, n12, n13, n14, n15⟩ := fd
      have e2 : (some (n1, n2, n3, n4, n5, n6, n7.map (·.1), n15) : FnS) = some (d.name, d.qual, defArgs d.st, .stmts (defBody d.st), defScope d.st, mainGlobals, d.clo, builtinsNs) := e
      simp only [Option.some.injEq, Prod.mk.injEq] at e2
      obtain ⟨h1, h2, h3, h4, h5, h6, h7, h8⟩ := e2
      rw [h0] at h7
      subst h1 h2 h3 h4 h5 h6 h8
      have c3 : (PySem.W.codeIn K n13 d.qual && (noneV n8 && (d.clo.isEmpty || cellB K file (ga K d.at_.1) ⟨d.name, d.qual, defArgs d.st, .stmts (defBody d.st), defScope d.st, mainGlobals, n7, n8, n9, n10, n11, n12, n13, n14, builtinsNs⟩))) = true := c2
      obtain ⟨k1, k2⟩ := ba c3
      obtain ⟨k3, k4⟩ := ba k2
      have e8 : n8 = .none := by cases n8 <;> first | rfl | cases k3
      subst e8
      rw [h0] at k4
      replace k4 : cellB K file (ga K d.at_.1) ⟨d.name, d.qual, defArgs d.st, .stmts (defBody d.st), defScope d.st, mainGlobals, n7, .none, n9, n10, n11, n12, n13, n14, builtinsNs⟩ = true := k4
      cases n7 with
      | nil => cases h7
      | cons p r =>
        obtain ⟨y, cc⟩ := p
        cases r with
        | cons _ _ => cases h7
        | nil =>
          cases n13 with
          | ref cda =>
            obtain ⟨m1, m2⟩ := ba k4
            have ey : y = "__class__" := by
              have : [y] = [("__class__" : Str)] := h7
              exact (List.cons.inj this).1
            subst ey
            refine ⟨oc, od, n9, n10, n11, n12, cda, n14, cc, osl, rfl, k1, fn, ?_, ?_⟩
            · split at m1
              · rename_i cl cld D' csl ho
                obtain rfl := of_decide_eq_true m1
                exact ⟨_, _, _, ho⟩
              · cases m1
            · split at m2
              · rename_i ccl cdd vs ccs ho
                split at m2
                · rename_i f tf hv
                  exact ⟨_, _, _, _, _, _, ho, hv, m2⟩
                · cases m2
              · cases m2
          | _ => cases k4
    | _ => cases c2
end PM


/-! PM: the data of a text, the Bool that holds behind the top, the end of a law. -/
namespace PM
open PySem PySem.Spec PyProof.Rows L2 He

structure Dat.Ok (D : Dat) (K : PySem.W.Frag) (h : Heap) (mg : Str → Option Value) : Prop where
  fn : ∀ d ∈ D.fns, fnS K d.at_ = d.val ∧ d.ok K D.file = true
  glo : ∀ d ∈ D.fns, mg d.at_.1 = some (.ref (ga K d.at_.1))
  exG : ∀ x ∈ D.exs, mg x = some (.ref (ga K x))
  ex : ∀ x ∈ D.exs, ExC K (ga K x)
  init : ∀ x ∈ D.inits, initB K (ga K x) = true
  plain : ∀ x ∈ D.plainEx, PySem.W.findIn K (.ref (ga K x)) "__init__" = some (some (.builtin "ValueError.__init__"))
  int : ∀ q ∈ D.pI, ∃ t, mg q.1 = some (.int q.2 t)
  str : ∀ q ∈ D.pS, ∃ t, mg q.1 = some (.str q.2 t)
  free : ∀ x ∈ D.pF, mg x = none
  fld : ∀ q ∈ D.pA, PySem.W.findIn K (.ref (ga K q.1)) q.2 = some none
  isV : ∀ c ∈ D.isC, PySem.W.kitOne K (.ref (ga K c)) (.type "ValueError") = some true
  isD : ∀ c ∈ D.isC, ∀ d ∈ D.isD, PySem.W.kitOne K (.ref (ga K c)) (.ref (ga K d)) = some (D.sub c d)
  opq : PySem.W.nsIn K cStatics "thirdparty.any" = some none
  nol : noList K = true
theorem obsE_eq {D : Dat} {g : Addr → Option Obj} {s : Shared} (h : ∀ a, g a = s.heap.get? a) : obsE D g = (hookE D).obs s := by
  have e : g = s.heap.get? := funext h
  rw [e] <;> rfl
theorem Dat.ok_of {D : Dat} {K : PySem.W.Frag} {h : Heap} {mg : Str → Option Value} (X : K.In h) (G : h.Ns mainGlobals mg) (c : obsK D K = valE D) : D.Ok K h mg := by
  have c1 : D.chk K = true := congrArg (fun z : AlE => z.1) c
  have c2 : D.fns.map (fun d => fnS K d.at_) = D.fns.map PD.val := congrArg (fun z : AlE => z.2) c
  obtain ⟨h1, c1⟩ := ba c1
  obtain ⟨h2, c1⟩ := ba c1
  obtain ⟨h3, c1⟩ := ba c1
  obtain ⟨h4, c1⟩ := ba c1
  obtain ⟨h5, c1⟩ := ba c1
  obtain ⟨h6, c1⟩ := ba c1
  obtain ⟨h7, c1⟩ := ba c1
  obtain ⟨h8, c1⟩ := ba c1
  obtain ⟨h9, c1⟩ := ba c1
  obtain ⟨h10, c1⟩ := ba c1
  obtain ⟨h11, h12⟩ := ba c1
  refine ⟨fun d hd => ⟨?_, List.all_eq_true.mp h1 d hd⟩, fun d hd => PySem.W.mg_of X G (eqO_ok (List.all_eq_true.mp h11 d hd)), fun x hx => PySem.W.mg_of X G (eqO_ok (ba (List.all_eq_true.mp h2 x hx)).1), fun x hx => excB_ok (ba (List.all_eq_true.mp h2 x hx)).2, fun x hx => List.all_eq_true.mp h3 x hx,
    fun x hx => eqO_ok (List.all_eq_true.mp h4 x hx), fun q hq => int_ok X G (List.all_eq_true.mp h5 q hq), fun q hq => str_ok X G (List.all_eq_true.mp h6 q hq), fun x hx => PySem.W.mg_none_of X G (eqO_ok (List.all_eq_true.mp h7 x hx)), fun q hq => eqO_ok (List.all_eq_true.mp h8 q hq),
    fun c hc => of_decide_eq_true (ba (List.all_eq_true.mp h9 c hc)).1, fun c hc d hd => of_decide_eq_true (List.all_eq_true.mp (ba (List.all_eq_true.mp h9 c hc)).2 d hd), eqO_ok h10, h12⟩
  obtain ⟨i, hi, e⟩ := List.mem_iff_getElem.mp hd
  have e2 : (D.fns.map fun d => fnS K d.at_)[i]? = (D.fns.map PD.val)[i]? := by rw [c2]
  rw [List.getElem?_map, List.getElem?_map, List.getElem?_eq_getElem hi, e] at e2
  exact Option.some.inj e2

/-! ### the law's end -/
def cs0 (ns : List Int) : CS := ⟨1, fun _ => .rol (ns.map CV.int)⟩
theorem rvs_ints {μ : Mu} {H : Hp} : ∀ ns : List Int, RVs μ H (ns.map CV.int) (ns.map V.int)
  | [] => rfl
  | n :: ns => .cons rfl (rvs_ints ns)
theorem noList_ok {K : PySem.W.Frag} (h : noList K = true) {a : Addr} {o : Obj} (e : K.lookup a = some o) : o.cls ≠ .type "list" := fun z => by
  have mem : ∀ {l : List (Addr × Obj)}, l.lookup a = some o → (a, o) ∈ l := by
    intro l
    induction l with
    | nil => intro q; cases q
    | cons p l ih =>
      intro q
      obtain ⟨b, u⟩ := p
      rw [List.lookup_cons] at q
      cases e : (a == b) with
      | true => rw [e] at q; cases q; rw [beq_iff_eq.mp e]; exact List.mem_cons_self
      | false => rw [e] at q; exact List.mem_cons_of_mem _ (ih q)
  have q := List.all_eq_true.mp h _ (mem e)
  dsimp only at q
  rw [z] at q
  revert q
  decide
theorem sp_law {K : PySem.W.Frag} {G : Cfg} {m : MF} {H : Hp} {a : Addr} {ns : List Int} (nol : noList K = true) (hO : Only H) (hS : SqL K H a (ns.map V.int))
    (h : Rok (m [.ref 0] (cs0 ns)) (fun _ _ => False) fun v _ => v = .bl true) : spM G 1 m [.ref a] H (fun v _ => v = .bl true) fun _ _ _ => False := by
  have ha : ∃ o, H a = some (.frz o (.lst (ns.map V.int))) := by
    rcases hS with (hS | ⟨o, hS⟩) | ⟨o, its, n, e, c, _⟩
    · rcases hO a with z | ⟨o, xs, z⟩
      · rw [hS] at z; cases z
      · rw [hS] at z; cases z
    · exact ⟨o, hS⟩
    · exact absurd c (noList_ok nol e)
  obtain ⟨o, ha⟩ := ha
  let μ : Mu := fun n => if n = 0 then some a else none
  have m0 : ∀ n b, μ n = some b → n = 0 ∧ b = a := fun n b hb => by
    have hb' : (if n = 0 then some a else none) = some b := hb
    by_cases z : n = 0
    · rw [if_pos z] at hb'; exact ⟨z, (Option.some.inj hb').symm⟩
    · rw [if_neg z] at hb'; cases hb'
  have hl : Rl G μ (cs0 ns) H := ⟨fun n b hb => by rw [(m0 n b hb).1]; exact Nat.zero_lt_one, fun n hn => ⟨a, if_pos (Nat.lt_one_iff.mp hn)⟩,
    fun i j b h1 h2 => by rw [(m0 i b h1).1, (m0 j b h2).1], fun n b hb => by
      rw [(m0 n b hb).2]
      exact ⟨_, o, rvs_ints ns, ha⟩⟩
  refine ⟨μ, cs0 ns, [.ref 0], hl, .cons ⟨a, rfl, rfl⟩ .nil, rfl, h.mono (fun _ _ z => z.elim) fun v c z => ?_⟩
  subst z
  exact fun μ' H' v' _ _ r => r
theorem walk_E {l : PySem.W.OpenLaw} {n k : Nat} {q : Program} {loose : List Str} {XP : (Str → Option Value) → Heap → Prop} {d : DefRec} {x : Str} {D : Dat} {G : PySem.W.Frag → Cfg} {m : MF}
    (hn : l.most = some n) (hn2 : n ≤ sizeLine) (hdf : d.params.defaults = []) (hr : Room k callerA)
    (F : ∀ (w : World) (K : PySem.W.Frag) (mg : Str → Option Value) (fa : Addr) (h : Heap), K.In h → h.Ns mainGlobals mg → D.Ok K h mg → mg d.name = some (.ref fa) →
      ∃ fd : FuncData, (∀ (s : Shared) (u : Value), BindsTo s fd ⟨[u], []⟩ [(x, u)]) ∧ ∀ base : Heap, K.In base → base.Ns mainGlobals mg → FnOk l.prog w K mg base (L2.CX l.prog w) k fa fd [x] (spM (G K) 1 m))
    (hm : ∀ ns : List Int, ns.length ≤ n → (∀ z ∈ ns, Builtin.Int.intBits z ≤ 1048576) → Rok (m [.ref 0] (cs0 ns)) (fun _ _ => False) fun v _ => v = .bl true) :
    PySem.W.WalkO q loose XP (hookE D).says l.row.toRowW d [] (fun f vs => PySem.call f vs) := by
  refine Att.attach_callB hn hdf fun w s₀ s₁ mg mb fa o pm cd doc a vs ns Gr Y ho hd hcd hmg hobj hints hlen hbits hg => ?_
  obtain ⟨K, KX, c⟩ := Y
  have OK := Dat.ok_of KX Gr.T.g c
  obtain ⟨fd, hb, hF⟩ := F w K mg fa _ KX Gr.T.g OK hmg
  exact law_call KX Gr.T.g Gr.T.b Gr.T.builtins Gr.T.nolimit hg hobj hints (Nat.le_trans hlen hn2) hr hF hb (fun H hO hS => sp_law OK.nol hO hS (hm ns hlen hbits)) fun H e s' hx => by
    obtain ⟨_, _, _, _, _, _, _, _, _, _, _, _, z⟩ := hx
    exact z
end PM


/-! PM: own exceptions: what an __init__ leaves, making one, reading a field, isinstance. -/
namespace PM
open PySem PySem.Spec PyProof.Rows L2 He

/-- self.f = y for each of fn, behind super().__init__(text) -/
def spIni (A : Addr) (fn : List Str) : Sp := fun vs H Q _ => ∃ (a : Addr) (ys : List V), vs = .ref a :: ys ∧ ys.length = fn.length ∧ H a = some (exo a A none) ∧
  ∀ dx, H dx = none → dx ≠ a → Q .non (upd (upd H dx (exd dx (fn.zip ys).reverse)) a (exo a A (some dx)))
structure SupTxt (st : Stmt) (N ps : List Str) : Prop where
  S : SupScope N ps (defScope st)
  ks : (defScope st).names.lookup ("super" : Str) = some .globalImplicit
  kc : (defScope st).names.lookup ("__class__" : Str) = some .free
  nocell : ∀ x ∈ (defScope st).names, x.2 ≠ .cell
  onlyc : ∀ x ∈ (defScope st).names, x.2 = .free → x.1 = "__class__"
section
variable {P : Program} {w : World} {K : PySem.W.Frag} {mg : Str → Option Value} {base : Heap} {d : PD} {N ps fn : List Str} {rest : List Stmt} {t : TS} {msg : Str} {j : Nat} {p0 p1 p2 p3 p4 p5 : Pos}
theorem ini_of (e : fnS K d.at_ = d.val) (c : d.ok K P.main.file = true) (h0 : d.clo = [("__class__" : Str)]) (hd : d.at_.2 = some ("__init__" : Str)) (hs : mg "super" = none) (htop : (P.main.scope.names.lookup ("super" : Str)).isSome = false) (opq : PySem.W.nsIn K cStatics "thirdparty.any" = some none)
    (ex : ExC K (ga K d.at_.1)) (ib : initB K (ga K d.at_.1) = true) (T : SupTxt d.st N ps) (ar : Arg) (har : ((defArgs d.st).posonlyargs ++ (defArgs d.st).args).head? = some ar) (har0 : ps.head? = some ar.arg) (hpl : ps.length = fn.length + 1)
    (hbd : ∀ (kV doc pm : Value) (an : Option Addr) (cda ct : Value) (cc : Addr) (us : List Value), us.length = ps.length → bindArgs (PySem.W.ksFn d.name d.qual (defArgs d.st) (defBody d.st) (defScope d.st) .none kV doc pm an cda ct cc) ⟨us, []⟩ = pure (ps.zip us))
    (hst : defBody d.st = .Expr (.Call (.Attribute (.Call (.Name "super" p0) [] [] p1) "__init__" p2) [.Constant (.str msg) j p3] [] p4) p5 :: rest)
    (hbody : ∀ X : Cx, X.env.scope = defScope d.st → X.N = N → X.K = K → PSs X rest t)
    (hsp : ∀ vs H Q E, spIni (ga K d.at_.1) fn vs H Q E → ∃ a ys, vs = .ref a :: ys ∧ H a = some (exo a (ga K d.at_.1) none) ∧ t { nx := fun _ H' => Q .non H', rt := Q } (L2.start N vs) H)
    (hs1 : ∀ env : Env, swapsWith (.Call (.Attribute (.Call (.Name "super" p0) [] [] p1) "__init__" p2) [.Constant (.str msg) j p3] [] p4) none p5.line env = pure false) (pl : Env → Sem Bool)
    (hcall : ∀ env : Env, eval (.Call (.Attribute (.Call (.Name "super" p0) [] [] p1) "__init__" p2) [.Constant (.str msg) j p3] [] p4) env = (do
      let ov ← attributeBase (.Call (.Name "super" p0) [] [] p1) "__init__" env (eval (.Call (.Name "super" p0) [] [] p1) env)
      standAt p2.atName
      let (f, first) ← holding [ov] (getMethod ov "__init__" (pl env))
      callWith p4 f first (backTo p4 (starEach [.Constant (.str msg) j p3] env)) [])) :
    ∃ fd, FnOk P w K mg base (L2.CX P w) 1 (ma K (ga K d.at_.1) "__init__") fd ps (spIni (ga K d.at_.1) fn) ∧ Binds K fd ps [] ∧ PySem.W.typeIn K (.ref (ma K (ga K d.at_.1) "__init__")) = some (.type "function") := by
  obtain ⟨oc, od, kV, doc, pm, an, cda, ct, cc, osl, lk, hcd, hfn, hcell, hcode⟩ := PD.init e c h0
  obtain ⟨i1, i2⟩ := ba ib
  obtain ⟨i2, i3⟩ := ba i2
  have ef : fAd K d.at_ = ma K (ga K d.at_.1) "__init__" := by unfold fAd; rw [hd] <;> rfl
  rw [ef] at lk hfn
  have C : SupC P K mg (ga K d.at_.1) cc cda (defScope d.st) := ⟨hcell, hcode, hs, htop, T.ks, T.kc, T.nocell, fun x hx => T.onlyc (x, .free) (PySem.mem_of_lookup hx) rfl, of_decide_eq_true i1, opq, of_decide_eq_true i2⟩
  have bd : Binds K (PySem.W.ksFn d.name d.qual (defArgs d.st) (defBody d.st) (defScope d.st) .none kV doc pm an (.ref cda) ct cc) ps [] := .all (hbd kV doc pm an (.ref cda) ct cc)
  refine ⟨_, ?_, bd, beq_iff_eq.mp hfn⟩
  rw [hst] at lk ⊢
  exact fn_sup (k := 0) (t := t) (CX := L2.CX P w) lk hcd T.S C ex ar har har0 (fun vs H Q E ⟨a, ys, h1, h2, _⟩ => by rw [h1, List.length_cons, h2, hpl]) (fun A outer s H E _ => hbody _ rfl rfl rfl) hsp hs1 pl hcall
end
theorem heap_two {H : Hp} {dx a : Addr} {o1 o2 u : HO} (ne : dx ≠ a) : upd (upd (upd H dx o1) a u) dx o2 = upd (upd H dx o2) a u := by
  funext b
  by_cases h1 : b = dx
  · subst h1
    rw [upd_same, upd_ne ne, upd_same]
  · by_cases h2 : b = a
    · subst h2
      rw [upd_ne h1, upd_same, upd_same]
    · rw [upd_ne h1, upd_ne h2, upd_ne h1, upd_ne h2, upd_ne h1]
section
variable {K : PySem.W.Frag} {A : Addr} {f1 f2 f3 x1 x2 x3 : Str}
abbrev tF (K : PySem.W.Frag) (f : Str) (i : Nat) : TS := tOst K f (tVar 0) (tVar i)
theorem ini1 (ex : ExC K A) (n1 : PySem.W.findIn K (.ref A) f1 = some none) : ∀ vs H Q E, spIni A [f1] vs H Q E → ∃ a ys, vs = .ref a :: ys ∧ H a = some (exo a A none) ∧ tF K f1 1 { nx := fun _ H' => Q .non H', rt := Q } (L2.start ["self", x1] vs) H := by
  rintro vs H Q E ⟨a, ys, rfl, hl, ha, k⟩
  match ys, hl with
  | [y], _ => exact ⟨a, [y], rfl, ha, y, rfl, .ref a, rfl, a, A, rfl, ex.oex, n1, .inl ⟨ha, fun dx n ne => k dx n ne⟩⟩
theorem ini2 (ex : ExC K A) (n1 : PySem.W.findIn K (.ref A) f1 = some none) (n2 : PySem.W.findIn K (.ref A) f2 = some none) : ∀ vs H Q E, spIni A [f1, f2] vs H Q E → ∃ a ys, vs = .ref a :: ys ∧ H a = some (exo a A none) ∧
    tSeq (tF K f1 1) (tF K f2 2) { nx := fun _ H' => Q .non H', rt := Q } (L2.start ["self", x1, x2] vs) H := by
  rintro vs H Q E ⟨a, ys, rfl, hl, ha, k⟩
  match ys, hl with
  | [y, z], _ =>
    refine ⟨a, [y, z], rfl, ha, y, rfl, .ref a, rfl, a, A, rfl, ex.oex, n1, .inl ⟨ha, fun dx n ne => ?_⟩⟩
    refine ⟨z, rfl, .ref a, rfl, a, A, rfl, ex.oex, n2, .inr ⟨dx, _, upd_same, by rw [upd_ne ne, upd_same], by simp, ?_⟩⟩
    have q := k dx n ne
    rw [heap_two ne]
    exact q
theorem ini3 (ex : ExC K A) (n1 : PySem.W.findIn K (.ref A) f1 = some none) (n2 : PySem.W.findIn K (.ref A) f2 = some none) (n3 : PySem.W.findIn K (.ref A) f3 = some none) : ∀ vs H Q E, spIni A [f1, f2, f3] vs H Q E → ∃ a ys, vs = .ref a :: ys ∧ H a = some (exo a A none) ∧
    tSeq (tF K f1 1) (tSeq (tF K f2 2) (tF K f3 3)) { nx := fun _ H' => Q .non H', rt := Q } (L2.start ["self", x1, x2, x3] vs) H := by
  rintro vs H Q E ⟨a, ys, rfl, hl, ha, k⟩
  match ys, hl with
  | [y, z, v], _ =>
    refine ⟨a, [y, z, v], rfl, ha, y, rfl, .ref a, rfl, a, A, rfl, ex.oex, n1, .inl ⟨ha, fun dx n ne => ?_⟩⟩
    refine ⟨z, rfl, .ref a, rfl, a, A, rfl, ex.oex, n2, .inr ⟨dx, _, upd_same, by rw [upd_ne ne, upd_same], by simp, ?_⟩⟩
    rw [heap_two ne]
    refine ⟨v, rfl, .ref a, rfl, a, A, rfl, ex.oex, n3, .inr ⟨dx, _, upd_same, by rw [upd_ne ne, upd_same], by simp, ?_⟩⟩
    have q := k dx n ne
    rw [heap_two ne]
    exact q
end

/-! ### making one -/
section
variable {X : Cx} {G : Cfg} {W : WX} {k : Nat} {e a b : Expr} {pos : Pos} {ma mb : ME} {es : List Expr} {ms : MA}
def mNew (C : Str) (fn : List Str) (ms : MA) : ME := fun ρ c => (ms ρ c).bind fun xs c1 => if xs.length = fn.length then .ok (.ref c1.next) (c1.new (.exn C (fn.zip xs).reverse)) else .stuck
theorem rf_zip {μ : Mu} {H : Hp} : ∀ {fn : List Str} {xs : List CV} {vs : List V}, RVs μ H xs vs → RF μ H (fn.zip xs) (fn.zip vs)
  | [], _, _, _ => by rw [List.zip_nil_left, List.zip_nil_left]; exact rfl
  | f :: fn, [], _, h => by rw [show _ = [] from h, List.zip_nil_right, List.zip_nil_right]; exact rfl
  | f :: fn, x :: xs, _, ⟨v, r, h1, h2, h3⟩ => by rw [h1, List.zip_cons_cons, List.zip_cons_cons]; exact ⟨v, _, rfl, h2, rf_zip h3⟩
theorem RF.append {μ : Mu} {H : Hp} : ∀ {xs ys : List (Str × CV)} {vs ws : List (Str × V)}, RF μ H xs vs → RF μ H ys ws → RF μ H (xs ++ ys) (vs ++ ws)
  | [], _, _, _, h, t => by rw [show _ = [] from h]; exact t
  | _ :: _, _, _, _, ⟨v, r, h1, h2, h3⟩, t => by rw [h1]; exact ⟨v, _, rfl, h2, RF.append h3 t⟩
theorem RF.reverse {μ : Mu} {H : Hp} : ∀ {xs : List (Str × CV)} {vs : List (Str × V)}, RF μ H xs vs → RF μ H xs.reverse vs.reverse
  | [], _, h => by rw [show _ = [] from h]; exact rfl
  | x :: _, _, ⟨v, r, h1, h2, h3⟩ => by rw [h1, List.reverse_cons, List.reverse_cons]; exact (RF.reverse h3).append ⟨v, [], rfl, h2, rfl⟩
theorem RF.lookup {μ : Mu} {H : Hp} {f : Str} : ∀ {xs : List (Str × CV)} {vs : List (Str × V)} {x : CV}, RF μ H xs vs → xs.lookup f = some x → ∃ v, vs.lookup f = some v ∧ RV μ H x v
  | [], _, _, _, q => by cases q
  | (g, x) :: xs, _, y, ⟨v, r, h1, h2, h3⟩, q => by
    rw [List.lookup_cons] at q
    rw [h1, List.lookup_cons]
    cases e : (f == g) with
    | true => rw [e] at q; cases q; exact ⟨v, rfl, h2⟩
    | false => rw [e] at q; exact RF.lookup h3 q
/-- C(e, ..), C's own __init__ as told -/
theorem ce_new {x C : Str} {p : Pos} {A fI : Addr} {fd : FuncData} {ps fn : List Str} (hf : fn.length ≤ 1000) (gC : G.cl C = some A) (ex : ExC X.K A) (iC : PySem.W.findIn X.K (.ref A) "__init__" = some (some (.ref fI))) (tI : PySem.W.typeIn X.K (.ref fI) = some (.type "function"))
    (F1 : FnOk X.prog X.w X.K X.mg X.base (L2.CX X.prog X.w) k fI fd ps (spIni A fn)) (hb : Binds X.K fd ps []) (tk : Takes X W) (hr : Room (k + 1) X.A) (hg : Gl X x) (hm : X.mg x = some (.ref A)) (ha : PA X (e :: es) (rA G W ms))
    (hdb : (x == ("__debug__" : Str)) = false := by decide) (he : starEach (e :: es) X.env = (false, eval e X.env) :: starEach es X.env := by rfl) (hpl : (backTo pos (starEach es X.env)).any (·.1) = false := by rfl) :
    PE X (.Call (.Name x p) (e :: es) [] pos) (rE G W (mNew C fn ms)) := by
  refine ⟨fun pins s σ H Q I h => ?_⟩
  obtain ⟨μ, ρ, c, hl, hρ, q⟩ := h
  have T := ex.oex
  obtain ⟨nm, qn, N, bs, bm, sn, sub, ab, col, dd, k0, k1, k2, k3, k5, hC, hbm⟩ := T.cls
  refine wpAny_Call_Name_kw (ld_glob I hg hm ?_ hdb)
  refine PySem.W.callWith_K (h₀ := X.base) I.ok.mod.kin T.kC (thn (ha.run pos pins s σ H (fun vs H1 => ∃ μ1 xs c1, Ext μ H μ1 H1 ∧ Rl G μ1 c1 H1 ∧ RVs μ1 H1 xs vs ∧ Rok (if xs.length = fn.length then R.ok (CV.ref c1.next) (c1.new (.exn C (fn.zip xs).reverse)) else .stuck) (PX G W μ H σ) (PV G Q μ H)) I
    ⟨μ, ρ, c, hl, hρ, (Rok.bind q).mono (fun _ _ z => z) fun xs c1 q1 μ1 H1 vs e1 l1 r1 => ⟨μ1, xs, c1, e1, l1, r1, q1⟩⟩) fun us s1 ⟨vs, H1, I1, r1, μ1, xs, c1, e1, l1, rx, q1⟩ => ⟨I1.kIn, ?_⟩) he hpl
  by_cases hlen : xs.length = fn.length
  case neg => rw [if_neg hlen] at q1; exact False.elim q1
  rw [if_pos hlen] at q1
  show wpAny _ _ (call (.ref A) us) _ _ _
  obtain ⟨hp, g, dr, tk', os⟩ := s1
  have hsz : hp.objs.size ≤ hp.objs.size + 1 := Nat.le_succ _
  have hn : H1 (hp.objs.size + 1) = none := I1.hok.fresh hsz
  have kk : ∀ b o, hp.get? b = some o → ((hp.push (PySem.W.kdv_tup us)).push (PySem.HandSPX.excO A hp.objs.size)).get? b = some o := fun b o e => Heap.get?_push_of_some _ (Heap.get?_push_of_some _ e)
  have hget : ((hp.push (PySem.W.kdv_tup us)).push (PySem.HandSPX.excO A hp.objs.size)).get? (hp.objs.size + 1) = some (PySem.HandSPX.excO A hp.objs.size) := by heap_get
  have I2 : Inv X pins σ (upd H1 (hp.objs.size + 1) (exo (hp.objs.size + 1) A none)) ⟨(hp.push (PySem.W.kdv_tup us)).push (PySem.HandSPX.excO A hp.objs.size), g, dr, tk', os⟩ :=
    I1.laid (t' := tk') (a := hp.objs.size + 1) (o := exo (hp.objs.size + 1) A none) (h' := (hp.push (PySem.W.kdv_tup us)).push (PySem.HandSPX.excO A hp.objs.size)) kk hsz (exo_ok hget)
  have r2 : Vals (V.ref (hp.objs.size + 1) :: vs) (Value.ref (hp.objs.size + 1) :: us) := .cons rfl r1
  have hvl : vs.length = fn.length := by rw [rx.length]; exact hlen
  have hspec : spIni A fn (.ref (hp.objs.size + 1) :: vs) (upd H1 (hp.objs.size + 1) (exo (hp.objs.size + 1) A none)) (fun v H2 => v = .non ∧ Q (.ref (hp.objs.size + 1)) H2) (WE W σ) := by
    refine ⟨_, vs, rfl, hvl, upd_same, fun dx ndx ne => ⟨rfl, ?_⟩⟩
    rw [upd_ne ne] at ndx
    have eH : upd (upd (upd H1 (hp.objs.size + 1) (exo (hp.objs.size + 1) A none)) dx (exd dx (fn.zip vs).reverse)) (hp.objs.size + 1) (exo (hp.objs.size + 1) A (some dx)) = upd (upd H1 dx (exd dx (fn.zip vs).reverse)) (hp.objs.size + 1) (exo (hp.objs.size + 1) A (some dx)) := by
      funext b
      by_cases z : b = hp.objs.size + 1
      · rw [z, upd_same, upd_same]
      · rw [upd_ne z, upd_ne z]
        by_cases y : b = dx
        · rw [y, upd_same, upd_same]
        · rw [upd_ne y, upd_ne y, upd_ne z]
    rw [eH]
    have l2 := l1.laid (o := exd dx (fn.zip vs).reverse) ndx
    have ex2 : Ext μ1 H1 μ1 (upd H1 dx (exd dx (fn.zip vs).reverse)) := ext_new ndx
    have hn2 : upd H1 dx (exd dx (fn.zip vs).reverse) (hp.objs.size + 1) = none := by rw [upd_ne (Ne.symm ne)]; exact hn
    obtain ⟨e3, l3, r3⟩ := l2.new (co := .exn C (fn.zip xs).reverse) (o := exo (hp.objs.size + 1) A (some dx)) hn2 fun μ' x => ⟨A, (fn.zip vs).reverse, some dx, gC, (rf_zip ((rx.ext ex2).ext x)).reverse, upd_same, .inr ⟨dx, rfl, by rw [upd_ne ne, upd_same]⟩⟩
    exact q1 _ _ _ ((e1.trans ex2).trans e3) l3 ⟨_, r3, rfl⟩
  have hl2 : (Value.ref (hp.objs.size + 1) :: us).length = ps.length := by
    rw [← r2.length]; exact F1.len _ _ _ _ hspec
  have hus : us.length ≤ sizeLine := by rw [← r1.length, hvl, sizeLine_eq]; omega
  have bnd := hb ⟨(hp.push (PySem.W.kdv_tup us)).push (PySem.HandSPX.excO A hp.objs.size), g, dr, tk', os⟩ (Value.ref (hp.objs.size + 1) :: us) I2.kIn (by rw [List.append_nil]; exact hl2)
  rw [List.append_nil] at bnd
  refine wpAny_call (PySem.HandSPX.call_own F.excBase_ValueError (fun Y => PySem.HandSPX.refsVE_contains Y bm hbm) (I1.kIn _ _ hC) (PySem.W.looks_findIn I1.kIn iC) (fun self => PySem.W.bind_fn I1.kIn self tI) hus
    (codeAny_mono (F1.run _ X.stack _ _ ⟨Value.ref (hp.objs.size + 1) :: us, []⟩ (Value.ref (hp.objs.size + 1) :: us) _ _ (WE W σ) (hr.make A us []) (I2.env0.make A us []) bnd r2 hspec) fun r s' hq' => ?_))
  cases r with
  | error er => exact passAt tk σ pins _ _ er s' I2 hq'
  | ok fl =>
    cases fl with
    | ret u =>
      obtain ⟨v, H2, I3, rv, ev, q2⟩ := I2.after hq'
      subst ev
      exact ⟨rv, .ref _, H2, I3, rfl, q2⟩
    | next => exact False.elim hq'
    | brk => exact False.elim hq'
    | cont => exact False.elim hq'
end
end PM

/-! PM: exceptions as values, isinstance, displays, constants of the module, recursion. -/
namespace PM
open PySem PySem.Spec PyProof.Rows L2 He
section
variable {X : Cx} {G : Cfg} {W : WX} {k : Nat} {e a b : Expr} {pos : Pos} {ma mb : ME} {es : List Expr} {ms : MA}
/-- C(), C without an own __init__ -/
def mNew0 (C : Str) : ME := fun _ c => .ok (.ref c.next) (c.new (.exn C []))
theorem ce_new0 {x C : Str} {p : Pos} {A : Addr} (gC : G.cl C = some A) (ex : ExC X.K A) (iC : PySem.W.findIn X.K (.ref A) "__init__" = some (some (.builtin "ValueError.__init__"))) (hg : Gl X x) (hm : X.mg x = some (.ref A))
    (hdb : (x == ("__debug__" : Str)) = false := by decide) : PE X (.Call (.Name x p) [] [] pos) (rE G W (mNew0 C)) := by
  refine ⟨fun pins s σ H Q I h => ?_⟩
  obtain ⟨μ, ρ, c, hl, hρ, q⟩ := h
  have T := ex.oex
  obtain ⟨nm, qn, N, bs, bm, sn, sub, ab, col, dd, k0, k1, k2, k3, k5, hC, hbm⟩ := T.cls
  refine wpAny_Call_Name_kw (ld_glob I hg hm ?_ hdb)
  refine PySem.W.callWith_K0 I.kIn T.kC ?_
  show wpAny _ _ (call (.ref A) []) _ _ _
  obtain ⟨hp, g, dr, tk', os⟩ := s
  refine PySem.W.call_B F.excBase_ValueError (fun Y => PySem.HandSPX.refsVE_contains Y bm hbm) (I.kIn _ _ hC) (PySem.W.looks_findIn I.kIn iC) (Nat.zero_le _) fun h' kk e1 e2 => ?_
  have hsz : hp.objs.size ≤ hp.objs.size + 1 := Nat.le_succ _
  have hn : H (hp.objs.size + 1) = none := I.hok.fresh hsz
  have I2 : Inv X pins σ (upd H (hp.objs.size + 1) (exo (hp.objs.size + 1) A none)) ⟨h', g, dr, tk', os⟩ := I.laid (t' := tk') (a := hp.objs.size + 1) (o := exo (hp.objs.size + 1) A none) (h' := h') kk hsz (exo_ok e1)
  obtain ⟨e3, l3, r3⟩ := hl.new (co := .exn C []) (o := exo (hp.objs.size + 1) A none) hn fun μ' x => ⟨A, [], none, gC, rfl, upd_same, .inl ⟨rfl, rfl⟩⟩
  exact ⟨.ref _, _, I2, rfl, q _ _ _ e3 l3 ⟨_, r3, rfl⟩⟩

/-- e.f of an exception -/
def mXf (L : List Str) (f : Str) (m : ME) : ME := fun ρ c => (m ρ c).bind fun x c1 => match x with
  | .ref n => match c1.obj n with
    | .exn C fs => if C ∈ L then (match fs.lookup f with
      | some v => .ok v c1
      | none => .stuck) else .stuck
    | _ => .stuck
  | _ => .stuck
theorem inst_exo {pins : List (Addr × Obj)} {σ : L2.St} {H : Hp} {s : Shared} {a A : Addr} {d : Option Addr} {fs : List (Str × V)} (I : Inv X pins σ H s) (e : H a = some (exo a A d)) (hd : (fs = [] ∧ d = none) ∨ ∃ dx, d = some dx ∧ H dx = some (exd dx fs)) :
    ∃ ox od, PySem.W.InstAt s.heap a ox A od ∧ (∀ f v, fs.lookup f = some v → ∃ o u, od = some o ∧ PySem.W.lookIn f o = some (some u) ∧ RelV v u) := by
  obtain ⟨t1, ho⟩ := exo_at I.hok e
  rcases hd with ⟨h1, h2⟩ | ⟨dx, h1, h2⟩
  · subst h1 h2
    exact ⟨_, none, ⟨ho, rfl, rfl, trivial⟩, fun f v z => by cases z⟩
  · subst h1
    obtain ⟨mA, hns, rel⟩ := exd_at I.hok h2
    obtain ⟨od, hod, hl⟩ := lookIn_ns hns
    refine ⟨_, some od, ⟨ho, rfl, rfl, hod⟩, fun f v z => ?_⟩
    have r := rel f
    rw [z] at r
    obtain ⟨u, hu, ru⟩ := RelO.some_of r
    exact ⟨od, u, rfl, by rw [hl, hu], ru⟩
theorem ce_xf {L : List Str} {f : Str} (hL : ∀ C ∈ L, ∀ A, G.cl C = some A → ExC X.K A ∧ PySem.W.findIn X.K (.ref A) f = some none) (he : PE X e (rE G W ma)) (hb : attributeBase e f X.env (eval e X.env) = eval e X.env := by rfl) :
    PE X (.Attribute e f pos) (rE G W (mXf L f ma)) := by
  refine ⟨fun pins s σ H Q I h => ?_⟩
  obtain ⟨μ, ρ, c, hl, hρ, q⟩ := h
  refine attr_of hb (thn (he.run pins s σ H (fun v H1 => ∃ μ1 x c1, Ext μ H μ1 H1 ∧ Rl G μ1 c1 H1 ∧ RV μ1 H1 x v ∧ Rok (match x with
  | .ref n => match c1.obj n with
    | .exn C fs => if C ∈ L then (match fs.lookup f with
      | some v => R.ok v c1
      | none => .stuck) else .stuck
    | _ => .stuck
  | _ => .stuck) (PX G W μ H σ) (PV G Q μ H)) I ⟨μ, ρ, c, hl, hρ, (Rok.bind q).mono (fun _ _ z => z) fun x c1 q1 μ1 H1 v e1 l1 r1 => ⟨μ1, x, c1, e1, l1, r1, q1⟩⟩) fun u s1 ⟨v, H1, I1, ru, μ1, x, c1, e1, l1, rx, q1⟩ => ?_)
  cases x with
  | ref n =>
    obtain ⟨p, hp, ev⟩ := rx
    subst ev
    obtain rfl : u = Value.ref p := ru
    have ro := l1.obj n p hp
    dsimp only at q1
    cases ho : c1.obj n with
    | exn C fs =>
      rw [ho] at ro q1
      dsimp only at q1
      by_cases hC : C ∈ L
      · rw [if_pos hC] at q1
        obtain ⟨A, vs, d, gA, rf, hA, hd⟩ := ro
        obtain ⟨ex, hno⟩ := hL C hC A gA
        cases hlk : fs.lookup f with
        | none => rw [hlk] at q1; exact False.elim q1
        | some y =>
          rw [hlk] at q1
          obtain ⟨z, hz, rz⟩ := rf.lookup hlk
          have hd' : (vs = [] ∧ d = none) ∨ ∃ dx, d = some dx ∧ H1 dx = some (exd dx vs) := by
            rcases hd with ⟨h1, h2⟩ | h
            · subst h1; exact .inl ⟨rf, h2⟩
            · exact .inr h
          obtain ⟨ox, od, J, look⟩ := inst_exo I1 hA hd'
          obtain ⟨o, w', h1, h2, h3⟩ := look f z hz
          subst h1
          exact PySem.HandSPX.exc_get I1.kIn J ex.xf.ga ex.xf.gg ex.xf.exC (PySem.W.findObj_own ex.xf.hdC hno rfl h2) (handed_of h3) ⟨z, H1, I1.tok _, h3, q1 μ1 H1 z e1 l1 rz⟩
      · rw [if_neg hC] at q1; exact False.elim q1
    | _ => rw [ho] at q1; exact False.elim q1
  | _ => exact False.elim q1

/-- isinstance(e, D), e an own exception -/
def mIsX (L : List Str) (f : Str → Bool) (m : ME) : ME := fun ρ c => (m ρ c).bind fun x c1 => match x with
  | .ref n => match c1.obj n with
    | .exn C _ => if C ∈ L then .ok (.bl (f C)) c1 else .stuck
    | _ => .stuck
  | _ => .stuck
/-- the answers of isinstance(x, D) for own exceptions -/
def rIsX (G : Cfg) (L : List Str) (f : Str → Bool) (D : V) : List V → Hp → VK → Prop := fun vs H Q => ∃ μ c n v C fs, Rl G μ c H ∧ RV μ H (.ref n) v ∧ c.obj n = .exn C fs ∧ C ∈ L ∧ vs = [v, D] ∧ Q (.bl (f C)) H
theorem call_isX {L : List Str} {f : Str → Bool} {D : V} {Dv : Value} (k : ClsV D Dv) (hL : ∀ C ∈ L, ∀ A, G.cl C = some A → ExC X.K A ∧ PySem.W.kitOne X.K (.ref A) Dv = some (f C)) : CallR X (.builtin "isinstance") (rIsX G L f D) := by
  intro pins s σ H xs us Q I r h
  obtain ⟨μ, c, n, v, C, fs, hl, ⟨p, hp, ev⟩, ho, hC, rfl, q⟩ := h
  subst ev
  obtain ⟨u1, u2, rfl, r1, r2⟩ := vals2 r
  have e2 := k.eq r2
  subst e2
  cases (show u1 = Value.ref p from r1)
  have ro := hl.obj n p hp
  rw [ho] at ro
  obtain ⟨A, vs, d, gA, rf, hA, hd⟩ := ro
  obtain ⟨ex, hk⟩ := hL C hC A gA
  have hd' : (vs = [] ∧ d = none) ∨ ∃ dx, d = some dx ∧ H dx = some (exd dx vs) := by
    rcases hd with ⟨h1, h2⟩ | h
    · subst h1; exact .inl ⟨rf, h2⟩
    · exact .inr h
  obtain ⟨ox, od, J, _⟩ := inst_exo I hA hd'
  exact PySem.W.kia_one (PySem.W.kitx_exc (od := od) (ox := ox) ex.cl ex.xf.ga ex.xf.gg ex.xf.exC ex.ha ex.hn ex.ht ex.hm) I.kIn J hk (fun z => nomatch z) fun tk => ⟨.bl _, H, I.tok tk, rfl, q⟩
theorem ce_isX {L : List Str} {f : Str → Bool} {D : V} {Dv : Value} {x : Str} {p p2 : Pos} (kD : ClsV D Dv) (hL : ∀ C ∈ L, ∀ A, G.cl C = some A → ExC X.K A ∧ PySem.W.kitOne X.K (.ref A) Dv = some (f C)) (hg : Gl X "isinstance") (hm : X.mg "isinstance" = none) (hD : PE X (.Name x p2) (tC D)) (ha : PE X a (rE G W ma))
    (he : starEach [a, .Name x p2] X.env = (false, eval a X.env) :: starEach [.Name x p2] X.env := by rfl) (hpl : (backTo pos (starEach [Expr.Name x p2] X.env)).any (·.1) = false := by rfl) (he2 : starEach [.Name x p2] X.env = (false, eval (.Name x p2) X.env) :: starEach [] X.env := by rfl) :
    PE X (.Call (.Name "isinstance" p) [a, .Name x p2] [] pos) (rE G W (mIsX L f ma)) :=
  PEimp (pe_callB (call_isX (G := G) (L := L) (f := f) kD hL) hg hm (by decide +kernel) (pa_cons ha (pa_cons hD pa_nil he2) he) (he := he) (hpl := hpl)) fun _ _ σ H Q _ ⟨μ, ρ, c, hl, he, q⟩ =>
    ⟨μ, ρ, c, hl, he, (Rok.bind q).mono (fun _ _ h => h) fun x c1 q1 μ1 H1 v1 e1 l1 r1 => by
      cases x with
      | ref n =>
        dsimp only at q1
        cases ho : c1.obj n with
        | exn C fs =>
          rw [ho] at q1
          dsimp only at q1
          by_cases hC : C ∈ L
          · rw [if_pos hC] at q1
            exact ⟨μ1, c1, n, v1, C, fs, l1, r1, ho, hC, rfl, q1 μ1 H1 _ e1 l1 rfl⟩
          · rw [if_neg hC] at q1; exact False.elim q1
        | _ => rw [ho] at q1; exact False.elim q1
      | _ => exact False.elim q1⟩

/-- isinstance(e, (T, U)), built-in classes -/
def mIsi2 (T U : String) (m : ME) : ME := fun ρ c => (m ρ c).bind fun x c1 => match tyName x c1 with
  | some t => .ok (.bl (isB t T || isB t U)) c1
  | none => .stuck
theorem ce_isi2 {T U : String} {x y : Str} {p p2 p3 p4 : Pos} {x1} (hT : T ∈ tyAsked) (hU : U ∈ tyAsked) (hg : Gl X "isinstance") (hm : X.mg "isinstance" = none) (hg2 : Gl X x) (hm2 : X.mg x = none) (hv2 : bootBuiltins x = some (.type T)) (hg3 : Gl X y) (hm3 : X.mg y = none) (hv3 : bootBuiltins y = some (.type U)) (ha : PE X a (rE G W ma))
    (hn : x ≠ "__name__" := by decide) (hdb : (x == ("__debug__" : Str)) = false := by decide) (hn3 : y ≠ "__name__" := by decide) (hdb3 : (y == ("__debug__" : Str)) = false := by decide)
    (he : starEach [a, .Tuple [.Name x p2, .Name y p3] x1 p4] X.env = (false, eval a X.env) :: starEach [.Tuple [.Name x p2, .Name y p3] x1 p4] X.env := by rfl) (hpl : (backTo pos (starEach [Expr.Tuple [.Name x p2, .Name y p3] x1 p4] X.env)).any (·.1) = false := by rfl)
    (he2 : starEach [.Tuple [.Name x p2, .Name y p3] x1 p4] X.env = (false, eval (.Tuple [.Name x p2, .Name y p3] x1 p4) X.env) :: starEach [] X.env := by rfl)
    (he3 : starEach [.Name x p2, .Name y p3] X.env = (false, eval (.Name x p2) X.env) :: starEach [.Name y p3] X.env := by rfl) (he4 : starEach [.Name y p3] X.env = (false, eval (.Name y p3) X.env) :: starEach [] X.env := by rfl) :
    PE X (.Call (.Name "isinstance" p) [a, .Tuple [.Name x p2, .Name y p3] x1 p4] [] pos) (rE G W (mIsi2 T U ma)) :=
  PEimp (pe_callB call_isiT hg hm (by decide +kernel) (pa_cons ha (pa_cons (pe_tup (pa_cons (pe_bltn (v := .ty T) hg2 hm2 hv2 rfl hn hdb) (pa_cons (pe_bltn (v := .ty U) hg3 hm3 hv3 rfl hn3 hdb3) pa_nil he4) he3)) pa_nil he2) he) (he := he) (hpl := hpl)) fun _ _ σ H Q _ ⟨μ, ρ, c, hl, he, q⟩ =>
    ⟨μ, ρ, c, hl, he, (Rok.bind q).mono (fun _ _ h => h) fun x c1 q1 μ1 H1 v1 e1 l1 r1 => by
      cases ht : tyName x c1 with
      | none => rw [ht] at q1; exact False.elim q1
      | some t =>
        rw [ht] at q1
        refine ⟨by show 2 ≤ sizeLine; rw [sizeLine_eq]; omega, fun tp hp => ?_⟩
        have kT := kit_ty (K := X.K) (kitB_ok (tyName_known ht) hT)
        have kU := kit_ty (K := X.K) (kitB_ok (tyName_known ht) hU)
        refine ⟨v1, tp, [.ty T, .ty U], .type t, [.type T, .type U], isB t T || isB t U, rfl, upd_same, .cons (.ty T) (.cons (.ty U) .nil), tyName_ok (l1.laid hp) (r1.ext (ext_new hp)) ht, ?_, q1 μ1 _ _ (e1.trans (ext_new hp)) (l1.laid hp) rfl⟩
        refine kitAny_cons kT (fun h1 => ?_) (fun h1 => by rw [h1]; rfl)
        rw [h1, Bool.false_or]
        exact kitAny_cons kU (fun h2 => by rw [h2]; exact kitAny_nil) (fun h2 => h2)⟩
end
end PM

/-! PM: dict displays, constants of the module, defs that call themselves. -/
namespace PM
open PySem PySem.Spec PyProof.Rows L2 He
section
variable {X : Cx} {G : Cfg} {W : WX} {k : Nat} {e a b : Expr} {pos : Pos} {ma mb : ME} {es : List Expr} {ms : MA}
abbrev MP := CEnv → CS → R (List (CV × CV))
def mPs0 : MP := fun _ c => .ok [] c
def mPs (k v : ME) (r : MP) : MP := fun ρ c => (k ρ c).bind fun x c1 => (v ρ c1).bind fun y c2 => (r ρ c2).bind fun ps c3 => .ok ((x, y) :: ps) c3
def RPs (μ : Mu) (H : Hp) : List (CV × CV) → List (V × V) → Prop
  | [], vs => vs = []
  | x :: xs, vs => ∃ k v r, vs = (k, v) :: r ∧ RV μ H x.1 k ∧ RV μ H x.2 v ∧ RPs μ H xs r
def rPs (G : Cfg) (W : WX) (m : MP) : L2.St → Hp → (List (V × V) → Hp → Prop) → Prop := fun σ H Q => ∃ μ ρ c, Rl G μ c H ∧ RE μ H ρ σ ∧ Rok (m ρ c) (PX G W μ H σ) fun ps c' => ∀ μ' H' vs, Ext μ H μ' H' → Rl G μ' c' H' → RPs μ' H' ps vs → Q vs H'
structure PPm (X : Cx) (G : Cfg) (W : WX) (pos : Pos) (keys : List (Option Expr)) (values : List Expr) (m : MP) : Prop where
  ex : ∃ trs, PPs X pos keys values trs ∧ ∀ σ H Q, rPs G W m σ H Q → tPairs trs σ H Q
theorem cps_nil : PPm X G W pos [] [] mPs0 := ⟨[], pps_nil, fun σ H Q ⟨μ, ρ, c, hl, he, q⟩ => q μ H [] .refl hl rfl⟩
theorem cps_cons {ks : List (Option Expr)} {vs : List Expr} {m : MP} (ha : PE X a (rE G W ma)) (hb : PE X b (rE G W mb)) (hr : PPm X G W pos ks vs m) : PPm X G W pos (some a :: ks) (b :: vs) (mPs ma mb m) := by
  obtain ⟨trs, h1, h2⟩ := hr.ex
  refine ⟨_, pps_cons ha hb h1, fun σ H Q ⟨μ, ρ, c, hl, he, q⟩ => ?_⟩
  refine ⟨μ, ρ, c, hl, he, (Rok.bind q).mono (fun _ _ h => h) fun x c1 q1 μ1 H1 v1 e1 l1 r1 => ?_⟩
  refine ⟨μ1, ρ, c1, l1, he.ext e1, (Rok.bind q1).e e1 fun y c2 q2 μ2 H2 v2 e2 l2 r2 => ?_⟩
  refine h2 σ H2 _ ⟨μ2, ρ, c2, l2, (he.ext e1).ext e2, (Rok.bind q2).e (e1.trans e2) fun ps c3 q3 μ3 H3 vs e3 l3 r3 => ?_⟩
  exact q3 μ3 H3 _ ((e1.trans e2).trans e3) l3 ⟨v1, v2, vs, rfl, (r1.ext e2).ext e3, r2.ext e3, r3⟩
def mDisp (m : MP) : ME := fun ρ c => (m ρ (c.new (.dct []))).bind fun ps c1 => match c1.obj c.next with
  | .dct [] => match ksOf (ps.map (·.1)) with
    | some ks => if ks.Nodup ∧ ps.length ≤ 15 then .ok (.ref c.next) (c1.set c.next (.dct ps)) else .stuck
    | none => .stuck
  | _ => .stuck
theorem merge_nodup : ∀ {more kvs : List (L2.Key × V)}, ((kvs ++ more).map (·.1)).Nodup → mergeK kvs more = kvs ++ more
  | [], kvs, _ => (List.append_nil _).symm
  | p :: more, kvs, h => by
    have h1 : valV kvs p.1 = none := by
      unfold valV
      rw [Option.map_eq_none_iff, List.find?_eq_none]
      intro q hq z
      have z' := of_decide_eq_true z
      rw [List.map_append, List.map_cons] at h
      have := (List.nodup_append.mp h).2.2 q.1 (List.mem_map_of_mem hq) p.1 List.mem_cons_self
      exact this z'
    show mergeK (putK kvs p.1 p.2) more = _
    rw [putK_new p.2 h1, merge_nodup (kvs := kvs ++ [(p.1, p.2)]) (by rw [List.append_assoc]; exact h), List.append_assoc]
    rfl
theorem rps_keys {μ : Mu} {H : Hp} : ∀ {ps : List (CV × CV)} {vs : List (V × V)} {ks : List L2.Key}, RPs μ H ps vs → ksOf (ps.map (·.1)) = some ks → ∃ kvs : List (L2.Key × V), vs = kvs.map (fun kv => (kV kv.1, kv.2)) ∧ kvs.map (·.1) = ks ∧ RK μ H ps kvs
  | [], _, ks, h, q => by cases q; exact ⟨[], h, rfl, rfl⟩
  | x :: ps, _, ks, ⟨k, v, r, h1, h2, h3, h4⟩, q => by
    rw [List.map_cons, ksOf] at q
    cases e : kOf x.1 with
    | none => rw [e] at q; cases q
    | some j =>
      rw [e] at q
      cases e2 : ksOf (ps.map (·.1)) with
      | none => rw [e2] at q; cases q
      | some js =>
        rw [e2] at q
        cases q
        obtain ⟨kvs, a1, a2, a3⟩ := rps_keys h4 e2
        have ek := kOf_ok e
        rw [ek] at h2
        have e3 := kC_rel h2
        exact ⟨(j, v) :: kvs, by rw [h1, a1, e3]; rfl, by rw [List.map_cons, a2], j, v, kvs, rfl, ek, h3, a3⟩
theorem RK.length {μ : Mu} {H : Hp} : ∀ {ps : List (CV × CV)} {kvs : List (L2.Key × V)}, RK μ H ps kvs → kvs.length = ps.length
  | [], _, h => by rw [show _ = [] from h]; rfl
  | _ :: _, _, ⟨k, v, r, h1, _, _, h4⟩ => by rw [h1, List.length_cons, List.length_cons, RK.length h4]
theorem ce_disp {keys : List (Option Expr)} {values : List Expr} {m : MP} (h : PPm X G W pos keys values m) (hall : keys.all (·.isSome) = true) (hl : keys.length = values.length) (h0 : keys ≠ []) (h15 : keys.length ≤ 15) : PE X (.Dict keys values pos) (rE G W (mDisp m)) := by
  obtain ⟨trs, h1, h2⟩ := h.ex
  refine PEimp (pe_disp h1 hall hl h0 h15) fun _ _ σ H Q _ ⟨μ, ρ, c, hl, he, q⟩ p hp => ?_
  obtain ⟨e1, l1, hμ⟩ := hl.new (co := .dct []) (o := .dK []) hp fun μ' x => .inl ⟨[], rfl, upd_same⟩
  refine h2 σ _ _ ⟨_, ρ, _, l1, he.ext e1, (Rok.bind q).mono (fun _ _ z => PX.ext z e1) fun ps c1 q1 μ2 H2 vs e2 l2 r2 => ?_⟩
  have hμ2 := e2.mu _ _ hμ
  have ro := l2.obj _ _ hμ2
  split at q1
  · rename_i ho
    rw [ho] at ro
    split at q1
    · rename_i ks hk
      split at q1
      · rename_i hnd
        obtain ⟨hn1, hn2⟩ := hnd
        have hd : H2 p = some (.dK []) := by
          rcases ro with ⟨ks', a1, a2⟩ | ⟨a1, _⟩
          · rw [show ks' = [] from a1] at a2; exact a2
          · exact absurd rfl a1
        obtain ⟨kvs, b1, b2, b3⟩ := rps_keys r2 hk
        refine ⟨hd, kvs, b1, by rw [b3.length]; exact hn2, ?_⟩
        rw [merge_nodup (kvs := []) (by rw [List.nil_append, b2]; exact hn1), List.nil_append]
        obtain ⟨x1, x2⟩ := l2.set (co := .dct ps) (o := .dK kvs) hμ2 hd (fun _ z => nomatch z) (fun _ z => nomatch z) fun ex => .inl ⟨kvs, b3.ext ex, upd_same⟩
        exact q1 _ _ _ ((e1.trans e2).trans x1) x2 ⟨p, hμ2, rfl⟩
      · exact False.elim q1
    · exact False.elim q1
  · exact False.elim q1

/-! ### constants of the module -/
theorem ce_gint {x : Str} {i : Int} (hm : ∃ t, X.mg x = some (.int i t)) (hg : Gl X x) (hd : (x == ("__debug__" : Str)) = false := by decide) : PE X (.Name x pos) (rE G W (mC (.int i))) := by
  obtain ⟨t, ht⟩ := hm
  exact ce_c (fun _ _ => rfl) (pe_glob (v := .int i) hg ht ⟨t, rfl⟩ hd)
theorem ce_gstr {x z : Str} (hm : ∃ t, X.mg x = some (.str z t)) (hg : Gl X x) (hd : (x == ("__debug__" : Str)) = false := by decide) : PE X (.Name x pos) (rE G W (mC (.str z))) := by
  obtain ⟨t, ht⟩ := hm
  exact ce_c (fun _ _ => rfl) (pe_glob (v := .str z) hg ht ⟨t, rfl⟩ hd)
end

/-! ### a def that calls itself: its fuel -/
def mStuck : MF := fun _ _ => .stuck
theorem dep_stuck {P : Program} {w : World} {K : PySem.W.Frag} {mg : Str → Option Value} {base : Heap} {G : Cfg} {x : Str} {n k : Nat} {f : Addr} {fd : FuncData} {ps : List Str} (hn : ps.length = n) (hm : mg x = some (.ref f)) (hk : PySem.W.keepIn K (.ref f) = true) (hb : Binds K fd ps []) :
    Dep P w K mg base G x k n mStuck := by
  refine ⟨f, fd, ps, ⟨fun vs H Q E h => by rw [spM_len h, hn], fun A outer s H args us vs Q E hr e0 hb r h => ?_⟩, hm, hk, hb⟩
  obtain ⟨_, _, _, _, _, _, z⟩ := h
  exact False.elim z
end PM

/-! PM: short words for the printed texts. -/
namespace PM
open PySem PySem.Spec PyProof.Rows L2 He
structure Ini (P : Program) (w : World) (K : PySem.W.Frag) (mg : Str → Option Value) (base : Heap) (C : Str) (n : Nat) (fn : List Str) : Prop where
  ex : ∃ fd ps, FnOk P w K mg base (L2.CX P w) 1 (ma K (ga K C) "__init__") fd ps (spIni (ga K C) fn) ∧ Binds K fd ps [] ∧ PySem.W.typeIn K (.ref (ma K (ga K C) "__init__")) = some (.type "function")
def cfgOf (L : List Str) (K : PySem.W.Frag) : Cfg := ⟨fun C => if C ∈ L then some (ga K C) else none⟩
theorem cfg_ok {L : List Str} {K : PySem.W.Frag} {C : Str} (h : C ∈ L) : (cfgOf L K).cl C = some (ga K C) := if_pos h
theorem cfg_eq {L : List Str} {K : PySem.W.Frag} {C : Str} {A : Addr} (h : (cfgOf L K).cl C = some A) : C ∈ L ∧ A = ga K C := by
  unfold cfgOf at h
  dsimp only at h
  by_cases g : C ∈ L
  · rw [if_pos g] at h; exact ⟨g, (Option.some.inj h).symm⟩
  · rw [if_neg g] at h; cases h
section
variable {X : Cx} {G : Cfg} {W : WX} {k : Nat} {e a b : Expr} {pos : Pos} {ma mb : ME} {es : List Expr} {ms : MA}
theorem ce_newI {x : Str} {p : Pos} {n : Nat} {fn : List Str} (hf : fn.length ≤ 1000) (gC : G.cl x = some (ga X.K x)) (ex : ExC X.K (ga X.K x)) (ib : initB X.K (ga X.K x) = true) (I : Ini X.prog X.w X.K X.mg X.base x n fn) (tk : Takes X W) (hr : Room 2 X.A) (hg : Gl X x) (hm : X.mg x = some (.ref (ga X.K x))) (ha : PA X (e :: es) (rA G W ms))
    (hdb : (x == ("__debug__" : Str)) = false := by decide) (he : starEach (e :: es) X.env = (false, eval e X.env) :: starEach es X.env := by rfl) (hpl : (backTo pos (starEach es X.env)).any (·.1) = false := by rfl) :
    PE X (.Call (.Name x p) (e :: es) [] pos) (rE G W (mNew x fn ms)) := by
  obtain ⟨fd, ps, F, b, t⟩ := I.ex
  exact ce_new hf gC ex (eqO_ok (ba (ba ib).2).2) t F b tk hr hg hm ha hdb he hpl
end
/-- the facts of own exceptions, as ce_isX and ce_xf ask for them -/
theorem isx_own {D : Dat} {K : PySem.W.Frag} {h : Heap} {mg : Str → Option Value} {L : List Str} {d : Str} (T : D.Ok K h mg) (hL : ∀ C ∈ L, C ∈ D.exs ∧ C ∈ D.isC) (hd : d ∈ D.isD) : ∀ C ∈ L, ∀ A, (cfgOf D.exs K).cl C = some A → ExC K A ∧ PySem.W.kitOne K (.ref A) (.ref (ga K d)) = some ((fun C => D.sub C d) C) := fun C hC A hA => by
  obtain ⟨h1, h2⟩ := cfg_eq hA
  subst h2
  exact ⟨T.ex _ h1, T.isD _ (hL C hC).2 _ hd⟩
theorem isx_ve {D : Dat} {K : PySem.W.Frag} {h : Heap} {mg : Str → Option Value} {L : List Str} (T : D.Ok K h mg) (hL : ∀ C ∈ L, C ∈ D.exs ∧ C ∈ D.isC) : ∀ C ∈ L, ∀ A, (cfgOf D.exs K).cl C = some A → ExC K A ∧ PySem.W.kitOne K (.ref A) (.type "ValueError") = some ((fun _ => true) C) := fun C hC A hA => by
  obtain ⟨h1, h2⟩ := cfg_eq hA
  subst h2
  exact ⟨T.ex _ h1, T.isV _ (hL C hC).2⟩
theorem xf_one {D : Dat} {K : PySem.W.Frag} {h : Heap} {mg : Str → Option Value} {c f : Str} (T : D.Ok K h mg) (hf : (c, f) ∈ D.pA) : ∀ C ∈ [c], ∀ A, (cfgOf D.exs K).cl C = some A → ExC K A ∧ PySem.W.findIn K (.ref A) f = some none := fun C hC A hA => by
  obtain ⟨h1, h2⟩ := cfg_eq hA
  subst h2
  rw [List.mem_singleton.mp hC]
  exact ⟨T.ex _ (by rw [← List.mem_singleton.mp hC]; exact h1), T.fld _ hf⟩
/-- a plain def of the data -/
theorem Dat.Ok.def_ {D : Dat} {K : PySem.W.Frag} {h : Heap} {mg : Str → Option Value} (T : D.Ok K h mg) {d : PD} (hd : d ∈ D.fns) (h0 : d.clo = []) : ∃ fd, Fun K d.name d.qual d.st (fAd K d.at_) fd := PD.fun_ (T.fn d hd).1 (T.fn d hd).2 h0
end PM

/-! PM: reasoning on mirrors: what holds behind each. -/
namespace PM
open PySem PySem.Spec PyProof.Rows L2

@[irreducible] def Tot {α : Type} (r : R α) (P : α → CS → Prop) : Prop := Rok r (fun _ _ => False) P
theorem Tot.mono {α : Type} {r : R α} {P Q : α → CS → Prop} (h : Tot r P) (k : ∀ a c, P a c → Q a c) : Tot r Q := by
  unfold Tot at *
  exact Rok.mono h (fun _ _ z => z) k
theorem Tot.bind {α β : Type} {r : R α} {f : α → CS → R β} {P : β → CS → Prop} (h : Tot r fun a c => Tot (f a c) P) : Tot (r.bind f) P := by
  unfold Tot at *
  cases r with
  | ok a c => exact h
  | exc e c => exact h
  | stuck => exact h
theorem Tot.of {α : Type} {a : α} {c : CS} {P : α → CS → Prop} (h : P a c) : Tot (.ok a c) P := by
  unfold Tot
  exact h
theorem Tot.get {α : Type} {a : α} {c : CS} {P : α → CS → Prop} (h : Tot (.ok a c) P) : P a c := by
  unfold Tot at h
  exact h
theorem Tot.ok_of {α : Type} {r : R α} {P : α → CS → Prop} (h : Tot r P) : ∃ a c, r = .ok a c ∧ P a c := by
  unfold Tot at h
  cases r with
  | ok a c => exact ⟨a, c, rfl, h⟩
  | exc e c => exact h.elim
  | stuck => exact h.elim
theorem Tot.rok {α : Type} {r : R α} {P : α → CS → Prop} (h : Tot r P) : Rok r (fun _ _ => False) P := by
  unfold Tot at h
  exact h
structure Post where
  nx : CEnv → CS → Prop
  rt : CV → CS → Prop
  bk : CEnv → CS → Prop
  ct : CEnv → CS → Prop
def wE (m : ME) (ρ : CEnv) (c : CS) (P : CV → CS → Prop) : Prop := Tot (m ρ c) P
def wT (m : MT) (ρ : CEnv) (c : CS) (P : Bool → CS → Prop) : Prop := Tot (m ρ c) P
def wA (m : MA) (ρ : CEnv) (c : CS) (P : List CV → CS → Prop) : Prop := Tot (m ρ c) P
def wO {α : Type} (o : Option (α × CS)) (P : α → CS → Prop) : Prop := Tot (lift o) P
@[irreducible] def tS (r : RS) (D : Post) : Prop := RSok r D.nx D.rt D.bk D.ct fun _ _ _ => False
def wS (m : MS) (ρ : CEnv) (c : CS) (D : Post) : Prop := tS (m ρ c) D
/-- a def from its body -/
abbrev dEnd (P : CV → CS → Prop) : Post := ⟨fun _ c => P .non c, P, fun _ _ => False, fun _ _ => False⟩
theorem w_run {N : Nat} {b : MS} {xs : List CV} {c : CS} {P : CV → CS → Prop} (h : wS b (xs.map some ++ List.replicate (N - xs.length) none) c (dEnd P)) : Tot (runB N b xs c) P := by
  unfold Tot runB
  unfold wS tS at h
  cases hb : b (xs.map some ++ List.replicate (N - xs.length) none) c with
  | nx ρ1 c1 => rw [hb] at h; exact h
  | ret v c1 => rw [hb] at h; exact h
  | bk ρ1 c1 => rw [hb] at h; exact h
  | ct ρ1 c1 => rw [hb] at h; exact h
  | exc e ρ1 c1 => rw [hb] at h; exact h
  | stuck => rw [hb] at h; exact h
section
variable {m a b d e o : ME} {t u : MT} {ms : MA} {ρ : CEnv} {c : CS} {P : CV → CS → Prop} {PT : Bool → CS → Prop} {PA : List CV → CS → Prop} {D : Post} {sa sb : MS}
theorem wE.mono {Q : CV → CS → Prop} (h : wE m ρ c P) (k : ∀ v c, P v c → Q v c) : wE m ρ c Q := Tot.mono h k
theorem w_var {i : Nat} {v : CV} (hi : ρ[i]? = some (some v)) (h : P v c) : wE (mVar i) ρ c P := by
  unfold wE mVar
  rw [hi]
  exact Tot.of h
theorem w_c {v : CV} (h : P v c) : wE (mC v) ρ c P := Tot.of h
theorem w_op {f : O2} (h : wE a ρ c fun x c1 => wE b ρ c1 fun y c2 => wO (f x y c2) P) : wE (mOp f a b) ρ c P := Tot.bind (h.mono fun _ _ h1 => Tot.bind h1)
theorem w_un {f : O1} (h : wE a ρ c fun x c1 => wO (f x c1) P) : wE (mUn f a) ρ c P := Tot.bind h
theorem w_t (h : wE m ρ c fun v c1 => ∃ k, v = .bl k ∧ PT k c1) : wT (mT m) ρ c PT := Tot.bind (h.mono fun v c1 ⟨k, e, q⟩ => by subst e; exact Tot.of q)
theorem w_tr (h : wE m ρ c fun v c1 => ∃ k, vTruth v c1 = some k ∧ PT k c1) : wT (mTr m) ρ c PT := Tot.bind (h.mono fun v c1 ⟨k, e, q⟩ => by rw [e]; exact Tot.of q)
theorem w_and (h : wT t ρ c fun k c1 => (k = true → wT u ρ c1 PT) ∧ (k = false → PT false c1)) : wT (mAnd t u) ρ c PT := Tot.bind (Tot.mono h fun k c1 ⟨h1, h2⟩ => by
  cases k with
  | true => exact h1 rfl
  | false => exact Tot.of (h2 rfl))
theorem w_or (h : wT t ρ c fun k c1 => (k = true → PT true c1) ∧ (k = false → wT u ρ c1 PT)) : wT (mOr t u) ρ c PT := Tot.bind (Tot.mono h fun k c1 ⟨h1, h2⟩ => by
  cases k with
  | true => exact Tot.of (h1 rfl)
  | false => exact h2 rfl)
theorem w_not (h : wT t ρ c fun k c1 => PT (!k) c1) : wT (mNot t) ρ c PT := Tot.bind (Tot.mono h fun _ _ z => Tot.of z)
theorem w_andV (h : wE a ρ c fun x c1 => ∃ k, vTruth x c1 = some k ∧ (k = true → wE b ρ c1 P) ∧ (k = false → P x c1)) : wE (mAndV a b) ρ c P := Tot.bind (h.mono fun x c1 ⟨k, e, h1, h2⟩ => by
  rw [e]
  cases k with
  | true => exact h1 rfl
  | false => exact Tot.of (h2 rfl))
theorem w_orV (h : wE a ρ c fun x c1 => ∃ k, vTruth x c1 = some k ∧ (k = true → P x c1) ∧ (k = false → wE b ρ c1 P)) : wE (mOrV a b) ρ c P := Tot.bind (h.mono fun x c1 ⟨k, e, h1, h2⟩ => by
  rw [e]
  cases k with
  | true => exact Tot.of (h1 rfl)
  | false => exact h2 rfl)
theorem w_notV (h : wE a ρ c fun x c1 => ∃ k, vTruth x c1 = some k ∧ P (.bl (!k)) c1) : wE (mNotV a) ρ c P := Tot.bind (h.mono fun x c1 ⟨k, e, q⟩ => by rw [e]; exact Tot.of q)
theorem w_ifE (h : wT t ρ c fun k c1 => (k = true → wE a ρ c1 P) ∧ (k = false → wE b ρ c1 P)) : wE (mIf t a b) ρ c P := Tot.bind (Tot.mono h fun k c1 ⟨h1, h2⟩ => by
  cases k with
  | true => exact h1 rfl
  | false => exact h2 rfl)
theorem w_chain {f g : O2} (h : wE a ρ c fun x c1 => wE b ρ c1 fun y c2 => wO (f x y c2) fun z c3 => ∃ k, z = .bl k ∧ (k = true → wE d ρ c3 fun w c4 => wO (g y w c4) P) ∧ (k = false → P (.bl false) c3)) : wE (mChain f g a b d) ρ c P :=
  Tot.bind (h.mono fun _ _ h1 => Tot.bind (Tot.mono h1 fun _ _ h2 => Tot.bind (Tot.mono h2 fun z c3 ⟨k, e, h3, h4⟩ => by
    subst e
    cases k with
    | true => exact Tot.bind (h3 rfl)
    | false => exact Tot.of (h4 rfl))))
theorem w_nil (h : PA [] c) : wA mNil ρ c PA := Tot.of h
theorem w_cons (h : wE a ρ c fun x c1 => wA ms ρ c1 fun xs c2 => PA (x :: xs) c2) : wA (mCons a ms) ρ c PA := Tot.bind (h.mono fun _ _ h1 => Tot.bind (Tot.mono h1 fun _ _ h2 => Tot.of h2))
theorem w_tup (h : wA ms ρ c fun xs c1 => xs.length ≤ sizeLine ∧ P (.tup xs) c1) : wE (mTup ms) ρ c P := Tot.bind (Tot.mono h fun xs c1 ⟨h1, h2⟩ => by rw [if_pos h1]; exact Tot.of h2)
theorem w_lst (h : wA ms ρ c fun xs c1 => xs.length ≤ sizeLine ∧ P (.ref c1.next) (c1.new (.lst xs))) : wE (mLst ms) ρ c P := Tot.bind (Tot.mono h fun xs c1 ⟨h1, h2⟩ => by rw [if_pos h1]; exact Tot.of h2)
theorem w_cb {f : OC} (h : wA ms ρ c fun xs c1 => wO (f xs c1) P) : wE (mCB f ms) ρ c P := Tot.bind h
theorem w_call {n : Nat} {f : MF} (h : wA ms ρ c fun xs c1 => xs.length = n ∧ Tot (f xs c1) P) : wE (mCall n f ms) ρ c P := Tot.bind (Tot.mono h fun xs c1 ⟨h1, h2⟩ => by rw [if_pos h1]; exact h2)
theorem w_meth {T : String} {f : OM} (h : wE o ρ c fun x c1 => tyIs T x c1 = true ∧ wA ms ρ c1 fun xs c2 => wO (f x xs c2) P) : wE (mMeth T f o ms) ρ c P := Tot.bind (h.mono fun x c1 ⟨h1, h2⟩ => by rw [if_pos h1]; exact Tot.bind h2)
theorem w_isi {T : String} (h : wE m ρ c fun x c1 => ∃ t, tyName x c1 = some t ∧ P (.bl (isB t T)) c1) : wE (mIsi T m) ρ c P := Tot.bind (h.mono fun x c1 ⟨t, e, q⟩ => by rw [e]; exact Tot.of q)
theorem w_isi2 {T U : String} (h : wE m ρ c fun x c1 => ∃ t, tyName x c1 = some t ∧ P (.bl (isB t T || isB t U)) c1) : wE (mIsi2 T U m) ρ c P := Tot.bind (h.mono fun x c1 ⟨t, e, q⟩ => by rw [e]; exact Tot.of q)
theorem w_no {PO : Option Int → CS → Prop} (h : PO none c) : Tot (mNoPart ρ c) PO := Tot.of h
theorem w_part {PO : Option Int → CS → Prop} (h : wE m ρ c fun v c1 => ∃ i, v = .int i ∧ PO (some i) c1) : Tot (mPart m ρ c) PO := Tot.bind (h.mono fun v c1 ⟨i, e, q⟩ => by subst e; exact Tot.of q)
theorem w_slice {lo hi : MO} (h : wE a ρ c fun x c1 => Tot (lo ρ c1) fun l c2 => Tot (hi ρ c2) fun u c3 => wO (vSlice x l u c3) P) : wE (mSlice a lo hi) ρ c P := Tot.bind (h.mono fun _ _ h1 => Tot.bind (Tot.mono h1 fun _ _ h2 => Tot.bind h2))
theorem w_new {C : Str} {fn : List Str} (h : wA ms ρ c fun xs c1 => xs.length = fn.length ∧ P (.ref c1.next) (c1.new (.exn C (fn.zip xs).reverse))) : wE (mNew C fn ms) ρ c P := Tot.bind (Tot.mono h fun xs c1 ⟨h1, h2⟩ => by rw [if_pos h1]; exact Tot.of h2)
theorem w_new0 {C : Str} (h : P (.ref c.next) (c.new (.exn C []))) : wE (mNew0 C) ρ c P := Tot.of h
theorem w_xf {L : List Str} {f : Str} (h : wE m ρ c fun x c1 => ∃ n C fs v, x = .ref n ∧ c1.obj n = .exn C fs ∧ C ∈ L ∧ fs.lookup f = some v ∧ P v c1) : wE (mXf L f m) ρ c P := Tot.bind (h.mono fun x c1 ⟨n, C, fs, v, e1, e2, e3, e4, q⟩ => by
  subst e1
  dsimp only
  rw [e2]
  dsimp only
  rw [if_pos e3, e4]
  exact Tot.of q)
theorem w_isX {L : List Str} {f : Str → Bool} (h : wE m ρ c fun x c1 => ∃ n C fs, x = .ref n ∧ c1.obj n = .exn C fs ∧ C ∈ L ∧ P (.bl (f C)) c1) : wE (mIsX L f m) ρ c P := Tot.bind (h.mono fun x c1 ⟨n, C, fs, e1, e2, e3, q⟩ => by
  subst e1
  dsimp only
  rw [e2]
  dsimp only
  rw [if_pos e3]
  exact Tot.of q)
/-! statements -/
theorem tS_nx (h : D.nx ρ c) : tS (.nx ρ c) D := by
  unfold tS
  exact h
theorem tS_rt {v : CV} (h : D.rt v c) : tS (.ret v c) D := by
  unfold tS
  exact h
theorem ws_nil (h : D.nx ρ c) : wS sNil ρ c D := tS_nx h
theorem ws_seq (h : wS sa ρ c ⟨fun ρ1 c1 => wS sb ρ1 c1 D, D.rt, D.bk, D.ct⟩) : wS (sSeq sa sb) ρ c D := by
  unfold wS tS sSeq at *
  cases hr : sa ρ c with
  | nx ρ1 c1 => rw [hr] at h; exact h
  | ret v c1 => rw [hr] at h; exact h
  | bk ρ1 c1 => rw [hr] at h; exact h
  | ct ρ1 c1 => rw [hr] at h; exact h
  | exc x ρ1 c1 => rw [hr] at h; exact h
  | stuck => rw [hr] at h; exact h
theorem ws_lift {α : Type} {r : R α} {f : α → CS → RS} (h : Tot r fun x c1 => tS (f x c1) D) : tS (liftE r ρ f) D := by
  unfold Tot tS at *
  cases r with
  | ok a c => exact h
  | exc e c => exact h
  | stuck => exact h
theorem ws_set {i : Nat} (h : wE m ρ c fun v c1 => D.nx (ρ.set i (some v)) c1) : wS (sSet i m) ρ c D := ws_lift (h.mono fun _ _ z => tS_nx z)
theorem ws_expr (h : wE m ρ c fun _ c1 => D.nx ρ c1) : wS (sExpr m) ρ c D := ws_lift (h.mono fun _ _ z => tS_nx z)
theorem ws_ret (h : wE m ρ c D.rt) : wS (sRet m) ρ c D := ws_lift (h.mono fun _ _ z => tS_rt z)
theorem ws_retN (h : D.rt .non c) : wS sRetN ρ c D := tS_rt h
theorem ws_if (h : wT t ρ c fun k c1 => (k = true → wS sa ρ c1 D) ∧ (k = false → wS sb ρ c1 D)) : wS (sIf t sa sb) ρ c D := ws_lift (Tot.mono h fun k c1 ⟨h1, h2⟩ => by
  cases k with
  | true => exact h1 rfl
  | false => exact h2 rfl)
theorem ws_sub {mo mi mv : ME} (h : wE mv ρ c fun v c1 => wE mo ρ c1 fun x c2 => wE mi ρ c2 fun i c3 => ∃ c4, vSet x i v c3 = some c4 ∧ D.nx ρ c4) : wS (sSub mo mi mv) ρ c D :=
  ws_lift (h.mono fun v c1 h1 => ws_lift (Tot.mono h1 fun x c2 h2 => ws_lift (Tot.mono h2 fun i c3 ⟨c4, e, q⟩ => by rw [e]; exact tS_nx q)))
theorem ws_for {im : MI} {tg : MG} {sb : MS} (h : Tot (im ρ c) fun it c1 => tS (forL it.chk tg sb it.xs ρ c1) D) : wS (sFor im tg sb) ρ c D := ws_lift h
/-- a for by an invariant; J i: before the i-th turn -/
theorem for_inv {chk : CS → Prop} {i : Nat} {xs : List CV} (J : Nat → CEnv → CS → Prop) (h0 : J 0 ρ c) (hchk : ∀ k ρ c, J k ρ c → chk c)
    (step : ∀ k x ρ c, xs[k]? = some x → J k ρ c → wS sb (ρ.set i (some x)) c ⟨J (k + 1), D.rt, D.nx, J (k + 1)⟩) (hend : ∀ ρ c, J xs.length ρ c → D.nx ρ c) : tS (forL chk (gN i) sb xs ρ c) D := by
  have key : ∀ (ys : List CV) (k : Nat), xs.drop k = ys → k ≤ xs.length → ∀ ρ c, J k ρ c → tS (forL chk (gN i) sb ys ρ c) D := by
    intro ys
    induction ys with
    | nil =>
      intro k hk hkl ρ c hj
      have : k = xs.length := by
        have := List.drop_eq_nil_iff.mp hk
        omega
      subst this
      rw [forL, if_pos (hchk _ _ _ hj)]
      exact tS_nx (hend _ _ hj)
    | cons y ys ih =>
      intro k hk hkl ρ c hj
      have hlt : k < xs.length := by
        rcases Nat.lt_or_ge k xs.length with z | z
        · exact z
        · rw [List.drop_eq_nil_of_le z] at hk; cases hk
      have hy : xs[k]? = some y := by
        rw [List.drop_eq_getElem_cons hlt] at hk
        rw [List.getElem?_eq_getElem hlt]
        exact congrArg some (List.cons.inj hk).1
      have hys : xs.drop (k + 1) = ys := by
        rw [List.drop_eq_getElem_cons hlt] at hk
        exact (List.cons.inj hk).2
      rw [forL, if_pos (hchk _ _ _ hj)]
      have st := step k y ρ c hy hj
      show tS (match gN i y ρ with
        | none => .stuck
        | some ρ1 => _) D
      rw [show gN i y ρ = some (ρ.set i (some y)) from rfl]
      dsimp only
      unfold wS tS at st
      cases hb : sb (ρ.set i (some y)) c with
      | nx ρ2 c2 => rw [hb] at st; exact ih (k + 1) hys hlt _ _ st
      | ct ρ2 c2 => rw [hb] at st; exact ih (k + 1) hys hlt _ _ st
      | bk ρ2 c2 => rw [hb] at st; exact tS_nx st
      | ret v c2 => rw [hb] at st; exact tS_rt st
      | exc e ρ2 c2 => rw [hb] at st; exact st.elim
      | stuck => rw [hb] at st; exact st.elim
  exact key xs 0 rfl (Nat.zero_le _) ρ c h0
theorem wi_iter {PI : IC → CS → Prop} (h : wE m ρ c fun v c1 => ∃ it, iterC v c1 = some it ∧ PI it c1) : Tot (mIter m ρ c) PI := Tot.bind (h.mono fun v c1 ⟨it, e, q⟩ => by rw [e]; exact Tot.of q)
theorem wi_r1 {PI : IC → CS → Prop} (h : wA ms ρ c fun xs c1 => ∃ j, xs = [.int j] ∧ rgOk j = true ∧ PI ⟨iInt 0 j.toNat, fun _ => True⟩ c1) : Tot (mRange1 ms ρ c) PI := Tot.bind (Tot.mono h fun xs c1 ⟨j, e, g, q⟩ => by
  subst e
  dsimp only
  rw [if_pos g]
  exact Tot.of q)
/-- a while by an invariant and a measure -/
theorem while_inv {t : MT} {sb : MS} (J : Nat → CEnv → CS → Prop) (step : ∀ k ρ c, J k ρ c → wT t ρ c fun b c1 => (b = true → ∃ j, k = j + 1 ∧ wS sb ρ c1 ⟨J j, D.rt, D.nx, J j⟩) ∧ (b = false → D.nx ρ c1)) :
    ∀ (k N : Nat) (ρ : CEnv) (c : CS), k < N → J k ρ c → tS (whileN t sb N ρ c) D := by
  intro k
  induction k with
  | zero =>
    intro N ρ c hN hj
    obtain ⟨N, rfl⟩ : ∃ M, N = M + 1 := ⟨N - 1, by omega⟩
    rw [whileN]
    refine ws_lift (Tot.mono (step 0 ρ c hj) fun b c1 ⟨h1, h2⟩ => ?_)
    cases b with
    | true => obtain ⟨j, e, _⟩ := h1 rfl; omega
    | false => exact tS_nx (h2 rfl)
  | succ k ih =>
    intro N ρ c hN hj
    obtain ⟨N, rfl⟩ : ∃ M, N = M + 1 := ⟨N - 1, by omega⟩
    rw [whileN]
    refine ws_lift (Tot.mono (step (k + 1) ρ c hj) fun b c1 ⟨h1, h2⟩ => ?_)
    cases b with
    | true =>
      obtain ⟨j, e, st⟩ := h1 rfl
      obtain rfl : j = k := by omega
      rw [if_pos rfl]
      unfold wS tS at st
      cases hb : sb ρ c1 with
      | nx ρ2 c2 => rw [hb] at st; exact ih N _ _ (by omega) st
      | ct ρ2 c2 => rw [hb] at st; exact ih N _ _ (by omega) st
      | bk ρ2 c2 => rw [hb] at st; exact tS_nx st
      | ret v c2 => rw [hb] at st; exact tS_rt st
      | exc e ρ2 c2 => rw [hb] at st; exact st.elim
      | stuck => rw [hb] at st; exact st.elim
    | false => exact tS_nx (h2 rfl)
theorem ws_while {N : Nat} (h : tS (whileN t sb N ρ c) D) : wS (sWhile N t sb) ρ c D := h
/-- a comprehension by an invariant: J k acc c before the k-th turn, acc what was gathered -/
theorem lc_inv {im : MI} {i : Nat} {tt : MT} {elt : ME} {vs : List Nat}
    (h : Tot (im ρ c) fun it c1 => ∃ J : Nat → List CV → CS → Prop, J 0 [] (c1.new (.lst [])) ∧ (∀ k acc c, J k acc c → it.chk c) ∧
      (∀ k x acc c, it.xs[k]? = some x → J k acc c → wT tt ((wipeC ρ vs).set i (some x)) c fun b c2 => (b = true → wE elt ((wipeC ρ vs).set i (some x)) c2 fun y c3 => c3.obj c1.next = .lst acc ∧ acc.length < sizeLine ∧ J (k + 1) (acc ++ [y]) (c3.set c1.next (.lst (acc ++ [y])))) ∧ (b = false → J (k + 1) acc c2)) ∧
      ∀ acc c, J it.xs.length acc c → P (.ref c1.next) c) : wE (mLc im (gN i) tt elt vs) ρ c P := by
  refine Tot.bind (Tot.mono h fun it c1 ⟨J, h0, hchk, step, hend⟩ => ?_)
  have key : ∀ (ys : List CV) (k : Nat), it.xs.drop k = ys → k ≤ it.xs.length → ∀ acc c, J k acc c → ∃ c2, lcL it.chk (gN i) tt elt (wipeC ρ vs) c1.next ys c = some c2 ∧ P (.ref c1.next) c2 := by
    intro ys
    induction ys with
    | nil =>
      intro k hk hkl acc c hj
      have : k = it.xs.length := by
        have := List.drop_eq_nil_iff.mp hk
        omega
      subst this
      exact ⟨c, by rw [lcL, if_pos (hchk _ _ _ hj)], hend _ _ hj⟩
    | cons y ys ih =>
      intro k hk hkl acc c hj
      have hlt : k < it.xs.length := by
        rcases Nat.lt_or_ge k it.xs.length with z | z
        · exact z
        · rw [List.drop_eq_nil_of_le z] at hk; cases hk
      have hy : it.xs[k]? = some y := by
        rw [List.drop_eq_getElem_cons hlt] at hk
        rw [List.getElem?_eq_getElem hlt]
        exact congrArg some (List.cons.inj hk).1
      have hys : it.xs.drop (k + 1) = ys := by
        rw [List.drop_eq_getElem_cons hlt] at hk
        exact (List.cons.inj hk).2
      have st := step k y acc c hy hj
      have hg : gN i y (wipeC ρ vs) = some ((wipeC ρ vs).set i (some y)) := rfl
      rw [lcL, if_pos (hchk _ _ _ hj), hg]
      dsimp only
      unfold wT Tot at st
      cases ht : tt ((wipeC ρ vs).set i (some y)) c with
      | stuck => rw [ht] at st; exact st.elim
      | exc _ _ => rw [ht] at st; exact st.elim
      | ok b c2 =>
        rw [ht] at st
        obtain ⟨s1, s2⟩ := st
        cases b with
        | false => exact ih (k + 1) hys hlt _ _ (s2 rfl)
        | true =>
          have se := s1 rfl
          unfold wE Tot at se
          dsimp only
          cases he : elt ((wipeC ρ vs).set i (some y)) c2 with
          | stuck => rw [he] at se; exact se.elim
          | exc _ _ => rw [he] at se; exact se.elim
          | ok v c3 =>
            rw [he] at se
            obtain ⟨a1, a2, a3⟩ := se
            dsimp only
            have hw : getW c3 c1.next = some acc := by unfold getW; rw [a1]
            rw [hw]
            dsimp only
            rw [if_pos a2]
            exact ih (k + 1) hys hlt _ _ a3
  obtain ⟨c2, e, q⟩ := key it.xs 0 rfl (Nat.zero_le _) [] _ h0
  rw [e]
  exact Tot.of q
end
end PM

/-! PM: the operators by their operands. -/
namespace PM
open PySem PySem.Spec PyProof.Rows L2
section
variable {c : CS} {P : CV → CS → Prop} {i j : Int} {x y z : Str} {xs ys : List CV} {m n : Nat} {u v : CV}
theorem o_some {α : Type} {o : Option (α × CS)} {a : α} {c' : CS} {P : α → CS → Prop} (e : o = some (a, c')) (h : P a c') : wO o P := by rw [e]; exact Tot.of h
theorem getW_of (h : c.obj n = .lst xs) : getW c n = some xs := by unfold getW; rw [h]
theorem getL_of (h : c.obj n = .lst xs) : getL c n = some xs := by unfold getL; rw [h]
theorem getR_of (h : c.obj n = .rol xs) : getL c n = some xs := by unfold getL; rw [h]
theorem o_add (h : P (.int (i + j)) c) : wO (vAdd (.int i) (.int j) c) P := o_some rfl h
theorem o_adds (hl : x.length + y.length ≤ sizeLine) (h : P (.str (x ++ y)) c) : wO (vAdd (.str x) (.str y) c) P := o_some (by unfold vAdd; exact if_pos hl) h
theorem o_addl (h1 : c.obj m = .lst xs) (h2 : c.obj n = .lst ys) (hl : xs.length + ys.length ≤ sizeLine) (h : P (.ref c.next) (c.new (.lst (xs ++ ys)))) : wO (vAdd (.ref m) (.ref n) c) P := o_some (by unfold vAdd; simp only [getW_of h1, getW_of h2]; exact if_pos hl) h
theorem o_sub (h : P (.int (i - j)) c) : wO (vSub (.int i) (.int j) c) P := o_some rfl h
theorem mulOk_l (h : j.natAbs < 2 ^ 64) : mulOk i j = true := by unfold mulOk; rw [decide_eq_true h, Bool.or_true, Bool.true_or]
theorem mulOk_r (h : i.natAbs < 2 ^ 64) : mulOk i j = true := by unfold mulOk; rw [decide_eq_true h, Bool.true_or, Bool.true_or]
theorem o_mul (hm : mulOk i j = true) (h : P (.int (i * j)) c) : wO (vMul (.int i) (.int j) c) P := o_some (by unfold vMul; exact if_pos hm) h
theorem o_mods (hm : repOk x i = true) (h : P (.str (Txt.mul x i)) c) : wO (vMul (.str x) (.int i) c) P := o_some (by unfold vMul; exact if_pos hm) h
theorem o_mull (h1 : c.obj m = .lst xs) (hm : -(2 ^ 63) ≤ i ∧ i < 2 ^ 63 ∧ xs.length * i.toNat ≤ sizeLine) (h : P (.ref c.next) (c.new (.lst (List.replicate i.toNat xs).flatten))) : wO (vMul (.ref m) (.int i) c) P := o_some (by unfold vMul; simp only [getW_of h1]; exact if_pos hm) h
theorem o_mod (hj : 0 < j) (h : P (.int (i % j)) c) : wO (vMod (.int i) (.int j) c) P := o_some (by unfold vMod; exact if_pos hj) h
theorem o_fdiv (hj : 0 < j ∧ j.natAbs.log2 < 9000) (h : P (.int (i / j)) c) : wO (vFdiv (.int i) (.int j) c) P := o_some (by unfold vFdiv; exact if_pos hj) h
theorem o_pow (hj : 0 ≤ j ∧ j ≤ 1000000 ∧ i.natAbs < 2 ^ 64) (h : P (.int (i ^ j.toNat)) c) : wO (vPow (.int i) (.int j) c) P := o_some (by unfold vPow; exact if_pos hj) h
theorem o_neg (h : P (.int (-i)) c) : wO (vNeg (.int i) c) P := o_some rfl h
theorem o_eq {d e : PyData} (h1 : toD dK c u = some d) (h2 : toD dK c v = some e) (h : P (.bl (PyData.eqv d e)) c) : wO (vEq u v c) P := o_some (by unfold vEq; rw [h1, h2]) h
theorem o_ne {d e : PyData} (h1 : toD dK c u = some d) (h2 : toD dK c v = some e) (h : P (.bl (!PyData.eqv d e)) c) : wO (vNe u v c) P := o_some (by unfold vNe; rw [h1, h2]) h
theorem td_int : toD dK c (.int i) = some (.int i) := rfl
theorem td_str : toD dK c (.str x) = some (.str x) := rfl
theorem td_bl {b : Bool} : toD dK c (.bl b) = some (.bool b) := rfl
theorem td_non : toD dK c .non = some .none := rfl
theorem o_eqi (h : P (.bl (decide (i = j))) c) : wO (vEq (.int i) (.int j) c) P := o_eq td_int td_int h
theorem o_nei (h : P (.bl (!decide (i = j))) c) : wO (vNe (.int i) (.int j) c) P := o_ne td_int td_int h
theorem o_eqs (h : P (.bl (decide (x = y))) c) : wO (vEq (.str x) (.str y) c) P := o_eq td_str td_str h
theorem o_nes (h : P (.bl (!decide (x = y))) c) : wO (vNe (.str x) (.str y) c) P := o_ne td_str td_str h
theorem o_eqb {a b : Bool} (h : P (.bl (a == b)) c) : wO (vEq (.bl a) (.bl b) c) P := o_eq td_bl td_bl h
theorem o_neb {a b : Bool} (h : P (.bl (!(a == b))) c) : wO (vNe (.bl a) (.bl b) c) P := o_ne td_bl td_bl h
theorem vRel_int {f : PyData → PyData → Bool} : vRel f (.int i) (.int j) c = some (.bl (f (.int i) (.int j)), c) := by
  have e : PySem.W.alike (.int i) (.int j) = true ∧ isN (.int i) = false := ⟨rfl, rfl⟩
  show (if PySem.W.alike (.int i) (.int j) = true ∧ isN (.int i) = false then some (CV.bl (f (.int i) (.int j)), c) else none) = _
  rw [if_pos e]
theorem o_lt (h : P (.bl (decide (i < j))) c) : wO (vLt (.int i) (.int j) c) P := o_some (by unfold vLt; rw [vRel_int, PySem.W.dataLt_int]) h
theorem o_gt (h : P (.bl (decide (j < i))) c) : wO (vGt (.int i) (.int j) c) P := o_some (by unfold vGt; rw [vRel_int, PySem.W.dataLt_int]) h
theorem o_le (h : P (.bl (decide (i ≤ j))) c) : wO (vLe (.int i) (.int j) c) P := o_some (a := .bl (!decide (j < i))) (by unfold vLe; rw [vRel_int, PySem.W.dataLt_int]) (by
  have : (!decide (j < i)) = decide (i ≤ j) := by
    by_cases g : i ≤ j
    · rw [decide_eq_true g, decide_eq_false (by omega)]; rfl
    · rw [decide_eq_false g, decide_eq_true (by omega)]; rfl
  rw [this]; exact h)
theorem o_ge (h : P (.bl (decide (j ≤ i))) c) : wO (vGe (.int i) (.int j) c) P := o_some (a := .bl (!decide (i < j))) (by unfold vGe; rw [vRel_int, PySem.W.dataLt_int]) (by
  have : (!decide (i < j)) = decide (j ≤ i) := by
    by_cases g : j ≤ i
    · rw [decide_eq_true g, decide_eq_false (by omega)]; rfl
    · rw [decide_eq_false g, decide_eq_true (by omega)]; rfl
  rw [this]; exact h)
theorem o_is (hk : isK v = true) (h : P (.bl (CV.beq u v)) c) : wO (vIs u v c) P := o_some (by unfold vIs; exact if_pos hk) h
theorem o_isn (hk : isK v = true) (h : P (.bl (!CV.beq u v)) c) : wO (vIsNot u v c) P := o_some (by unfold vIsNot; exact if_pos hk) h
theorem o_in (h : P (.bl (strIn x y)) c) : wO (vIn false (.str x) (.str y) c) P := o_some (by unfold vIn; rfl) (by rw [Bool.false_xor]; exact h)
theorem o_nin (h : P (.bl (!strIn x y)) c) : wO (vIn true (.str x) (.str y) c) P := o_some (by unfold vIn; rfl) (by rw [Bool.true_xor]; exact h)
theorem o_ixt (e : atI xs i = some v) (h : P v c) : wO (vIx (.tup xs) (.int i) c) P := o_some (by unfold vIx; dsimp only; rw [e]; rfl) h
theorem o_ixl (ho : c.obj n = .lst xs) (e : atI xs i = some v) (h : P v c) : wO (vIx (.ref n) (.int i) c) P := o_some (by unfold vIx; dsimp only; rw [ho]; dsimp only; rw [e]; rfl) h
theorem o_ixr (ho : c.obj n = .rol xs) (e : atI xs i = some v) (h : P v c) : wO (vIx (.ref n) (.int i) c) P := o_some (by unfold vIx; dsimp only; rw [ho]; dsimp only; rw [e]; rfl) h
theorem o_ixs {p : Nat} (hl : x.length ≤ sizeLine) (e : atI x.cps.toList i = some p) (h : P (.str ⟨#[p]⟩) c) : wO (vIx (.str x) (.int i) c) P := o_some (by unfold vIx; dsimp only; rw [if_pos hl, e]; rfl) h
theorem o_ixd {kvs : List (CV × CV)} (ho : c.obj n = .dct kvs) (hk : keyOk kvs u = true) (e : dget kvs u = some v) (h : P v c) : wO (vIx (.ref n) u c) P := o_some (by unfold vIx; dsimp only; rw [ho]; dsimp only; rw [if_pos hk, e]; rfl) h
theorem o_sls {lo hi : Option Int} (hl : x.length ≤ sizeLine) (h : P (.str (cutS x lo hi)) c) : wO (vSlice (.str x) lo hi c) P := o_some (by unfold vSlice; exact if_pos hl) h
theorem o_lens (hl : x.length ≤ sizeLine) (h : P (.int x.length) c) : wO (vLen [.str x] c) P := o_some (by unfold vLen; exact if_pos hl) h
theorem o_lent (h : P (.int xs.length) c) : wO (vLen [.tup xs] c) P := o_some rfl h
theorem o_lenl (ho : c.obj n = .lst xs) (h : P (.int xs.length) c) : wO (vLen [.ref n] c) P := o_some (by unfold vLen; simp only [getL_of ho]) h
theorem o_lenr (ho : c.obj n = .rol xs) (h : P (.int xs.length) c) : wO (vLen [.ref n] c) P := o_some (by unfold vLen; simp only [getR_of ho]) h
theorem o_int (h : P (.int i) c) : wO (vInt [.int i] c) P := o_some rfl h
theorem o_max (h : P (.int (if j > i then j else i)) c) : wO (vMax [.int i, .int j] c) P := o_some rfl h
theorem o_min (h : P (.int (if j < i then j else i)) c) : wO (vMin [.int i, .int j] c) P := o_some rfl h
theorem o_app (ho : c.obj n = .lst xs) (hl : xs.length < sizeLine) (h : P .non (c.set n (.lst (xs ++ [u])))) : wO (oAppend (.ref n) [u] c) P := o_some (by unfold oAppend; simp only [getW_of ho]; exact if_pos hl) h
theorem o_join {zs : List Str} (ho : c.obj n = .lst xs) (hs : strsOf xs = some zs) (hf : joinFits x zs = true) (h : P (.str (Txt.join x zs)) c) : wO (oJoin (.str x) [.ref n] c) P := o_some (by unfold oJoin; simp only [getL_of ho, hs]; exact if_pos hf) h
theorem o_find (h : P (.int (Txt.find x y)) c) : wO (oFind (.str x) [.str y] c) P := o_some rfl h
theorem o_index {k : Nat} {r : List Nat} (e : Builtin.Str.occurrences x y 0 x.length 1 = k :: r) (h : P (.int (k : Nat)) c) : wO (oIndex (.str x) [.str y] c) P := o_some (by unfold oIndex; simp only [e]) h
theorem st_list {k : Nat} (ho : c.obj n = .lst xs) (e : ixN xs.length i = some k) : vSet (.ref n) (.int i) u c = some (c.set n (.lst (xs.set k u))) := by unfold vSet; simp only [getW_of ho, e]
end
end PM

namespace L51
open PySem PySem.Spec PyProof.Rows L2 He PM
abbrev c_ALPHABET : CV := .str " !\"#$&'()*+,-./0123456789:;<=>?@ABCDEFGHIJKLMNOPQRSTUVWXYZ[\\]^_`abcdefghijklmnopqrstuvwxyz{|}~"
abbrev c_INT_MOST : CV := .int 1000000000
abbrev c_INT_SIZE : CV := .int 2000000001
abbrev c_LETTERS : CV := .str "abcdefghijklmnopqrstuvwxyz"
abbrev c_NAME_MOST : CV := .int 12
abbrev c_TEXT_MOST : CV := .int 20
abbrev c_TEXT_SIZE : CV := .int 2932256630791119505061064402082674519051
theorem bb_ValueError : bootBuiltins "ValueError" = some (.type "ValueError") := by decide +kernel
theorem bb_bool : bootBuiltins "bool" = some (.type "bool") := by decide +kernel
theorem bb_dict : bootBuiltins "dict" = some (.type "dict") := by decide +kernel
theorem bb_int : bootBuiltins "int" = some (.type "int") := by decide +kernel
theorem bb_isinstance : bootBuiltins "isinstance" = some (.builtin "isinstance") := by decide +kernel
theorem bb_len : bootBuiltins "len" = some (.builtin "len") := by decide +kernel
theorem bb_list : bootBuiltins "list" = some (.type "list") := by decide +kernel
theorem bb_max : bootBuiltins "max" = some (.builtin "max") := by decide +kernel
theorem bb_min : bootBuiltins "min" = some (.builtin "min") := by decide +kernel
theorem bb_range : bootBuiltins "range" = some (.type "range") := by decide +kernel
theorem bb_reversed : bootBuiltins "reversed" = some (.type "reversed") := by decide +kernel
theorem bb_str : bootBuiltins "str" = some (.type "str") := by decide +kernel
theorem bb_tuple : bootBuiltins "tuple" = some (.type "tuple") := by decide +kernel
theorem mp_is_text : p_is_text ∈ D0.fns := List.mem_of_getElem? (i := 0) rfl
theorem mp_is_value : p_is_value ∈ D0.fns := List.mem_of_getElem? (i := 1) rfl
theorem mp_is_name : p_is_name ∈ D0.fns := List.mem_of_getElem? (i := 2) rfl
theorem mp_size_of : p_size_of ∈ D0.fns := List.mem_of_getElem? (i := 3) rfl
theorem mp_first_code : p_first_code ∈ D0.fns := List.mem_of_getElem? (i := 4) rfl
theorem mp_code_of : p_code_of ∈ D0.fns := List.mem_of_getElem? (i := 5) rfl
theorem mp_text_of : p_text_of ∈ D0.fns := List.mem_of_getElem? (i := 6) rfl
theorem mp_value_of : p_value_of ∈ D0.fns := List.mem_of_getElem? (i := 7) rfl
theorem mp_sealed : p_sealed ∈ D0.fns := List.mem_of_getElem? (i := 8) rfl
theorem mp_opened : p_opened ∈ D0.fns := List.mem_of_getElem? (i := 9) rfl
theorem mp_other_pad : p_other_pad ∈ D0.fns := List.mem_of_getElem? (i := 10) rfl
theorem mp__law_size : p__law_size ∈ D0.fns := List.mem_of_getElem? (i := 11) rfl
theorem mp__law_mixed : p__law_mixed ∈ D0.fns := List.mem_of_getElem? (i := 12) rfl
theorem mp__law_rest : p__law_rest ∈ D0.fns := List.mem_of_getElem? (i := 13) rfl
theorem mp__law_draw : p__law_draw ∈ D0.fns := List.mem_of_getElem? (i := 14) rfl
theorem mp__law_same : p__law_same ∈ D0.fns := List.mem_of_getElem? (i := 15) rfl
theorem mp__law_text : p__law_text ∈ D0.fns := List.mem_of_getElem? (i := 16) rfl
theorem mp__law_pick : p__law_pick ∈ D0.fns := List.mem_of_getElem? (i := 17) rfl
theorem mp__law_value : p__law_value ∈ D0.fns := List.mem_of_getElem? (i := 18) rfl
theorem mp__law_alphabet : p__law_alphabet ∈ D0.fns := List.mem_of_getElem? (i := 19) rfl
theorem mp__law_code : p__law_code ∈ D0.fns := List.mem_of_getElem? (i := 20) rfl
theorem mp__law_pool : p__law_pool ∈ D0.fns := List.mem_of_getElem? (i := 21) rfl
theorem mp__law_next : p__law_next ∈ D0.fns := List.mem_of_getElem? (i := 22) rfl
theorem mp__law_drawn_code : p__law_drawn_code ∈ D0.fns := List.mem_of_getElem? (i := 23) rfl
theorem mp__law_codes_right : p__law_codes_right ∈ D0.fns := List.mem_of_getElem? (i := 24) rfl
theorem mp__law_cells_right : p__law_cells_right ∈ D0.fns := List.mem_of_getElem? (i := 25) rfl
theorem mp__law_near : p__law_near ∈ D0.fns := List.mem_of_getElem? (i := 26) rfl
theorem mp__law_due_value : p__law_due_value ∈ D0.fns := List.mem_of_getElem? (i := 27) rfl
theorem mp__law_names_right : p__law_names_right ∈ D0.fns := List.mem_of_getElem? (i := 28) rfl
theorem mp__law_kinds : p__law_kinds ∈ D0.fns := List.mem_of_getElem? (i := 29) rfl
theorem mp__law_errors_right : p__law_errors_right ∈ D0.fns := List.mem_of_getElem? (i := 30) rfl
theorem mp_law : p_law ∈ D0.fns := List.mem_of_getElem? (i := 31) rfl
theorem mq_BadFile : q_BadFile ∈ D0.fns := List.mem_of_getElem? (i := 32) rfl
theorem mq_NoTable : q_NoTable ∈ D0.fns := List.mem_of_getElem? (i := 33) rfl
theorem mq_NoColumn : q_NoColumn ∈ D0.fns := List.mem_of_getElem? (i := 34) rfl
theorem mq_NameTaken : q_NameTaken ∈ D0.fns := List.mem_of_getElem? (i := 35) rfl
theorem mq_WrongKind : q_WrongKind ∈ D0.fns := List.mem_of_getElem? (i := 36) rfl
theorem mq_WrongMark : q_WrongMark ∈ D0.fns := List.mem_of_getElem? (i := 37) rfl
theorem mq_WrongValue : q_WrongValue ∈ D0.fns := List.mem_of_getElem? (i := 38) rfl
theorem mq_NoVersion : q_NoVersion ∈ D0.fns := List.mem_of_getElem? (i := 39) rfl
theorem mq_Hidden : q_Hidden ∈ D0.fns := List.mem_of_getElem? (i := 40) rfl
theorem mq_Unsayable : q_Unsayable ∈ D0.fns := List.mem_of_getElem? (i := 41) rfl
theorem mq_BadOps : q_BadOps ∈ D0.fns := List.mem_of_getElem? (i := 42) rfl
theorem mq_Mismatch : q_Mismatch ∈ D0.fns := List.mem_of_getElem? (i := 43) rfl
theorem mq_NoMoment : q_NoMoment ∈ D0.fns := List.mem_of_getElem? (i := 44) rfl
theorem mq_Unsafe : q_Unsafe ∈ D0.fns := List.mem_of_getElem? (i := 45) rfl
theorem mq_NoNode : q_NoNode ∈ D0.fns := List.mem_of_getElem? (i := 46) rfl
theorem mq_NodeDown : q_NodeDown ∈ D0.fns := List.mem_of_getElem? (i := 47) rfl
theorem mq_NotLeading : q_NotLeading ∈ D0.fns := List.mem_of_getElem? (i := 48) rfl
theorem mq_StampBack : q_StampBack ∈ D0.fns := List.mem_of_getElem? (i := 49) rfl
theorem mq_TooNew : q_TooNew ∈ D0.fns := List.mem_of_getElem? (i := 50) rfl
theorem mq_StillNeeded : q_StillNeeded ∈ D0.fns := List.mem_of_getElem? (i := 51) rfl
theorem mq_NotCommitted : q_NotCommitted ∈ D0.fns := List.mem_of_getElem? (i := 52) rfl
theorem mq_NoItem : q_NoItem ∈ D0.fns := List.mem_of_getElem? (i := 53) rfl
theorem mq_NoRoad : q_NoRoad ∈ D0.fns := List.mem_of_getElem? (i := 54) rfl
theorem mq_Forked : q_Forked ∈ D0.fns := List.mem_of_getElem? (i := 55) rfl
theorem mq_WrongPads : q_WrongPads ∈ D0.fns := List.mem_of_getElem? (i := 56) rfl
theorem mq_NoHolder : q_NoHolder ∈ D0.fns := List.mem_of_getElem? (i := 57) rfl
theorem mq_LastHolder : q_LastHolder ∈ D0.fns := List.mem_of_getElem? (i := 58) rfl
theorem mq_Held : q_Held ∈ D0.fns := List.mem_of_getElem? (i := 59) rfl
theorem mq_NoLine : q_NoLine ∈ D0.fns := List.mem_of_getElem? (i := 60) rfl
theorem mq_NoTenant : q_NoTenant ∈ D0.fns := List.mem_of_getElem? (i := 61) rfl
theorem mq_NoLeader : q_NoLeader ∈ D0.fns := List.mem_of_getElem? (i := 62) rfl
theorem mq_Behind : q_Behind ∈ D0.fns := List.mem_of_getElem? (i := 63) rfl
theorem mq_NoTicket : q_NoTicket ∈ D0.fns := List.mem_of_getElem? (i := 64) rfl
theorem mq_MoveOpen : q_MoveOpen ∈ D0.fns := List.mem_of_getElem? (i := 65) rfl
theorem mq_NoMove : q_NoMove ∈ D0.fns := List.mem_of_getElem? (i := 66) rfl
theorem mq_WrongPhase : q_WrongPhase ∈ D0.fns := List.mem_of_getElem? (i := 67) rfl
theorem mq_StillUsed : q_StillUsed ∈ D0.fns := List.mem_of_getElem? (i := 68) rfl
section
variable {w : World} {K : PySem.W.Frag} {mg : Str → Option Value} {base h : Heap}
theorem n_ValueError (T : D0.Ok K h mg) : mg "ValueError" = none := T.free _ (by decide +kernel)
theorem n_bool (T : D0.Ok K h mg) : mg "bool" = none := T.free _ (by decide +kernel)
theorem n_dict (T : D0.Ok K h mg) : mg "dict" = none := T.free _ (by decide +kernel)
theorem n_int (T : D0.Ok K h mg) : mg "int" = none := T.free _ (by decide +kernel)
theorem n_isinstance (T : D0.Ok K h mg) : mg "isinstance" = none := T.free _ (by decide +kernel)
theorem n_len (T : D0.Ok K h mg) : mg "len" = none := T.free _ (by decide +kernel)
theorem n_list (T : D0.Ok K h mg) : mg "list" = none := T.free _ (by decide +kernel)
theorem n_max (T : D0.Ok K h mg) : mg "max" = none := T.free _ (by decide +kernel)
theorem n_min (T : D0.Ok K h mg) : mg "min" = none := T.free _ (by decide +kernel)
theorem n_range (T : D0.Ok K h mg) : mg "range" = none := T.free _ (by decide +kernel)
theorem n_reversed (T : D0.Ok K h mg) : mg "reversed" = none := T.free _ (by decide +kernel)
theorem n_str (T : D0.Ok K h mg) : mg "str" = none := T.free _ (by decide +kernel)
theorem n_tuple (T : D0.Ok K h mg) : mg "tuple" = none := T.free _ (by decide +kernel)
theorem n_super (T : D0.Ok K h mg) : mg "super" = none := T.free _ (by decide +kernel)
theorem g_ALPHABET (T : D0.Ok K h mg) : ∃ t, mg "ALPHABET" = some (.str " !\"#$&'()*+,-./0123456789:;<=>?@ABCDEFGHIJKLMNOPQRSTUVWXYZ[\\]^_`abcdefghijklmnopqrstuvwxyz{|}~" t) := T.str ("ALPHABET", " !\"#$&'()*+,-./0123456789:;<=>?@ABCDEFGHIJKLMNOPQRSTUVWXYZ[\\]^_`abcdefghijklmnopqrstuvwxyz{|}~") (by decide +kernel)
theorem g_INT_MOST (T : D0.Ok K h mg) : ∃ t, mg "INT_MOST" = some (.int (1000000000) t) := T.int ("INT_MOST", 1000000000) (by decide +kernel)
theorem g_INT_SIZE (T : D0.Ok K h mg) : ∃ t, mg "INT_SIZE" = some (.int (2000000001) t) := T.int ("INT_SIZE", 2000000001) (by decide +kernel)
theorem g_LETTERS (T : D0.Ok K h mg) : ∃ t, mg "LETTERS" = some (.str "abcdefghijklmnopqrstuvwxyz" t) := T.str ("LETTERS", "abcdefghijklmnopqrstuvwxyz") (by decide +kernel)
theorem g_NAME_MOST (T : D0.Ok K h mg) : ∃ t, mg "NAME_MOST" = some (.int (12) t) := T.int ("NAME_MOST", 12) (by decide +kernel)
theorem g_TEXT_MOST (T : D0.Ok K h mg) : ∃ t, mg "TEXT_MOST" = some (.int (20) t) := T.int ("TEXT_MOST", 20) (by decide +kernel)
theorem g_TEXT_SIZE (T : D0.Ok K h mg) : ∃ t, mg "TEXT_SIZE" = some (.int (2932256630791119505061064402082674519051) t) := T.int ("TEXT_SIZE", 2932256630791119505061064402082674519051) (by decide +kernel)
theorem subOk : ∀ C ∈ D0.isC, C ∈ D0.exs ∧ C ∈ D0.isC := fun C h => ⟨h, h⟩
theorem topS : (P0.main.scope.names.lookup ("super" : Str)).isSome = false := by decide +kernel
theorem sx_BadFile : SupTxt i_BadFile ["self", "row"] ["self", "row"] := ⟨⟨rfl, rfl, rfl, by decide +kernel, rfl, by decide +kernel⟩, rfl, rfl, by decide +kernel, by decide +kernel⟩
theorem I_BadFile (T : D0.Ok K h mg) : Ini P0 w K mg base "BadFile" 1 ["row"] := by
  obtain ⟨fd, F, b, t⟩ := ini_of (P := P0) (w := w) (base := base) (d := q_BadFile) (fn := ["row"]) (T.fn q_BadFile mq_BadFile).1 (T.fn q_BadFile mq_BadFile).2 rfl rfl (n_super T) topS T.opq (T.ex "BadFile" (by decide +kernel)) (T.init "BadFile" (by decide +kernel)) sx_BadFile _ rfl rfl rfl (fun _ _ _ _ _ _ _ us hl => match us, hl with | [_, _], _ => rfl) rfl (fun X hS hN hK => by
    subst hK
    exact (pss_one (ps_ost (pv 0 (by rw [hN] <;> rfl) (by rw [hS]; exact Or.inl rfl)) (pv 1 (by rw [hN] <;> rfl) (by rw [hS]; exact Or.inl rfl)) (by rfl)))) (ini1 (T.ex "BadFile" (by decide +kernel)) (T.fld ("BadFile", "row") (by decide +kernel))) (by intro _; rfl) _ (by intro _; rfl)
  exact ⟨fd, _, F, b, t⟩
theorem sx_NoTable : SupTxt i_NoTable ["self", "name"] ["self", "name"] := ⟨⟨rfl, rfl, rfl, by decide +kernel, rfl, by decide +kernel⟩, rfl, rfl, by decide +kernel, by decide +kernel⟩
theorem I_NoTable (T : D0.Ok K h mg) : Ini P0 w K mg base "NoTable" 1 ["name"] := by
  obtain ⟨fd, F, b, t⟩ := ini_of (P := P0) (w := w) (base := base) (d := q_NoTable) (fn := ["name"]) (T.fn q_NoTable mq_NoTable).1 (T.fn q_NoTable mq_NoTable).2 rfl rfl (n_super T) topS T.opq (T.ex "NoTable" (by decide +kernel)) (T.init "NoTable" (by decide +kernel)) sx_NoTable _ rfl rfl rfl (fun _ _ _ _ _ _ _ us hl => match us, hl with | [_, _], _ => rfl) rfl (fun X hS hN hK => by
    subst hK
    exact (pss_one (ps_ost (pv 0 (by rw [hN] <;> rfl) (by rw [hS]; exact Or.inl rfl)) (pv 1 (by rw [hN] <;> rfl) (by rw [hS]; exact Or.inl rfl)) (by rfl)))) (ini1 (T.ex "NoTable" (by decide +kernel)) (T.fld ("NoTable", "name") (by decide +kernel))) (by intro _; rfl) _ (by intro _; rfl)
  exact ⟨fd, _, F, b, t⟩
theorem sx_NoColumn : SupTxt i_NoColumn ["self", "name"] ["self", "name"] := ⟨⟨rfl, rfl, rfl, by decide +kernel, rfl, by decide +kernel⟩, rfl, rfl, by decide +kernel, by decide +kernel⟩
theorem I_NoColumn (T : D0.Ok K h mg) : Ini P0 w K mg base "NoColumn" 1 ["name"] := by
  obtain ⟨fd, F, b, t⟩ := ini_of (P := P0) (w := w) (base := base) (d := q_NoColumn) (fn := ["name"]) (T.fn q_NoColumn mq_NoColumn).1 (T.fn q_NoColumn mq_NoColumn).2 rfl rfl (n_super T) topS T.opq (T.ex "NoColumn" (by decide +kernel)) (T.init "NoColumn" (by decide +kernel)) sx_NoColumn _ rfl rfl rfl (fun _ _ _ _ _ _ _ us hl => match us, hl with | [_, _], _ => rfl) rfl (fun X hS hN hK => by
    subst hK
    exact (pss_one (ps_ost (pv 0 (by rw [hN] <;> rfl) (by rw [hS]; exact Or.inl rfl)) (pv 1 (by rw [hN] <;> rfl) (by rw [hS]; exact Or.inl rfl)) (by rfl)))) (ini1 (T.ex "NoColumn" (by decide +kernel)) (T.fld ("NoColumn", "name") (by decide +kernel))) (by intro _; rfl) _ (by intro _; rfl)
  exact ⟨fd, _, F, b, t⟩
theorem sx_NameTaken : SupTxt i_NameTaken ["self", "name"] ["self", "name"] := ⟨⟨rfl, rfl, rfl, by decide +kernel, rfl, by decide +kernel⟩, rfl, rfl, by decide +kernel, by decide +kernel⟩
theorem I_NameTaken (T : D0.Ok K h mg) : Ini P0 w K mg base "NameTaken" 1 ["name"] := by
  obtain ⟨fd, F, b, t⟩ := ini_of (P := P0) (w := w) (base := base) (d := q_NameTaken) (fn := ["name"]) (T.fn q_NameTaken mq_NameTaken).1 (T.fn q_NameTaken mq_NameTaken).2 rfl rfl (n_super T) topS T.opq (T.ex "NameTaken" (by decide +kernel)) (T.init "NameTaken" (by decide +kernel)) sx_NameTaken _ rfl rfl rfl (fun _ _ _ _ _ _ _ us hl => match us, hl with | [_, _], _ => rfl) rfl (fun X hS hN hK => by
    subst hK
    exact (pss_one (ps_ost (pv 0 (by rw [hN] <;> rfl) (by rw [hS]; exact Or.inl rfl)) (pv 1 (by rw [hN] <;> rfl) (by rw [hS]; exact Or.inl rfl)) (by rfl)))) (ini1 (T.ex "NameTaken" (by decide +kernel)) (T.fld ("NameTaken", "name") (by decide +kernel))) (by intro _; rfl) _ (by intro _; rfl)
  exact ⟨fd, _, F, b, t⟩
theorem sx_WrongKind : SupTxt i_WrongKind ["self", "name"] ["self", "name"] := ⟨⟨rfl, rfl, rfl, by decide +kernel, rfl, by decide +kernel⟩, rfl, rfl, by decide +kernel, by decide +kernel⟩
theorem I_WrongKind (T : D0.Ok K h mg) : Ini P0 w K mg base "WrongKind" 1 ["name"] := by
  obtain ⟨fd, F, b, t⟩ := ini_of (P := P0) (w := w) (base := base) (d := q_WrongKind) (fn := ["name"]) (T.fn q_WrongKind mq_WrongKind).1 (T.fn q_WrongKind mq_WrongKind).2 rfl rfl (n_super T) topS T.opq (T.ex "WrongKind" (by decide +kernel)) (T.init "WrongKind" (by decide +kernel)) sx_WrongKind _ rfl rfl rfl (fun _ _ _ _ _ _ _ us hl => match us, hl with | [_, _], _ => rfl) rfl (fun X hS hN hK => by
    subst hK
    exact (pss_one (ps_ost (pv 0 (by rw [hN] <;> rfl) (by rw [hS]; exact Or.inl rfl)) (pv 1 (by rw [hN] <;> rfl) (by rw [hS]; exact Or.inl rfl)) (by rfl)))) (ini1 (T.ex "WrongKind" (by decide +kernel)) (T.fld ("WrongKind", "name") (by decide +kernel))) (by intro _; rfl) _ (by intro _; rfl)
  exact ⟨fd, _, F, b, t⟩
theorem sx_WrongMark : SupTxt i_WrongMark ["self", "name"] ["self", "name"] := ⟨⟨rfl, rfl, rfl, by decide +kernel, rfl, by decide +kernel⟩, rfl, rfl, by decide +kernel, by decide +kernel⟩
theorem I_WrongMark (T : D0.Ok K h mg) : Ini P0 w K mg base "WrongMark" 1 ["name"] := by
  obtain ⟨fd, F, b, t⟩ := ini_of (P := P0) (w := w) (base := base) (d := q_WrongMark) (fn := ["name"]) (T.fn q_WrongMark mq_WrongMark).1 (T.fn q_WrongMark mq_WrongMark).2 rfl rfl (n_super T) topS T.opq (T.ex "WrongMark" (by decide +kernel)) (T.init "WrongMark" (by decide +kernel)) sx_WrongMark _ rfl rfl rfl (fun _ _ _ _ _ _ _ us hl => match us, hl with | [_, _], _ => rfl) rfl (fun X hS hN hK => by
    subst hK
    exact (pss_one (ps_ost (pv 0 (by rw [hN] <;> rfl) (by rw [hS]; exact Or.inl rfl)) (pv 1 (by rw [hN] <;> rfl) (by rw [hS]; exact Or.inl rfl)) (by rfl)))) (ini1 (T.ex "WrongMark" (by decide +kernel)) (T.fld ("WrongMark", "name") (by decide +kernel))) (by intro _; rfl) _ (by intro _; rfl)
  exact ⟨fd, _, F, b, t⟩
theorem sx_WrongValue : SupTxt i_WrongValue ["self", "name"] ["self", "name"] := ⟨⟨rfl, rfl, rfl, by decide +kernel, rfl, by decide +kernel⟩, rfl, rfl, by decide +kernel, by decide +kernel⟩
theorem I_WrongValue (T : D0.Ok K h mg) : Ini P0 w K mg base "WrongValue" 1 ["name"] := by
  obtain ⟨fd, F, b, t⟩ := ini_of (P := P0) (w := w) (base := base) (d := q_WrongValue) (fn := ["name"]) (T.fn q_WrongValue mq_WrongValue).1 (T.fn q_WrongValue mq_WrongValue).2 rfl rfl (n_super T) topS T.opq (T.ex "WrongValue" (by decide +kernel)) (T.init "WrongValue" (by decide +kernel)) sx_WrongValue _ rfl rfl rfl (fun _ _ _ _ _ _ _ us hl => match us, hl with | [_, _], _ => rfl) rfl (fun X hS hN hK => by
    subst hK
    exact (pss_one (ps_ost (pv 0 (by rw [hN] <;> rfl) (by rw [hS]; exact Or.inl rfl)) (pv 1 (by rw [hN] <;> rfl) (by rw [hS]; exact Or.inl rfl)) (by rfl)))) (ini1 (T.ex "WrongValue" (by decide +kernel)) (T.fld ("WrongValue", "name") (by decide +kernel))) (by intro _; rfl) _ (by intro _; rfl)
  exact ⟨fd, _, F, b, t⟩
theorem sx_NoVersion : SupTxt i_NoVersion ["self", "version"] ["self", "version"] := ⟨⟨rfl, rfl, rfl, by decide +kernel, rfl, by decide +kernel⟩, rfl, rfl, by decide +kernel, by decide +kernel⟩
theorem I_NoVersion (T : D0.Ok K h mg) : Ini P0 w K mg base "NoVersion" 1 ["version"] := by
  obtain ⟨fd, F, b, t⟩ := ini_of (P := P0) (w := w) (base := base) (d := q_NoVersion) (fn := ["version"]) (T.fn q_NoVersion mq_NoVersion).1 (T.fn q_NoVersion mq_NoVersion).2 rfl rfl (n_super T) topS T.opq (T.ex "NoVersion" (by decide +kernel)) (T.init "NoVersion" (by decide +kernel)) sx_NoVersion _ rfl rfl rfl (fun _ _ _ _ _ _ _ us hl => match us, hl with | [_, _], _ => rfl) rfl (fun X hS hN hK => by
    subst hK
    exact (pss_one (ps_ost (pv 0 (by rw [hN] <;> rfl) (by rw [hS]; exact Or.inl rfl)) (pv 1 (by rw [hN] <;> rfl) (by rw [hS]; exact Or.inl rfl)) (by rfl)))) (ini1 (T.ex "NoVersion" (by decide +kernel)) (T.fld ("NoVersion", "version") (by decide +kernel))) (by intro _; rfl) _ (by intro _; rfl)
  exact ⟨fd, _, F, b, t⟩
theorem sx_Hidden : SupTxt i_Hidden ["self", "table"] ["self", "table"] := ⟨⟨rfl, rfl, rfl, by decide +kernel, rfl, by decide +kernel⟩, rfl, rfl, by decide +kernel, by decide +kernel⟩
theorem I_Hidden (T : D0.Ok K h mg) : Ini P0 w K mg base "Hidden" 1 ["table"] := by
  obtain ⟨fd, F, b, t⟩ := ini_of (P := P0) (w := w) (base := base) (d := q_Hidden) (fn := ["table"]) (T.fn q_Hidden mq_Hidden).1 (T.fn q_Hidden mq_Hidden).2 rfl rfl (n_super T) topS T.opq (T.ex "Hidden" (by decide +kernel)) (T.init "Hidden" (by decide +kernel)) sx_Hidden _ rfl rfl rfl (fun _ _ _ _ _ _ _ us hl => match us, hl with | [_, _], _ => rfl) rfl (fun X hS hN hK => by
    subst hK
    exact (pss_one (ps_ost (pv 0 (by rw [hN] <;> rfl) (by rw [hS]; exact Or.inl rfl)) (pv 1 (by rw [hN] <;> rfl) (by rw [hS]; exact Or.inl rfl)) (by rfl)))) (ini1 (T.ex "Hidden" (by decide +kernel)) (T.fld ("Hidden", "table") (by decide +kernel))) (by intro _; rfl) _ (by intro _; rfl)
  exact ⟨fd, _, F, b, t⟩
theorem sx_Unsayable : SupTxt i_Unsayable ["self", "table", "column", "key"] ["self", "table", "column", "key"] := ⟨⟨rfl, rfl, rfl, by decide +kernel, rfl, by decide +kernel⟩, rfl, rfl, by decide +kernel, by decide +kernel⟩
theorem I_Unsayable (T : D0.Ok K h mg) : Ini P0 w K mg base "Unsayable" 3 ["table", "column", "key"] := by
  obtain ⟨fd, F, b, t⟩ := ini_of (P := P0) (w := w) (base := base) (d := q_Unsayable) (fn := ["table", "column", "key"]) (T.fn q_Unsayable mq_Unsayable).1 (T.fn q_Unsayable mq_Unsayable).2 rfl rfl (n_super T) topS T.opq (T.ex "Unsayable" (by decide +kernel)) (T.init "Unsayable" (by decide +kernel)) sx_Unsayable _ rfl rfl rfl (fun _ _ _ _ _ _ _ us hl => match us, hl with | [_, _, _, _], _ => rfl) rfl (fun X hS hN hK => by
    subst hK
    exact (pss_cons (ps_ost (pv 0 (by rw [hN] <;> rfl) (by rw [hS]; exact Or.inl rfl)) (pv 1 (by rw [hN] <;> rfl) (by rw [hS]; exact Or.inl rfl)) (by rfl)) (pss_cons (ps_ost (pv 0 (by rw [hN] <;> rfl) (by rw [hS]; exact Or.inl rfl)) (pv 2 (by rw [hN] <;> rfl) (by rw [hS]; exact Or.inl rfl)) (by rfl)) (pss_one (ps_ost (pv 0 (by rw [hN] <;> rfl) (by rw [hS]; exact Or.inl rfl)) (pv 3 (by rw [hN] <;> rfl) (by rw [hS]; exact Or.inl rfl)) (by rfl)))))) (ini3 (T.ex "Unsayable" (by decide +kernel)) (T.fld ("Unsayable", "table") (by decide +kernel)) (T.fld ("Unsayable", "column") (by decide +kernel)) (T.fld ("Unsayable", "key") (by decide +kernel))) (by intro _; rfl) _ (by intro _; rfl)
  exact ⟨fd, _, F, b, t⟩
theorem sx_BadOps : SupTxt i_BadOps ["self", "place"] ["self", "place"] := ⟨⟨rfl, rfl, rfl, by decide +kernel, rfl, by decide +kernel⟩, rfl, rfl, by decide +kernel, by decide +kernel⟩
theorem I_BadOps (T : D0.Ok K h mg) : Ini P0 w K mg base "BadOps" 1 ["place"] := by
  obtain ⟨fd, F, b, t⟩ := ini_of (P := P0) (w := w) (base := base) (d := q_BadOps) (fn := ["place"]) (T.fn q_BadOps mq_BadOps).1 (T.fn q_BadOps mq_BadOps).2 rfl rfl (n_super T) topS T.opq (T.ex "BadOps" (by decide +kernel)) (T.init "BadOps" (by decide +kernel)) sx_BadOps _ rfl rfl rfl (fun _ _ _ _ _ _ _ us hl => match us, hl with | [_, _], _ => rfl) rfl (fun X hS hN hK => by
    subst hK
    exact (pss_one (ps_ost (pv 0 (by rw [hN] <;> rfl) (by rw [hS]; exact Or.inl rfl)) (pv 1 (by rw [hN] <;> rfl) (by rw [hS]; exact Or.inl rfl)) (by rfl)))) (ini1 (T.ex "BadOps" (by decide +kernel)) (T.fld ("BadOps", "place") (by decide +kernel))) (by intro _; rfl) _ (by intro _; rfl)
  exact ⟨fd, _, F, b, t⟩
theorem sx_Mismatch : SupTxt i_Mismatch ["self", "slot"] ["self", "slot"] := ⟨⟨rfl, rfl, rfl, by decide +kernel, rfl, by decide +kernel⟩, rfl, rfl, by decide +kernel, by decide +kernel⟩
theorem I_Mismatch (T : D0.Ok K h mg) : Ini P0 w K mg base "Mismatch" 1 ["slot"] := by
  obtain ⟨fd, F, b, t⟩ := ini_of (P := P0) (w := w) (base := base) (d := q_Mismatch) (fn := ["slot"]) (T.fn q_Mismatch mq_Mismatch).1 (T.fn q_Mismatch mq_Mismatch).2 rfl rfl (n_super T) topS T.opq (T.ex "Mismatch" (by decide +kernel)) (T.init "Mismatch" (by decide +kernel)) sx_Mismatch _ rfl rfl rfl (fun _ _ _ _ _ _ _ us hl => match us, hl with | [_, _], _ => rfl) rfl (fun X hS hN hK => by
    subst hK
    exact (pss_one (ps_ost (pv 0 (by rw [hN] <;> rfl) (by rw [hS]; exact Or.inl rfl)) (pv 1 (by rw [hN] <;> rfl) (by rw [hS]; exact Or.inl rfl)) (by rfl)))) (ini1 (T.ex "Mismatch" (by decide +kernel)) (T.fld ("Mismatch", "slot") (by decide +kernel))) (by intro _; rfl) _ (by intro _; rfl)
  exact ⟨fd, _, F, b, t⟩
theorem sx_NoMoment : SupTxt i_NoMoment ["self", "position"] ["self", "position"] := ⟨⟨rfl, rfl, rfl, by decide +kernel, rfl, by decide +kernel⟩, rfl, rfl, by decide +kernel, by decide +kernel⟩
theorem I_NoMoment (T : D0.Ok K h mg) : Ini P0 w K mg base "NoMoment" 1 ["position"] := by
  obtain ⟨fd, F, b, t⟩ := ini_of (P := P0) (w := w) (base := base) (d := q_NoMoment) (fn := ["position"]) (T.fn q_NoMoment mq_NoMoment).1 (T.fn q_NoMoment mq_NoMoment).2 rfl rfl (n_super T) topS T.opq (T.ex "NoMoment" (by decide +kernel)) (T.init "NoMoment" (by decide +kernel)) sx_NoMoment _ rfl rfl rfl (fun _ _ _ _ _ _ _ us hl => match us, hl with | [_, _], _ => rfl) rfl (fun X hS hN hK => by
    subst hK
    exact (pss_one (ps_ost (pv 0 (by rw [hN] <;> rfl) (by rw [hS]; exact Or.inl rfl)) (pv 1 (by rw [hN] <;> rfl) (by rw [hS]; exact Or.inl rfl)) (by rfl)))) (ini1 (T.ex "NoMoment" (by decide +kernel)) (T.fld ("NoMoment", "position") (by decide +kernel))) (by intro _; rfl) _ (by intro _; rfl)
  exact ⟨fd, _, F, b, t⟩
theorem sx_Unsafe : SupTxt i_Unsafe ["self", "one", "other"] ["self", "one", "other"] := ⟨⟨rfl, rfl, rfl, by decide +kernel, rfl, by decide +kernel⟩, rfl, rfl, by decide +kernel, by decide +kernel⟩
theorem I_Unsafe (T : D0.Ok K h mg) : Ini P0 w K mg base "Unsafe" 2 ["one", "other"] := by
  obtain ⟨fd, F, b, t⟩ := ini_of (P := P0) (w := w) (base := base) (d := q_Unsafe) (fn := ["one", "other"]) (T.fn q_Unsafe mq_Unsafe).1 (T.fn q_Unsafe mq_Unsafe).2 rfl rfl (n_super T) topS T.opq (T.ex "Unsafe" (by decide +kernel)) (T.init "Unsafe" (by decide +kernel)) sx_Unsafe _ rfl rfl rfl (fun _ _ _ _ _ _ _ us hl => match us, hl with | [_, _, _], _ => rfl) rfl (fun X hS hN hK => by
    subst hK
    exact (pss_cons (ps_ost (pv 0 (by rw [hN] <;> rfl) (by rw [hS]; exact Or.inl rfl)) (pv 1 (by rw [hN] <;> rfl) (by rw [hS]; exact Or.inl rfl)) (by rfl)) (pss_one (ps_ost (pv 0 (by rw [hN] <;> rfl) (by rw [hS]; exact Or.inl rfl)) (pv 2 (by rw [hN] <;> rfl) (by rw [hS]; exact Or.inl rfl)) (by rfl))))) (ini2 (T.ex "Unsafe" (by decide +kernel)) (T.fld ("Unsafe", "one") (by decide +kernel)) (T.fld ("Unsafe", "other") (by decide +kernel))) (by intro _; rfl) _ (by intro _; rfl)
  exact ⟨fd, _, F, b, t⟩
theorem sx_NoNode : SupTxt i_NoNode ["self", "name"] ["self", "name"] := ⟨⟨rfl, rfl, rfl, by decide +kernel, rfl, by decide +kernel⟩, rfl, rfl, by decide +kernel, by decide +kernel⟩
theorem I_NoNode (T : D0.Ok K h mg) : Ini P0 w K mg base "NoNode" 1 ["name"] := by
  obtain ⟨fd, F, b, t⟩ := ini_of (P := P0) (w := w) (base := base) (d := q_NoNode) (fn := ["name"]) (T.fn q_NoNode mq_NoNode).1 (T.fn q_NoNode mq_NoNode).2 rfl rfl (n_super T) topS T.opq (T.ex "NoNode" (by decide +kernel)) (T.init "NoNode" (by decide +kernel)) sx_NoNode _ rfl rfl rfl (fun _ _ _ _ _ _ _ us hl => match us, hl with | [_, _], _ => rfl) rfl (fun X hS hN hK => by
    subst hK
    exact (pss_one (ps_ost (pv 0 (by rw [hN] <;> rfl) (by rw [hS]; exact Or.inl rfl)) (pv 1 (by rw [hN] <;> rfl) (by rw [hS]; exact Or.inl rfl)) (by rfl)))) (ini1 (T.ex "NoNode" (by decide +kernel)) (T.fld ("NoNode", "name") (by decide +kernel))) (by intro _; rfl) _ (by intro _; rfl)
  exact ⟨fd, _, F, b, t⟩
theorem sx_NodeDown : SupTxt i_NodeDown ["self", "name"] ["self", "name"] := ⟨⟨rfl, rfl, rfl, by decide +kernel, rfl, by decide +kernel⟩, rfl, rfl, by decide +kernel, by decide +kernel⟩
theorem I_NodeDown (T : D0.Ok K h mg) : Ini P0 w K mg base "NodeDown" 1 ["name"] := by
  obtain ⟨fd, F, b, t⟩ := ini_of (P := P0) (w := w) (base := base) (d := q_NodeDown) (fn := ["name"]) (T.fn q_NodeDown mq_NodeDown).1 (T.fn q_NodeDown mq_NodeDown).2 rfl rfl (n_super T) topS T.opq (T.ex "NodeDown" (by decide +kernel)) (T.init "NodeDown" (by decide +kernel)) sx_NodeDown _ rfl rfl rfl (fun _ _ _ _ _ _ _ us hl => match us, hl with | [_, _], _ => rfl) rfl (fun X hS hN hK => by
    subst hK
    exact (pss_one (ps_ost (pv 0 (by rw [hN] <;> rfl) (by rw [hS]; exact Or.inl rfl)) (pv 1 (by rw [hN] <;> rfl) (by rw [hS]; exact Or.inl rfl)) (by rfl)))) (ini1 (T.ex "NodeDown" (by decide +kernel)) (T.fld ("NodeDown", "name") (by decide +kernel))) (by intro _; rfl) _ (by intro _; rfl)
  exact ⟨fd, _, F, b, t⟩
theorem sx_NotLeading : SupTxt i_NotLeading ["self", "name"] ["self", "name"] := ⟨⟨rfl, rfl, rfl, by decide +kernel, rfl, by decide +kernel⟩, rfl, rfl, by decide +kernel, by decide +kernel⟩
theorem I_NotLeading (T : D0.Ok K h mg) : Ini P0 w K mg base "NotLeading" 1 ["name"] := by
  obtain ⟨fd, F, b, t⟩ := ini_of (P := P0) (w := w) (base := base) (d := q_NotLeading) (fn := ["name"]) (T.fn q_NotLeading mq_NotLeading).1 (T.fn q_NotLeading mq_NotLeading).2 rfl rfl (n_super T) topS T.opq (T.ex "NotLeading" (by decide +kernel)) (T.init "NotLeading" (by decide +kernel)) sx_NotLeading _ rfl rfl rfl (fun _ _ _ _ _ _ _ us hl => match us, hl with | [_, _], _ => rfl) rfl (fun X hS hN hK => by
    subst hK
    exact (pss_one (ps_ost (pv 0 (by rw [hN] <;> rfl) (by rw [hS]; exact Or.inl rfl)) (pv 1 (by rw [hN] <;> rfl) (by rw [hS]; exact Or.inl rfl)) (by rfl)))) (ini1 (T.ex "NotLeading" (by decide +kernel)) (T.fld ("NotLeading", "name") (by decide +kernel))) (by intro _; rfl) _ (by intro _; rfl)
  exact ⟨fd, _, F, b, t⟩
theorem sx_StampBack : SupTxt i_StampBack ["self", "stamp"] ["self", "stamp"] := ⟨⟨rfl, rfl, rfl, by decide +kernel, rfl, by decide +kernel⟩, rfl, rfl, by decide +kernel, by decide +kernel⟩
theorem I_StampBack (T : D0.Ok K h mg) : Ini P0 w K mg base "StampBack" 1 ["stamp"] := by
  obtain ⟨fd, F, b, t⟩ := ini_of (P := P0) (w := w) (base := base) (d := q_StampBack) (fn := ["stamp"]) (T.fn q_StampBack mq_StampBack).1 (T.fn q_StampBack mq_StampBack).2 rfl rfl (n_super T) topS T.opq (T.ex "StampBack" (by decide +kernel)) (T.init "StampBack" (by decide +kernel)) sx_StampBack _ rfl rfl rfl (fun _ _ _ _ _ _ _ us hl => match us, hl with | [_, _], _ => rfl) rfl (fun X hS hN hK => by
    subst hK
    exact (pss_one (ps_ost (pv 0 (by rw [hN] <;> rfl) (by rw [hS]; exact Or.inl rfl)) (pv 1 (by rw [hN] <;> rfl) (by rw [hS]; exact Or.inl rfl)) (by rfl)))) (ini1 (T.ex "StampBack" (by decide +kernel)) (T.fld ("StampBack", "stamp") (by decide +kernel))) (by intro _; rfl) _ (by intro _; rfl)
  exact ⟨fd, _, F, b, t⟩
theorem sx_TooNew : SupTxt i_TooNew ["self", "names"] ["self", "names"] := ⟨⟨rfl, rfl, rfl, by decide +kernel, rfl, by decide +kernel⟩, rfl, rfl, by decide +kernel, by decide +kernel⟩
theorem I_TooNew (T : D0.Ok K h mg) : Ini P0 w K mg base "TooNew" 1 ["names"] := by
  obtain ⟨fd, F, b, t⟩ := ini_of (P := P0) (w := w) (base := base) (d := q_TooNew) (fn := ["names"]) (T.fn q_TooNew mq_TooNew).1 (T.fn q_TooNew mq_TooNew).2 rfl rfl (n_super T) topS T.opq (T.ex "TooNew" (by decide +kernel)) (T.init "TooNew" (by decide +kernel)) sx_TooNew _ rfl rfl rfl (fun _ _ _ _ _ _ _ us hl => match us, hl with | [_, _], _ => rfl) rfl (fun X hS hN hK => by
    subst hK
    exact (pss_one (ps_ost (pv 0 (by rw [hN] <;> rfl) (by rw [hS]; exact Or.inl rfl)) (pv 1 (by rw [hN] <;> rfl) (by rw [hS]; exact Or.inl rfl)) (by rfl)))) (ini1 (T.ex "TooNew" (by decide +kernel)) (T.fld ("TooNew", "names") (by decide +kernel))) (by intro _; rfl) _ (by intro _; rfl)
  exact ⟨fd, _, F, b, t⟩
theorem sx_StillNeeded : SupTxt i_StillNeeded ["self", "name", "position"] ["self", "name", "position"] := ⟨⟨rfl, rfl, rfl, by decide +kernel, rfl, by decide +kernel⟩, rfl, rfl, by decide +kernel, by decide +kernel⟩
theorem I_StillNeeded (T : D0.Ok K h mg) : Ini P0 w K mg base "StillNeeded" 2 ["name", "position"] := by
  obtain ⟨fd, F, b, t⟩ := ini_of (P := P0) (w := w) (base := base) (d := q_StillNeeded) (fn := ["name", "position"]) (T.fn q_StillNeeded mq_StillNeeded).1 (T.fn q_StillNeeded mq_StillNeeded).2 rfl rfl (n_super T) topS T.opq (T.ex "StillNeeded" (by decide +kernel)) (T.init "StillNeeded" (by decide +kernel)) sx_StillNeeded _ rfl rfl rfl (fun _ _ _ _ _ _ _ us hl => match us, hl with | [_, _, _], _ => rfl) rfl (fun X hS hN hK => by
    subst hK
    exact (pss_cons (ps_ost (pv 0 (by rw [hN] <;> rfl) (by rw [hS]; exact Or.inl rfl)) (pv 1 (by rw [hN] <;> rfl) (by rw [hS]; exact Or.inl rfl)) (by rfl)) (pss_one (ps_ost (pv 0 (by rw [hN] <;> rfl) (by rw [hS]; exact Or.inl rfl)) (pv 2 (by rw [hN] <;> rfl) (by rw [hS]; exact Or.inl rfl)) (by rfl))))) (ini2 (T.ex "StillNeeded" (by decide +kernel)) (T.fld ("StillNeeded", "name") (by decide +kernel)) (T.fld ("StillNeeded", "position") (by decide +kernel))) (by intro _; rfl) _ (by intro _; rfl)
  exact ⟨fd, _, F, b, t⟩
theorem sx_NotCommitted : SupTxt i_NotCommitted ["self", "position"] ["self", "position"] := ⟨⟨rfl, rfl, rfl, by decide +kernel, rfl, by decide +kernel⟩, rfl, rfl, by decide +kernel, by decide +kernel⟩
theorem I_NotCommitted (T : D0.Ok K h mg) : Ini P0 w K mg base "NotCommitted" 1 ["position"] := by
  obtain ⟨fd, F, b, t⟩ := ini_of (P := P0) (w := w) (base := base) (d := q_NotCommitted) (fn := ["position"]) (T.fn q_NotCommitted mq_NotCommitted).1 (T.fn q_NotCommitted mq_NotCommitted).2 rfl rfl (n_super T) topS T.opq (T.ex "NotCommitted" (by decide +kernel)) (T.init "NotCommitted" (by decide +kernel)) sx_NotCommitted _ rfl rfl rfl (fun _ _ _ _ _ _ _ us hl => match us, hl with | [_, _], _ => rfl) rfl (fun X hS hN hK => by
    subst hK
    exact (pss_one (ps_ost (pv 0 (by rw [hN] <;> rfl) (by rw [hS]; exact Or.inl rfl)) (pv 1 (by rw [hN] <;> rfl) (by rw [hS]; exact Or.inl rfl)) (by rfl)))) (ini1 (T.ex "NotCommitted" (by decide +kernel)) (T.fld ("NotCommitted", "position") (by decide +kernel))) (by intro _; rfl) _ (by intro _; rfl)
  exact ⟨fd, _, F, b, t⟩
theorem sx_NoItem : SupTxt i_NoItem ["self", "number"] ["self", "number"] := ⟨⟨rfl, rfl, rfl, by decide +kernel, rfl, by decide +kernel⟩, rfl, rfl, by decide +kernel, by decide +kernel⟩
theorem I_NoItem (T : D0.Ok K h mg) : Ini P0 w K mg base "NoItem" 1 ["number"] := by
  obtain ⟨fd, F, b, t⟩ := ini_of (P := P0) (w := w) (base := base) (d := q_NoItem) (fn := ["number"]) (T.fn q_NoItem mq_NoItem).1 (T.fn q_NoItem mq_NoItem).2 rfl rfl (n_super T) topS T.opq (T.ex "NoItem" (by decide +kernel)) (T.init "NoItem" (by decide +kernel)) sx_NoItem _ rfl rfl rfl (fun _ _ _ _ _ _ _ us hl => match us, hl with | [_, _], _ => rfl) rfl (fun X hS hN hK => by
    subst hK
    exact (pss_one (ps_ost (pv 0 (by rw [hN] <;> rfl) (by rw [hS]; exact Or.inl rfl)) (pv 1 (by rw [hN] <;> rfl) (by rw [hS]; exact Or.inl rfl)) (by rfl)))) (ini1 (T.ex "NoItem" (by decide +kernel)) (T.fld ("NoItem", "number") (by decide +kernel))) (by intro _; rfl) _ (by intro _; rfl)
  exact ⟨fd, _, F, b, t⟩
theorem sx_NoRoad : SupTxt i_NoRoad ["self", "line", "position"] ["self", "line", "position"] := ⟨⟨rfl, rfl, rfl, by decide +kernel, rfl, by decide +kernel⟩, rfl, rfl, by decide +kernel, by decide +kernel⟩
theorem I_NoRoad (T : D0.Ok K h mg) : Ini P0 w K mg base "NoRoad" 2 ["line", "position"] := by
  obtain ⟨fd, F, b, t⟩ := ini_of (P := P0) (w := w) (base := base) (d := q_NoRoad) (fn := ["line", "position"]) (T.fn q_NoRoad mq_NoRoad).1 (T.fn q_NoRoad mq_NoRoad).2 rfl rfl (n_super T) topS T.opq (T.ex "NoRoad" (by decide +kernel)) (T.init "NoRoad" (by decide +kernel)) sx_NoRoad _ rfl rfl rfl (fun _ _ _ _ _ _ _ us hl => match us, hl with | [_, _, _], _ => rfl) rfl (fun X hS hN hK => by
    subst hK
    exact (pss_cons (ps_ost (pv 0 (by rw [hN] <;> rfl) (by rw [hS]; exact Or.inl rfl)) (pv 1 (by rw [hN] <;> rfl) (by rw [hS]; exact Or.inl rfl)) (by rfl)) (pss_one (ps_ost (pv 0 (by rw [hN] <;> rfl) (by rw [hS]; exact Or.inl rfl)) (pv 2 (by rw [hN] <;> rfl) (by rw [hS]; exact Or.inl rfl)) (by rfl))))) (ini2 (T.ex "NoRoad" (by decide +kernel)) (T.fld ("NoRoad", "line") (by decide +kernel)) (T.fld ("NoRoad", "position") (by decide +kernel))) (by intro _; rfl) _ (by intro _; rfl)
  exact ⟨fd, _, F, b, t⟩
theorem sx_Forked : SupTxt i_Forked ["self", "line"] ["self", "line"] := ⟨⟨rfl, rfl, rfl, by decide +kernel, rfl, by decide +kernel⟩, rfl, rfl, by decide +kernel, by decide +kernel⟩
theorem I_Forked (T : D0.Ok K h mg) : Ini P0 w K mg base "Forked" 1 ["line"] := by
  obtain ⟨fd, F, b, t⟩ := ini_of (P := P0) (w := w) (base := base) (d := q_Forked) (fn := ["line"]) (T.fn q_Forked mq_Forked).1 (T.fn q_Forked mq_Forked).2 rfl rfl (n_super T) topS T.opq (T.ex "Forked" (by decide +kernel)) (T.init "Forked" (by decide +kernel)) sx_Forked _ rfl rfl rfl (fun _ _ _ _ _ _ _ us hl => match us, hl with | [_, _], _ => rfl) rfl (fun X hS hN hK => by
    subst hK
    exact (pss_one (ps_ost (pv 0 (by rw [hN] <;> rfl) (by rw [hS]; exact Or.inl rfl)) (pv 1 (by rw [hN] <;> rfl) (by rw [hS]; exact Or.inl rfl)) (by rfl)))) (ini1 (T.ex "Forked" (by decide +kernel)) (T.fld ("Forked", "line") (by decide +kernel))) (by intro _; rfl) _ (by intro _; rfl)
  exact ⟨fd, _, F, b, t⟩
theorem sx_WrongPads : SupTxt i_WrongPads ["self", "needed"] ["self", "needed"] := ⟨⟨rfl, rfl, rfl, by decide +kernel, rfl, by decide +kernel⟩, rfl, rfl, by decide +kernel, by decide +kernel⟩
theorem I_WrongPads (T : D0.Ok K h mg) : Ini P0 w K mg base "WrongPads" 1 ["needed"] := by
  obtain ⟨fd, F, b, t⟩ := ini_of (P := P0) (w := w) (base := base) (d := q_WrongPads) (fn := ["needed"]) (T.fn q_WrongPads mq_WrongPads).1 (T.fn q_WrongPads mq_WrongPads).2 rfl rfl (n_super T) topS T.opq (T.ex "WrongPads" (by decide +kernel)) (T.init "WrongPads" (by decide +kernel)) sx_WrongPads _ rfl rfl rfl (fun _ _ _ _ _ _ _ us hl => match us, hl with | [_, _], _ => rfl) rfl (fun X hS hN hK => by
    subst hK
    exact (pss_one (ps_ost (pv 0 (by rw [hN] <;> rfl) (by rw [hS]; exact Or.inl rfl)) (pv 1 (by rw [hN] <;> rfl) (by rw [hS]; exact Or.inl rfl)) (by rfl)))) (ini1 (T.ex "WrongPads" (by decide +kernel)) (T.fld ("WrongPads", "needed") (by decide +kernel))) (by intro _; rfl) _ (by intro _; rfl)
  exact ⟨fd, _, F, b, t⟩
theorem sx_NoHolder : SupTxt i_NoHolder ["self", "name"] ["self", "name"] := ⟨⟨rfl, rfl, rfl, by decide +kernel, rfl, by decide +kernel⟩, rfl, rfl, by decide +kernel, by decide +kernel⟩
theorem I_NoHolder (T : D0.Ok K h mg) : Ini P0 w K mg base "NoHolder" 1 ["name"] := by
  obtain ⟨fd, F, b, t⟩ := ini_of (P := P0) (w := w) (base := base) (d := q_NoHolder) (fn := ["name"]) (T.fn q_NoHolder mq_NoHolder).1 (T.fn q_NoHolder mq_NoHolder).2 rfl rfl (n_super T) topS T.opq (T.ex "NoHolder" (by decide +kernel)) (T.init "NoHolder" (by decide +kernel)) sx_NoHolder _ rfl rfl rfl (fun _ _ _ _ _ _ _ us hl => match us, hl with | [_, _], _ => rfl) rfl (fun X hS hN hK => by
    subst hK
    exact (pss_one (ps_ost (pv 0 (by rw [hN] <;> rfl) (by rw [hS]; exact Or.inl rfl)) (pv 1 (by rw [hN] <;> rfl) (by rw [hS]; exact Or.inl rfl)) (by rfl)))) (ini1 (T.ex "NoHolder" (by decide +kernel)) (T.fld ("NoHolder", "name") (by decide +kernel))) (by intro _; rfl) _ (by intro _; rfl)
  exact ⟨fd, _, F, b, t⟩
theorem sx_LastHolder : SupTxt i_LastHolder ["self", "name"] ["self", "name"] := ⟨⟨rfl, rfl, rfl, by decide +kernel, rfl, by decide +kernel⟩, rfl, rfl, by decide +kernel, by decide +kernel⟩
theorem I_LastHolder (T : D0.Ok K h mg) : Ini P0 w K mg base "LastHolder" 1 ["name"] := by
  obtain ⟨fd, F, b, t⟩ := ini_of (P := P0) (w := w) (base := base) (d := q_LastHolder) (fn := ["name"]) (T.fn q_LastHolder mq_LastHolder).1 (T.fn q_LastHolder mq_LastHolder).2 rfl rfl (n_super T) topS T.opq (T.ex "LastHolder" (by decide +kernel)) (T.init "LastHolder" (by decide +kernel)) sx_LastHolder _ rfl rfl rfl (fun _ _ _ _ _ _ _ us hl => match us, hl with | [_, _], _ => rfl) rfl (fun X hS hN hK => by
    subst hK
    exact (pss_one (ps_ost (pv 0 (by rw [hN] <;> rfl) (by rw [hS]; exact Or.inl rfl)) (pv 1 (by rw [hN] <;> rfl) (by rw [hS]; exact Or.inl rfl)) (by rfl)))) (ini1 (T.ex "LastHolder" (by decide +kernel)) (T.fld ("LastHolder", "name") (by decide +kernel))) (by intro _; rfl) _ (by intro _; rfl)
  exact ⟨fd, _, F, b, t⟩
theorem sx_Held : SupTxt i_Held ["self", "person"] ["self", "person"] := ⟨⟨rfl, rfl, rfl, by decide +kernel, rfl, by decide +kernel⟩, rfl, rfl, by decide +kernel, by decide +kernel⟩
theorem I_Held (T : D0.Ok K h mg) : Ini P0 w K mg base "Held" 1 ["person"] := by
  obtain ⟨fd, F, b, t⟩ := ini_of (P := P0) (w := w) (base := base) (d := q_Held) (fn := ["person"]) (T.fn q_Held mq_Held).1 (T.fn q_Held mq_Held).2 rfl rfl (n_super T) topS T.opq (T.ex "Held" (by decide +kernel)) (T.init "Held" (by decide +kernel)) sx_Held _ rfl rfl rfl (fun _ _ _ _ _ _ _ us hl => match us, hl with | [_, _], _ => rfl) rfl (fun X hS hN hK => by
    subst hK
    exact (pss_one (ps_ost (pv 0 (by rw [hN] <;> rfl) (by rw [hS]; exact Or.inl rfl)) (pv 1 (by rw [hN] <;> rfl) (by rw [hS]; exact Or.inl rfl)) (by rfl)))) (ini1 (T.ex "Held" (by decide +kernel)) (T.fld ("Held", "person") (by decide +kernel))) (by intro _; rfl) _ (by intro _; rfl)
  exact ⟨fd, _, F, b, t⟩
theorem sx_NoLine : SupTxt i_NoLine ["self", "name"] ["self", "name"] := ⟨⟨rfl, rfl, rfl, by decide +kernel, rfl, by decide +kernel⟩, rfl, rfl, by decide +kernel, by decide +kernel⟩
theorem I_NoLine (T : D0.Ok K h mg) : Ini P0 w K mg base "NoLine" 1 ["name"] := by
  obtain ⟨fd, F, b, t⟩ := ini_of (P := P0) (w := w) (base := base) (d := q_NoLine) (fn := ["name"]) (T.fn q_NoLine mq_NoLine).1 (T.fn q_NoLine mq_NoLine).2 rfl rfl (n_super T) topS T.opq (T.ex "NoLine" (by decide +kernel)) (T.init "NoLine" (by decide +kernel)) sx_NoLine _ rfl rfl rfl (fun _ _ _ _ _ _ _ us hl => match us, hl with | [_, _], _ => rfl) rfl (fun X hS hN hK => by
    subst hK
    exact (pss_one (ps_ost (pv 0 (by rw [hN] <;> rfl) (by rw [hS]; exact Or.inl rfl)) (pv 1 (by rw [hN] <;> rfl) (by rw [hS]; exact Or.inl rfl)) (by rfl)))) (ini1 (T.ex "NoLine" (by decide +kernel)) (T.fld ("NoLine", "name") (by decide +kernel))) (by intro _; rfl) _ (by intro _; rfl)
  exact ⟨fd, _, F, b, t⟩
theorem sx_NoTenant : SupTxt i_NoTenant ["self", "name"] ["self", "name"] := ⟨⟨rfl, rfl, rfl, by decide +kernel, rfl, by decide +kernel⟩, rfl, rfl, by decide +kernel, by decide +kernel⟩
theorem I_NoTenant (T : D0.Ok K h mg) : Ini P0 w K mg base "NoTenant" 1 ["name"] := by
  obtain ⟨fd, F, b, t⟩ := ini_of (P := P0) (w := w) (base := base) (d := q_NoTenant) (fn := ["name"]) (T.fn q_NoTenant mq_NoTenant).1 (T.fn q_NoTenant mq_NoTenant).2 rfl rfl (n_super T) topS T.opq (T.ex "NoTenant" (by decide +kernel)) (T.init "NoTenant" (by decide +kernel)) sx_NoTenant _ rfl rfl rfl (fun _ _ _ _ _ _ _ us hl => match us, hl with | [_, _], _ => rfl) rfl (fun X hS hN hK => by
    subst hK
    exact (pss_one (ps_ost (pv 0 (by rw [hN] <;> rfl) (by rw [hS]; exact Or.inl rfl)) (pv 1 (by rw [hN] <;> rfl) (by rw [hS]; exact Or.inl rfl)) (by rfl)))) (ini1 (T.ex "NoTenant" (by decide +kernel)) (T.fld ("NoTenant", "name") (by decide +kernel))) (by intro _; rfl) _ (by intro _; rfl)
  exact ⟨fd, _, F, b, t⟩
theorem sx_NoLeader : SupTxt i_NoLeader ["self", "name"] ["self", "name"] := ⟨⟨rfl, rfl, rfl, by decide +kernel, rfl, by decide +kernel⟩, rfl, rfl, by decide +kernel, by decide +kernel⟩
theorem I_NoLeader (T : D0.Ok K h mg) : Ini P0 w K mg base "NoLeader" 1 ["name"] := by
  obtain ⟨fd, F, b, t⟩ := ini_of (P := P0) (w := w) (base := base) (d := q_NoLeader) (fn := ["name"]) (T.fn q_NoLeader mq_NoLeader).1 (T.fn q_NoLeader mq_NoLeader).2 rfl rfl (n_super T) topS T.opq (T.ex "NoLeader" (by decide +kernel)) (T.init "NoLeader" (by decide +kernel)) sx_NoLeader _ rfl rfl rfl (fun _ _ _ _ _ _ _ us hl => match us, hl with | [_, _], _ => rfl) rfl (fun X hS hN hK => by
    subst hK
    exact (pss_one (ps_ost (pv 0 (by rw [hN] <;> rfl) (by rw [hS]; exact Or.inl rfl)) (pv 1 (by rw [hN] <;> rfl) (by rw [hS]; exact Or.inl rfl)) (by rfl)))) (ini1 (T.ex "NoLeader" (by decide +kernel)) (T.fld ("NoLeader", "name") (by decide +kernel))) (by intro _; rfl) _ (by intro _; rfl)
  exact ⟨fd, _, F, b, t⟩
theorem sx_Behind : SupTxt i_Behind ["self", "moment"] ["self", "moment"] := ⟨⟨rfl, rfl, rfl, by decide +kernel, rfl, by decide +kernel⟩, rfl, rfl, by decide +kernel, by decide +kernel⟩
theorem I_Behind (T : D0.Ok K h mg) : Ini P0 w K mg base "Behind" 1 ["moment"] := by
  obtain ⟨fd, F, b, t⟩ := ini_of (P := P0) (w := w) (base := base) (d := q_Behind) (fn := ["moment"]) (T.fn q_Behind mq_Behind).1 (T.fn q_Behind mq_Behind).2 rfl rfl (n_super T) topS T.opq (T.ex "Behind" (by decide +kernel)) (T.init "Behind" (by decide +kernel)) sx_Behind _ rfl rfl rfl (fun _ _ _ _ _ _ _ us hl => match us, hl with | [_, _], _ => rfl) rfl (fun X hS hN hK => by
    subst hK
    exact (pss_one (ps_ost (pv 0 (by rw [hN] <;> rfl) (by rw [hS]; exact Or.inl rfl)) (pv 1 (by rw [hN] <;> rfl) (by rw [hS]; exact Or.inl rfl)) (by rfl)))) (ini1 (T.ex "Behind" (by decide +kernel)) (T.fld ("Behind", "moment") (by decide +kernel))) (by intro _; rfl) _ (by intro _; rfl)
  exact ⟨fd, _, F, b, t⟩
theorem sx_NoTicket : SupTxt i_NoTicket ["self", "number"] ["self", "number"] := ⟨⟨rfl, rfl, rfl, by decide +kernel, rfl, by decide +kernel⟩, rfl, rfl, by decide +kernel, by decide +kernel⟩
theorem I_NoTicket (T : D0.Ok K h mg) : Ini P0 w K mg base "NoTicket" 1 ["number"] := by
  obtain ⟨fd, F, b, t⟩ := ini_of (P := P0) (w := w) (base := base) (d := q_NoTicket) (fn := ["number"]) (T.fn q_NoTicket mq_NoTicket).1 (T.fn q_NoTicket mq_NoTicket).2 rfl rfl (n_super T) topS T.opq (T.ex "NoTicket" (by decide +kernel)) (T.init "NoTicket" (by decide +kernel)) sx_NoTicket _ rfl rfl rfl (fun _ _ _ _ _ _ _ us hl => match us, hl with | [_, _], _ => rfl) rfl (fun X hS hN hK => by
    subst hK
    exact (pss_one (ps_ost (pv 0 (by rw [hN] <;> rfl) (by rw [hS]; exact Or.inl rfl)) (pv 1 (by rw [hN] <;> rfl) (by rw [hS]; exact Or.inl rfl)) (by rfl)))) (ini1 (T.ex "NoTicket" (by decide +kernel)) (T.fld ("NoTicket", "number") (by decide +kernel))) (by intro _; rfl) _ (by intro _; rfl)
  exact ⟨fd, _, F, b, t⟩
theorem sx_MoveOpen : SupTxt i_MoveOpen ["self", "tenant"] ["self", "tenant"] := ⟨⟨rfl, rfl, rfl, by decide +kernel, rfl, by decide +kernel⟩, rfl, rfl, by decide +kernel, by decide +kernel⟩
theorem I_MoveOpen (T : D0.Ok K h mg) : Ini P0 w K mg base "MoveOpen" 1 ["tenant"] := by
  obtain ⟨fd, F, b, t⟩ := ini_of (P := P0) (w := w) (base := base) (d := q_MoveOpen) (fn := ["tenant"]) (T.fn q_MoveOpen mq_MoveOpen).1 (T.fn q_MoveOpen mq_MoveOpen).2 rfl rfl (n_super T) topS T.opq (T.ex "MoveOpen" (by decide +kernel)) (T.init "MoveOpen" (by decide +kernel)) sx_MoveOpen _ rfl rfl rfl (fun _ _ _ _ _ _ _ us hl => match us, hl with | [_, _], _ => rfl) rfl (fun X hS hN hK => by
    subst hK
    exact (pss_one (ps_ost (pv 0 (by rw [hN] <;> rfl) (by rw [hS]; exact Or.inl rfl)) (pv 1 (by rw [hN] <;> rfl) (by rw [hS]; exact Or.inl rfl)) (by rfl)))) (ini1 (T.ex "MoveOpen" (by decide +kernel)) (T.fld ("MoveOpen", "tenant") (by decide +kernel))) (by intro _; rfl) _ (by intro _; rfl)
  exact ⟨fd, _, F, b, t⟩
theorem sx_NoMove : SupTxt i_NoMove ["self", "tenant"] ["self", "tenant"] := ⟨⟨rfl, rfl, rfl, by decide +kernel, rfl, by decide +kernel⟩, rfl, rfl, by decide +kernel, by decide +kernel⟩
theorem I_NoMove (T : D0.Ok K h mg) : Ini P0 w K mg base "NoMove" 1 ["tenant"] := by
  obtain ⟨fd, F, b, t⟩ := ini_of (P := P0) (w := w) (base := base) (d := q_NoMove) (fn := ["tenant"]) (T.fn q_NoMove mq_NoMove).1 (T.fn q_NoMove mq_NoMove).2 rfl rfl (n_super T) topS T.opq (T.ex "NoMove" (by decide +kernel)) (T.init "NoMove" (by decide +kernel)) sx_NoMove _ rfl rfl rfl (fun _ _ _ _ _ _ _ us hl => match us, hl with | [_, _], _ => rfl) rfl (fun X hS hN hK => by
    subst hK
    exact (pss_one (ps_ost (pv 0 (by rw [hN] <;> rfl) (by rw [hS]; exact Or.inl rfl)) (pv 1 (by rw [hN] <;> rfl) (by rw [hS]; exact Or.inl rfl)) (by rfl)))) (ini1 (T.ex "NoMove" (by decide +kernel)) (T.fld ("NoMove", "tenant") (by decide +kernel))) (by intro _; rfl) _ (by intro _; rfl)
  exact ⟨fd, _, F, b, t⟩
theorem sx_WrongPhase : SupTxt i_WrongPhase ["self", "phase"] ["self", "phase"] := ⟨⟨rfl, rfl, rfl, by decide +kernel, rfl, by decide +kernel⟩, rfl, rfl, by decide +kernel, by decide +kernel⟩
theorem I_WrongPhase (T : D0.Ok K h mg) : Ini P0 w K mg base "WrongPhase" 1 ["phase"] := by
  obtain ⟨fd, F, b, t⟩ := ini_of (P := P0) (w := w) (base := base) (d := q_WrongPhase) (fn := ["phase"]) (T.fn q_WrongPhase mq_WrongPhase).1 (T.fn q_WrongPhase mq_WrongPhase).2 rfl rfl (n_super T) topS T.opq (T.ex "WrongPhase" (by decide +kernel)) (T.init "WrongPhase" (by decide +kernel)) sx_WrongPhase _ rfl rfl rfl (fun _ _ _ _ _ _ _ us hl => match us, hl with | [_, _], _ => rfl) rfl (fun X hS hN hK => by
    subst hK
    exact (pss_one (ps_ost (pv 0 (by rw [hN] <;> rfl) (by rw [hS]; exact Or.inl rfl)) (pv 1 (by rw [hN] <;> rfl) (by rw [hS]; exact Or.inl rfl)) (by rfl)))) (ini1 (T.ex "WrongPhase" (by decide +kernel)) (T.fld ("WrongPhase", "phase") (by decide +kernel))) (by intro _; rfl) _ (by intro _; rfl)
  exact ⟨fd, _, F, b, t⟩
theorem sx_StillUsed : SupTxt i_StillUsed ["self", "name"] ["self", "name"] := ⟨⟨rfl, rfl, rfl, by decide +kernel, rfl, by decide +kernel⟩, rfl, rfl, by decide +kernel, by decide +kernel⟩
theorem I_StillUsed (T : D0.Ok K h mg) : Ini P0 w K mg base "StillUsed" 1 ["name"] := by
  obtain ⟨fd, F, b, t⟩ := ini_of (P := P0) (w := w) (base := base) (d := q_StillUsed) (fn := ["name"]) (T.fn q_StillUsed mq_StillUsed).1 (T.fn q_StillUsed mq_StillUsed).2 rfl rfl (n_super T) topS T.opq (T.ex "StillUsed" (by decide +kernel)) (T.init "StillUsed" (by decide +kernel)) sx_StillUsed _ rfl rfl rfl (fun _ _ _ _ _ _ _ us hl => match us, hl with | [_, _], _ => rfl) rfl (fun X hS hN hK => by
    subst hK
    exact (pss_one (ps_ost (pv 0 (by rw [hN] <;> rfl) (by rw [hS]; exact Or.inl rfl)) (pv 1 (by rw [hN] <;> rfl) (by rw [hS]; exact Or.inl rfl)) (by rfl)))) (ini1 (T.ex "StillUsed" (by decide +kernel)) (T.fld ("StillUsed", "name") (by decide +kernel))) (by intro _; rfl) _ (by intro _; rfl)
  exact ⟨fd, _, F, b, t⟩
def N_is_text : List Str := ["value", "char"]
theorem sc_is_text : FnScope N_is_text ["value"] (defScope s_is_text) := ⟨rfl, rfl, rfl, by decide +kernel, rfl, by decide +kernel, by decide +kernel⟩
noncomputable def m_is_text : MF := runB 2 (
  (sSeq (sIf (mOr (mNot (mTr (mIsi "str" (mVar 0)))) (mT (mOp vGt (mCB vLen (mCons (mVar 0) mNil)) (mC c_TEXT_MOST))))
  (sRet (mC (.bl false)))
  sNil)
  (sSeq (sFor (mIter (mVar 0)) (gN 1)
  (sIf (mT (mOp (vIn true) (mVar 1) (mC c_ALPHABET)))
  (sRet (mC (.bl false)))
  sNil))
  (sRet (mC (.bl true))))))
theorem D_is_text (T : D0.Ok K h mg) : Dep P0 w K mg base (cfgOf D0.exs K) "is_text" 1 1 m_is_text := by
  obtain ⟨fd, F⟩ := T.def_ (d := p_is_text) mp_is_text rfl
  exact ⟨⟨_, fd, ["value"], fnM F sc_is_text (fun cdv A outer s H E hr => 
  (cs_cons (cs_if (PW.pt (cw_or (ct_not (ct_truth (ce_isi (T := "str") (by decide) (by rfl) (n_isinstance T) (by rfl) (n_str T) bb_str (ce_var (pv 0))))) (pw_or1 (ct_cmp (op_vGt hr) (ce_callB cr_len (by rfl) (n_len T) bb_len (ca_cons (ce_var (pv 0)) ca_nil)) (ce_gint (g_TEXT_MOST T) (by rfl)) (nomark _)))))
  (cs_one (cs_ret ce_bl))
  cs_nil)
  (cs_cons (cs_for (passes_of rfl) rfl (ci_any (ce_var (pv 0))) (cg_name (i := 1) sc_is_text.nd rfl (Or.inl rfl))
  (cs_one (cs_if (ct_cmp (op_vNotIn hr) (ce_var (pv 1)) (ce_gstr (g_ALPHABET T) (by rfl)) (by rfl))
  (cs_one (cs_ret ce_bl))
  cs_nil)))
  (cs_one (cs_ret ce_bl))))), T.glo p_is_text mp_is_text, F.kp, F.binds (ps := ["value"]) fun _ _ _ _ _ _ us hl => match us, hl with | [_], _ => rfl⟩⟩
def N_is_value : List Str := ["kind", "value"]
theorem sc_is_value : FnScope N_is_value ["kind", "value"] (defScope s_is_value) := ⟨rfl, rfl, rfl, by decide +kernel, rfl, by decide +kernel, by decide +kernel⟩
noncomputable def m_is_value : MF := runB 2 (
  (sSeq (sIf (mT (mOp vEq (mVar 0) (mC (.str "flag"))))
  (sRet (mIsi "bool" (mVar 1)))
  sNil)
  (sSeq (sIf (mT (mOp vEq (mVar 0) (mC (.str "int"))))
  (sRet (mAndV (mIsi "int" (mVar 1)) (mAndV (mNotV (mIsi "bool" (mVar 1))) (mChain vLe vLe (mUn vNeg (mC c_INT_MOST)) (mVar 1) (mC c_INT_MOST)))))
  sNil)
  (sRet (mCall 1 m_is_text (mCons (mVar 1) mNil))))))
theorem D_is_value (T : D0.Ok K h mg) : Dep P0 w K mg base (cfgOf D0.exs K) "is_value" 2 2 m_is_value := by
  obtain ⟨fd, F⟩ := T.def_ (d := p_is_value) mp_is_value rfl
  exact ⟨⟨_, fd, ["kind", "value"], fnM F sc_is_value (fun cdv A outer s H E hr => 
  (cs_cons (cs_if (ct_cmp (op_vEq hr) (ce_var (pv 0)) ce_str (nomark _))
  (cs_one (cs_ret (ce_isi (T := "bool") (by decide) (by rfl) (n_isinstance T) (by rfl) (n_bool T) bb_bool (ce_var (pv 1)))))
  cs_nil)
  (cs_cons (cs_if (ct_cmp (op_vEq hr) (ce_var (pv 0)) ce_str (nomark _))
  (cs_one (cs_ret (ce_and (ce_isi (T := "int") (by decide) (by rfl) (n_isinstance T) (by rfl) (n_int T) bb_int (ce_var (pv 1))) (ce_and (ce_not (ce_isi (T := "bool") (by decide) (by rfl) (n_isinstance T) (by rfl) (n_bool T) bb_bool (ce_var (pv 1)))) (ce_one (ce_chain (op_vLe hr) (op_vLe hr) (ce_un un_vNeg (ce_gint (g_INT_MOST T) (by rfl))) (ce_var (pv 1)) (ce_gint (g_INT_MOST T) (by rfl))))))))
  cs_nil)
  (cs_one (cs_ret (ce_call ((D_is_text T).mono (by decide)) (takes_of rfl rfl rfl rfl) hr (by rfl) (ca_cons (ce_var (pv 1)) ca_nil))))))), T.glo p_is_value mp_is_value, F.kp, F.binds (ps := ["kind", "value"]) fun _ _ _ _ _ _ us hl => match us, hl with | [_, _], _ => rfl⟩⟩
def N_is_name : List Str := ["text", "char"]
theorem sc_is_name : FnScope N_is_name ["text"] (defScope s_is_name) := ⟨rfl, rfl, rfl, by decide +kernel, rfl, by decide +kernel, by decide +kernel⟩
noncomputable def m_is_name : MF := runB 2 (
  (sSeq (sIf (mOr (mNot (mT (mChain vLe vLe (mC (.int 1)) (mCB vLen (mCons (mVar 0) mNil)) (mC c_NAME_MOST)))) (mT (mOp (vIn true) (mOp vIx (mVar 0) (mC (.int 0))) (mC c_LETTERS))))
  (sRet (mC (.bl false)))
  sNil)
  (sSeq (sFor (mIter (mVar 0)) (gN 1)
  (sIf (mAnd (mT (mOp (vIn true) (mVar 1) (mC c_LETTERS))) (mT (mOp (vIn true) (mVar 1) (mC (.str "0123456789")))))
  (sRet (mC (.bl false)))
  sNil))
  (sRet (mC (.bl true))))))
theorem D_is_name (T : D0.Ok K h mg) : Dep P0 w K mg base (cfgOf D0.exs K) "is_name" 1 1 m_is_name := by
  obtain ⟨fd, F⟩ := T.def_ (d := p_is_name) mp_is_name rfl
  exact ⟨⟨_, fd, ["text"], fnM F sc_is_name (fun cdv A outer s H E hr => 
  (cs_cons (cs_if (PW.pt (cw_or (ct_not (ct_chain (op_vLe hr) (op_vLe hr) ce_int (ce_callB cr_len (by rfl) (n_len T) bb_len (ca_cons (ce_var (pv 0)) ca_nil)) (ce_gint (g_NAME_MOST T) (by rfl)))) (pw_or1 (ct_cmp (op_vNotIn hr) (ce_ix hr (ce_var (pv 0)) ce_int (fun _ _ => rfl)) (ce_gstr (g_LETTERS T) (by rfl)) (by rfl)))))
  (cs_one (cs_ret ce_bl))
  cs_nil)
  (cs_cons (cs_for (passes_of rfl) rfl (ci_any (ce_var (pv 0))) (cg_name (i := 1) sc_is_name.nd rfl (Or.inl rfl))
  (cs_one (cs_if (PW.pt (cw_and (ct_cmp (op_vNotIn hr) (ce_var (pv 1)) (ce_gstr (g_LETTERS T) (by rfl)) (by rfl)) (pw_and1 (ct_cmp (op_vNotIn hr) (ce_var (pv 1)) ce_str (by rfl)))))
  (cs_one (cs_ret ce_bl))
  cs_nil)))
  (cs_one (cs_ret ce_bl))))), T.glo p_is_name mp_is_name, F.kp, F.binds (ps := ["text"]) fun _ _ _ _ _ _ us hl => match us, hl with | [_], _ => rfl⟩⟩
def N_size_of : List Str := ["kind"]
theorem sc_size_of : FnScope N_size_of ["kind"] (defScope s_size_of) := ⟨rfl, rfl, rfl, by decide +kernel, rfl, by decide +kernel, by decide +kernel⟩
noncomputable def m_size_of : MF := runB 1 (
  (sSeq (sIf (mT (mOp vEq (mVar 0) (mC (.str "int"))))
  (sRet (mC c_INT_SIZE))
  sNil)
  (sSeq (sIf (mT (mOp vEq (mVar 0) (mC (.str "flag"))))
  (sRet (mC (.int 2)))
  sNil)
  (sRet (mC c_TEXT_SIZE)))))
theorem D_size_of (T : D0.Ok K h mg) : Dep P0 w K mg base (cfgOf D0.exs K) "size_of" 1 1 m_size_of := by
  obtain ⟨fd, F⟩ := T.def_ (d := p_size_of) mp_size_of rfl
  exact ⟨⟨_, fd, ["kind"], fnM F sc_size_of (fun cdv A outer s H E hr => 
  (cs_cons (cs_if (ct_cmp (op_vEq hr) (ce_var (pv 0)) ce_str (nomark _))
  (cs_one (cs_ret (ce_gint (g_INT_SIZE T) (by rfl))))
  cs_nil)
  (cs_cons (cs_if (ct_cmp (op_vEq hr) (ce_var (pv 0)) ce_str (nomark _))
  (cs_one (cs_ret ce_int))
  cs_nil)
  (cs_one (cs_ret (ce_gint (g_TEXT_SIZE T) (by rfl))))))), T.glo p_size_of mp_size_of, F.kp, F.binds (ps := ["kind"]) fun _ _ _ _ _ _ us hl => match us, hl with | [_], _ => rfl⟩⟩
def N_first_code : List Str := ["length", "code", "_"]
theorem sc_first_code : FnScope N_first_code ["length"] (defScope s_first_code) := ⟨rfl, rfl, rfl, by decide +kernel, rfl, by decide +kernel, by decide +kernel⟩
noncomputable def m_first_code : MF := runB 3 (
  (sSeq (sSet 1 (mC (.int 0)))
  (sSeq (sFor (mRange1 (mCons (mVar 0) mNil)) (gN 2)
  (sSet 1 (mOp vAdd (mOp vMul (mVar 1) (mC (.int 94))) (mC (.int 1)))))
  (sRet (mVar 1)))))
theorem D_first_code (T : D0.Ok K h mg) : Dep P0 w K mg base (cfgOf D0.exs K) "first_code" 1 1 m_first_code := by
  obtain ⟨fd, F⟩ := T.def_ (d := p_first_code) mp_first_code rfl
  exact ⟨⟨_, fd, ["length"], fnM F sc_first_code (fun cdv A outer s H E hr => 
  (cs_cons (cs_set (i := 1) sc_first_code.nd rfl (Or.inl rfl) ce_int)
  (cs_cons (cs_for (passes_of rfl) rfl (ci_range1 (by rfl) (n_range T) (ca_cons (ce_var (pv 0)) ca_nil)) (cg_name (i := 2) sc_first_code.nd rfl (Or.inl rfl))
  (cs_one (cs_set (i := 1) sc_first_code.nd rfl (Or.inl rfl) (ce_op op_vAdd (ce_op op_vMul (ce_var (pv 1)) ce_int) ce_int))))
  (cs_one (cs_ret (ce_var (pv 1))))))), T.glo p_first_code mp_first_code, F.kp, F.binds (ps := ["length"]) fun _ _ _ _ _ _ us hl => match us, hl with | [_], _ => rfl⟩⟩
def N_code_of : List Str := ["kind", "value", "code", "char"]
theorem sc_code_of : FnScope N_code_of ["kind", "value"] (defScope s_code_of) := ⟨rfl, rfl, rfl, by decide +kernel, rfl, by decide +kernel, by decide +kernel⟩
noncomputable def m_code_of : MF := runB 4 (
  (sSeq (sIf (mT (mOp vEq (mVar 0) (mC (.str "int"))))
  (sRet (mOp vAdd (mVar 1) (mC c_INT_MOST)))
  sNil)
  (sSeq (sIf (mT (mOp vEq (mVar 0) (mC (.str "flag"))))
  (sRet (mIf (mTr (mVar 1)) (mC (.int 1)) (mC (.int 0))))
  sNil)
  (sSeq (sSet 2 (mC (.int 0)))
  (sSeq (sFor (mIter (mVar 1)) (gN 3)
  (sSet 2 (mOp vAdd (mOp vMul (mVar 2) (mC (.int 94))) (mMeth "str" oIndex (mC c_ALPHABET) (mCons (mVar 3) mNil)))))
  (sRet (mOp vAdd (mCall 1 m_first_code (mCons (mCB vLen (mCons (mVar 1) mNil)) mNil)) (mVar 2))))))))
theorem D_code_of (T : D0.Ok K h mg) : Dep P0 w K mg base (cfgOf D0.exs K) "code_of" 2 2 m_code_of := by
  obtain ⟨fd, F⟩ := T.def_ (d := p_code_of) mp_code_of rfl
  exact ⟨⟨_, fd, ["kind", "value"], fnM F sc_code_of (fun cdv A outer s H E hr => 
  (cs_cons (cs_if (ct_cmp (op_vEq hr) (ce_var (pv 0)) ce_str (nomark _))
  (cs_one (cs_ret (ce_op op_vAdd (ce_var (pv 1)) (ce_gint (g_INT_MOST T) (by rfl)))))
  cs_nil)
  (cs_cons (cs_if (ct_cmp (op_vEq hr) (ce_var (pv 0)) ce_str (nomark _))
  (cs_one (cs_ret (ce_if (ct_truth (ce_var (pv 1))) ce_int ce_int)))
  cs_nil)
  (cs_cons (cs_set (i := 2) sc_code_of.nd rfl (Or.inl rfl) ce_int)
  (cs_cons (cs_for (passes_of rfl) rfl (ci_any (ce_var (pv 1))) (cg_name (i := 3) sc_code_of.nd rfl (Or.inl rfl))
  (cs_one (cs_set (i := 2) sc_code_of.nd rfl (Or.inl rfl) (ce_op op_vAdd (ce_op op_vMul (ce_var (pv 2)) ce_int) (ce_bm PySem.F.plainAttrs_str PySem.F.slot_str_index PySem.F.type_str_index mt_oIndex (ce_gstr (g_ALPHABET T) (by rfl)) (ca_cons (ce_var (pv 3)) ca_nil))))))
  (cs_one (cs_ret (ce_op op_vAdd (ce_call ((D_first_code T).mono (by decide)) (takes_of rfl rfl rfl rfl) hr (by rfl) (ca_cons (ce_callB cr_len (by rfl) (n_len T) bb_len (ca_cons (ce_var (pv 1)) ca_nil)) ca_nil)) (ce_var (pv 2)))))))))), T.glo p_code_of mp_code_of, F.kp, F.binds (ps := ["kind", "value"]) fun _ _ _ _ _ _ us hl => match us, hl with | [_, _], _ => rfl⟩⟩
def N_text_of : List Str := ["code", "length", "rest", "chars", "_"]
theorem sc_text_of : FnScope N_text_of ["code"] (defScope s_text_of) := ⟨rfl, rfl, rfl, by decide +kernel, rfl, by decide +kernel, by decide +kernel⟩
noncomputable def m_text_of : MF := runB 5 (
  (sSeq (sSet 1 (mC (.int 0)))
  (sSeq (sWhile 1000000 (mAnd (mT (mOp vLt (mVar 1) (mC c_TEXT_MOST))) (mT (mOp vLe (mCall 1 m_first_code (mCons (mOp vAdd (mVar 1) (mC (.int 1))) mNil)) (mVar 0))))
  (sSet 1 (mOp vAdd (mVar 1) (mC (.int 1)))))
  (sSeq (sSet 2 (mOp vSub (mVar 0) (mCall 1 m_first_code (mCons (mVar 1) mNil))))
  (sSeq (sSet 3 (mLst mNil))
  (sSeq (sFor (mRange1 (mCons (mVar 1) mNil)) (gN 4)
  (sSeq (sExpr (mMeth "list" oAppend (mVar 3) (mCons (mOp vIx (mC c_ALPHABET) (mOp vMod (mVar 2) (mC (.int 94)))) mNil)))
  (sSet 2 (mOp vFdiv (mVar 2) (mC (.int 94))))))
  (sRet (mJoinRev "" (mVar 3)))))))))
theorem D_text_of (T : D0.Ok K h mg) : Dep P0 w K mg base (cfgOf D0.exs K) "text_of" 2 1 m_text_of := by
  obtain ⟨fd, F⟩ := T.def_ (d := p_text_of) mp_text_of rfl
  exact ⟨⟨_, fd, ["code"], fnM F sc_text_of (fun cdv A outer s H E hr => 
  (cs_cons (cs_set (i := 1) sc_text_of.nd rfl (Or.inl rfl) ce_int)
  (cs_cons (cs_while (passes_of rfl) (PW.pt (cw_and (ct_cmp (op_vLt hr) (ce_var (pv 1)) (ce_gint (g_TEXT_MOST T) (by rfl)) (nomark _)) (pw_and1 (ct_cmp (op_vLe hr) (ce_call ((D_first_code T).mono (by decide)) (takes_of rfl rfl rfl rfl) hr (by rfl) (ca_cons (ce_op op_vAdd (ce_var (pv 1)) ce_int) ca_nil)) (ce_var (pv 0)) (nomark _)))))
  (cs_one (cs_set (i := 1) sc_text_of.nd rfl (Or.inl rfl) (ce_op op_vAdd (ce_var (pv 1)) ce_int))))
  (cs_cons (cs_set (i := 2) sc_text_of.nd rfl (Or.inl rfl) (ce_op op_vSub (ce_var (pv 0)) (ce_call ((D_first_code T).mono (by decide)) (takes_of rfl rfl rfl rfl) hr (by rfl) (ca_cons (ce_var (pv 1)) ca_nil))))
  (cs_cons (cs_set (i := 3) sc_text_of.nd rfl (Or.inl rfl) (ce_lst ca_nil))
  (cs_cons (cs_for (passes_of rfl) rfl (ci_range1 (by rfl) (n_range T) (ca_cons (ce_var (pv 1)) ca_nil)) (cg_name (i := 4) sc_text_of.nd rfl (Or.inl rfl))
  (cs_cons (cs_expr (ce_bm PySem.F.plainAttrs_list PySem.F.slot_list_append PySem.F.type_list_append mt_oAppend (ce_var (pv 3)) (ca_cons (ce_ix hr (ce_gstr (g_ALPHABET T) (by rfl)) (ce_op op_vMod (ce_var (pv 2)) ce_int) (fun _ _ => rfl)) ca_nil)))
  (cs_one (cs_set (i := 2) sc_text_of.nd rfl (Or.inl rfl) (ce_op op_vFdiv (ce_var (pv 2)) ce_int)))))
  (cs_one (cs_ret (ce_joinRev rfl (by rfl) (n_reversed T) (ce_var (pv 3))))))))))), T.glo p_text_of mp_text_of, F.kp, F.binds (ps := ["code"]) fun _ _ _ _ _ _ us hl => match us, hl with | [_], _ => rfl⟩⟩
def N_value_of : List Str := ["kind", "code"]
theorem sc_value_of : FnScope N_value_of ["kind", "code"] (defScope s_value_of) := ⟨rfl, rfl, rfl, by decide +kernel, rfl, by decide +kernel, by decide +kernel⟩
noncomputable def m_value_of : MF := runB 2 (
  (sSeq (sIf (mT (mOp vEq (mVar 0) (mC (.str "int"))))
  (sRet (mOp vSub (mVar 1) (mC c_INT_MOST)))
  sNil)
  (sSeq (sIf (mT (mOp vEq (mVar 0) (mC (.str "flag"))))
  (sRet (mOp vEq (mVar 1) (mC (.int 1))))
  sNil)
  (sRet (mCall 1 m_text_of (mCons (mVar 1) mNil))))))
theorem D_value_of (T : D0.Ok K h mg) : Dep P0 w K mg base (cfgOf D0.exs K) "value_of" 3 2 m_value_of := by
  obtain ⟨fd, F⟩ := T.def_ (d := p_value_of) mp_value_of rfl
  exact ⟨⟨_, fd, ["kind", "code"], fnM F sc_value_of (fun cdv A outer s H E hr => 
  (cs_cons (cs_if (ct_cmp (op_vEq hr) (ce_var (pv 0)) ce_str (nomark _))
  (cs_one (cs_ret (ce_op op_vSub (ce_var (pv 1)) (ce_gint (g_INT_MOST T) (by rfl)))))
  cs_nil)
  (cs_cons (cs_if (ct_cmp (op_vEq hr) (ce_var (pv 0)) ce_str (nomark _))
  (cs_one (cs_ret (ce_cmp (op_vEq hr) (ce_var (pv 1)) ce_int (nomark _))))
  cs_nil)
  (cs_one (cs_ret (ce_call ((D_text_of T).mono (by decide)) (takes_of rfl rfl rfl rfl) hr (by rfl) (ca_cons (ce_var (pv 1)) ca_nil))))))), T.glo p_value_of mp_value_of, F.kp, F.binds (ps := ["kind", "code"]) fun _ _ _ _ _ _ us hl => match us, hl with | [_, _], _ => rfl⟩⟩
def N_sealed : List Str := ["kind", "number", "value", "pad"]
theorem sc_sealed : FnScope N_sealed ["kind", "number", "value", "pad"] (defScope s_sealed) := ⟨rfl, rfl, rfl, by decide +kernel, rfl, by decide +kernel, by decide +kernel⟩
noncomputable def m_sealed : MF := runB 4 (
  (sRet (mTup (mCons (mC (.str "sealed")) (mCons (mVar 0) (mCons (mVar 1) (mCons (mOp vMod (mOp vAdd (mCall 2 m_code_of (mCons (mVar 0) (mCons (mVar 2) mNil))) (mVar 3)) (mCall 1 m_size_of (mCons (mVar 0) mNil))) mNil)))))))
theorem D_sealed (T : D0.Ok K h mg) : Dep P0 w K mg base (cfgOf D0.exs K) "sealed" 3 4 m_sealed := by
  obtain ⟨fd, F⟩ := T.def_ (d := p_sealed) mp_sealed rfl
  exact ⟨⟨_, fd, ["kind", "number", "value", "pad"], fnM F sc_sealed (fun cdv A outer s H E hr => 
  (cs_one (cs_ret (ce_tup (ca_cons ce_str (ca_cons (ce_var (pv 0)) (ca_cons (ce_var (pv 1)) (ca_cons (ce_op op_vMod (ce_op op_vAdd (ce_call ((D_code_of T).mono (by decide)) (takes_of rfl rfl rfl rfl) hr (by rfl) (ca_cons (ce_var (pv 0)) (ca_cons (ce_var (pv 2)) ca_nil))) (ce_var (pv 3))) (ce_call ((D_size_of T).mono (by decide)) (takes_of rfl rfl rfl rfl) hr (by rfl) (ca_cons (ce_var (pv 0)) ca_nil))) ca_nil)))))))), T.glo p_sealed mp_sealed, F.kp, F.binds (ps := ["kind", "number", "value", "pad"]) fun _ _ _ _ _ _ us hl => match us, hl with | [_, _, _, _], _ => rfl⟩⟩
def N_opened : List Str := ["cell", "pad", "kind"]
theorem sc_opened : FnScope N_opened ["cell", "pad"] (defScope s_opened) := ⟨rfl, rfl, rfl, by decide +kernel, rfl, by decide +kernel, by decide +kernel⟩
noncomputable def m_opened : MF := runB 3 (
  (sSeq (sSet 2 (mOp vIx (mVar 0) (mC (.int 1))))
  (sRet (mCall 2 m_value_of (mCons (mVar 2) (mCons (mOp vMod (mOp vSub (mOp vIx (mVar 0) (mC (.int 3))) (mVar 1)) (mCall 1 m_size_of (mCons (mVar 2) mNil))) mNil))))))
theorem D_opened (T : D0.Ok K h mg) : Dep P0 w K mg base (cfgOf D0.exs K) "opened" 4 2 m_opened := by
  obtain ⟨fd, F⟩ := T.def_ (d := p_opened) mp_opened rfl
  exact ⟨⟨_, fd, ["cell", "pad"], fnM F sc_opened (fun cdv A outer s H E hr => 
  (cs_cons (cs_set (i := 2) sc_opened.nd rfl (Or.inl rfl) (ce_ix hr (ce_var (pv 0)) ce_int (fun _ _ => rfl)))
  (cs_one (cs_ret (ce_call ((D_value_of T).mono (by decide)) (takes_of rfl rfl rfl rfl) hr (by rfl) (ca_cons (ce_var (pv 2)) (ca_cons (ce_op op_vMod (ce_op op_vSub (ce_ix hr (ce_var (pv 0)) ce_int (fun _ _ => rfl)) (ce_var (pv 1))) (ce_call ((D_size_of T).mono (by decide)) (takes_of rfl rfl rfl rfl) hr (by rfl) (ca_cons (ce_var (pv 2)) ca_nil))) ca_nil))))))), T.glo p_opened mp_opened, F.kp, F.binds (ps := ["cell", "pad"]) fun _ _ _ _ _ _ us hl => match us, hl with | [_, _], _ => rfl⟩⟩
def N_other_pad : List Str := ["kind", "value", "pad", "other"]
theorem sc_other_pad : FnScope N_other_pad ["kind", "value", "pad", "other"] (defScope s_other_pad) := ⟨rfl, rfl, rfl, by decide +kernel, rfl, by decide +kernel, by decide +kernel⟩
noncomputable def m_other_pad : MF := runB 4 (
  (sRet (mOp vMod (mOp vSub (mOp vAdd (mVar 2) (mCall 2 m_code_of (mCons (mVar 0) (mCons (mVar 1) mNil)))) (mCall 2 m_code_of (mCons (mVar 0) (mCons (mVar 3) mNil)))) (mCall 1 m_size_of (mCons (mVar 0) mNil)))))
theorem D_other_pad (T : D0.Ok K h mg) : Dep P0 w K mg base (cfgOf D0.exs K) "other_pad" 3 4 m_other_pad := by
  obtain ⟨fd, F⟩ := T.def_ (d := p_other_pad) mp_other_pad rfl
  exact ⟨⟨_, fd, ["kind", "value", "pad", "other"], fnM F sc_other_pad (fun cdv A outer s H E hr => 
  (cs_one (cs_ret (ce_op op_vMod (ce_op op_vSub (ce_op op_vAdd (ce_var (pv 2)) (ce_call ((D_code_of T).mono (by decide)) (takes_of rfl rfl rfl rfl) hr (by rfl) (ca_cons (ce_var (pv 0)) (ca_cons (ce_var (pv 1)) ca_nil)))) (ce_call ((D_code_of T).mono (by decide)) (takes_of rfl rfl rfl rfl) hr (by rfl) (ca_cons (ce_var (pv 0)) (ca_cons (ce_var (pv 3)) ca_nil)))) (ce_call ((D_size_of T).mono (by decide)) (takes_of rfl rfl rfl rfl) hr (by rfl) (ca_cons (ce_var (pv 0)) ca_nil)))))), T.glo p_other_pad mp_other_pad, F.kp, F.binds (ps := ["kind", "value", "pad", "other"]) fun _ _ _ _ _ _ us hl => match us, hl with | [_, _, _, _], _ => rfl⟩⟩
def N__law_size : List Str := ["kind"]
theorem sc__law_size : FnScope N__law_size ["kind"] (defScope s__law_size) := ⟨rfl, rfl, rfl, by decide +kernel, rfl, by decide +kernel, by decide +kernel⟩
noncomputable def m__law_size : MF := runB 1 (
  (sRet (mOp vIx (mDisp (mPs (mC (.str "int")) (mC (.int 2000000001)) (mPs (mC (.str "flag")) (mC (.int 2)) (mPs (mC (.str "text")) (mOp vFdiv (mOp vSub (mOp vPow (mC (.int 94)) (mC (.int 21))) (mC (.int 1))) (mC (.int 93))) mPs0)))) (mVar 0))))
theorem D__law_size (T : D0.Ok K h mg) : Dep P0 w K mg base (cfgOf D0.exs K) "_law_size" 1 1 m__law_size := by
  obtain ⟨fd, F⟩ := T.def_ (d := p__law_size) mp__law_size rfl
  exact ⟨⟨_, fd, ["kind"], fnM F sc__law_size (fun cdv A outer s H E hr => 
  (cs_one (cs_ret (ce_ix hr (ce_disp (cps_cons ce_str ce_int (cps_cons ce_str ce_int (cps_cons ce_str (ce_op op_vFdiv (ce_op op_vSub (ce_op op_vPow ce_int ce_int) ce_int) ce_int) cps_nil))) rfl rfl (by simp) (by decide)) (ce_var (pv 0)) (fun _ _ => rfl))))), T.glo p__law_size mp__law_size, F.kp, F.binds (ps := ["kind"]) fun _ _ _ _ _ _ us hl => match us, hl with | [_], _ => rfl⟩⟩
def N__law_mixed : List Str := ["number", "place", "first", "second", "third"]
theorem sc__law_mixed : FnScope N__law_mixed ["number", "place"] (defScope s__law_mixed) := ⟨rfl, rfl, rfl, by decide +kernel, rfl, by decide +kernel, by decide +kernel⟩
noncomputable def m__law_mixed : MF := runB 5 (
  (sSeq (sSet 2 (mOp vMod (mCB vInt (mCons (mOp vAdd (mOp vAdd (mOp vMul (mVar 0) (mC (.int 48271))) (mOp vMul (mVar 1) (mC (.int 69621)))) (mC (.int 11))) mNil)) (mC (.int 618970019642690137449562111))))
  (sSeq (sSet 3 (mOp vMod (mCB vInt (mCons (mOp vAdd (mOp vAdd (mOp vMul (mVar 2) (mVar 2)) (mOp vMul (mC (.int 7)) (mVar 2))) (mVar 1)) mNil)) (mC (.int 162259276829213363391578010288127))))
  (sSeq (sSet 4 (mOp vMod (mCB vInt (mCons (mOp vAdd (mOp vMul (mVar 3) (mVar 3)) (mVar 2)) mNil)) (mC (.int 618970019642690137449562111))))
  (sRet (mOp vAdd (mOp vMul (mVar 3) (mC (.int 618970019642690137449562111))) (mVar 4)))))))
theorem D__law_mixed (T : D0.Ok K h mg) : Dep P0 w K mg base (cfgOf D0.exs K) "_law_mixed" 1 2 m__law_mixed := by
  obtain ⟨fd, F⟩ := T.def_ (d := p__law_mixed) mp__law_mixed rfl
  exact ⟨⟨_, fd, ["number", "place"], fnM F sc__law_mixed (fun cdv A outer s H E hr => 
  (cs_cons (cs_set (i := 2) sc__law_mixed.nd rfl (Or.inl rfl) (ce_op op_vMod (ce_callTy cr_int (by rfl) (n_int T) bb_int (ca_cons (ce_op op_vAdd (ce_op op_vAdd (ce_op op_vMul (ce_var (pv 0)) ce_int) (ce_op op_vMul (ce_var (pv 1)) ce_int)) ce_int) ca_nil)) ce_int))
  (cs_cons (cs_set (i := 3) sc__law_mixed.nd rfl (Or.inl rfl) (ce_op op_vMod (ce_callTy cr_int (by rfl) (n_int T) bb_int (ca_cons (ce_op op_vAdd (ce_op op_vAdd (ce_op op_vMul (ce_var (pv 2)) (ce_var (pv 2))) (ce_op op_vMul ce_int (ce_var (pv 2)))) (ce_var (pv 1))) ca_nil)) ce_int))
  (cs_cons (cs_set (i := 4) sc__law_mixed.nd rfl (Or.inl rfl) (ce_op op_vMod (ce_callTy cr_int (by rfl) (n_int T) bb_int (ca_cons (ce_op op_vAdd (ce_op op_vMul (ce_var (pv 3)) (ce_var (pv 3))) (ce_var (pv 2))) ca_nil)) ce_int))
  (cs_one (cs_ret (ce_op op_vAdd (ce_op op_vMul (ce_var (pv 3)) ce_int) (ce_var (pv 4))))))))), T.glo p__law_mixed mp__law_mixed, F.kp, F.binds (ps := ["number", "place"]) fun _ _ _ _ _ _ us hl => match us, hl with | [_, _], _ => rfl⟩⟩
def N__law_rest : List Str := ["script", "place", "fills", "number"]
theorem sc__law_rest : FnScope N__law_rest ["script", "place", "fills"] (defScope s__law_rest) := ⟨rfl, rfl, rfl, by decide +kernel, rfl, by decide +kernel, by decide +kernel⟩
noncomputable def m__law_rest : MF := runB 4 (
  (sSeq (sSet 3 (mC (.int 0)))
  (sSeq (sIf (mT (mOp vGt (mCB vLen (mCons (mVar 0) mNil)) (mC (.int 0))))
  (sSet 3 (mCB vInt (mCons (mOp vIx (mVar 0) (mOp vMod (mCB vInt (mCons (mVar 1) mNil)) (mCB vLen (mCons (mVar 0) mNil)))) mNil)))
  sNil)
  (sSeq (sIf (mT (mOp vLt (mVar 3) (mC (.int 0))))
  (sSet 3 (mOp vSub (mC (.int 1)) (mOp vMul (mC (.int 2)) (mVar 3))))
  sNil)
  (sSeq (sIf (mAnd (mT (mOp vEq (mVar 2) (mC (.int 0)))) (mAnd (mT (mOp vLt (mVar 1) (mCB vLen (mCons (mVar 0) mNil)))) (mT (mOp vGe (mVar 3) (mOp vPow (mC (.int 10)) (mC (.int 18)))))))
  (sRet (mOp vSub (mVar 3) (mOp vPow (mC (.int 10)) (mC (.int 18)))))
  sNil)
  (sRet (mCall 2 m__law_mixed (mCons (mOp vAdd (mVar 3) (mOp vMul (mVar 2) (mC (.int 1000003)))) (mCons (mVar 1) mNil)))))))))
theorem D__law_rest (T : D0.Ok K h mg) : Dep P0 w K mg base (cfgOf D0.exs K) "_law_rest" 2 3 m__law_rest := by
  obtain ⟨fd, F⟩ := T.def_ (d := p__law_rest) mp__law_rest rfl
  exact ⟨⟨_, fd, ["script", "place", "fills"], fnM F sc__law_rest (fun cdv A outer s H E hr => 
  (cs_cons (cs_set (i := 3) sc__law_rest.nd rfl (Or.inl rfl) ce_int)
  (cs_cons (cs_if (ct_cmp (op_vGt hr) (ce_callB cr_len (by rfl) (n_len T) bb_len (ca_cons (ce_var (pv 0)) ca_nil)) ce_int (nomark _))
  (cs_one (cs_set (i := 3) sc__law_rest.nd rfl (Or.inl rfl) (ce_callTy cr_int (by rfl) (n_int T) bb_int (ca_cons (ce_ix hr (ce_var (pv 0)) (ce_op op_vMod (ce_callTy cr_int (by rfl) (n_int T) bb_int (ca_cons (ce_var (pv 1)) ca_nil)) (ce_callB cr_len (by rfl) (n_len T) bb_len (ca_cons (ce_var (pv 0)) ca_nil))) (fun _ _ => rfl)) ca_nil))))
  cs_nil)
  (cs_cons (cs_if (ct_cmp (op_vLt hr) (ce_var (pv 3)) ce_int (nomark _))
  (cs_one (cs_set (i := 3) sc__law_rest.nd rfl (Or.inl rfl) (ce_op op_vSub ce_int (ce_op op_vMul ce_int (ce_var (pv 3))))))
  cs_nil)
  (cs_cons (cs_if (PW.pt (cw_and (ct_cmp (op_vEq hr) (ce_var (pv 2)) ce_int (nomark _)) (cw_and (ct_cmp (op_vLt hr) (ce_var (pv 1)) (ce_callB cr_len (by rfl) (n_len T) bb_len (ca_cons (ce_var (pv 0)) ca_nil)) (nomark _)) (pw_and1 (ct_cmp (op_vGe hr) (ce_var (pv 3)) (ce_op op_vPow ce_int ce_int) (nomark _))))))
  (cs_one (cs_ret (ce_op op_vSub (ce_var (pv 3)) (ce_op op_vPow ce_int ce_int))))
  cs_nil)
  (cs_one (cs_ret (ce_call ((D__law_mixed T).mono (by decide)) (takes_of rfl rfl rfl rfl) hr (by rfl) (ca_cons (ce_op op_vAdd (ce_var (pv 3)) (ce_op op_vMul (ce_var (pv 2)) ce_int)) (ca_cons (ce_var (pv 1)) ca_nil)))))))))), T.glo p__law_rest mp__law_rest, F.kp, F.binds (ps := ["script", "place", "fills"]) fun _ _ _ _ _ _ us hl => match us, hl with | [_, _, _], _ => rfl⟩⟩
def N__law_draw : List Str := ["pool", "limit", "value"]
theorem sc__law_draw : FnScope N__law_draw ["pool", "limit"] (defScope s__law_draw) := ⟨rfl, rfl, rfl, by decide +kernel, rfl, by decide +kernel, by decide +kernel⟩
noncomputable def m__law_draw : MF := runB 3 (
  (sSeq (sIf (mT (mOp vLe (mOp vIx (mVar 0) (mC (.int 2))) (mC (.int 1))))
  (sSeq (sSub (mVar 0) (mC (.int 3)) (mOp vAdd (mOp vIx (mVar 0) (mC (.int 3))) (mC (.int 1))))
  (sSub (mVar 0) (mC (.int 2)) (mCall 3 m__law_rest (mCons (mOp vIx (mVar 0) (mC (.int 0))) (mCons (mOp vIx (mVar 0) (mC (.int 1))) (mCons (mOp vIx (mVar 0) (mC (.int 3))) mNil))))))
  sNil)
  (sSeq (sSet 2 (mOp vMod (mCB vInt (mCons (mOp vIx (mVar 0) (mC (.int 2))) mNil)) (mVar 1)))
  (sSeq (sSub (mVar 0) (mC (.int 2)) (mOp vFdiv (mCB vInt (mCons (mOp vIx (mVar 0) (mC (.int 2))) mNil)) (mVar 1)))
  (sRet (mVar 2))))))
theorem D__law_draw (T : D0.Ok K h mg) : Dep P0 w K mg base (cfgOf D0.exs K) "_law_draw" 3 2 m__law_draw := by
  obtain ⟨fd, F⟩ := T.def_ (d := p__law_draw) mp__law_draw rfl
  exact ⟨⟨_, fd, ["pool", "limit"], fnM F sc__law_draw (fun cdv A outer s H E hr => 
  (cs_cons (cs_if (ct_cmp (op_vLe hr) (ce_ix hr (ce_var (pv 0)) ce_int (fun _ _ => rfl)) ce_int (nomark _))
  (cs_cons (cs_sub (ce_op op_vAdd (ce_ix hr (ce_var (pv 0)) ce_int (fun _ _ => rfl)) ce_int) (ce_var (pv 0)) ce_int)
  (cs_one (cs_sub (ce_call ((D__law_rest T).mono (by decide)) (takes_of rfl rfl rfl rfl) hr (by rfl) (ca_cons (ce_ix hr (ce_var (pv 0)) ce_int (fun _ _ => rfl)) (ca_cons (ce_ix hr (ce_var (pv 0)) ce_int (fun _ _ => rfl)) (ca_cons (ce_ix hr (ce_var (pv 0)) ce_int (fun _ _ => rfl)) ca_nil)))) (ce_var (pv 0)) ce_int)))
  cs_nil)
  (cs_cons (cs_set (i := 2) sc__law_draw.nd rfl (Or.inl rfl) (ce_op op_vMod (ce_callTy cr_int (by rfl) (n_int T) bb_int (ca_cons (ce_ix hr (ce_var (pv 0)) ce_int (fun _ _ => rfl)) ca_nil)) (ce_var (pv 1))))
  (cs_cons (cs_sub (ce_op op_vFdiv (ce_callTy cr_int (by rfl) (n_int T) bb_int (ca_cons (ce_ix hr (ce_var (pv 0)) ce_int (fun _ _ => rfl)) ca_nil)) (ce_var (pv 1))) (ce_var (pv 0)) ce_int)
  (cs_one (cs_ret (ce_var (pv 2)))))))), T.glo p__law_draw mp__law_draw, F.kp, F.binds (ps := ["pool", "limit"]) fun _ _ _ _ _ _ us hl => match us, hl with | [_, _], _ => rfl⟩⟩
def N__law_same : List Str := ["actual", "due", "k", "key"]
theorem sc__law_same : FnScope N__law_same ["actual", "due"] (defScope s__law_same) := ⟨rfl, rfl, rfl, by decide +kernel, rfl, by decide +kernel, by decide +kernel⟩
noncomputable def m__law_same : Nat → MF
  | 0 => mStuck
  | n + 1 => runB 4 (
  (sSeq (sIf (mT (mOp vIs (mVar 1) (mC .non)))
  (sRet (mOp vIs (mVar 0) (mC .non)))
  sNil)
  (sSeq (sIf (mT (mOp vIs (mVar 1) (mC (.bl true))))
  (sRet (mOp vIs (mVar 0) (mC (.bl true))))
  sNil)
  (sSeq (sIf (mT (mOp vIs (mVar 1) (mC (.bl false))))
  (sRet (mOp vIs (mVar 0) (mC (.bl false))))
  sNil)
  (sSeq (sIf (mTr (mIsi "int" (mVar 1)))
  (sRet (mAndV (mIsi "int" (mVar 0)) (mAndV (mNotV (mIsi "bool" (mVar 0))) (mOp vEq (mVar 0) (mVar 1)))))
  sNil)
  (sSeq (sIf (mTr (mIsi "str" (mVar 1)))
  (sRet (mAndV (mIsi "str" (mVar 0)) (mOp vEq (mVar 0) (mVar 1))))
  sNil)
  (sSeq (sIf (mTr (mIsi "dict" (mVar 1)))
  (sSeq (sIf (mOr (mNot (mTr (mIsi "dict" (mVar 0)))) (mT (mOp vNe (mCB vLen (mCons (mVar 0) mNil)) (mCB vLen (mCons (mVar 1) mNil)))))
  (sRet (mC (.bl false)))
  sNil)
  (sSeq (sFor (mIter (mVar 1)) (gN 3)
  (sIf (mOr (mT (mOp (vIn true) (mVar 3) (mVar 0))) (mNot (mTr (mCall 2 (m__law_same n) (mCons (mOp vIx (mVar 0) (mVar 3)) (mCons (mOp vIx (mVar 1) (mVar 3)) mNil))))))
  (sRet (mC (.bl false)))
  sNil))
  (sRet (mC (.bl true)))))
  sNil)
  (sSeq (sIf (mOr (mT (mOp vNe (mIsi "tuple" (mVar 0)) (mIsi "tuple" (mVar 1)))) (mT (mOp vNe (mIsi "list" (mVar 0)) (mIsi "list" (mVar 1)))))
  (sRet (mC (.bl false)))
  sNil)
  (sSeq (sIf (mT (mOp vNe (mCB vLen (mCons (mVar 0) mNil)) (mCB vLen (mCons (mVar 1) mNil))))
  (sRet (mC (.bl false)))
  sNil)
  (sSeq (sFor (mRange1 (mCons (mCB vLen (mCons (mVar 1) mNil)) mNil)) (gN 2)
  (sIf (mNot (mTr (mCall 2 (m__law_same n) (mCons (mOp vIx (mVar 0) (mVar 2)) (mCons (mOp vIx (mVar 1) (mVar 2)) mNil)))))
  (sRet (mC (.bl false)))
  sNil))
  (sRet (mC (.bl true)))))))))))))
theorem D__law_same (T : D0.Ok K h mg) : ∀ n, Dep P0 w K mg base (cfgOf D0.exs K) "_law_same" (n + 0) 2 (m__law_same n)
  | 0 => by
    obtain ⟨fd, F⟩ := T.def_ (d := p__law_same) mp__law_same rfl
    exact dep_stuck rfl (T.glo p__law_same mp__law_same) F.kp (F.binds (ps := ["actual", "due"]) fun _ _ _ _ _ _ us hl => match us, hl with | [_, _], _ => rfl)
  | n + 1 => by
    obtain ⟨fd, F⟩ := T.def_ (d := p__law_same) mp__law_same rfl
    have ih := D__law_same T n
    exact ⟨⟨_, fd, ["actual", "due"], fnM F sc__law_same (fun cdv A outer s H E hr => 
  (cs_cons (cs_if (ct_cmp op_vIs (ce_var (pv 1)) ce_non (nomark _))
  (cs_one (cs_ret (ce_cmp op_vIs (ce_var (pv 0)) ce_non (nomark _))))
  cs_nil)
  (cs_cons (cs_if (ct_cmp op_vIs (ce_var (pv 1)) ce_bl (nomark _))
  (cs_one (cs_ret (ce_cmp op_vIs (ce_var (pv 0)) ce_bl (nomark _))))
  cs_nil)
  (cs_cons (cs_if (ct_cmp op_vIs (ce_var (pv 1)) ce_bl (nomark _))
  (cs_one (cs_ret (ce_cmp op_vIs (ce_var (pv 0)) ce_bl (nomark _))))
  cs_nil)
  (cs_cons (cs_if (ct_truth (ce_isi (T := "int") (by decide) (by rfl) (n_isinstance T) (by rfl) (n_int T) bb_int (ce_var (pv 1))))
  (cs_one (cs_ret (ce_and (ce_isi (T := "int") (by decide) (by rfl) (n_isinstance T) (by rfl) (n_int T) bb_int (ce_var (pv 0))) (ce_and (ce_not (ce_isi (T := "bool") (by decide) (by rfl) (n_isinstance T) (by rfl) (n_bool T) bb_bool (ce_var (pv 0)))) (ce_one (ce_cmp (op_vEq hr) (ce_var (pv 0)) (ce_var (pv 1)) (nomark _)))))))
  cs_nil)
  (cs_cons (cs_if (ct_truth (ce_isi (T := "str") (by decide) (by rfl) (n_isinstance T) (by rfl) (n_str T) bb_str (ce_var (pv 1))))
  (cs_one (cs_ret (ce_and (ce_isi (T := "str") (by decide) (by rfl) (n_isinstance T) (by rfl) (n_str T) bb_str (ce_var (pv 0))) (ce_one (ce_cmp (op_vEq hr) (ce_var (pv 0)) (ce_var (pv 1)) (nomark _))))))
  cs_nil)
  (cs_cons (cs_if (ct_truth (ce_isi (T := "dict") (by decide) (by rfl) (n_isinstance T) (by rfl) (n_dict T) bb_dict (ce_var (pv 1))))
  (cs_cons (cs_if (PW.pt (cw_or (ct_not (ct_truth (ce_isi (T := "dict") (by decide) (by rfl) (n_isinstance T) (by rfl) (n_dict T) bb_dict (ce_var (pv 0))))) (pw_or1 (ct_cmp (op_vNe hr) (ce_callB cr_len (by rfl) (n_len T) bb_len (ca_cons (ce_var (pv 0)) ca_nil)) (ce_callB cr_len (by rfl) (n_len T) bb_len (ca_cons (ce_var (pv 1)) ca_nil)) (nomark _)))))
  (cs_one (cs_ret ce_bl))
  cs_nil)
  (cs_cons (cs_for (passes_of rfl) rfl (ci_any (ce_var (pv 1))) (cg_name (i := 3) sc__law_same.nd rfl (Or.inl rfl))
  (cs_one (cs_if (PW.pt (cw_or (ct_cmp (op_vNotIn hr) (ce_var (pv 3)) (ce_var (pv 0)) (by rfl)) (pw_or1 (ct_not (ct_truth (ce_call ih (takes_of rfl rfl rfl rfl) hr (by rfl) (ca_cons (ce_ix hr (ce_var (pv 0)) (ce_var (pv 3)) (fun _ _ => rfl)) (ca_cons (ce_ix hr (ce_var (pv 1)) (ce_var (pv 3)) (fun _ _ => rfl)) ca_nil))))))))
  (cs_one (cs_ret ce_bl))
  cs_nil)))
  (cs_one (cs_ret ce_bl))))
  cs_nil)
  (cs_cons (cs_if (PW.pt (cw_or (ct_cmp (op_vNe hr) (ce_isi (T := "tuple") (by decide) (by rfl) (n_isinstance T) (by rfl) (n_tuple T) bb_tuple (ce_var (pv 0))) (ce_isi (T := "tuple") (by decide) (by rfl) (n_isinstance T) (by rfl) (n_tuple T) bb_tuple (ce_var (pv 1))) (nomark _)) (pw_or1 (ct_cmp (op_vNe hr) (ce_isi (T := "list") (by decide) (by rfl) (n_isinstance T) (by rfl) (n_list T) bb_list (ce_var (pv 0))) (ce_isi (T := "list") (by decide) (by rfl) (n_isinstance T) (by rfl) (n_list T) bb_list (ce_var (pv 1))) (nomark _)))))
  (cs_one (cs_ret ce_bl))
  cs_nil)
  (cs_cons (cs_if (ct_cmp (op_vNe hr) (ce_callB cr_len (by rfl) (n_len T) bb_len (ca_cons (ce_var (pv 0)) ca_nil)) (ce_callB cr_len (by rfl) (n_len T) bb_len (ca_cons (ce_var (pv 1)) ca_nil)) (nomark _))
  (cs_one (cs_ret ce_bl))
  cs_nil)
  (cs_cons (cs_for (passes_of rfl) rfl (ci_range1 (by rfl) (n_range T) (ca_cons (ce_callB cr_len (by rfl) (n_len T) bb_len (ca_cons (ce_var (pv 1)) ca_nil)) ca_nil)) (cg_name (i := 2) sc__law_same.nd rfl (Or.inl rfl))
  (cs_one (cs_if (ct_not (ct_truth (ce_call ih (takes_of rfl rfl rfl rfl) hr (by rfl) (ca_cons (ce_ix hr (ce_var (pv 0)) (ce_var (pv 2)) (fun _ _ => rfl)) (ca_cons (ce_ix hr (ce_var (pv 1)) (ce_var (pv 2)) (fun _ _ => rfl)) ca_nil)))))
  (cs_one (cs_ret ce_bl))
  cs_nil)))
  (cs_one (cs_ret ce_bl)))))))))))), T.glo p__law_same mp__law_same, F.kp, F.binds (ps := ["actual", "due"]) fun _ _ _ _ _ _ us hl => match us, hl with | [_, _], _ => rfl⟩⟩
def N__law_text : List Str := ["pool", "size", "chars", "k"]
theorem sc__law_text : FnScope N__law_text ["pool", "size"] (defScope s__law_text) := ⟨rfl, rfl, rfl, by decide +kernel, rfl, by decide +kernel, by decide +kernel⟩
noncomputable def m__law_text : MF := runB 4 (
  (sSeq (sSet 2 (mC (.str " !\"#$&'()*+,-./0123456789:;<=>?@ABCDEFGHIJKLMNOPQRSTUVWXYZ[\\]^_`")))
  (sSeq (sSet 2 (mOp vAdd (mVar 2) (mC (.str "abcdefghijklmnopqrstuvwxyz{|}~"))))
  (sRet (mMeth "str" oJoin (mC (.str "")) (mCons (mLc (mRange1 (mCons (mVar 1) mNil)) (gN 3) tYesM (mOp vIx (mVar 2) (mCall 2 m__law_draw (mCons (mVar 0) (mCons (mC (.int 94)) mNil)))) [3]) mNil))))))
theorem D__law_text (T : D0.Ok K h mg) : Dep P0 w K mg base (cfgOf D0.exs K) "_law_text" 4 2 m__law_text := by
  obtain ⟨fd, F⟩ := T.def_ (d := p__law_text) mp__law_text rfl
  exact ⟨⟨_, fd, ["pool", "size"], fnM F sc__law_text (fun cdv A outer s H E hr => 
  (cs_cons (cs_set (i := 2) sc__law_text.nd rfl (Or.inr rfl) ce_str)
  (cs_cons (cs_set (i := 2) sc__law_text.nd rfl (Or.inr rfl) (ce_op op_vAdd (ce_var (pv 2)) ce_str))
  (cs_one (cs_ret (ce_bm PySem.F.plainAttrs_str PySem.F.slot_str_join PySem.F.type_str_join mt_oJoin ce_str (ca_cons (ce_lc (own := [("k", 3)]) rfl sc__law_text.nd (ci_range1 (by rfl) (n_range T) (ca_cons (ce_var (pv 1)) ca_nil)) (blkOk_by (N := N__law_text) (sc := defScope s__law_text) (by decide +kernel)) (gName 3) (fun _ _ _ _ _ => pg_name (i := 3) sc__law_text.nd rfl (Or.inl rfl)) gN_ok (by decide) (fun _ _ _ _ _ => ct_yes) (fun _ _ _ _ _ => (ce_ix hr (ce_var (pv 2)) (ce_call ((D__law_draw T).mono (by decide)) takes0 hr (by rfl) (ca_cons (ce_var (pv 0)) (ca_cons ce_int ca_nil))) (fun _ _ => rfl)))) ca_nil))))))), T.glo p__law_text mp__law_text, F.kp, F.binds (ps := ["pool", "size"]) fun _ _ _ _ _ _ us hl => match us, hl with | [_, _], _ => rfl⟩⟩
def N__law_pick : List Str := ["pool", "options"]
theorem sc__law_pick : FnScope N__law_pick ["pool", "options"] (defScope s__law_pick) := ⟨rfl, rfl, rfl, by decide +kernel, rfl, by decide +kernel, by decide +kernel⟩
noncomputable def m__law_pick : MF := runB 2 (
  (sRet (mOp vIx (mVar 1) (mCall 2 m__law_draw (mCons (mVar 0) (mCons (mCB vLen (mCons (mVar 1) mNil)) mNil))))))
theorem D__law_pick (T : D0.Ok K h mg) : Dep P0 w K mg base (cfgOf D0.exs K) "_law_pick" 4 2 m__law_pick := by
  obtain ⟨fd, F⟩ := T.def_ (d := p__law_pick) mp__law_pick rfl
  exact ⟨⟨_, fd, ["pool", "options"], fnM F sc__law_pick (fun cdv A outer s H E hr => 
  (cs_one (cs_ret (ce_ix hr (ce_var (pv 1)) (ce_call ((D__law_draw T).mono (by decide)) (takes_of rfl rfl rfl rfl) hr (by rfl) (ca_cons (ce_var (pv 0)) (ca_cons (ce_callB cr_len (by rfl) (n_len T) bb_len (ca_cons (ce_var (pv 1)) ca_nil)) ca_nil))) (fun _ _ => rfl))))), T.glo p__law_pick mp__law_pick, F.kp, F.binds (ps := ["pool", "options"]) fun _ _ _ _ _ _ us hl => match us, hl with | [_, _], _ => rfl⟩⟩
def N__law_value : List Str := ["pool", "kind", "way"]
theorem sc__law_value : FnScope N__law_value ["pool", "kind"] (defScope s__law_value) := ⟨rfl, rfl, rfl, by decide +kernel, rfl, by decide +kernel, by decide +kernel⟩
noncomputable def m__law_value : MF := runB 3 (
  (sSeq (sSet 2 (mCall 2 m__law_draw (mCons (mVar 0) (mCons (mC (.int 6)) mNil))))
  (sSeq (sIf (mT (mOp vEq (mVar 1) (mC (.str "flag"))))
  (sRet (mOp vLt (mVar 2) (mC (.int 3))))
  sNil)
  (sSeq (sIf (mT (mOp vEq (mVar 1) (mC (.str "text"))))
  (sRet (mIf (mT (mOp vLt (mVar 2) (mC (.int 3)))) (mCall 2 m__law_text (mCons (mVar 0) (mCons (mCall 2 m__law_pick (mCons (mVar 0) (mCons (mLst (mCons (mC (.int 0)) (mCons (mC (.int 1)) (mCons (mC (.int 1)) (mCons (mC (.int 2)) (mCons (mC (.int 3)) (mCons (mC (.int 20)) mNil))))))) mNil))) mNil))) (mCall 2 m__law_pick (mCons (mVar 0) (mCons (mLst (mCons (mC (.str "")) (mCons (mC (.str "a")) (mCons (mC (.str "b")) (mCons (mC (.str "ab")) mNil))))) mNil)))))
  sNil)
  (sSeq (sIf (mT (mOp vLt (mVar 2) (mC (.int 4))))
  (sRet (mOp vSub (mCall 2 m__law_draw (mCons (mVar 0) (mCons (mC (.int 7)) mNil))) (mC (.int 2))))
  sNil)
  (sSeq (sIf (mT (mOp vLt (mVar 2) (mC (.int 5))))
  (sRet (mOp vSub (mCall 2 m__law_draw (mCons (mVar 0) (mCons (mC (.int 2000000001)) mNil))) (mC (.int 1000000000))))
  sNil)
  (sRet (mOp vMul (mOp vSub (mC (.int 1000000000)) (mCall 2 m__law_draw (mCons (mVar 0) (mCons (mC (.int 4)) mNil)))) (mOp vSub (mC (.int 1)) (mOp vMul (mC (.int 2)) (mCall 2 m__law_draw (mCons (mVar 0) (mCons (mC (.int 2)) mNil)))))))))))))
theorem D__law_value (T : D0.Ok K h mg) : Dep P0 w K mg base (cfgOf D0.exs K) "_law_value" 5 2 m__law_value := by
  obtain ⟨fd, F⟩ := T.def_ (d := p__law_value) mp__law_value rfl
  exact ⟨⟨_, fd, ["pool", "kind"], fnM F sc__law_value (fun cdv A outer s H E hr => 
  (cs_cons (cs_set (i := 2) sc__law_value.nd rfl (Or.inl rfl) (ce_call ((D__law_draw T).mono (by decide)) (takes_of rfl rfl rfl rfl) hr (by rfl) (ca_cons (ce_var (pv 0)) (ca_cons ce_int ca_nil))))
  (cs_cons (cs_if (ct_cmp (op_vEq hr) (ce_var (pv 1)) ce_str (nomark _))
  (cs_one (cs_ret (ce_cmp (op_vLt hr) (ce_var (pv 2)) ce_int (nomark _))))
  cs_nil)
  (cs_cons (cs_if (ct_cmp (op_vEq hr) (ce_var (pv 1)) ce_str (nomark _))
  (cs_one (cs_ret (ce_if (ct_cmp (op_vLt hr) (ce_var (pv 2)) ce_int (nomark _)) (ce_call ((D__law_text T).mono (by decide)) (takes_of rfl rfl rfl rfl) hr (by rfl) (ca_cons (ce_var (pv 0)) (ca_cons (ce_call ((D__law_pick T).mono (by decide)) (takes_of rfl rfl rfl rfl) hr (by rfl) (ca_cons (ce_var (pv 0)) (ca_cons (ce_lst (ca_cons ce_int (ca_cons ce_int (ca_cons ce_int (ca_cons ce_int (ca_cons ce_int (ca_cons ce_int ca_nil))))))) ca_nil))) ca_nil))) (ce_call ((D__law_pick T).mono (by decide)) (takes_of rfl rfl rfl rfl) hr (by rfl) (ca_cons (ce_var (pv 0)) (ca_cons (ce_lst (ca_cons ce_str (ca_cons ce_str (ca_cons ce_str (ca_cons ce_str ca_nil))))) ca_nil))))))
  cs_nil)
  (cs_cons (cs_if (ct_cmp (op_vLt hr) (ce_var (pv 2)) ce_int (nomark _))
  (cs_one (cs_ret (ce_op op_vSub (ce_call ((D__law_draw T).mono (by decide)) (takes_of rfl rfl rfl rfl) hr (by rfl) (ca_cons (ce_var (pv 0)) (ca_cons ce_int ca_nil))) ce_int)))
  cs_nil)
  (cs_cons (cs_if (ct_cmp (op_vLt hr) (ce_var (pv 2)) ce_int (nomark _))
  (cs_one (cs_ret (ce_op op_vSub (ce_call ((D__law_draw T).mono (by decide)) (takes_of rfl rfl rfl rfl) hr (by rfl) (ca_cons (ce_var (pv 0)) (ca_cons ce_int ca_nil))) ce_int)))
  cs_nil)
  (cs_one (cs_ret (ce_op op_vMul (ce_op op_vSub ce_int (ce_call ((D__law_draw T).mono (by decide)) (takes_of rfl rfl rfl rfl) hr (by rfl) (ca_cons (ce_var (pv 0)) (ca_cons ce_int ca_nil)))) (ce_op op_vSub ce_int (ce_op op_vMul ce_int (ce_call ((D__law_draw T).mono (by decide)) (takes_of rfl rfl rfl rfl) hr (by rfl) (ca_cons (ce_var (pv 0)) (ca_cons ce_int ca_nil)))))))))))))), T.glo p__law_value mp__law_value, F.kp, F.binds (ps := ["pool", "kind"]) fun _ _ _ _ _ _ us hl => match us, hl with | [_, _], _ => rfl⟩⟩
def N__law_alphabet : List Str := ["chars"]
theorem sc__law_alphabet : FnScope N__law_alphabet [] (defScope s__law_alphabet) := ⟨rfl, rfl, rfl, by decide +kernel, rfl, by decide +kernel, by decide +kernel⟩
noncomputable def m__law_alphabet : MF := runB 1 (
  (sSeq (sSet 0 (mC (.str " !\"#$&'()*+,-./0123456789:;<=>?@ABCDEFGHIJKLMNOPQRSTUVWXYZ[\\]^_`")))
  (sRet (mOp vAdd (mVar 0) (mC (.str "abcdefghijklmnopqrstuvwxyz{|}~"))))))
theorem D__law_alphabet (T : D0.Ok K h mg) : Dep P0 w K mg base (cfgOf D0.exs K) "_law_alphabet" 1 0 m__law_alphabet := by
  obtain ⟨fd, F⟩ := T.def_ (d := p__law_alphabet) mp__law_alphabet rfl
  exact ⟨⟨_, fd, [], fnM F sc__law_alphabet (fun cdv A outer s H E hr => 
  (cs_cons (cs_set (i := 0) sc__law_alphabet.nd rfl (Or.inl rfl) ce_str)
  (cs_one (cs_ret (ce_op op_vAdd (ce_var (pv 0)) ce_str))))), T.glo p__law_alphabet mp__law_alphabet, F.kp, F.binds (ps := []) fun _ _ _ _ _ _ us hl => match us, hl with | [], _ => rfl⟩⟩
def N__law_code : List Str := ["kind", "value", "code", "k"]
theorem sc__law_code : FnScope N__law_code ["kind", "value"] (defScope s__law_code) := ⟨rfl, rfl, rfl, by decide +kernel, rfl, by decide +kernel, by decide +kernel⟩
noncomputable def m__law_code : MF := runB 4 (
  (sSeq (sIf (mT (mOp vEq (mVar 0) (mC (.str "int"))))
  (sRet (mOp vAdd (mVar 1) (mC (.int 1000000000))))
  sNil)
  (sSeq (sIf (mT (mOp vEq (mVar 0) (mC (.str "flag"))))
  (sRet (mIf (mTr (mVar 1)) (mC (.int 1)) (mC (.int 0))))
  sNil)
  (sSeq (sSet 2 (mC (.int 0)))
  (sSeq (sFor (mRange1 (mCons (mCB vLen (mCons (mVar 1) mNil)) mNil)) (gN 3)
  (sSet 2 (mOp vAdd (mOp vAdd (mOp vMul (mVar 2) (mC (.int 94))) (mMeth "str" oFind (mCall 0 m__law_alphabet mNil) (mCons (mOp vIx (mVar 1) (mVar 3)) mNil))) (mC (.int 1)))))
  (sRet (mVar 2)))))))
theorem D__law_code (T : D0.Ok K h mg) : Dep P0 w K mg base (cfgOf D0.exs K) "_law_code" 2 2 m__law_code := by
  obtain ⟨fd, F⟩ := T.def_ (d := p__law_code) mp__law_code rfl
  exact ⟨⟨_, fd, ["kind", "value"], fnM F sc__law_code (fun cdv A outer s H E hr => 
  (cs_cons (cs_if (ct_cmp (op_vEq hr) (ce_var (pv 0)) ce_str (nomark _))
  (cs_one (cs_ret (ce_op op_vAdd (ce_var (pv 1)) ce_int)))
  cs_nil)
  (cs_cons (cs_if (ct_cmp (op_vEq hr) (ce_var (pv 0)) ce_str (nomark _))
  (cs_one (cs_ret (ce_if (ct_truth (ce_var (pv 1))) ce_int ce_int)))
  cs_nil)
  (cs_cons (cs_set (i := 2) sc__law_code.nd rfl (Or.inl rfl) ce_int)
  (cs_cons (cs_for (passes_of rfl) rfl (ci_range1 (by rfl) (n_range T) (ca_cons (ce_callB cr_len (by rfl) (n_len T) bb_len (ca_cons (ce_var (pv 1)) ca_nil)) ca_nil)) (cg_name (i := 3) sc__law_code.nd rfl (Or.inl rfl))
  (cs_one (cs_set (i := 2) sc__law_code.nd rfl (Or.inl rfl) (ce_op op_vAdd (ce_op op_vAdd (ce_op op_vMul (ce_var (pv 2)) ce_int) (ce_bm PySem.F.plainAttrs_str PySem.F.slot_str_find PySem.F.type_str_find mt_oFind (ce_call0 ((D__law_alphabet T).mono (by decide)) (takes_of rfl rfl rfl rfl) hr (by rfl)) (ca_cons (ce_ix hr (ce_var (pv 1)) (ce_var (pv 3)) (fun _ _ => rfl)) ca_nil))) ce_int))))
  (cs_one (cs_ret (ce_var (pv 2))))))))), T.glo p__law_code mp__law_code, F.kp, F.binds (ps := ["kind", "value"]) fun _ _ _ _ _ _ us hl => match us, hl with | [_, _], _ => rfl⟩⟩
def N__law_pool : List Str := ["script"]
theorem sc__law_pool : FnScope N__law_pool ["script"] (defScope s__law_pool) := ⟨rfl, rfl, rfl, by decide +kernel, rfl, by decide +kernel, by decide +kernel⟩
noncomputable def m__law_pool : MF := runB 1 (
  (sRet (mLst (mCons (mVar 0) (mCons (mC (.int 0)) (mCons (mCall 3 m__law_rest (mCons (mVar 0) (mCons (mC (.int 0)) (mCons (mC (.int 0)) mNil)))) (mCons (mC (.int 0)) mNil)))))))
theorem D__law_pool (T : D0.Ok K h mg) : Dep P0 w K mg base (cfgOf D0.exs K) "_law_pool" 3 1 m__law_pool := by
  obtain ⟨fd, F⟩ := T.def_ (d := p__law_pool) mp__law_pool rfl
  exact ⟨⟨_, fd, ["script"], fnM F sc__law_pool (fun cdv A outer s H E hr => 
  (cs_one (cs_ret (ce_lst (ca_cons (ce_var (pv 0)) (ca_cons ce_int (ca_cons (ce_call ((D__law_rest T).mono (by decide)) (takes_of rfl rfl rfl rfl) hr (by rfl) (ca_cons (ce_var (pv 0)) (ca_cons ce_int (ca_cons ce_int ca_nil)))) (ca_cons ce_int ca_nil)))))))), T.glo p__law_pool mp__law_pool, F.kp, F.binds (ps := ["script"]) fun _ _ _ _ _ _ us hl => match us, hl with | [_], _ => rfl⟩⟩
def N__law_next : List Str := ["pool"]
theorem sc__law_next : FnScope N__law_next ["pool"] (defScope s__law_next) := ⟨rfl, rfl, rfl, by decide +kernel, rfl, by decide +kernel, by decide +kernel⟩
noncomputable def m__law_next : MF := runB 1 (
  (sSeq (sSub (mVar 0) (mC (.int 1)) (mOp vAdd (mOp vIx (mVar 0) (mC (.int 1))) (mC (.int 1))))
  (sSeq (sSub (mVar 0) (mC (.int 2)) (mCall 3 m__law_rest (mCons (mOp vIx (mVar 0) (mC (.int 0))) (mCons (mOp vIx (mVar 0) (mC (.int 1))) (mCons (mC (.int 0)) mNil)))))
  (sSub (mVar 0) (mC (.int 3)) (mC (.int 0))))))
theorem D__law_next (T : D0.Ok K h mg) : Dep P0 w K mg base (cfgOf D0.exs K) "_law_next" 3 1 m__law_next := by
  obtain ⟨fd, F⟩ := T.def_ (d := p__law_next) mp__law_next rfl
  exact ⟨⟨_, fd, ["pool"], fnM F sc__law_next (fun cdv A outer s H E hr => 
  (cs_cons (cs_sub (ce_op op_vAdd (ce_ix hr (ce_var (pv 0)) ce_int (fun _ _ => rfl)) ce_int) (ce_var (pv 0)) ce_int)
  (cs_cons (cs_sub (ce_call ((D__law_rest T).mono (by decide)) (takes_of rfl rfl rfl rfl) hr (by rfl) (ca_cons (ce_ix hr (ce_var (pv 0)) ce_int (fun _ _ => rfl)) (ca_cons (ce_ix hr (ce_var (pv 0)) ce_int (fun _ _ => rfl)) (ca_cons ce_int ca_nil)))) (ce_var (pv 0)) ce_int)
  (cs_one (cs_sub ce_int (ce_var (pv 0)) ce_int))))), T.glo p__law_next mp__law_next, F.kp, F.binds (ps := ["pool"]) fun _ _ _ _ _ _ us hl => match us, hl with | [_], _ => rfl⟩⟩
def N__law_drawn_code : List Str := ["pool", "kind", "size", "way", "border", "k"]
theorem sc__law_drawn_code : FnScope N__law_drawn_code ["pool", "kind"] (defScope s__law_drawn_code) := ⟨rfl, rfl, rfl, by decide +kernel, rfl, by decide +kernel, by decide +kernel⟩
noncomputable def m__law_drawn_code : MF := runB 6 (
  (sSeq (sSet 2 (mCall 1 m__law_size (mCons (mVar 1) mNil)))
  (sSeq (sSet 3 (mCall 2 m__law_draw (mCons (mVar 0) (mCons (mC (.int 4)) mNil))))
  (sSeq (sIf (mT (mOp vEq (mVar 3) (mC (.int 0))))
  (sRet (mCall 2 m__law_draw (mCons (mVar 0) (mCons (mCB vMin (mCons (mVar 2) (mCons (mC (.int 100)) mNil))) mNil))))
  sNil)
  (sSeq (sIf (mT (mOp vEq (mVar 3) (mC (.int 1))))
  (sRet (mOp vSub (mOp vSub (mVar 2) (mC (.int 1))) (mCall 2 m__law_draw (mCons (mVar 0) (mCons (mCB vMin (mCons (mVar 2) (mCons (mC (.int 100)) mNil))) mNil)))))
  sNil)
  (sSeq (sIf (mAnd (mT (mOp vEq (mVar 3) (mC (.int 2)))) (mT (mOp vEq (mVar 1) (mC (.str "text")))))
  (sSeq (sSet 4 (mC (.int 0)))
  (sSeq (sFor (mRange1 (mCons (mCall 2 m__law_draw (mCons (mVar 0) (mCons (mC (.int 20)) mNil))) mNil)) (gN 5)
  (sSet 4 (mOp vAdd (mOp vMul (mVar 4) (mC (.int 94))) (mC (.int 1)))))
  (sRet (mCB vMax (mCons (mC (.int 0)) (mCons (mOp vAdd (mOp vSub (mVar 4) (mC (.int 1))) (mCall 2 m__law_draw (mCons (mVar 0) (mCons (mC (.int 3)) mNil)))) mNil))))))
  sNil)
  (sRet (mCall 2 m__law_draw (mCons (mVar 0) (mCons (mVar 2) mNil))))))))))
theorem D__law_drawn_code (T : D0.Ok K h mg) : Dep P0 w K mg base (cfgOf D0.exs K) "_law_drawn_code" 4 2 m__law_drawn_code := by
  obtain ⟨fd, F⟩ := T.def_ (d := p__law_drawn_code) mp__law_drawn_code rfl
  exact ⟨⟨_, fd, ["pool", "kind"], fnM F sc__law_drawn_code (fun cdv A outer s H E hr => 
  (cs_cons (cs_set (i := 2) sc__law_drawn_code.nd rfl (Or.inl rfl) (ce_call ((D__law_size T).mono (by decide)) (takes_of rfl rfl rfl rfl) hr (by rfl) (ca_cons (ce_var (pv 1)) ca_nil)))
  (cs_cons (cs_set (i := 3) sc__law_drawn_code.nd rfl (Or.inl rfl) (ce_call ((D__law_draw T).mono (by decide)) (takes_of rfl rfl rfl rfl) hr (by rfl) (ca_cons (ce_var (pv 0)) (ca_cons ce_int ca_nil))))
  (cs_cons (cs_if (ct_cmp (op_vEq hr) (ce_var (pv 3)) ce_int (nomark _))
  (cs_one (cs_ret (ce_call ((D__law_draw T).mono (by decide)) (takes_of rfl rfl rfl rfl) hr (by rfl) (ca_cons (ce_var (pv 0)) (ca_cons (ce_callB (cr_min rfl) (by rfl) (n_min T) bb_min (ca_cons (ce_var (pv 2)) (ca_cons ce_int ca_nil))) ca_nil)))))
  cs_nil)
  (cs_cons (cs_if (ct_cmp (op_vEq hr) (ce_var (pv 3)) ce_int (nomark _))
  (cs_one (cs_ret (ce_op op_vSub (ce_op op_vSub (ce_var (pv 2)) ce_int) (ce_call ((D__law_draw T).mono (by decide)) (takes_of rfl rfl rfl rfl) hr (by rfl) (ca_cons (ce_var (pv 0)) (ca_cons (ce_callB (cr_min rfl) (by rfl) (n_min T) bb_min (ca_cons (ce_var (pv 2)) (ca_cons ce_int ca_nil))) ca_nil))))))
  cs_nil)
  (cs_cons (cs_if (PW.pt (cw_and (ct_cmp (op_vEq hr) (ce_var (pv 3)) ce_int (nomark _)) (pw_and1 (ct_cmp (op_vEq hr) (ce_var (pv 1)) ce_str (nomark _)))))
  (cs_cons (cs_set (i := 4) sc__law_drawn_code.nd rfl (Or.inl rfl) ce_int)
  (cs_cons (cs_for (passes_of rfl) rfl (ci_range1 (by rfl) (n_range T) (ca_cons (ce_call ((D__law_draw T).mono (by decide)) (takes_of rfl rfl rfl rfl) hr (by rfl) (ca_cons (ce_var (pv 0)) (ca_cons ce_int ca_nil))) ca_nil)) (cg_name (i := 5) sc__law_drawn_code.nd rfl (Or.inl rfl))
  (cs_one (cs_set (i := 4) sc__law_drawn_code.nd rfl (Or.inl rfl) (ce_op op_vAdd (ce_op op_vMul (ce_var (pv 4)) ce_int) ce_int))))
  (cs_one (cs_ret (ce_callB (cr_max rfl) (by rfl) (n_max T) bb_max (ca_cons ce_int (ca_cons (ce_op op_vAdd (ce_op op_vSub (ce_var (pv 4)) ce_int) (ce_call ((D__law_draw T).mono (by decide)) (takes_of rfl rfl rfl rfl) hr (by rfl) (ca_cons (ce_var (pv 0)) (ca_cons ce_int ca_nil)))) ca_nil)))))))
  cs_nil)
  (cs_one (cs_ret (ce_call ((D__law_draw T).mono (by decide)) (takes_of rfl rfl rfl rfl) hr (by rfl) (ca_cons (ce_var (pv 0)) (ca_cons (ce_var (pv 2)) ca_nil))))))))))), T.glo p__law_drawn_code mp__law_drawn_code, F.kp, F.binds (ps := ["pool", "kind"]) fun _ _ _ _ _ _ us hl => match us, hl with | [_, _], _ => rfl⟩⟩
def N__law_codes_right : List Str := ["pool", "kind", "value", "code"]
theorem sc__law_codes_right : FnScope N__law_codes_right ["pool", "kind"] (defScope s__law_codes_right) := ⟨rfl, rfl, rfl, by decide +kernel, rfl, by decide +kernel, by decide +kernel⟩
noncomputable def m__law_codes_right : MF := runB 4 (
  (sSeq (sIf (mNot (mTr (mCall 2 (m__law_same 6) (mCons (mCall 1 m_size_of (mCons (mVar 1) mNil)) (mCons (mCall 1 m__law_size (mCons (mVar 1) mNil)) mNil)))))
  (sRet (mC (.bl false)))
  sNil)
  (sSeq (sSet 2 (mCall 2 m__law_value (mCons (mVar 0) (mCons (mVar 1) mNil))))
  (sSeq (sSet 3 (mCall 2 m__law_code (mCons (mVar 1) (mCons (mVar 2) mNil))))
  (sSeq (sIf (mOr (mNot (mTr (mCall 2 (m__law_same 6) (mCons (mCall 2 m_code_of (mCons (mVar 1) (mCons (mVar 2) mNil))) (mCons (mVar 3) mNil))))) (mNot (mTr (mCall 2 (m__law_same 6) (mCons (mCall 2 m_value_of (mCons (mVar 1) (mCons (mVar 3) mNil))) (mCons (mVar 2) mNil))))))
  (sRet (mC (.bl false)))
  sNil)
  (sSeq (sSet 3 (mCall 2 m__law_drawn_code (mCons (mVar 0) (mCons (mVar 1) mNil))))
  (sSeq (sSet 2 (mCall 2 m_value_of (mCons (mVar 1) (mCons (mVar 3) mNil))))
  (sSeq (sIf (mOr (mT (mOp vNe (mIsi "str" (mVar 2)) (mOp vEq (mVar 1) (mC (.str "text"))))) (mT (mOp vNe (mIsi "bool" (mVar 2)) (mOp vEq (mVar 1) (mC (.str "flag"))))))
  (sRet (mC (.bl false)))
  sNil)
  (sSeq (sIf (mOr (mNot (mTr (mIsi2 "str" "int" (mVar 2)))) (mT (mOp vNe (mCall 2 m__law_code (mCons (mVar 1) (mCons (mVar 2) mNil))) (mVar 3))))
  (sRet (mC (.bl false)))
  sNil)
  (sRet (mAndV (mOp vIs (mCall 2 m_is_value (mCons (mVar 1) (mCons (mVar 2) mNil))) (mC (.bl true))) (mCall 2 (m__law_same 6) (mCons (mCall 2 m_code_of (mCons (mVar 1) (mCons (mVar 2) mNil))) (mCons (mVar 3) mNil))))))))))))))
theorem D__law_codes_right (T : D0.Ok K h mg) : Dep P0 w K mg base (cfgOf D0.exs K) "_law_codes_right" 7 2 m__law_codes_right := by
  obtain ⟨fd, F⟩ := T.def_ (d := p__law_codes_right) mp__law_codes_right rfl
  exact ⟨⟨_, fd, ["pool", "kind"], fnM F sc__law_codes_right (fun cdv A outer s H E hr => 
  (cs_cons (cs_if (ct_not (ct_truth (ce_call ((D__law_same T 6).mono (by decide)) (takes_of rfl rfl rfl rfl) hr (by rfl) (ca_cons (ce_call ((D_size_of T).mono (by decide)) (takes_of rfl rfl rfl rfl) hr (by rfl) (ca_cons (ce_var (pv 1)) ca_nil)) (ca_cons (ce_call ((D__law_size T).mono (by decide)) (takes_of rfl rfl rfl rfl) hr (by rfl) (ca_cons (ce_var (pv 1)) ca_nil)) ca_nil)))))
  (cs_one (cs_ret ce_bl))
  cs_nil)
  (cs_cons (cs_set (i := 2) sc__law_codes_right.nd rfl (Or.inl rfl) (ce_call ((D__law_value T).mono (by decide)) (takes_of rfl rfl rfl rfl) hr (by rfl) (ca_cons (ce_var (pv 0)) (ca_cons (ce_var (pv 1)) ca_nil))))
  (cs_cons (cs_set (i := 3) sc__law_codes_right.nd rfl (Or.inl rfl) (ce_call ((D__law_code T).mono (by decide)) (takes_of rfl rfl rfl rfl) hr (by rfl) (ca_cons (ce_var (pv 1)) (ca_cons (ce_var (pv 2)) ca_nil))))
  (cs_cons (cs_if (PW.pt (cw_or (ct_not (ct_truth (ce_call ((D__law_same T 6).mono (by decide)) (takes_of rfl rfl rfl rfl) hr (by rfl) (ca_cons (ce_call ((D_code_of T).mono (by decide)) (takes_of rfl rfl rfl rfl) hr (by rfl) (ca_cons (ce_var (pv 1)) (ca_cons (ce_var (pv 2)) ca_nil))) (ca_cons (ce_var (pv 3)) ca_nil))))) (pw_or1 (ct_not (ct_truth (ce_call ((D__law_same T 6).mono (by decide)) (takes_of rfl rfl rfl rfl) hr (by rfl) (ca_cons (ce_call ((D_value_of T).mono (by decide)) (takes_of rfl rfl rfl rfl) hr (by rfl) (ca_cons (ce_var (pv 1)) (ca_cons (ce_var (pv 3)) ca_nil))) (ca_cons (ce_var (pv 2)) ca_nil))))))))
  (cs_one (cs_ret ce_bl))
  cs_nil)
  (cs_cons (cs_set (i := 3) sc__law_codes_right.nd rfl (Or.inl rfl) (ce_call ((D__law_drawn_code T).mono (by decide)) (takes_of rfl rfl rfl rfl) hr (by rfl) (ca_cons (ce_var (pv 0)) (ca_cons (ce_var (pv 1)) ca_nil))))
  (cs_cons (cs_set (i := 2) sc__law_codes_right.nd rfl (Or.inl rfl) (ce_call ((D_value_of T).mono (by decide)) (takes_of rfl rfl rfl rfl) hr (by rfl) (ca_cons (ce_var (pv 1)) (ca_cons (ce_var (pv 3)) ca_nil))))
  (cs_cons (cs_if (PW.pt (cw_or (ct_cmp (op_vNe hr) (ce_isi (T := "str") (by decide) (by rfl) (n_isinstance T) (by rfl) (n_str T) bb_str (ce_var (pv 2))) (ce_cmp (op_vEq hr) (ce_var (pv 1)) ce_str (nomark _)) (nomark _)) (pw_or1 (ct_cmp (op_vNe hr) (ce_isi (T := "bool") (by decide) (by rfl) (n_isinstance T) (by rfl) (n_bool T) bb_bool (ce_var (pv 2))) (ce_cmp (op_vEq hr) (ce_var (pv 1)) ce_str (nomark _)) (nomark _)))))
  (cs_one (cs_ret ce_bl))
  cs_nil)
  (cs_cons (cs_if (PW.pt (cw_or (ct_not (ct_truth (ce_isi2 (T := "str") (U := "int") (by decide) (by decide) (by rfl) (n_isinstance T) (by rfl) (n_str T) bb_str (by rfl) (n_int T) bb_int (ce_var (pv 2))))) (pw_or1 (ct_cmp (op_vNe hr) (ce_call ((D__law_code T).mono (by decide)) (takes_of rfl rfl rfl rfl) hr (by rfl) (ca_cons (ce_var (pv 1)) (ca_cons (ce_var (pv 2)) ca_nil))) (ce_var (pv 3)) (nomark _)))))
  (cs_one (cs_ret ce_bl))
  cs_nil)
  (cs_one (cs_ret (ce_and (ce_cmp op_vIs (ce_call ((D_is_value T).mono (by decide)) (takes_of rfl rfl rfl rfl) hr (by rfl) (ca_cons (ce_var (pv 1)) (ca_cons (ce_var (pv 2)) ca_nil))) ce_bl (nomark _)) (ce_one (ce_call ((D__law_same T 6).mono (by decide)) (takes_of rfl rfl rfl rfl) hr (by rfl) (ca_cons (ce_call ((D_code_of T).mono (by decide)) (takes_of rfl rfl rfl rfl) hr (by rfl) (ca_cons (ce_var (pv 1)) (ca_cons (ce_var (pv 2)) ca_nil))) (ca_cons (ce_var (pv 3)) ca_nil)))))))))))))))), T.glo p__law_codes_right mp__law_codes_right, F.kp, F.binds (ps := ["pool", "kind"]) fun _ _ _ _ _ _ us hl => match us, hl with | [_, _], _ => rfl⟩⟩
def N__law_cells_right : List Str := ["pool", "kind", "size", "number", "value", "secret", "cell", "other", "found", "due", "wrong"]
theorem sc__law_cells_right : FnScope N__law_cells_right ["pool", "kind"] (defScope s__law_cells_right) := ⟨rfl, rfl, rfl, by decide +kernel, rfl, by decide +kernel, by decide +kernel⟩
noncomputable def m__law_cells_right : MF := runB 11 (
  (sSeq (sSet 2 (mCall 1 m__law_size (mCons (mVar 1) mNil)))
  (sSeq (sSet 3 (mOp vAdd (mC (.int 1)) (mCall 2 m__law_draw (mCons (mVar 0) (mCons (mOp vPow (mC (.int 10)) (mC (.int 6))) mNil)))))
  (sSeq (sSet 4 (mCall 2 m__law_value (mCons (mVar 0) (mCons (mVar 1) mNil))))
  (sSeq (sSet 5 (mCall 2 m__law_draw (mCons (mVar 0) (mCons (mOp vAdd (mOp vPow (mC (.int 10)) (mC (.int 45))) (mC (.int 1))) mNil))))
  (sSeq (sSet 6 (mCall 4 m_sealed (mCons (mVar 1) (mCons (mVar 3) (mCons (mVar 4) (mCons (mVar 5) mNil))))))
  (sSeq (sIf (mNot (mTr (mCall 2 (m__law_same 6) (mCons (mVar 6) (mCons (mTup (mCons (mC (.str "sealed")) (mCons (mVar 1) (mCons (mVar 3) (mCons (mOp vMod (mCB vInt (mCons (mOp vAdd (mCall 2 m__law_code (mCons (mVar 1) (mCons (mVar 4) mNil))) (mVar 5)) mNil)) (mVar 2)) mNil))))) mNil)))))
  (sRet (mC (.bl false)))
  sNil)
  (sSeq (sIf (mOr (mNot (mTr (mCall 2 (m__law_same 6) (mCons (mCall 2 m_opened (mCons (mVar 6) (mCons (mVar 5) mNil))) (mCons (mVar 4) mNil))))) (mNot (mTr (mCall 2 (m__law_same 6) (mCons (mCall 2 m_opened (mCons (mVar 6) (mCons (mOp vMod (mCB vInt (mCons (mVar 5) mNil)) (mVar 2)) mNil))) (mCons (mVar 4) mNil))))))
  (sRet (mC (.bl false)))
  sNil)
  (sSeq (sSet 7 (mCall 2 m__law_value (mCons (mVar 0) (mCons (mVar 1) mNil))))
  (sSeq (sSet 8 (mCall 4 m_other_pad (mCons (mVar 1) (mCons (mVar 4) (mCons (mVar 5) (mCons (mVar 7) mNil))))))
  (sSeq (sSet 9 (mOp vMod (mCB vInt (mCons (mOp vSub (mOp vAdd (mVar 5) (mCall 2 m__law_code (mCons (mVar 1) (mCons (mVar 4) mNil)))) (mCall 2 m__law_code (mCons (mVar 1) (mCons (mVar 7) mNil)))) mNil)) (mVar 2)))
  (sSeq (sIf (mOr (mNot (mTr (mCall 2 (m__law_same 6) (mCons (mVar 8) (mCons (mVar 9) mNil))))) (mNot (mTr (mCall 2 (m__law_same 6) (mCons (mCall 4 m_sealed (mCons (mVar 1) (mCons (mVar 3) (mCons (mVar 7) (mCons (mVar 8) mNil))))) (mCons (mVar 6) mNil))))))
  (sRet (mC (.bl false)))
  sNil)
  (sSeq (sSet 10 (mOp vMod (mCB vInt (mCons (mOp vAdd (mOp vAdd (mVar 8) (mC (.int 1))) (mCall 2 m__law_draw (mCons (mVar 0) (mCons (mOp vSub (mVar 2) (mC (.int 1))) mNil)))) mNil)) (mVar 2)))
  (sRet (mOp vNe (mOp vIx (mCall 4 m_sealed (mCons (mVar 1) (mCons (mVar 3) (mCons (mVar 7) (mCons (mVar 10) mNil))))) (mC (.int 3))) (mOp vIx (mVar 6) (mC (.int 3))))))))))))))))))
theorem D__law_cells_right (T : D0.Ok K h mg) : Dep P0 w K mg base (cfgOf D0.exs K) "_law_cells_right" 7 2 m__law_cells_right := by
  obtain ⟨fd, F⟩ := T.def_ (d := p__law_cells_right) mp__law_cells_right rfl
  exact ⟨⟨_, fd, ["pool", "kind"], fnM F sc__law_cells_right (fun cdv A outer s H E hr => 
  (cs_cons (cs_set (i := 2) sc__law_cells_right.nd rfl (Or.inl rfl) (ce_call ((D__law_size T).mono (by decide)) (takes_of rfl rfl rfl rfl) hr (by rfl) (ca_cons (ce_var (pv 1)) ca_nil)))
  (cs_cons (cs_set (i := 3) sc__law_cells_right.nd rfl (Or.inl rfl) (ce_op op_vAdd ce_int (ce_call ((D__law_draw T).mono (by decide)) (takes_of rfl rfl rfl rfl) hr (by rfl) (ca_cons (ce_var (pv 0)) (ca_cons (ce_op op_vPow ce_int ce_int) ca_nil)))))
  (cs_cons (cs_set (i := 4) sc__law_cells_right.nd rfl (Or.inl rfl) (ce_call ((D__law_value T).mono (by decide)) (takes_of rfl rfl rfl rfl) hr (by rfl) (ca_cons (ce_var (pv 0)) (ca_cons (ce_var (pv 1)) ca_nil))))
  (cs_cons (cs_set (i := 5) sc__law_cells_right.nd rfl (Or.inl rfl) (ce_call ((D__law_draw T).mono (by decide)) (takes_of rfl rfl rfl rfl) hr (by rfl) (ca_cons (ce_var (pv 0)) (ca_cons (ce_op op_vAdd (ce_op op_vPow ce_int ce_int) ce_int) ca_nil))))
  (cs_cons (cs_set (i := 6) sc__law_cells_right.nd rfl (Or.inl rfl) (ce_call ((D_sealed T).mono (by decide)) (takes_of rfl rfl rfl rfl) hr (by rfl) (ca_cons (ce_var (pv 1)) (ca_cons (ce_var (pv 3)) (ca_cons (ce_var (pv 4)) (ca_cons (ce_var (pv 5)) ca_nil))))))
  (cs_cons (cs_if (ct_not (ct_truth (ce_call ((D__law_same T 6).mono (by decide)) (takes_of rfl rfl rfl rfl) hr (by rfl) (ca_cons (ce_var (pv 6)) (ca_cons (ce_tup (ca_cons ce_str (ca_cons (ce_var (pv 1)) (ca_cons (ce_var (pv 3)) (ca_cons (ce_op op_vMod (ce_callTy cr_int (by rfl) (n_int T) bb_int (ca_cons (ce_op op_vAdd (ce_call ((D__law_code T).mono (by decide)) (takes_of rfl rfl rfl rfl) hr (by rfl) (ca_cons (ce_var (pv 1)) (ca_cons (ce_var (pv 4)) ca_nil))) (ce_var (pv 5))) ca_nil)) (ce_var (pv 2))) ca_nil))))) ca_nil)))))
  (cs_one (cs_ret ce_bl))
  cs_nil)
  (cs_cons (cs_if (PW.pt (cw_or (ct_not (ct_truth (ce_call ((D__law_same T 6).mono (by decide)) (takes_of rfl rfl rfl rfl) hr (by rfl) (ca_cons (ce_call ((D_opened T).mono (by decide)) (takes_of rfl rfl rfl rfl) hr (by rfl) (ca_cons (ce_var (pv 6)) (ca_cons (ce_var (pv 5)) ca_nil))) (ca_cons (ce_var (pv 4)) ca_nil))))) (pw_or1 (ct_not (ct_truth (ce_call ((D__law_same T 6).mono (by decide)) (takes_of rfl rfl rfl rfl) hr (by rfl) (ca_cons (ce_call ((D_opened T).mono (by decide)) (takes_of rfl rfl rfl rfl) hr (by rfl) (ca_cons (ce_var (pv 6)) (ca_cons (ce_op op_vMod (ce_callTy cr_int (by rfl) (n_int T) bb_int (ca_cons (ce_var (pv 5)) ca_nil)) (ce_var (pv 2))) ca_nil))) (ca_cons (ce_var (pv 4)) ca_nil))))))))
  (cs_one (cs_ret ce_bl))
  cs_nil)
  (cs_cons (cs_set (i := 7) sc__law_cells_right.nd rfl (Or.inl rfl) (ce_call ((D__law_value T).mono (by decide)) (takes_of rfl rfl rfl rfl) hr (by rfl) (ca_cons (ce_var (pv 0)) (ca_cons (ce_var (pv 1)) ca_nil))))
  (cs_cons (cs_set (i := 8) sc__law_cells_right.nd rfl (Or.inl rfl) (ce_call ((D_other_pad T).mono (by decide)) (takes_of rfl rfl rfl rfl) hr (by rfl) (ca_cons (ce_var (pv 1)) (ca_cons (ce_var (pv 4)) (ca_cons (ce_var (pv 5)) (ca_cons (ce_var (pv 7)) ca_nil))))))
  (cs_cons (cs_set (i := 9) sc__law_cells_right.nd rfl (Or.inl rfl) (ce_op op_vMod (ce_callTy cr_int (by rfl) (n_int T) bb_int (ca_cons (ce_op op_vSub (ce_op op_vAdd (ce_var (pv 5)) (ce_call ((D__law_code T).mono (by decide)) (takes_of rfl rfl rfl rfl) hr (by rfl) (ca_cons (ce_var (pv 1)) (ca_cons (ce_var (pv 4)) ca_nil)))) (ce_call ((D__law_code T).mono (by decide)) (takes_of rfl rfl rfl rfl) hr (by rfl) (ca_cons (ce_var (pv 1)) (ca_cons (ce_var (pv 7)) ca_nil)))) ca_nil)) (ce_var (pv 2))))
  (cs_cons (cs_if (PW.pt (cw_or (ct_not (ct_truth (ce_call ((D__law_same T 6).mono (by decide)) (takes_of rfl rfl rfl rfl) hr (by rfl) (ca_cons (ce_var (pv 8)) (ca_cons (ce_var (pv 9)) ca_nil))))) (pw_or1 (ct_not (ct_truth (ce_call ((D__law_same T 6).mono (by decide)) (takes_of rfl rfl rfl rfl) hr (by rfl) (ca_cons (ce_call ((D_sealed T).mono (by decide)) (takes_of rfl rfl rfl rfl) hr (by rfl) (ca_cons (ce_var (pv 1)) (ca_cons (ce_var (pv 3)) (ca_cons (ce_var (pv 7)) (ca_cons (ce_var (pv 8)) ca_nil))))) (ca_cons (ce_var (pv 6)) ca_nil))))))))
  (cs_one (cs_ret ce_bl))
  cs_nil)
  (cs_cons (cs_set (i := 10) sc__law_cells_right.nd rfl (Or.inl rfl) (ce_op op_vMod (ce_callTy cr_int (by rfl) (n_int T) bb_int (ca_cons (ce_op op_vAdd (ce_op op_vAdd (ce_var (pv 8)) ce_int) (ce_call ((D__law_draw T).mono (by decide)) (takes_of rfl rfl rfl rfl) hr (by rfl) (ca_cons (ce_var (pv 0)) (ca_cons (ce_op op_vSub (ce_var (pv 2)) ce_int) ca_nil)))) ca_nil)) (ce_var (pv 2))))
  (cs_one (cs_ret (ce_cmp (op_vNe hr) (ce_ix hr (ce_call ((D_sealed T).mono (by decide)) (takes_of rfl rfl rfl rfl) hr (by rfl) (ca_cons (ce_var (pv 1)) (ca_cons (ce_var (pv 3)) (ca_cons (ce_var (pv 7)) (ca_cons (ce_var (pv 10)) ca_nil))))) ce_int (fun _ _ => rfl)) (ce_ix hr (ce_var (pv 6)) ce_int (fun _ _ => rfl)) (nomark _))))))))))))))))), T.glo p__law_cells_right mp__law_cells_right, F.kp, F.binds (ps := ["pool", "kind"]) fun _ _ _ _ _ _ us hl => match us, hl with | [_, _], _ => rfl⟩⟩
def N__law_near : List Str := ["pool", "edge", "text", "place", "strange", "first"]
theorem sc__law_near : FnScope N__law_near ["pool"] (defScope s__law_near) := ⟨rfl, rfl, rfl, by decide +kernel, rfl, by decide +kernel, by decide +kernel⟩
noncomputable def m__law_near : MF := runB 6 (
  (sSeq (sSet 1 (mC (.int 1000000000)))
  (sSeq (sSet 2 (mCall 2 m__law_text (mCons (mVar 0) (mCons (mCall 2 m__law_pick (mCons (mVar 0) (mCons (mLst (mCons (mC (.int 0)) (mCons (mC (.int 1)) (mCons (mC (.int 5)) (mCons (mC (.int 19)) (mCons (mC (.int 20)) (mCons (mC (.int 21)) mNil))))))) mNil))) mNil))))
  (sSeq (sSet 3 (mCall 2 m__law_draw (mCons (mVar 0) (mCons (mOp vAdd (mCB vLen (mCons (mVar 2) mNil)) (mC (.int 1))) mNil))))
  (sSeq (sSet 4 (mCall 2 m__law_pick (mCons (mVar 0) (mCons (mLst (mCons (mC (.str "\n")) (mCons (mC (.str "\t")) mNil))) mNil))))
  (sSeq (sSet 5 (mLst (mCons (mVar 2) (mCons (mOp vAdd (mOp vAdd (mSlice (mVar 2) mNoPart (mPart (mVar 3))) (mVar 4)) (mSlice (mVar 2) (mPart (mVar 3)) mNoPart)) (mCons (mVar 1) (mCons (mOp vAdd (mVar 1) (mC (.int 1))) (mCons (mUn vNeg (mVar 1)) (mCons (mOp vSub (mUn vNeg (mVar 1)) (mC (.int 1))) (mCons (mC (.int 0)) (mCons (mC (.int 1)) (mCons (mC (.bl true)) (mCons (mC (.bl false)) mNil))))))))))))
  (sRet (mOp vAdd (mVar 5) (mLst (mCons (mC .non) (mCons (mTup mNil) (mCons (mTup (mCons (mC (.int 1)) mNil)) (mCons (mLst mNil) (mCons (mCall 2 m__law_draw (mCons (mVar 0) (mCons (mOp vPow (mC (.int 10)) (mC (.int 20))) mNil))) (mCons (mC (.str "0")) (mCons (mC (.str "")) mNil))))))))))))))))
theorem D__law_near (T : D0.Ok K h mg) : Dep P0 w K mg base (cfgOf D0.exs K) "_law_near" 5 1 m__law_near := by
  obtain ⟨fd, F⟩ := T.def_ (d := p__law_near) mp__law_near rfl
  exact ⟨⟨_, fd, ["pool"], fnM F sc__law_near (fun cdv A outer s H E hr => 
  (cs_cons (cs_set (i := 1) sc__law_near.nd rfl (Or.inl rfl) ce_int)
  (cs_cons (cs_set (i := 2) sc__law_near.nd rfl (Or.inl rfl) (ce_call ((D__law_text T).mono (by decide)) (takes_of rfl rfl rfl rfl) hr (by rfl) (ca_cons (ce_var (pv 0)) (ca_cons (ce_call ((D__law_pick T).mono (by decide)) (takes_of rfl rfl rfl rfl) hr (by rfl) (ca_cons (ce_var (pv 0)) (ca_cons (ce_lst (ca_cons ce_int (ca_cons ce_int (ca_cons ce_int (ca_cons ce_int (ca_cons ce_int (ca_cons ce_int ca_nil))))))) ca_nil))) ca_nil))))
  (cs_cons (cs_set (i := 3) sc__law_near.nd rfl (Or.inl rfl) (ce_call ((D__law_draw T).mono (by decide)) (takes_of rfl rfl rfl rfl) hr (by rfl) (ca_cons (ce_var (pv 0)) (ca_cons (ce_op op_vAdd (ce_callB cr_len (by rfl) (n_len T) bb_len (ca_cons (ce_var (pv 2)) ca_nil)) ce_int) ca_nil))))
  (cs_cons (cs_set (i := 4) sc__law_near.nd rfl (Or.inl rfl) (ce_call ((D__law_pick T).mono (by decide)) (takes_of rfl rfl rfl rfl) hr (by rfl) (ca_cons (ce_var (pv 0)) (ca_cons (ce_lst (ca_cons ce_str (ca_cons ce_str ca_nil))) ca_nil))))
  (cs_cons (cs_set (i := 5) sc__law_near.nd rfl (Or.inl rfl) (ce_lst (ca_cons (ce_var (pv 2)) (ca_cons (ce_op op_vAdd (ce_op op_vAdd (ce_slice (ce_var (pv 2)) co_none (co_some (ce_var (pv 3)))) (ce_var (pv 4))) (ce_slice (ce_var (pv 2)) (co_some (ce_var (pv 3))) co_none)) (ca_cons (ce_var (pv 1)) (ca_cons (ce_op op_vAdd (ce_var (pv 1)) ce_int) (ca_cons (ce_un un_vNeg (ce_var (pv 1))) (ca_cons (ce_op op_vSub (ce_un un_vNeg (ce_var (pv 1))) ce_int) (ca_cons ce_int (ca_cons ce_int (ca_cons ce_bl (ca_cons ce_bl ca_nil))))))))))))
  (cs_one (cs_ret (ce_op op_vAdd (ce_var (pv 5)) (ce_lst (ca_cons ce_non (ca_cons (ce_tup ca_nil) (ca_cons (ce_tup (ca_cons ce_int ca_nil)) (ca_cons (ce_lst ca_nil) (ca_cons (ce_call ((D__law_draw T).mono (by decide)) (takes_of rfl rfl rfl rfl) hr (by rfl) (ca_cons (ce_var (pv 0)) (ca_cons (ce_op op_vPow ce_int ce_int) ca_nil))) (ca_cons ce_str (ca_cons ce_str ca_nil))))))))))))))))), T.glo p__law_near mp__law_near, F.kp, F.binds (ps := ["pool"]) fun _ _ _ _ _ _ us hl => match us, hl with | [_], _ => rfl⟩⟩
def N__law_due_value : List Str := ["kind", "value", "char"]
theorem sc__law_due_value : FnScope N__law_due_value ["kind", "value"] (defScope s__law_due_value) := ⟨rfl, rfl, rfl, by decide +kernel, rfl, by decide +kernel, by decide +kernel⟩
noncomputable def m__law_due_value : MF := runB 3 (
  (sSeq (sIf (mT (mOp vEq (mVar 0) (mC (.str "flag"))))
  (sRet (mIsi "bool" (mVar 1)))
  sNil)
  (sSeq (sIf (mT (mOp vEq (mVar 0) (mC (.str "int"))))
  (sRet (mAndV (mIsi "int" (mVar 1)) (mAndV (mNotV (mIsi "bool" (mVar 1))) (mChain vLe vLe (mUn vNeg (mC (.int 1000000000))) (mVar 1) (mC (.int 1000000000))))))
  sNil)
  (sSeq (sIf (mOr (mNot (mTr (mIsi "str" (mVar 1)))) (mT (mOp vGt (mCB vLen (mCons (mVar 1) mNil)) (mC (.int 20)))))
  (sRet (mC (.bl false)))
  sNil)
  (sRet (mOp vEq (mCB vLen (mCons (mLc (mIter (mVar 1)) (gN 2) (mT (mOp (vIn true) (mVar 2) (mCall 0 m__law_alphabet mNil))) (mVar 2) [2]) mNil)) (mC (.int 0))))))))
theorem D__law_due_value (T : D0.Ok K h mg) : Dep P0 w K mg base (cfgOf D0.exs K) "_law_due_value" 2 2 m__law_due_value := by
  obtain ⟨fd, F⟩ := T.def_ (d := p__law_due_value) mp__law_due_value rfl
  exact ⟨⟨_, fd, ["kind", "value"], fnM F sc__law_due_value (fun cdv A outer s H E hr => 
  (cs_cons (cs_if (ct_cmp (op_vEq hr) (ce_var (pv 0)) ce_str (nomark _))
  (cs_one (cs_ret (ce_isi (T := "bool") (by decide) (by rfl) (n_isinstance T) (by rfl) (n_bool T) bb_bool (ce_var (pv 1)))))
  cs_nil)
  (cs_cons (cs_if (ct_cmp (op_vEq hr) (ce_var (pv 0)) ce_str (nomark _))
  (cs_one (cs_ret (ce_and (ce_isi (T := "int") (by decide) (by rfl) (n_isinstance T) (by rfl) (n_int T) bb_int (ce_var (pv 1))) (ce_and (ce_not (ce_isi (T := "bool") (by decide) (by rfl) (n_isinstance T) (by rfl) (n_bool T) bb_bool (ce_var (pv 1)))) (ce_one (ce_chain (op_vLe hr) (op_vLe hr) (ce_un un_vNeg ce_int) (ce_var (pv 1)) ce_int))))))
  cs_nil)
  (cs_cons (cs_if (PW.pt (cw_or (ct_not (ct_truth (ce_isi (T := "str") (by decide) (by rfl) (n_isinstance T) (by rfl) (n_str T) bb_str (ce_var (pv 1))))) (pw_or1 (ct_cmp (op_vGt hr) (ce_callB cr_len (by rfl) (n_len T) bb_len (ca_cons (ce_var (pv 1)) ca_nil)) ce_int (nomark _)))))
  (cs_one (cs_ret ce_bl))
  cs_nil)
  (cs_one (cs_ret (ce_cmp (op_vEq hr) (ce_callB cr_len (by rfl) (n_len T) bb_len (ca_cons (ce_lc (own := [("char", 2)]) rfl sc__law_due_value.nd (ci_any (ce_var (pv 1))) (blkOk_by (N := N__law_due_value) (sc := defScope s__law_due_value) (by decide +kernel)) (gName 2) (fun _ _ _ _ _ => pg_name (i := 2) sc__law_due_value.nd rfl (Or.inl rfl)) gN_ok (by decide) (fun _ _ _ _ _ => ct_oneS (ct_cmp (op_vNotIn hr) (ce_var (pv 2)) (ce_call0 ((D__law_alphabet T).mono (by decide)) takes0 hr (by rfl)) (by rfl))) (fun _ _ _ _ _ => (ce_var (pv 2)))) ca_nil)) ce_int (nomark _)))))))), T.glo p__law_due_value mp__law_due_value, F.kp, F.binds (ps := ["kind", "value"]) fun _ _ _ _ _ _ us hl => match us, hl with | [_, _], _ => rfl⟩⟩
def N__law_names_right : List Str := ["pool", "letters", "figures", "name", "k", "place", "strange", "text", "due", "char"]
theorem sc__law_names_right : FnScope N__law_names_right ["pool"] (defScope s__law_names_right) := ⟨rfl, rfl, rfl, by decide +kernel, rfl, by decide +kernel, by decide +kernel⟩
noncomputable def m__law_names_right : MF := runB 10 (
  (sSeq (sSet 1 (mC (.str "abcdefghijklmnopqrstuvwxyz")))
  (sSeq (sSet 2 (mC (.str "0123456789")))
  (sSeq (sSet 3 (mOp vIx (mVar 1) (mCall 2 m__law_draw (mCons (mVar 0) (mCons (mC (.int 26)) mNil)))))
  (sSeq (sFor (mRange1 (mCons (mCall 2 m__law_pick (mCons (mVar 0) (mCons (mLst (mCons (mC (.int 0)) (mCons (mC (.int 1)) (mCons (mC (.int 5)) (mCons (mC (.int 11)) (mCons (mC (.int 12)) mNil)))))) mNil))) mNil)) (gN 4)
  (sSet 3 (mOp vAdd (mVar 3) (mOp vIx (mOp vAdd (mVar 1) (mVar 2)) (mCall 2 m__law_draw (mCons (mVar 0) (mCons (mC (.int 36)) mNil)))))))
  (sSeq (sSet 5 (mCall 2 m__law_draw (mCons (mVar 0) (mCons (mCB vLen (mCons (mVar 3) mNil)) mNil))))
  (sSeq (sSet 6 (mCall 2 m__law_pick (mCons (mVar 0) (mCons (mLst (mCons (mC (.str " ")) (mCons (mC (.str "A")) (mCons (mC (.str "_")) (mCons (mC (.str "-")) (mCons (mC (.str "~")) mNil)))))) mNil))))
  (sSeq (sFor (mIter (mLst (mCons (mVar 3) (mCons (mOp vAdd (mOp vAdd (mSlice (mVar 3) mNoPart (mPart (mVar 5))) (mVar 6)) (mSlice (mVar 3) (mPart (mOp vAdd (mVar 5) (mC (.int 1)))) mNoPart)) (mCons (mOp vAdd (mOp vIx (mVar 2) (mCall 2 m__law_draw (mCons (mVar 0) (mCons (mC (.int 10)) mNil)))) (mSlice (mVar 3) (mPart (mC (.int 1))) mNoPart)) (mCons (mC (.str "")) (mCons (mOp vMul (mVar 3) (mC (.int 2))) mNil))))))) (gN 7)
  (sSeq (sSet 8 (mAndV (mChain vLe vLe (mC (.int 1)) (mCB vLen (mCons (mVar 7) mNil)) (mC (.int 12))) (mOp (vIn false) (mOp vIx (mVar 7) (mC (.int 0))) (mVar 1))))
  (sSeq (sFor (mIter (mVar 7)) (gN 9)
  (sSet 8 (mAndV (mVar 8) (mOp (vIn false) (mVar 9) (mOp vAdd (mVar 1) (mVar 2))))))
  (sIf (mNot (mTr (mCall 2 (m__law_same 6) (mCons (mCall 1 m_is_name (mCons (mVar 7) mNil)) (mCons (mVar 8) mNil)))))
  (sRet (mC (.bl false)))
  sNil))))
  (sRet (mC (.bl true)))))))))))
theorem D__law_names_right (T : D0.Ok K h mg) : Dep P0 w K mg base (cfgOf D0.exs K) "_law_names_right" 7 1 m__law_names_right := by
  obtain ⟨fd, F⟩ := T.def_ (d := p__law_names_right) mp__law_names_right rfl
  exact ⟨⟨_, fd, ["pool"], fnM F sc__law_names_right (fun cdv A outer s H E hr => 
  (cs_cons (cs_set (i := 1) sc__law_names_right.nd rfl (Or.inl rfl) ce_str)
  (cs_cons (cs_set (i := 2) sc__law_names_right.nd rfl (Or.inl rfl) ce_str)
  (cs_cons (cs_set (i := 3) sc__law_names_right.nd rfl (Or.inl rfl) (ce_ix hr (ce_var (pv 1)) (ce_call ((D__law_draw T).mono (by decide)) (takes_of rfl rfl rfl rfl) hr (by rfl) (ca_cons (ce_var (pv 0)) (ca_cons ce_int ca_nil))) (fun _ _ => rfl)))
  (cs_cons (cs_for (passes_of rfl) rfl (ci_range1 (by rfl) (n_range T) (ca_cons (ce_call ((D__law_pick T).mono (by decide)) (takes_of rfl rfl rfl rfl) hr (by rfl) (ca_cons (ce_var (pv 0)) (ca_cons (ce_lst (ca_cons ce_int (ca_cons ce_int (ca_cons ce_int (ca_cons ce_int (ca_cons ce_int ca_nil)))))) ca_nil))) ca_nil)) (cg_name (i := 4) sc__law_names_right.nd rfl (Or.inl rfl))
  (cs_one (cs_set (i := 3) sc__law_names_right.nd rfl (Or.inl rfl) (ce_op op_vAdd (ce_var (pv 3)) (ce_ix hr (ce_op op_vAdd (ce_var (pv 1)) (ce_var (pv 2))) (ce_call ((D__law_draw T).mono (by decide)) (takes_of rfl rfl rfl rfl) hr (by rfl) (ca_cons (ce_var (pv 0)) (ca_cons ce_int ca_nil))) (fun _ _ => rfl))))))
  (cs_cons (cs_set (i := 5) sc__law_names_right.nd rfl (Or.inl rfl) (ce_call ((D__law_draw T).mono (by decide)) (takes_of rfl rfl rfl rfl) hr (by rfl) (ca_cons (ce_var (pv 0)) (ca_cons (ce_callB cr_len (by rfl) (n_len T) bb_len (ca_cons (ce_var (pv 3)) ca_nil)) ca_nil))))
  (cs_cons (cs_set (i := 6) sc__law_names_right.nd rfl (Or.inl rfl) (ce_call ((D__law_pick T).mono (by decide)) (takes_of rfl rfl rfl rfl) hr (by rfl) (ca_cons (ce_var (pv 0)) (ca_cons (ce_lst (ca_cons ce_str (ca_cons ce_str (ca_cons ce_str (ca_cons ce_str (ca_cons ce_str ca_nil)))))) ca_nil))))
  (cs_cons (cs_for (passes_of rfl) rfl (ci_any (ce_lst (ca_cons (ce_var (pv 3)) (ca_cons (ce_op op_vAdd (ce_op op_vAdd (ce_slice (ce_var (pv 3)) co_none (co_some (ce_var (pv 5)))) (ce_var (pv 6))) (ce_slice (ce_var (pv 3)) (co_some (ce_op op_vAdd (ce_var (pv 5)) ce_int)) co_none)) (ca_cons (ce_op op_vAdd (ce_ix hr (ce_var (pv 2)) (ce_call ((D__law_draw T).mono (by decide)) (takes_of rfl rfl rfl rfl) hr (by rfl) (ca_cons (ce_var (pv 0)) (ca_cons ce_int ca_nil))) (fun _ _ => rfl)) (ce_slice (ce_var (pv 3)) (co_some ce_int) co_none)) (ca_cons ce_str (ca_cons (ce_op op_vMul (ce_var (pv 3)) ce_int) ca_nil))))))) (cg_name (i := 7) sc__law_names_right.nd rfl (Or.inl rfl))
  (cs_cons (cs_set (i := 8) sc__law_names_right.nd rfl (Or.inl rfl) (ce_and (ce_chain (op_vLe hr) (op_vLe hr) ce_int (ce_callB cr_len (by rfl) (n_len T) bb_len (ca_cons (ce_var (pv 7)) ca_nil)) ce_int) (ce_one (ce_cmp (op_vIn hr) (ce_ix hr (ce_var (pv 7)) ce_int (fun _ _ => rfl)) (ce_var (pv 1)) (by rfl)))))
  (cs_cons (cs_for (passes_of rfl) rfl (ci_any (ce_var (pv 7))) (cg_name (i := 9) sc__law_names_right.nd rfl (Or.inl rfl))
  (cs_one (cs_set (i := 8) sc__law_names_right.nd rfl (Or.inl rfl) (ce_and (ce_var (pv 8)) (ce_one (ce_cmp (op_vIn hr) (ce_var (pv 9)) (ce_op op_vAdd (ce_var (pv 1)) (ce_var (pv 2))) (by rfl)))))))
  (cs_one (cs_if (ct_not (ct_truth (ce_call ((D__law_same T 6).mono (by decide)) (takes_of rfl rfl rfl rfl) hr (by rfl) (ca_cons (ce_call ((D_is_name T).mono (by decide)) (takes_of rfl rfl rfl rfl) hr (by rfl) (ca_cons (ce_var (pv 7)) ca_nil)) (ca_cons (ce_var (pv 8)) ca_nil)))))
  (cs_one (cs_ret ce_bl))
  cs_nil)))))
  (cs_one (cs_ret ce_bl)))))))))), T.glo p__law_names_right mp__law_names_right, F.kp, F.binds (ps := ["pool"]) fun _ _ _ _ _ _ us hl => match us, hl with | [_], _ => rfl⟩⟩
def N__law_kinds : List Str := ["error", "found"]
theorem sc__law_kinds : FnScope N__law_kinds ["error"] (defScope s__law_kinds) := ⟨rfl, rfl, rfl, by decide +kernel, rfl, by decide +kernel, by decide +kernel⟩
noncomputable def m__law_kinds : MF := runB 2 (
  (sSeq (sSet 1 (mLst (mCons (mIsX D0.isC (fun C => D0.sub C "BadText") (mVar 0)) (mCons (mIsX D0.isC (fun C => D0.sub C "HoldersDown") (mVar 0)) (mCons (mIsX D0.isC (fun C => D0.sub C "NoTable") (mVar 0)) mNil)))))
  (sSeq (sSet 1 (mOp vAdd (mVar 1) (mLst (mCons (mIsX D0.isC (fun C => D0.sub C "NoColumn") (mVar 0)) (mCons (mIsX D0.isC (fun C => D0.sub C "NameTaken") (mVar 0)) (mCons (mIsX D0.isC (fun C => D0.sub C "WrongKind") (mVar 0)) mNil))))))
  (sSeq (sSet 1 (mOp vAdd (mVar 1) (mLst (mCons (mIsX D0.isC (fun C => D0.sub C "WrongMark") (mVar 0)) (mCons (mIsX D0.isC (fun C => D0.sub C "WrongValue") (mVar 0)) (mCons (mIsX D0.isC (fun C => D0.sub C "NoNode") (mVar 0)) mNil))))))
  (sSeq (sSet 1 (mOp vAdd (mVar 1) (mLst (mCons (mIsX D0.isC (fun C => D0.sub C "NodeDown") (mVar 0)) (mCons (mIsX D0.isC (fun C => D0.sub C "NotLeading") (mVar 0)) (mCons (mIsX D0.isC (fun C => D0.sub C "NoHolder") (mVar 0)) mNil))))))
  (sSeq (sSet 1 (mOp vAdd (mVar 1) (mLst (mCons (mIsX D0.isC (fun C => D0.sub C "LastHolder") (mVar 0)) (mCons (mIsX D0.isC (fun C => D0.sub C "NoLine") (mVar 0)) (mCons (mIsX D0.isC (fun C => D0.sub C "NoTenant") (mVar 0)) mNil))))))
  (sSeq (sSet 1 (mOp vAdd (mVar 1) (mLst (mCons (mIsX D0.isC (fun C => D0.sub C "NoLeader") (mVar 0)) (mCons (mIsX D0.isC (fun C => D0.sub C "StillUsed") (mVar 0)) (mCons (mIsX D0.isC (fun C => D0.sub C "StillNeeded") (mVar 0)) mNil))))))
  (sSeq (sSet 1 (mOp vAdd (mVar 1) (mLst (mCons (mIsX D0.isC (fun C => D0.sub C "Hidden") (mVar 0)) (mCons (mIsX D0.isC (fun C => D0.sub C "Unsayable") (mVar 0)) (mCons (mIsX D0.isC (fun C => D0.sub C "NoRoad") (mVar 0)) mNil))))))
  (sSeq (sSet 1 (mOp vAdd (mVar 1) (mLst (mCons (mIsX D0.isC (fun C => D0.sub C "Forked") (mVar 0)) (mCons (mIsX D0.isC (fun C => D0.sub C "MoveOpen") (mVar 0)) (mCons (mIsX D0.isC (fun C => D0.sub C "NoMove") (mVar 0)) mNil))))))
  (sSeq (sSet 1 (mOp vAdd (mVar 1) (mLst (mCons (mIsX D0.isC (fun C => D0.sub C "WrongPhase") (mVar 0)) (mCons (mIsX D0.isC (fun C => D0.sub C "BadFile") (mVar 0)) (mCons (mIsX D0.isC (fun C => D0.sub C "NoVersion") (mVar 0)) mNil))))))
  (sSeq (sSet 1 (mOp vAdd (mVar 1) (mLst (mCons (mIsX D0.isC (fun C => D0.sub C "BadOps") (mVar 0)) (mCons (mIsX D0.isC (fun C => D0.sub C "NoMoment") (mVar 0)) (mCons (mIsX D0.isC (fun C => D0.sub C "StampBack") (mVar 0)) mNil))))))
  (sSeq (sSet 1 (mOp vAdd (mVar 1) (mLst (mCons (mIsX D0.isC (fun C => D0.sub C "NotCommitted") (mVar 0)) (mCons (mIsX D0.isC (fun C => D0.sub C "NoItem") (mVar 0)) (mCons (mIsX D0.isC (fun C => D0.sub C "WrongPads") (mVar 0)) mNil))))))
  (sSeq (sSet 1 (mOp vAdd (mVar 1) (mLst (mCons (mIsX D0.isC (fun C => D0.sub C "Held") (mVar 0)) (mCons (mIsX D0.isC (fun C => D0.sub C "Behind") (mVar 0)) (mCons (mIsX D0.isC (fun C => D0.sub C "NoTicket") (mVar 0)) mNil))))))
  (sRet (mOp vAdd (mVar 1) (mLst (mCons (mIsX D0.isC (fun C => D0.sub C "Unsafe") (mVar 0)) (mCons (mIsX D0.isC (fun C => D0.sub C "Mismatch") (mVar 0)) (mCons (mIsX D0.isC (fun C => D0.sub C "TooNew") (mVar 0)) mNil)))))))))))))))))))
theorem D__law_kinds (T : D0.Ok K h mg) : Dep P0 w K mg base (cfgOf D0.exs K) "_law_kinds" 1 1 m__law_kinds := by
  obtain ⟨fd, F⟩ := T.def_ (d := p__law_kinds) mp__law_kinds rfl
  exact ⟨⟨_, fd, ["error"], fnM F sc__law_kinds (fun cdv A outer s H E hr => 
  (cs_cons (cs_set (i := 1) sc__law_kinds.nd rfl (Or.inl rfl) (ce_lst (ca_cons (ce_isX (ClsV.own _) (isx_own T subOk (by decide +kernel)) (by rfl) (n_isinstance T) (pe_glob (by rfl) (T.exG _ (by decide +kernel)) rfl) (ce_var (pv 0))) (ca_cons (ce_isX (ClsV.own _) (isx_own T subOk (by decide +kernel)) (by rfl) (n_isinstance T) (pe_glob (by rfl) (T.exG _ (by decide +kernel)) rfl) (ce_var (pv 0))) (ca_cons (ce_isX (ClsV.own _) (isx_own T subOk (by decide +kernel)) (by rfl) (n_isinstance T) (pe_glob (by rfl) (T.exG _ (by decide +kernel)) rfl) (ce_var (pv 0))) ca_nil)))))
  (cs_cons (cs_set (i := 1) sc__law_kinds.nd rfl (Or.inl rfl) (ce_op op_vAdd (ce_var (pv 1)) (ce_lst (ca_cons (ce_isX (ClsV.own _) (isx_own T subOk (by decide +kernel)) (by rfl) (n_isinstance T) (pe_glob (by rfl) (T.exG _ (by decide +kernel)) rfl) (ce_var (pv 0))) (ca_cons (ce_isX (ClsV.own _) (isx_own T subOk (by decide +kernel)) (by rfl) (n_isinstance T) (pe_glob (by rfl) (T.exG _ (by decide +kernel)) rfl) (ce_var (pv 0))) (ca_cons (ce_isX (ClsV.own _) (isx_own T subOk (by decide +kernel)) (by rfl) (n_isinstance T) (pe_glob (by rfl) (T.exG _ (by decide +kernel)) rfl) (ce_var (pv 0))) ca_nil))))))
  (cs_cons (cs_set (i := 1) sc__law_kinds.nd rfl (Or.inl rfl) (ce_op op_vAdd (ce_var (pv 1)) (ce_lst (ca_cons (ce_isX (ClsV.own _) (isx_own T subOk (by decide +kernel)) (by rfl) (n_isinstance T) (pe_glob (by rfl) (T.exG _ (by decide +kernel)) rfl) (ce_var (pv 0))) (ca_cons (ce_isX (ClsV.own _) (isx_own T subOk (by decide +kernel)) (by rfl) (n_isinstance T) (pe_glob (by rfl) (T.exG _ (by decide +kernel)) rfl) (ce_var (pv 0))) (ca_cons (ce_isX (ClsV.own _) (isx_own T subOk (by decide +kernel)) (by rfl) (n_isinstance T) (pe_glob (by rfl) (T.exG _ (by decide +kernel)) rfl) (ce_var (pv 0))) ca_nil))))))
  (cs_cons (cs_set (i := 1) sc__law_kinds.nd rfl (Or.inl rfl) (ce_op op_vAdd (ce_var (pv 1)) (ce_lst (ca_cons (ce_isX (ClsV.own _) (isx_own T subOk (by decide +kernel)) (by rfl) (n_isinstance T) (pe_glob (by rfl) (T.exG _ (by decide +kernel)) rfl) (ce_var (pv 0))) (ca_cons (ce_isX (ClsV.own _) (isx_own T subOk (by decide +kernel)) (by rfl) (n_isinstance T) (pe_glob (by rfl) (T.exG _ (by decide +kernel)) rfl) (ce_var (pv 0))) (ca_cons (ce_isX (ClsV.own _) (isx_own T subOk (by decide +kernel)) (by rfl) (n_isinstance T) (pe_glob (by rfl) (T.exG _ (by decide +kernel)) rfl) (ce_var (pv 0))) ca_nil))))))
  (cs_cons (cs_set (i := 1) sc__law_kinds.nd rfl (Or.inl rfl) (ce_op op_vAdd (ce_var (pv 1)) (ce_lst (ca_cons (ce_isX (ClsV.own _) (isx_own T subOk (by decide +kernel)) (by rfl) (n_isinstance T) (pe_glob (by rfl) (T.exG _ (by decide +kernel)) rfl) (ce_var (pv 0))) (ca_cons (ce_isX (ClsV.own _) (isx_own T subOk (by decide +kernel)) (by rfl) (n_isinstance T) (pe_glob (by rfl) (T.exG _ (by decide +kernel)) rfl) (ce_var (pv 0))) (ca_cons (ce_isX (ClsV.own _) (isx_own T subOk (by decide +kernel)) (by rfl) (n_isinstance T) (pe_glob (by rfl) (T.exG _ (by decide +kernel)) rfl) (ce_var (pv 0))) ca_nil))))))
  (cs_cons (cs_set (i := 1) sc__law_kinds.nd rfl (Or.inl rfl) (ce_op op_vAdd (ce_var (pv 1)) (ce_lst (ca_cons (ce_isX (ClsV.own _) (isx_own T subOk (by decide +kernel)) (by rfl) (n_isinstance T) (pe_glob (by rfl) (T.exG _ (by decide +kernel)) rfl) (ce_var (pv 0))) (ca_cons (ce_isX (ClsV.own _) (isx_own T subOk (by decide +kernel)) (by rfl) (n_isinstance T) (pe_glob (by rfl) (T.exG _ (by decide +kernel)) rfl) (ce_var (pv 0))) (ca_cons (ce_isX (ClsV.own _) (isx_own T subOk (by decide +kernel)) (by rfl) (n_isinstance T) (pe_glob (by rfl) (T.exG _ (by decide +kernel)) rfl) (ce_var (pv 0))) ca_nil))))))
  (cs_cons (cs_set (i := 1) sc__law_kinds.nd rfl (Or.inl rfl) (ce_op op_vAdd (ce_var (pv 1)) (ce_lst (ca_cons (ce_isX (ClsV.own _) (isx_own T subOk (by decide +kernel)) (by rfl) (n_isinstance T) (pe_glob (by rfl) (T.exG _ (by decide +kernel)) rfl) (ce_var (pv 0))) (ca_cons (ce_isX (ClsV.own _) (isx_own T subOk (by decide +kernel)) (by rfl) (n_isinstance T) (pe_glob (by rfl) (T.exG _ (by decide +kernel)) rfl) (ce_var (pv 0))) (ca_cons (ce_isX (ClsV.own _) (isx_own T subOk (by decide +kernel)) (by rfl) (n_isinstance T) (pe_glob (by rfl) (T.exG _ (by decide +kernel)) rfl) (ce_var (pv 0))) ca_nil))))))
  (cs_cons (cs_set (i := 1) sc__law_kinds.nd rfl (Or.inl rfl) (ce_op op_vAdd (ce_var (pv 1)) (ce_lst (ca_cons (ce_isX (ClsV.own _) (isx_own T subOk (by decide +kernel)) (by rfl) (n_isinstance T) (pe_glob (by rfl) (T.exG _ (by decide +kernel)) rfl) (ce_var (pv 0))) (ca_cons (ce_isX (ClsV.own _) (isx_own T subOk (by decide +kernel)) (by rfl) (n_isinstance T) (pe_glob (by rfl) (T.exG _ (by decide +kernel)) rfl) (ce_var (pv 0))) (ca_cons (ce_isX (ClsV.own _) (isx_own T subOk (by decide +kernel)) (by rfl) (n_isinstance T) (pe_glob (by rfl) (T.exG _ (by decide +kernel)) rfl) (ce_var (pv 0))) ca_nil))))))
  (cs_cons (cs_set (i := 1) sc__law_kinds.nd rfl (Or.inl rfl) (ce_op op_vAdd (ce_var (pv 1)) (ce_lst (ca_cons (ce_isX (ClsV.own _) (isx_own T subOk (by decide +kernel)) (by rfl) (n_isinstance T) (pe_glob (by rfl) (T.exG _ (by decide +kernel)) rfl) (ce_var (pv 0))) (ca_cons (ce_isX (ClsV.own _) (isx_own T subOk (by decide +kernel)) (by rfl) (n_isinstance T) (pe_glob (by rfl) (T.exG _ (by decide +kernel)) rfl) (ce_var (pv 0))) (ca_cons (ce_isX (ClsV.own _) (isx_own T subOk (by decide +kernel)) (by rfl) (n_isinstance T) (pe_glob (by rfl) (T.exG _ (by decide +kernel)) rfl) (ce_var (pv 0))) ca_nil))))))
  (cs_cons (cs_set (i := 1) sc__law_kinds.nd rfl (Or.inl rfl) (ce_op op_vAdd (ce_var (pv 1)) (ce_lst (ca_cons (ce_isX (ClsV.own _) (isx_own T subOk (by decide +kernel)) (by rfl) (n_isinstance T) (pe_glob (by rfl) (T.exG _ (by decide +kernel)) rfl) (ce_var (pv 0))) (ca_cons (ce_isX (ClsV.own _) (isx_own T subOk (by decide +kernel)) (by rfl) (n_isinstance T) (pe_glob (by rfl) (T.exG _ (by decide +kernel)) rfl) (ce_var (pv 0))) (ca_cons (ce_isX (ClsV.own _) (isx_own T subOk (by decide +kernel)) (by rfl) (n_isinstance T) (pe_glob (by rfl) (T.exG _ (by decide +kernel)) rfl) (ce_var (pv 0))) ca_nil))))))
  (cs_cons (cs_set (i := 1) sc__law_kinds.nd rfl (Or.inl rfl) (ce_op op_vAdd (ce_var (pv 1)) (ce_lst (ca_cons (ce_isX (ClsV.own _) (isx_own T subOk (by decide +kernel)) (by rfl) (n_isinstance T) (pe_glob (by rfl) (T.exG _ (by decide +kernel)) rfl) (ce_var (pv 0))) (ca_cons (ce_isX (ClsV.own _) (isx_own T subOk (by decide +kernel)) (by rfl) (n_isinstance T) (pe_glob (by rfl) (T.exG _ (by decide +kernel)) rfl) (ce_var (pv 0))) (ca_cons (ce_isX (ClsV.own _) (isx_own T subOk (by decide +kernel)) (by rfl) (n_isinstance T) (pe_glob (by rfl) (T.exG _ (by decide +kernel)) rfl) (ce_var (pv 0))) ca_nil))))))
  (cs_cons (cs_set (i := 1) sc__law_kinds.nd rfl (Or.inl rfl) (ce_op op_vAdd (ce_var (pv 1)) (ce_lst (ca_cons (ce_isX (ClsV.own _) (isx_own T subOk (by decide +kernel)) (by rfl) (n_isinstance T) (pe_glob (by rfl) (T.exG _ (by decide +kernel)) rfl) (ce_var (pv 0))) (ca_cons (ce_isX (ClsV.own _) (isx_own T subOk (by decide +kernel)) (by rfl) (n_isinstance T) (pe_glob (by rfl) (T.exG _ (by decide +kernel)) rfl) (ce_var (pv 0))) (ca_cons (ce_isX (ClsV.own _) (isx_own T subOk (by decide +kernel)) (by rfl) (n_isinstance T) (pe_glob (by rfl) (T.exG _ (by decide +kernel)) rfl) (ce_var (pv 0))) ca_nil))))))
  (cs_one (cs_ret (ce_op op_vAdd (ce_var (pv 1)) (ce_lst (ca_cons (ce_isX (ClsV.own _) (isx_own T subOk (by decide +kernel)) (by rfl) (n_isinstance T) (pe_glob (by rfl) (T.exG _ (by decide +kernel)) rfl) (ce_var (pv 0))) (ca_cons (ce_isX (ClsV.own _) (isx_own T subOk (by decide +kernel)) (by rfl) (n_isinstance T) (pe_glob (by rfl) (T.exG _ (by decide +kernel)) rfl) (ce_var (pv 0))) (ca_cons (ce_isX (ClsV.own _) (isx_own T subOk (by decide +kernel)) (by rfl) (n_isinstance T) (pe_glob (by rfl) (T.exG _ (by decide +kernel)) rfl) (ce_var (pv 0))) ca_nil)))))))))))))))))))), T.glo p__law_kinds mp__law_kinds, F.kp, F.binds (ps := ["error"]) fun _ _ _ _ _ _ us hl => match us, hl with | [_], _ => rfl⟩⟩
def N__law_errors_right : List Str := ["pool", "name", "other", "number", "told", "pair", "made", "k", "place"]
theorem sc__law_errors_right : FnScope N__law_errors_right ["pool"] (defScope s__law_errors_right) := ⟨rfl, rfl, rfl, by decide +kernel, rfl, by decide +kernel, by decide +kernel⟩
noncomputable def m__law_errors_right : MF := runB 9 (
  (sSeq (sSet 1 (mCall 2 m__law_text (mCons (mVar 0) (mCons (mC (.int 4)) mNil))))
  (sSeq (sSet 2 (mCall 2 m__law_text (mCons (mVar 0) (mCons (mC (.int 3)) mNil))))
  (sSeq (sSet 3 (mCall 2 m__law_draw (mCons (mVar 0) (mCons (mOp vPow (mC (.int 10)) (mC (.int 6))) mNil))))
  (sSeq (sSet 4 (mLst (mCons (mXf ["NoTable"] "name" (mNew "NoTable" ["name"] (mCons (mVar 1) mNil))) (mCons (mXf ["NoColumn"] "name" (mNew "NoColumn" ["name"] (mCons (mVar 1) mNil))) (mCons (mXf ["NameTaken"] "name" (mNew "NameTaken" ["name"] (mCons (mVar 1) mNil))) (mCons (mXf ["WrongKind"] "name" (mNew "WrongKind" ["name"] (mCons (mVar 1) mNil))) (mCons (mXf ["WrongMark"] "name" (mNew "WrongMark" ["name"] (mCons (mVar 1) mNil))) mNil)))))))
  (sSeq (sSet 4 (mOp vAdd (mVar 4) (mLst (mCons (mXf ["WrongValue"] "name" (mNew "WrongValue" ["name"] (mCons (mVar 1) mNil))) (mCons (mXf ["NoNode"] "name" (mNew "NoNode" ["name"] (mCons (mVar 1) mNil))) (mCons (mXf ["NodeDown"] "name" (mNew "NodeDown" ["name"] (mCons (mVar 1) mNil))) (mCons (mXf ["NotLeading"] "name" (mNew "NotLeading" ["name"] (mCons (mVar 1) mNil))) mNil)))))))
  (sSeq (sSet 4 (mOp vAdd (mVar 4) (mLst (mCons (mXf ["NoHolder"] "name" (mNew "NoHolder" ["name"] (mCons (mVar 1) mNil))) (mCons (mXf ["LastHolder"] "name" (mNew "LastHolder" ["name"] (mCons (mVar 1) mNil))) (mCons (mXf ["NoLine"] "name" (mNew "NoLine" ["name"] (mCons (mVar 1) mNil))) (mCons (mXf ["NoTenant"] "name" (mNew "NoTenant" ["name"] (mCons (mVar 1) mNil))) (mCons (mXf ["NoLeader"] "name" (mNew "NoLeader" ["name"] (mCons (mVar 1) mNil))) mNil))))))))
  (sSeq (sSet 4 (mOp vAdd (mVar 4) (mLst (mCons (mXf ["StillUsed"] "name" (mNew "StillUsed" ["name"] (mCons (mVar 1) mNil))) (mCons (mXf ["StillNeeded"] "name" (mNew "StillNeeded" ["name", "position"] (mCons (mVar 1) (mCons (mC (.int 1)) mNil)))) (mCons (mXf ["Hidden"] "table" (mNew "Hidden" ["table"] (mCons (mVar 1) mNil))) (mCons (mXf ["Unsayable"] "table" (mNew "Unsayable" ["table", "column", "key"] (mCons (mVar 1) (mCons (mC (.str "c")) (mCons (mC (.int 1)) mNil))))) mNil)))))))
  (sSeq (sSet 4 (mOp vAdd (mVar 4) (mLst (mCons (mXf ["NoRoad"] "line" (mNew "NoRoad" ["line", "position"] (mCons (mVar 1) (mCons (mC (.int 1)) mNil)))) (mCons (mXf ["Forked"] "line" (mNew "Forked" ["line"] (mCons (mVar 1) mNil))) (mCons (mXf ["MoveOpen"] "tenant" (mNew "MoveOpen" ["tenant"] (mCons (mVar 1) mNil))) (mCons (mXf ["NoMove"] "tenant" (mNew "NoMove" ["tenant"] (mCons (mVar 1) mNil))) mNil)))))))
  (sSeq (sIf (mNot (mTr (mCall 2 (m__law_same 6) (mCons (mOp vAdd (mVar 4) (mLst (mCons (mXf ["WrongPhase"] "phase" (mNew "WrongPhase" ["phase"] (mCons (mVar 1) mNil))) mNil))) (mCons (mOp vMul (mLst (mCons (mVar 1) mNil)) (mC (.int 23))) mNil)))))
  (sRet (mC (.bl false)))
  sNil)
  (sSeq (sSet 4 (mLst (mCons (mXf ["BadFile"] "row" (mNew "BadFile" ["row"] (mCons (mVar 3) mNil))) (mCons (mXf ["NoVersion"] "version" (mNew "NoVersion" ["version"] (mCons (mVar 3) mNil))) (mCons (mXf ["BadOps"] "place" (mNew "BadOps" ["place"] (mCons (mVar 3) mNil))) (mCons (mXf ["NoMoment"] "position" (mNew "NoMoment" ["position"] (mCons (mVar 3) mNil))) mNil))))))
  (sSeq (sSet 4 (mOp vAdd (mVar 4) (mLst (mCons (mXf ["StampBack"] "stamp" (mNew "StampBack" ["stamp"] (mCons (mVar 3) mNil))) (mCons (mXf ["NotCommitted"] "position" (mNew "NotCommitted" ["position"] (mCons (mVar 3) mNil))) (mCons (mXf ["NoItem"] "number" (mNew "NoItem" ["number"] (mCons (mVar 3) mNil))) (mCons (mXf ["NoRoad"] "position" (mNew "NoRoad" ["line", "position"] (mCons (mC (.str "l")) (mCons (mVar 3) mNil)))) mNil)))))))
  (sSeq (sSet 4 (mOp vAdd (mVar 4) (mLst (mCons (mXf ["WrongPads"] "needed" (mNew "WrongPads" ["needed"] (mCons (mVar 3) mNil))) (mCons (mXf ["Held"] "person" (mNew "Held" ["person"] (mCons (mVar 3) mNil))) (mCons (mXf ["Behind"] "moment" (mNew "Behind" ["moment"] (mCons (mVar 3) mNil))) (mCons (mXf ["NoTicket"] "number" (mNew "NoTicket" ["number"] (mCons (mVar 3) mNil))) mNil)))))))
  (sSeq (sSet 4 (mOp vAdd (mVar 4) (mLst (mCons (mXf ["StillNeeded"] "position" (mNew "StillNeeded" ["name", "position"] (mCons (mC (.str "n")) (mCons (mVar 3) mNil)))) (mCons (mXf ["Unsayable"] "key" (mNew "Unsayable" ["table", "column", "key"] (mCons (mC (.str "t")) (mCons (mC (.str "c")) (mCons (mVar 3) mNil))))) mNil)))))
  (sSeq (sIf (mOr (mNot (mTr (mCall 2 (m__law_same 6) (mCons (mVar 4) (mCons (mOp vMul (mLst (mCons (mVar 3) mNil)) (mC (.int 14))) mNil))))) (mNot (mTr (mCall 2 (m__law_same 6) (mCons (mXf ["Unsayable"] "column" (mNew "Unsayable" ["table", "column", "key"] (mCons (mC (.str "t")) (mCons (mVar 1) (mCons (mC (.int 1)) mNil))))) (mCons (mVar 1) mNil))))))
  (sRet (mC (.bl false)))
  sNil)
  (sSeq (sSet 5 (mTup (mCons (mTup (mCons (mVar 1) mNil)) (mCons (mTup (mCons (mVar 2) mNil)) mNil))))
  (sSeq (sIf (mNot (mTr (mCall 2 (m__law_same 6) (mCons (mTup (mCons (mXf ["Unsafe"] "one" (mNew "Unsafe" ["one", "other"] (mCons (mOp vIx (mVar 5) (mC (.int 0))) (mCons (mOp vIx (mVar 5) (mC (.int 1))) mNil)))) (mCons (mXf ["Unsafe"] "other" (mNew "Unsafe" ["one", "other"] (mCons (mOp vIx (mVar 5) (mC (.int 0))) (mCons (mOp vIx (mVar 5) (mC (.int 1))) mNil)))) mNil))) (mCons (mVar 5) mNil)))))
  (sRet (mC (.bl false)))
  sNil)
  (sSeq (sIf (mNot (mTr (mCall 2 (m__law_same 6) (mCons (mTup (mCons (mXf ["Mismatch"] "slot" (mNew "Mismatch" ["slot"] (mCons (mVar 5) mNil))) (mCons (mXf ["TooNew"] "names" (mNew "TooNew" ["names"] (mCons (mLst (mCons (mVar 1) (mCons (mVar 2) mNil))) mNil))) mNil))) (mCons (mTup (mCons (mVar 5) (mCons (mLst (mCons (mVar 1) (mCons (mVar 2) mNil))) mNil))) mNil)))))
  (sRet (mC (.bl false)))
  sNil)
  (sSeq (sSet 6 (mLst (mCons (mNew0 "BadText") (mCons (mNew0 "HoldersDown") (mCons (mNew "NoTable" ["name"] (mCons (mVar 1) mNil)) (mCons (mNew "NoColumn" ["name"] (mCons (mVar 1) mNil)) (mCons (mNew "NameTaken" ["name"] (mCons (mVar 1) mNil)) (mCons (mNew "WrongKind" ["name"] (mCons (mVar 1) mNil)) (mCons (mNew "WrongMark" ["name"] (mCons (mVar 1) mNil)) mNil)))))))))
  (sSeq (sSet 6 (mOp vAdd (mVar 6) (mLst (mCons (mNew "WrongValue" ["name"] (mCons (mVar 1) mNil)) (mCons (mNew "NoNode" ["name"] (mCons (mVar 1) mNil)) (mCons (mNew "NodeDown" ["name"] (mCons (mVar 1) mNil)) (mCons (mNew "NotLeading" ["name"] (mCons (mVar 1) mNil)) (mCons (mNew "NoHolder" ["name"] (mCons (mVar 1) mNil)) (mCons (mNew "LastHolder" ["name"] (mCons (mVar 1) mNil)) mNil)))))))))
  (sSeq (sSet 6 (mOp vAdd (mVar 6) (mLst (mCons (mNew "NoLine" ["name"] (mCons (mVar 1) mNil)) (mCons (mNew "NoTenant" ["name"] (mCons (mVar 1) mNil)) (mCons (mNew "NoLeader" ["name"] (mCons (mVar 1) mNil)) (mCons (mNew "StillUsed" ["name"] (mCons (mVar 1) mNil)) (mCons (mNew "StillNeeded" ["name", "position"] (mCons (mVar 1) (mCons (mC (.int 1)) mNil))) (mCons (mNew "Hidden" ["table"] (mCons (mVar 1) mNil)) mNil)))))))))
  (sSeq (sSet 6 (mOp vAdd (mVar 6) (mLst (mCons (mNew "Unsayable" ["table", "column", "key"] (mCons (mVar 1) (mCons (mC (.str "c")) (mCons (mC (.int 1)) mNil)))) (mCons (mNew "NoRoad" ["line", "position"] (mCons (mVar 1) (mCons (mC (.int 1)) mNil))) (mCons (mNew "Forked" ["line"] (mCons (mVar 1) mNil)) (mCons (mNew "MoveOpen" ["tenant"] (mCons (mVar 1) mNil)) (mCons (mNew "NoMove" ["tenant"] (mCons (mVar 1) mNil)) (mCons (mNew "WrongPhase" ["phase"] (mCons (mVar 1) mNil)) mNil)))))))))
  (sSeq (sSet 6 (mOp vAdd (mVar 6) (mLst (mCons (mNew "BadFile" ["row"] (mCons (mC (.int 1)) mNil)) (mCons (mNew "NoVersion" ["version"] (mCons (mC (.int 1)) mNil)) (mCons (mNew "BadOps" ["place"] (mCons (mC (.int 1)) mNil)) (mCons (mNew "NoMoment" ["position"] (mCons (mC (.int 1)) mNil)) (mCons (mNew "StampBack" ["stamp"] (mCons (mC (.int 1)) mNil)) (mCons (mNew "NotCommitted" ["position"] (mCons (mC (.int 1)) mNil)) (mCons (mNew "NoItem" ["number"] (mCons (mC (.int 1)) mNil)) mNil))))))))))
  (sSeq (sSet 6 (mOp vAdd (mVar 6) (mLst (mCons (mNew "WrongPads" ["needed"] (mCons (mC (.int 1)) mNil)) (mCons (mNew "Held" ["person"] (mCons (mC (.int 1)) mNil)) (mCons (mNew "Behind" ["moment"] (mCons (mC (.int 1)) mNil)) (mCons (mNew "NoTicket" ["number"] (mCons (mC (.int 1)) mNil)) (mCons (mNew "Unsafe" ["one", "other"] (mCons (mTup mNil) (mCons (mTup mNil) mNil))) (mCons (mNew "Mismatch" ["slot"] (mCons (mC (.int 1)) mNil)) (mCons (mNew "TooNew" ["names"] (mCons (mLst mNil) mNil)) mNil))))))))))
  (sSeq (sFor (mRange1 (mCons (mCB vLen (mCons (mVar 6) mNil)) mNil)) (gN 7)
  (sSeq (sIf (mOr (mNot (mTr (mIsX D0.isC (fun C => D0.sub C "StoreError") (mOp vIx (mVar 6) (mVar 7))))) (mNot (mTr (mIsX D0.isC (fun _ => true) (mOp vIx (mVar 6) (mVar 7))))))
  (sRet (mC (.bl false)))
  sNil)
  (sIf (mT (mOp vNe (mCall 1 m__law_kinds (mCons (mOp vIx (mVar 6) (mVar 7)) mNil)) (mLc (mRange1 (mCons (mCB vLen (mCons (mVar 6) mNil)) mNil)) (gN 8) tYesM (mOp vEq (mVar 8) (mVar 7)) [8])))
  (sRet (mC (.bl false)))
  sNil)))
  (sRet (mOp vEq (mCB vLen (mCons (mVar 6) mNil)) (mC (.int 39)))))))))))))))))))))))))))))
theorem D__law_errors_right (T : D0.Ok K h mg) : Dep P0 w K mg base (cfgOf D0.exs K) "_law_errors_right" 7 1 m__law_errors_right := by
  obtain ⟨fd, F⟩ := T.def_ (d := p__law_errors_right) mp__law_errors_right rfl
  exact ⟨⟨_, fd, ["pool"], fnM F sc__law_errors_right (fun cdv A outer s H E hr => 
  (cs_cons (cs_set (i := 1) sc__law_errors_right.nd rfl (Or.inl rfl) (ce_call ((D__law_text T).mono (by decide)) (takes_of rfl rfl rfl rfl) hr (by rfl) (ca_cons (ce_var (pv 0)) (ca_cons ce_int ca_nil))))
  (cs_cons (cs_set (i := 2) sc__law_errors_right.nd rfl (Or.inl rfl) (ce_call ((D__law_text T).mono (by decide)) (takes_of rfl rfl rfl rfl) hr (by rfl) (ca_cons (ce_var (pv 0)) (ca_cons ce_int ca_nil))))
  (cs_cons (cs_set (i := 3) sc__law_errors_right.nd rfl (Or.inl rfl) (ce_call ((D__law_draw T).mono (by decide)) (takes_of rfl rfl rfl rfl) hr (by rfl) (ca_cons (ce_var (pv 0)) (ca_cons (ce_op op_vPow ce_int ce_int) ca_nil))))
  (cs_cons (cs_set (i := 4) sc__law_errors_right.nd rfl (Or.inl rfl) (ce_lst (ca_cons (ce_xf (xf_one T (by decide +kernel)) (ce_newI (by decide) (cfg_ok (by decide +kernel)) (T.ex _ (by decide +kernel)) (T.init _ (by decide +kernel)) (I_NoTable T) (takes_of rfl rfl rfl rfl) (hr.mono (by decide)) (by rfl) (T.exG _ (by decide +kernel)) (ca_cons (ce_var (pv 1)) ca_nil))) (ca_cons (ce_xf (xf_one T (by decide +kernel)) (ce_newI (by decide) (cfg_ok (by decide +kernel)) (T.ex _ (by decide +kernel)) (T.init _ (by decide +kernel)) (I_NoColumn T) (takes_of rfl rfl rfl rfl) (hr.mono (by decide)) (by rfl) (T.exG _ (by decide +kernel)) (ca_cons (ce_var (pv 1)) ca_nil))) (ca_cons (ce_xf (xf_one T (by decide +kernel)) (ce_newI (by decide) (cfg_ok (by decide +kernel)) (T.ex _ (by decide +kernel)) (T.init _ (by decide +kernel)) (I_NameTaken T) (takes_of rfl rfl rfl rfl) (hr.mono (by decide)) (by rfl) (T.exG _ (by decide +kernel)) (ca_cons (ce_var (pv 1)) ca_nil))) (ca_cons (ce_xf (xf_one T (by decide +kernel)) (ce_newI (by decide) (cfg_ok (by decide +kernel)) (T.ex _ (by decide +kernel)) (T.init _ (by decide +kernel)) (I_WrongKind T) (takes_of rfl rfl rfl rfl) (hr.mono (by decide)) (by rfl) (T.exG _ (by decide +kernel)) (ca_cons (ce_var (pv 1)) ca_nil))) (ca_cons (ce_xf (xf_one T (by decide +kernel)) (ce_newI (by decide) (cfg_ok (by decide +kernel)) (T.ex _ (by decide +kernel)) (T.init _ (by decide +kernel)) (I_WrongMark T) (takes_of rfl rfl rfl rfl) (hr.mono (by decide)) (by rfl) (T.exG _ (by decide +kernel)) (ca_cons (ce_var (pv 1)) ca_nil))) ca_nil)))))))
  (cs_cons (cs_set (i := 4) sc__law_errors_right.nd rfl (Or.inl rfl) (ce_op op_vAdd (ce_var (pv 4)) (ce_lst (ca_cons (ce_xf (xf_one T (by decide +kernel)) (ce_newI (by decide) (cfg_ok (by decide +kernel)) (T.ex _ (by decide +kernel)) (T.init _ (by decide +kernel)) (I_WrongValue T) (takes_of rfl rfl rfl rfl) (hr.mono (by decide)) (by rfl) (T.exG _ (by decide +kernel)) (ca_cons (ce_var (pv 1)) ca_nil))) (ca_cons (ce_xf (xf_one T (by decide +kernel)) (ce_newI (by decide) (cfg_ok (by decide +kernel)) (T.ex _ (by decide +kernel)) (T.init _ (by decide +kernel)) (I_NoNode T) (takes_of rfl rfl rfl rfl) (hr.mono (by decide)) (by rfl) (T.exG _ (by decide +kernel)) (ca_cons (ce_var (pv 1)) ca_nil))) (ca_cons (ce_xf (xf_one T (by decide +kernel)) (ce_newI (by decide) (cfg_ok (by decide +kernel)) (T.ex _ (by decide +kernel)) (T.init _ (by decide +kernel)) (I_NodeDown T) (takes_of rfl rfl rfl rfl) (hr.mono (by decide)) (by rfl) (T.exG _ (by decide +kernel)) (ca_cons (ce_var (pv 1)) ca_nil))) (ca_cons (ce_xf (xf_one T (by decide +kernel)) (ce_newI (by decide) (cfg_ok (by decide +kernel)) (T.ex _ (by decide +kernel)) (T.init _ (by decide +kernel)) (I_NotLeading T) (takes_of rfl rfl rfl rfl) (hr.mono (by decide)) (by rfl) (T.exG _ (by decide +kernel)) (ca_cons (ce_var (pv 1)) ca_nil))) ca_nil)))))))
  (cs_cons (cs_set (i := 4) sc__law_errors_right.nd rfl (Or.inl rfl) (ce_op op_vAdd (ce_var (pv 4)) (ce_lst (ca_cons (ce_xf (xf_one T (by decide +kernel)) (ce_newI (by decide) (cfg_ok (by decide +kernel)) (T.ex _ (by decide +kernel)) (T.init _ (by decide +kernel)) (I_NoHolder T) (takes_of rfl rfl rfl rfl) (hr.mono (by decide)) (by rfl) (T.exG _ (by decide +kernel)) (ca_cons (ce_var (pv 1)) ca_nil))) (ca_cons (ce_xf (xf_one T (by decide +kernel)) (ce_newI (by decide) (cfg_ok (by decide +kernel)) (T.ex _ (by decide +kernel)) (T.init _ (by decide +kernel)) (I_LastHolder T) (takes_of rfl rfl rfl rfl) (hr.mono (by decide)) (by rfl) (T.exG _ (by decide +kernel)) (ca_cons (ce_var (pv 1)) ca_nil))) (ca_cons (ce_xf (xf_one T (by decide +kernel)) (ce_newI (by decide) (cfg_ok (by decide +kernel)) (T.ex _ (by decide +kernel)) (T.init _ (by decide +kernel)) (I_NoLine T) (takes_of rfl rfl rfl rfl) (hr.mono (by decide)) (by rfl) (T.exG _ (by decide +kernel)) (ca_cons (ce_var (pv 1)) ca_nil))) (ca_cons (ce_xf (xf_one T (by decide +kernel)) (ce_newI (by decide) (cfg_ok (by decide +kernel)) (T.ex _ (by decide +kernel)) (T.init _ (by decide +kernel)) (I_NoTenant T) (takes_of rfl rfl rfl rfl) (hr.mono (by decide)) (by rfl) (T.exG _ (by decide +kernel)) (ca_cons (ce_var (pv 1)) ca_nil))) (ca_cons (ce_xf (xf_one T (by decide +kernel)) (ce_newI (by decide) (cfg_ok (by decide +kernel)) (T.ex _ (by decide +kernel)) (T.init _ (by decide +kernel)) (I_NoLeader T) (takes_of rfl rfl rfl rfl) (hr.mono (by decide)) (by rfl) (T.exG _ (by decide +kernel)) (ca_cons (ce_var (pv 1)) ca_nil))) ca_nil))))))))
  (cs_cons (cs_set (i := 4) sc__law_errors_right.nd rfl (Or.inl rfl) (ce_op op_vAdd (ce_var (pv 4)) (ce_lst (ca_cons (ce_xf (xf_one T (by decide +kernel)) (ce_newI (by decide) (cfg_ok (by decide +kernel)) (T.ex _ (by decide +kernel)) (T.init _ (by decide +kernel)) (I_StillUsed T) (takes_of rfl rfl rfl rfl) (hr.mono (by decide)) (by rfl) (T.exG _ (by decide +kernel)) (ca_cons (ce_var (pv 1)) ca_nil))) (ca_cons (ce_xf (xf_one T (by decide +kernel)) (ce_newI (by decide) (cfg_ok (by decide +kernel)) (T.ex _ (by decide +kernel)) (T.init _ (by decide +kernel)) (I_StillNeeded T) (takes_of rfl rfl rfl rfl) (hr.mono (by decide)) (by rfl) (T.exG _ (by decide +kernel)) (ca_cons (ce_var (pv 1)) (ca_cons ce_int ca_nil)))) (ca_cons (ce_xf (xf_one T (by decide +kernel)) (ce_newI (by decide) (cfg_ok (by decide +kernel)) (T.ex _ (by decide +kernel)) (T.init _ (by decide +kernel)) (I_Hidden T) (takes_of rfl rfl rfl rfl) (hr.mono (by decide)) (by rfl) (T.exG _ (by decide +kernel)) (ca_cons (ce_var (pv 1)) ca_nil))) (ca_cons (ce_xf (xf_one T (by decide +kernel)) (ce_newI (by decide) (cfg_ok (by decide +kernel)) (T.ex _ (by decide +kernel)) (T.init _ (by decide +kernel)) (I_Unsayable T) (takes_of rfl rfl rfl rfl) (hr.mono (by decide)) (by rfl) (T.exG _ (by decide +kernel)) (ca_cons (ce_var (pv 1)) (ca_cons ce_str (ca_cons ce_int ca_nil))))) ca_nil)))))))
  (cs_cons (cs_set (i := 4) sc__law_errors_right.nd rfl (Or.inl rfl) (ce_op op_vAdd (ce_var (pv 4)) (ce_lst (ca_cons (ce_xf (xf_one T (by decide +kernel)) (ce_newI (by decide) (cfg_ok (by decide +kernel)) (T.ex _ (by decide +kernel)) (T.init _ (by decide +kernel)) (I_NoRoad T) (takes_of rfl rfl rfl rfl) (hr.mono (by decide)) (by rfl) (T.exG _ (by decide +kernel)) (ca_cons (ce_var (pv 1)) (ca_cons ce_int ca_nil)))) (ca_cons (ce_xf (xf_one T (by decide +kernel)) (ce_newI (by decide) (cfg_ok (by decide +kernel)) (T.ex _ (by decide +kernel)) (T.init _ (by decide +kernel)) (I_Forked T) (takes_of rfl rfl rfl rfl) (hr.mono (by decide)) (by rfl) (T.exG _ (by decide +kernel)) (ca_cons (ce_var (pv 1)) ca_nil))) (ca_cons (ce_xf (xf_one T (by decide +kernel)) (ce_newI (by decide) (cfg_ok (by decide +kernel)) (T.ex _ (by decide +kernel)) (T.init _ (by decide +kernel)) (I_MoveOpen T) (takes_of rfl rfl rfl rfl) (hr.mono (by decide)) (by rfl) (T.exG _ (by decide +kernel)) (ca_cons (ce_var (pv 1)) ca_nil))) (ca_cons (ce_xf (xf_one T (by decide +kernel)) (ce_newI (by decide) (cfg_ok (by decide +kernel)) (T.ex _ (by decide +kernel)) (T.init _ (by decide +kernel)) (I_NoMove T) (takes_of rfl rfl rfl rfl) (hr.mono (by decide)) (by rfl) (T.exG _ (by decide +kernel)) (ca_cons (ce_var (pv 1)) ca_nil))) ca_nil)))))))
  (cs_cons (cs_if (ct_not (ct_truth (ce_call ((D__law_same T 6).mono (by decide)) (takes_of rfl rfl rfl rfl) hr (by rfl) (ca_cons (ce_op op_vAdd (ce_var (pv 4)) (ce_lst (ca_cons (ce_xf (xf_one T (by decide +kernel)) (ce_newI (by decide) (cfg_ok (by decide +kernel)) (T.ex _ (by decide +kernel)) (T.init _ (by decide +kernel)) (I_WrongPhase T) (takes_of rfl rfl rfl rfl) (hr.mono (by decide)) (by rfl) (T.exG _ (by decide +kernel)) (ca_cons (ce_var (pv 1)) ca_nil))) ca_nil))) (ca_cons (ce_op op_vMul (ce_lst (ca_cons (ce_var (pv 1)) ca_nil)) ce_int) ca_nil)))))
  (cs_one (cs_ret ce_bl))
  cs_nil)
  (cs_cons (cs_set (i := 4) sc__law_errors_right.nd rfl (Or.inl rfl) (ce_lst (ca_cons (ce_xf (xf_one T (by decide +kernel)) (ce_newI (by decide) (cfg_ok (by decide +kernel)) (T.ex _ (by decide +kernel)) (T.init _ (by decide +kernel)) (I_BadFile T) (takes_of rfl rfl rfl rfl) (hr.mono (by decide)) (by rfl) (T.exG _ (by decide +kernel)) (ca_cons (ce_var (pv 3)) ca_nil))) (ca_cons (ce_xf (xf_one T (by decide +kernel)) (ce_newI (by decide) (cfg_ok (by decide +kernel)) (T.ex _ (by decide +kernel)) (T.init _ (by decide +kernel)) (I_NoVersion T) (takes_of rfl rfl rfl rfl) (hr.mono (by decide)) (by rfl) (T.exG _ (by decide +kernel)) (ca_cons (ce_var (pv 3)) ca_nil))) (ca_cons (ce_xf (xf_one T (by decide +kernel)) (ce_newI (by decide) (cfg_ok (by decide +kernel)) (T.ex _ (by decide +kernel)) (T.init _ (by decide +kernel)) (I_BadOps T) (takes_of rfl rfl rfl rfl) (hr.mono (by decide)) (by rfl) (T.exG _ (by decide +kernel)) (ca_cons (ce_var (pv 3)) ca_nil))) (ca_cons (ce_xf (xf_one T (by decide +kernel)) (ce_newI (by decide) (cfg_ok (by decide +kernel)) (T.ex _ (by decide +kernel)) (T.init _ (by decide +kernel)) (I_NoMoment T) (takes_of rfl rfl rfl rfl) (hr.mono (by decide)) (by rfl) (T.exG _ (by decide +kernel)) (ca_cons (ce_var (pv 3)) ca_nil))) ca_nil))))))
  (cs_cons (cs_set (i := 4) sc__law_errors_right.nd rfl (Or.inl rfl) (ce_op op_vAdd (ce_var (pv 4)) (ce_lst (ca_cons (ce_xf (xf_one T (by decide +kernel)) (ce_newI (by decide) (cfg_ok (by decide +kernel)) (T.ex _ (by decide +kernel)) (T.init _ (by decide +kernel)) (I_StampBack T) (takes_of rfl rfl rfl rfl) (hr.mono (by decide)) (by rfl) (T.exG _ (by decide +kernel)) (ca_cons (ce_var (pv 3)) ca_nil))) (ca_cons (ce_xf (xf_one T (by decide +kernel)) (ce_newI (by decide) (cfg_ok (by decide +kernel)) (T.ex _ (by decide +kernel)) (T.init _ (by decide +kernel)) (I_NotCommitted T) (takes_of rfl rfl rfl rfl) (hr.mono (by decide)) (by rfl) (T.exG _ (by decide +kernel)) (ca_cons (ce_var (pv 3)) ca_nil))) (ca_cons (ce_xf (xf_one T (by decide +kernel)) (ce_newI (by decide) (cfg_ok (by decide +kernel)) (T.ex _ (by decide +kernel)) (T.init _ (by decide +kernel)) (I_NoItem T) (takes_of rfl rfl rfl rfl) (hr.mono (by decide)) (by rfl) (T.exG _ (by decide +kernel)) (ca_cons (ce_var (pv 3)) ca_nil))) (ca_cons (ce_xf (xf_one T (by decide +kernel)) (ce_newI (by decide) (cfg_ok (by decide +kernel)) (T.ex _ (by decide +kernel)) (T.init _ (by decide +kernel)) (I_NoRoad T) (takes_of rfl rfl rfl rfl) (hr.mono (by decide)) (by rfl) (T.exG _ (by decide +kernel)) (ca_cons ce_str (ca_cons (ce_var (pv 3)) ca_nil)))) ca_nil)))))))
  (cs_cons (cs_set (i := 4) sc__law_errors_right.nd rfl (Or.inl rfl) (ce_op op_vAdd (ce_var (pv 4)) (ce_lst (ca_cons (ce_xf (xf_one T (by decide +kernel)) (ce_newI (by decide) (cfg_ok (by decide +kernel)) (T.ex _ (by decide +kernel)) (T.init _ (by decide +kernel)) (I_WrongPads T) (takes_of rfl rfl rfl rfl) (hr.mono (by decide)) (by rfl) (T.exG _ (by decide +kernel)) (ca_cons (ce_var (pv 3)) ca_nil))) (ca_cons (ce_xf (xf_one T (by decide +kernel)) (ce_newI (by decide) (cfg_ok (by decide +kernel)) (T.ex _ (by decide +kernel)) (T.init _ (by decide +kernel)) (I_Held T) (takes_of rfl rfl rfl rfl) (hr.mono (by decide)) (by rfl) (T.exG _ (by decide +kernel)) (ca_cons (ce_var (pv 3)) ca_nil))) (ca_cons (ce_xf (xf_one T (by decide +kernel)) (ce_newI (by decide) (cfg_ok (by decide +kernel)) (T.ex _ (by decide +kernel)) (T.init _ (by decide +kernel)) (I_Behind T) (takes_of rfl rfl rfl rfl) (hr.mono (by decide)) (by rfl) (T.exG _ (by decide +kernel)) (ca_cons (ce_var (pv 3)) ca_nil))) (ca_cons (ce_xf (xf_one T (by decide +kernel)) (ce_newI (by decide) (cfg_ok (by decide +kernel)) (T.ex _ (by decide +kernel)) (T.init _ (by decide +kernel)) (I_NoTicket T) (takes_of rfl rfl rfl rfl) (hr.mono (by decide)) (by rfl) (T.exG _ (by decide +kernel)) (ca_cons (ce_var (pv 3)) ca_nil))) ca_nil)))))))
  (cs_cons (cs_set (i := 4) sc__law_errors_right.nd rfl (Or.inl rfl) (ce_op op_vAdd (ce_var (pv 4)) (ce_lst (ca_cons (ce_xf (xf_one T (by decide +kernel)) (ce_newI (by decide) (cfg_ok (by decide +kernel)) (T.ex _ (by decide +kernel)) (T.init _ (by decide +kernel)) (I_StillNeeded T) (takes_of rfl rfl rfl rfl) (hr.mono (by decide)) (by rfl) (T.exG _ (by decide +kernel)) (ca_cons ce_str (ca_cons (ce_var (pv 3)) ca_nil)))) (ca_cons (ce_xf (xf_one T (by decide +kernel)) (ce_newI (by decide) (cfg_ok (by decide +kernel)) (T.ex _ (by decide +kernel)) (T.init _ (by decide +kernel)) (I_Unsayable T) (takes_of rfl rfl rfl rfl) (hr.mono (by decide)) (by rfl) (T.exG _ (by decide +kernel)) (ca_cons ce_str (ca_cons ce_str (ca_cons (ce_var (pv 3)) ca_nil))))) ca_nil)))))
  (cs_cons (cs_if (PW.pt (cw_or (ct_not (ct_truth (ce_call ((D__law_same T 6).mono (by decide)) (takes_of rfl rfl rfl rfl) hr (by rfl) (ca_cons (ce_var (pv 4)) (ca_cons (ce_op op_vMul (ce_lst (ca_cons (ce_var (pv 3)) ca_nil)) ce_int) ca_nil))))) (pw_or1 (ct_not (ct_truth (ce_call ((D__law_same T 6).mono (by decide)) (takes_of rfl rfl rfl rfl) hr (by rfl) (ca_cons (ce_xf (xf_one T (by decide +kernel)) (ce_newI (by decide) (cfg_ok (by decide +kernel)) (T.ex _ (by decide +kernel)) (T.init _ (by decide +kernel)) (I_Unsayable T) (takes_of rfl rfl rfl rfl) (hr.mono (by decide)) (by rfl) (T.exG _ (by decide +kernel)) (ca_cons ce_str (ca_cons (ce_var (pv 1)) (ca_cons ce_int ca_nil))))) (ca_cons (ce_var (pv 1)) ca_nil))))))))
  (cs_one (cs_ret ce_bl))
  cs_nil)
  (cs_cons (cs_set (i := 5) sc__law_errors_right.nd rfl (Or.inl rfl) (ce_tup (ca_cons (ce_tup (ca_cons (ce_var (pv 1)) ca_nil)) (ca_cons (ce_tup (ca_cons (ce_var (pv 2)) ca_nil)) ca_nil))))
  (cs_cons (cs_if (ct_not (ct_truth (ce_call ((D__law_same T 6).mono (by decide)) (takes_of rfl rfl rfl rfl) hr (by rfl) (ca_cons (ce_tup (ca_cons (ce_xf (xf_one T (by decide +kernel)) (ce_newI (by decide) (cfg_ok (by decide +kernel)) (T.ex _ (by decide +kernel)) (T.init _ (by decide +kernel)) (I_Unsafe T) (takes_of rfl rfl rfl rfl) (hr.mono (by decide)) (by rfl) (T.exG _ (by decide +kernel)) (ca_cons (ce_ix hr (ce_var (pv 5)) ce_int (fun _ _ => rfl)) (ca_cons (ce_ix hr (ce_var (pv 5)) ce_int (fun _ _ => rfl)) ca_nil)))) (ca_cons (ce_xf (xf_one T (by decide +kernel)) (ce_newI (by decide) (cfg_ok (by decide +kernel)) (T.ex _ (by decide +kernel)) (T.init _ (by decide +kernel)) (I_Unsafe T) (takes_of rfl rfl rfl rfl) (hr.mono (by decide)) (by rfl) (T.exG _ (by decide +kernel)) (ca_cons (ce_ix hr (ce_var (pv 5)) ce_int (fun _ _ => rfl)) (ca_cons (ce_ix hr (ce_var (pv 5)) ce_int (fun _ _ => rfl)) ca_nil)))) ca_nil))) (ca_cons (ce_var (pv 5)) ca_nil)))))
  (cs_one (cs_ret ce_bl))
  cs_nil)
  (cs_cons (cs_if (ct_not (ct_truth (ce_call ((D__law_same T 6).mono (by decide)) (takes_of rfl rfl rfl rfl) hr (by rfl) (ca_cons (ce_tup (ca_cons (ce_xf (xf_one T (by decide +kernel)) (ce_newI (by decide) (cfg_ok (by decide +kernel)) (T.ex _ (by decide +kernel)) (T.init _ (by decide +kernel)) (I_Mismatch T) (takes_of rfl rfl rfl rfl) (hr.mono (by decide)) (by rfl) (T.exG _ (by decide +kernel)) (ca_cons (ce_var (pv 5)) ca_nil))) (ca_cons (ce_xf (xf_one T (by decide +kernel)) (ce_newI (by decide) (cfg_ok (by decide +kernel)) (T.ex _ (by decide +kernel)) (T.init _ (by decide +kernel)) (I_TooNew T) (takes_of rfl rfl rfl rfl) (hr.mono (by decide)) (by rfl) (T.exG _ (by decide +kernel)) (ca_cons (ce_lst (ca_cons (ce_var (pv 1)) (ca_cons (ce_var (pv 2)) ca_nil))) ca_nil))) ca_nil))) (ca_cons (ce_tup (ca_cons (ce_var (pv 5)) (ca_cons (ce_lst (ca_cons (ce_var (pv 1)) (ca_cons (ce_var (pv 2)) ca_nil))) ca_nil))) ca_nil)))))
  (cs_one (cs_ret ce_bl))
  cs_nil)
  (cs_cons (cs_set (i := 6) sc__law_errors_right.nd rfl (Or.inl rfl) (ce_lst (ca_cons (ce_new0 (cfg_ok (by decide +kernel)) (T.ex _ (by decide +kernel)) (T.plain _ (by decide +kernel)) (by rfl) (T.exG _ (by decide +kernel))) (ca_cons (ce_new0 (cfg_ok (by decide +kernel)) (T.ex _ (by decide +kernel)) (T.plain _ (by decide +kernel)) (by rfl) (T.exG _ (by decide +kernel))) (ca_cons (ce_newI (by decide) (cfg_ok (by decide +kernel)) (T.ex _ (by decide +kernel)) (T.init _ (by decide +kernel)) (I_NoTable T) (takes_of rfl rfl rfl rfl) (hr.mono (by decide)) (by rfl) (T.exG _ (by decide +kernel)) (ca_cons (ce_var (pv 1)) ca_nil)) (ca_cons (ce_newI (by decide) (cfg_ok (by decide +kernel)) (T.ex _ (by decide +kernel)) (T.init _ (by decide +kernel)) (I_NoColumn T) (takes_of rfl rfl rfl rfl) (hr.mono (by decide)) (by rfl) (T.exG _ (by decide +kernel)) (ca_cons (ce_var (pv 1)) ca_nil)) (ca_cons (ce_newI (by decide) (cfg_ok (by decide +kernel)) (T.ex _ (by decide +kernel)) (T.init _ (by decide +kernel)) (I_NameTaken T) (takes_of rfl rfl rfl rfl) (hr.mono (by decide)) (by rfl) (T.exG _ (by decide +kernel)) (ca_cons (ce_var (pv 1)) ca_nil)) (ca_cons (ce_newI (by decide) (cfg_ok (by decide +kernel)) (T.ex _ (by decide +kernel)) (T.init _ (by decide +kernel)) (I_WrongKind T) (takes_of rfl rfl rfl rfl) (hr.mono (by decide)) (by rfl) (T.exG _ (by decide +kernel)) (ca_cons (ce_var (pv 1)) ca_nil)) (ca_cons (ce_newI (by decide) (cfg_ok (by decide +kernel)) (T.ex _ (by decide +kernel)) (T.init _ (by decide +kernel)) (I_WrongMark T) (takes_of rfl rfl rfl rfl) (hr.mono (by decide)) (by rfl) (T.exG _ (by decide +kernel)) (ca_cons (ce_var (pv 1)) ca_nil)) ca_nil)))))))))
  (cs_cons (cs_set (i := 6) sc__law_errors_right.nd rfl (Or.inl rfl) (ce_op op_vAdd (ce_var (pv 6)) (ce_lst (ca_cons (ce_newI (by decide) (cfg_ok (by decide +kernel)) (T.ex _ (by decide +kernel)) (T.init _ (by decide +kernel)) (I_WrongValue T) (takes_of rfl rfl rfl rfl) (hr.mono (by decide)) (by rfl) (T.exG _ (by decide +kernel)) (ca_cons (ce_var (pv 1)) ca_nil)) (ca_cons (ce_newI (by decide) (cfg_ok (by decide +kernel)) (T.ex _ (by decide +kernel)) (T.init _ (by decide +kernel)) (I_NoNode T) (takes_of rfl rfl rfl rfl) (hr.mono (by decide)) (by rfl) (T.exG _ (by decide +kernel)) (ca_cons (ce_var (pv 1)) ca_nil)) (ca_cons (ce_newI (by decide) (cfg_ok (by decide +kernel)) (T.ex _ (by decide +kernel)) (T.init _ (by decide +kernel)) (I_NodeDown T) (takes_of rfl rfl rfl rfl) (hr.mono (by decide)) (by rfl) (T.exG _ (by decide +kernel)) (ca_cons (ce_var (pv 1)) ca_nil)) (ca_cons (ce_newI (by decide) (cfg_ok (by decide +kernel)) (T.ex _ (by decide +kernel)) (T.init _ (by decide +kernel)) (I_NotLeading T) (takes_of rfl rfl rfl rfl) (hr.mono (by decide)) (by rfl) (T.exG _ (by decide +kernel)) (ca_cons (ce_var (pv 1)) ca_nil)) (ca_cons (ce_newI (by decide) (cfg_ok (by decide +kernel)) (T.ex _ (by decide +kernel)) (T.init _ (by decide +kernel)) (I_NoHolder T) (takes_of rfl rfl rfl rfl) (hr.mono (by decide)) (by rfl) (T.exG _ (by decide +kernel)) (ca_cons (ce_var (pv 1)) ca_nil)) (ca_cons (ce_newI (by decide) (cfg_ok (by decide +kernel)) (T.ex _ (by decide +kernel)) (T.init _ (by decide +kernel)) (I_LastHolder T) (takes_of rfl rfl rfl rfl) (hr.mono (by decide)) (by rfl) (T.exG _ (by decide +kernel)) (ca_cons (ce_var (pv 1)) ca_nil)) ca_nil)))))))))
  (cs_cons (cs_set (i := 6) sc__law_errors_right.nd rfl (Or.inl rfl) (ce_op op_vAdd (ce_var (pv 6)) (ce_lst (ca_cons (ce_newI (by decide) (cfg_ok (by decide +kernel)) (T.ex _ (by decide +kernel)) (T.init _ (by decide +kernel)) (I_NoLine T) (takes_of rfl rfl rfl rfl) (hr.mono (by decide)) (by rfl) (T.exG _ (by decide +kernel)) (ca_cons (ce_var (pv 1)) ca_nil)) (ca_cons (ce_newI (by decide) (cfg_ok (by decide +kernel)) (T.ex _ (by decide +kernel)) (T.init _ (by decide +kernel)) (I_NoTenant T) (takes_of rfl rfl rfl rfl) (hr.mono (by decide)) (by rfl) (T.exG _ (by decide +kernel)) (ca_cons (ce_var (pv 1)) ca_nil)) (ca_cons (ce_newI (by decide) (cfg_ok (by decide +kernel)) (T.ex _ (by decide +kernel)) (T.init _ (by decide +kernel)) (I_NoLeader T) (takes_of rfl rfl rfl rfl) (hr.mono (by decide)) (by rfl) (T.exG _ (by decide +kernel)) (ca_cons (ce_var (pv 1)) ca_nil)) (ca_cons (ce_newI (by decide) (cfg_ok (by decide +kernel)) (T.ex _ (by decide +kernel)) (T.init _ (by decide +kernel)) (I_StillUsed T) (takes_of rfl rfl rfl rfl) (hr.mono (by decide)) (by rfl) (T.exG _ (by decide +kernel)) (ca_cons (ce_var (pv 1)) ca_nil)) (ca_cons (ce_newI (by decide) (cfg_ok (by decide +kernel)) (T.ex _ (by decide +kernel)) (T.init _ (by decide +kernel)) (I_StillNeeded T) (takes_of rfl rfl rfl rfl) (hr.mono (by decide)) (by rfl) (T.exG _ (by decide +kernel)) (ca_cons (ce_var (pv 1)) (ca_cons ce_int ca_nil))) (ca_cons (ce_newI (by decide) (cfg_ok (by decide +kernel)) (T.ex _ (by decide +kernel)) (T.init _ (by decide +kernel)) (I_Hidden T) (takes_of rfl rfl rfl rfl) (hr.mono (by decide)) (by rfl) (T.exG _ (by decide +kernel)) (ca_cons (ce_var (pv 1)) ca_nil)) ca_nil)))))))))
  (cs_cons (cs_set (i := 6) sc__law_errors_right.nd rfl (Or.inl rfl) (ce_op op_vAdd (ce_var (pv 6)) (ce_lst (ca_cons (ce_newI (by decide) (cfg_ok (by decide +kernel)) (T.ex _ (by decide +kernel)) (T.init _ (by decide +kernel)) (I_Unsayable T) (takes_of rfl rfl rfl rfl) (hr.mono (by decide)) (by rfl) (T.exG _ (by decide +kernel)) (ca_cons (ce_var (pv 1)) (ca_cons ce_str (ca_cons ce_int ca_nil)))) (ca_cons (ce_newI (by decide) (cfg_ok (by decide +kernel)) (T.ex _ (by decide +kernel)) (T.init _ (by decide +kernel)) (I_NoRoad T) (takes_of rfl rfl rfl rfl) (hr.mono (by decide)) (by rfl) (T.exG _ (by decide +kernel)) (ca_cons (ce_var (pv 1)) (ca_cons ce_int ca_nil))) (ca_cons (ce_newI (by decide) (cfg_ok (by decide +kernel)) (T.ex _ (by decide +kernel)) (T.init _ (by decide +kernel)) (I_Forked T) (takes_of rfl rfl rfl rfl) (hr.mono (by decide)) (by rfl) (T.exG _ (by decide +kernel)) (ca_cons (ce_var (pv 1)) ca_nil)) (ca_cons (ce_newI (by decide) (cfg_ok (by decide +kernel)) (T.ex _ (by decide +kernel)) (T.init _ (by decide +kernel)) (I_MoveOpen T) (takes_of rfl rfl rfl rfl) (hr.mono (by decide)) (by rfl) (T.exG _ (by decide +kernel)) (ca_cons (ce_var (pv 1)) ca_nil)) (ca_cons (ce_newI (by decide) (cfg_ok (by decide +kernel)) (T.ex _ (by decide +kernel)) (T.init _ (by decide +kernel)) (I_NoMove T) (takes_of rfl rfl rfl rfl) (hr.mono (by decide)) (by rfl) (T.exG _ (by decide +kernel)) (ca_cons (ce_var (pv 1)) ca_nil)) (ca_cons (ce_newI (by decide) (cfg_ok (by decide +kernel)) (T.ex _ (by decide +kernel)) (T.init _ (by decide +kernel)) (I_WrongPhase T) (takes_of rfl rfl rfl rfl) (hr.mono (by decide)) (by rfl) (T.exG _ (by decide +kernel)) (ca_cons (ce_var (pv 1)) ca_nil)) ca_nil)))))))))
  (cs_cons (cs_set (i := 6) sc__law_errors_right.nd rfl (Or.inl rfl) (ce_op op_vAdd (ce_var (pv 6)) (ce_lst (ca_cons (ce_newI (by decide) (cfg_ok (by decide +kernel)) (T.ex _ (by decide +kernel)) (T.init _ (by decide +kernel)) (I_BadFile T) (takes_of rfl rfl rfl rfl) (hr.mono (by decide)) (by rfl) (T.exG _ (by decide +kernel)) (ca_cons ce_int ca_nil)) (ca_cons (ce_newI (by decide) (cfg_ok (by decide +kernel)) (T.ex _ (by decide +kernel)) (T.init _ (by decide +kernel)) (I_NoVersion T) (takes_of rfl rfl rfl rfl) (hr.mono (by decide)) (by rfl) (T.exG _ (by decide +kernel)) (ca_cons ce_int ca_nil)) (ca_cons (ce_newI (by decide) (cfg_ok (by decide +kernel)) (T.ex _ (by decide +kernel)) (T.init _ (by decide +kernel)) (I_BadOps T) (takes_of rfl rfl rfl rfl) (hr.mono (by decide)) (by rfl) (T.exG _ (by decide +kernel)) (ca_cons ce_int ca_nil)) (ca_cons (ce_newI (by decide) (cfg_ok (by decide +kernel)) (T.ex _ (by decide +kernel)) (T.init _ (by decide +kernel)) (I_NoMoment T) (takes_of rfl rfl rfl rfl) (hr.mono (by decide)) (by rfl) (T.exG _ (by decide +kernel)) (ca_cons ce_int ca_nil)) (ca_cons (ce_newI (by decide) (cfg_ok (by decide +kernel)) (T.ex _ (by decide +kernel)) (T.init _ (by decide +kernel)) (I_StampBack T) (takes_of rfl rfl rfl rfl) (hr.mono (by decide)) (by rfl) (T.exG _ (by decide +kernel)) (ca_cons ce_int ca_nil)) (ca_cons (ce_newI (by decide) (cfg_ok (by decide +kernel)) (T.ex _ (by decide +kernel)) (T.init _ (by decide +kernel)) (I_NotCommitted T) (takes_of rfl rfl rfl rfl) (hr.mono (by decide)) (by rfl) (T.exG _ (by decide +kernel)) (ca_cons ce_int ca_nil)) (ca_cons (ce_newI (by decide) (cfg_ok (by decide +kernel)) (T.ex _ (by decide +kernel)) (T.init _ (by decide +kernel)) (I_NoItem T) (takes_of rfl rfl rfl rfl) (hr.mono (by decide)) (by rfl) (T.exG _ (by decide +kernel)) (ca_cons ce_int ca_nil)) ca_nil))))))))))
  (cs_cons (cs_set (i := 6) sc__law_errors_right.nd rfl (Or.inl rfl) (ce_op op_vAdd (ce_var (pv 6)) (ce_lst (ca_cons (ce_newI (by decide) (cfg_ok (by decide +kernel)) (T.ex _ (by decide +kernel)) (T.init _ (by decide +kernel)) (I_WrongPads T) (takes_of rfl rfl rfl rfl) (hr.mono (by decide)) (by rfl) (T.exG _ (by decide +kernel)) (ca_cons ce_int ca_nil)) (ca_cons (ce_newI (by decide) (cfg_ok (by decide +kernel)) (T.ex _ (by decide +kernel)) (T.init _ (by decide +kernel)) (I_Held T) (takes_of rfl rfl rfl rfl) (hr.mono (by decide)) (by rfl) (T.exG _ (by decide +kernel)) (ca_cons ce_int ca_nil)) (ca_cons (ce_newI (by decide) (cfg_ok (by decide +kernel)) (T.ex _ (by decide +kernel)) (T.init _ (by decide +kernel)) (I_Behind T) (takes_of rfl rfl rfl rfl) (hr.mono (by decide)) (by rfl) (T.exG _ (by decide +kernel)) (ca_cons ce_int ca_nil)) (ca_cons (ce_newI (by decide) (cfg_ok (by decide +kernel)) (T.ex _ (by decide +kernel)) (T.init _ (by decide +kernel)) (I_NoTicket T) (takes_of rfl rfl rfl rfl) (hr.mono (by decide)) (by rfl) (T.exG _ (by decide +kernel)) (ca_cons ce_int ca_nil)) (ca_cons (ce_newI (by decide) (cfg_ok (by decide +kernel)) (T.ex _ (by decide +kernel)) (T.init _ (by decide +kernel)) (I_Unsafe T) (takes_of rfl rfl rfl rfl) (hr.mono (by decide)) (by rfl) (T.exG _ (by decide +kernel)) (ca_cons (ce_tup ca_nil) (ca_cons (ce_tup ca_nil) ca_nil))) (ca_cons (ce_newI (by decide) (cfg_ok (by decide +kernel)) (T.ex _ (by decide +kernel)) (T.init _ (by decide +kernel)) (I_Mismatch T) (takes_of rfl rfl rfl rfl) (hr.mono (by decide)) (by rfl) (T.exG _ (by decide +kernel)) (ca_cons ce_int ca_nil)) (ca_cons (ce_newI (by decide) (cfg_ok (by decide +kernel)) (T.ex _ (by decide +kernel)) (T.init _ (by decide +kernel)) (I_TooNew T) (takes_of rfl rfl rfl rfl) (hr.mono (by decide)) (by rfl) (T.exG _ (by decide +kernel)) (ca_cons (ce_lst ca_nil) ca_nil)) ca_nil))))))))))
  (cs_cons (cs_for (passes_of rfl) rfl (ci_range1 (by rfl) (n_range T) (ca_cons (ce_callB cr_len (by rfl) (n_len T) bb_len (ca_cons (ce_var (pv 6)) ca_nil)) ca_nil)) (cg_name (i := 7) sc__law_errors_right.nd rfl (Or.inr rfl))
  (cs_cons (cs_if (PW.pt (cw_or (ct_not (ct_truth (ce_isX (ClsV.own _) (isx_own T subOk (by decide +kernel)) (by rfl) (n_isinstance T) (pe_glob (by rfl) (T.exG _ (by decide +kernel)) rfl) (ce_ix hr (ce_var (pv 6)) (ce_var (pv 7)) (fun _ _ => rfl))))) (pw_or1 (ct_not (ct_truth (ce_isX (ClsV.ty "ValueError") (isx_ve T subOk) (by rfl) (n_isinstance T) (pe_bltn (v := .ty "ValueError") (by rfl) (n_ValueError T) bb_ValueError rfl) (ce_ix hr (ce_var (pv 6)) (ce_var (pv 7)) (fun _ _ => rfl))))))))
  (cs_one (cs_ret ce_bl))
  cs_nil)
  (cs_one (cs_if (ct_cmp (op_vNe hr) (ce_call ((D__law_kinds T).mono (by decide)) (takes_of rfl rfl rfl rfl) hr (by rfl) (ca_cons (ce_ix hr (ce_var (pv 6)) (ce_var (pv 7)) (fun _ _ => rfl)) ca_nil)) (ce_lc (own := [("place", 8)]) rfl sc__law_errors_right.nd (ci_range1 (by rfl) (n_range T) (ca_cons (ce_callB cr_len (by rfl) (n_len T) bb_len (ca_cons (ce_var (pv 6)) ca_nil)) ca_nil)) (blkOk_by (N := N__law_errors_right) (sc := defScope s__law_errors_right) (by decide +kernel)) (gName 8) (fun _ _ _ _ _ => pg_name (i := 8) sc__law_errors_right.nd rfl (Or.inl rfl)) gN_ok (by decide) (fun _ _ _ _ _ => ct_yes) (fun _ _ _ _ _ => (ce_cmp (op_vEq hr) (ce_var (pv 8)) (ce_var (pv 7)) (nomark _)))) (nomark _))
  (cs_one (cs_ret ce_bl))
  cs_nil))))
  (cs_one (cs_ret (ce_cmp (op_vEq hr) (ce_callB cr_len (by rfl) (n_len T) bb_len (ca_cons (ce_var (pv 6)) ca_nil)) ce_int (nomark _))))))))))))))))))))))))))))), T.glo p__law_errors_right mp__law_errors_right, F.kp, F.binds (ps := ["pool"]) fun _ _ _ _ _ _ us hl => match us, hl with | [_], _ => rfl⟩⟩
def N_law : List Str := ["script", "pool", "probe", "kind", "value", "other"]
theorem sc_law : FnScope N_law ["script"] (defScope s_law) := ⟨rfl, rfl, rfl, by decide +kernel, rfl, by decide +kernel, by decide +kernel⟩
noncomputable def m_law : MF := runB 6 (
  (sSeq (sSet 1 (mCall 1 m__law_pool (mCons (mVar 0) mNil)))
  (sSeq (sIf (mOr (mNot (mTr (mCall 1 m__law_errors_right (mCons (mVar 1) mNil)))) (mNot (mTr (mCall 2 (m__law_same 6) (mCons (mC c_ALPHABET) (mCons (mCall 0 m__law_alphabet mNil) mNil))))))
  (sRet (mC (.bl false)))
  sNil)
  (sSeq (sFor (mRange1 (mCons (mC (.int 8)) mNil)) (gN 2)
  (sSeq (sExpr (mCall 1 m__law_next (mCons (mVar 1) mNil)))
  (sSeq (sSet 3 (mCall 2 m__law_pick (mCons (mVar 1) (mCons (mLst (mCons (mC (.str "int")) (mCons (mC (.str "text")) (mCons (mC (.str "text")) (mCons (mC (.str "flag")) mNil))))) mNil))))
  (sSeq (sIf (mOr (mNot (mTr (mCall 2 m__law_codes_right (mCons (mVar 1) (mCons (mVar 3) mNil))))) (mOr (mNot (mTr (mCall 2 m__law_cells_right (mCons (mVar 1) (mCons (mVar 3) mNil))))) (mNot (mTr (mCall 1 m__law_names_right (mCons (mVar 1) mNil))))))
  (sRet (mC (.bl false)))
  sNil)
  (sFor (mIter (mCall 1 m__law_near (mCons (mVar 1) mNil))) (gN 4)
  (sFor (mIter (mLst (mCons (mC (.str "int")) (mCons (mC (.str "text")) (mCons (mC (.str "flag")) mNil))))) (gN 5)
  (sIf (mNot (mTr (mCall 2 (m__law_same 6) (mCons (mCall 2 m_is_value (mCons (mVar 5) (mCons (mVar 4) mNil))) (mCons (mCall 2 m__law_due_value (mCons (mVar 5) (mCons (mVar 4) mNil))) mNil)))))
  (sRet (mC (.bl false)))
  sNil)))))))
  (sRet (mC (.bl true)))))))
theorem D_law (T : D0.Ok K h mg) : Dep P0 w K mg base (cfgOf D0.exs K) "law" 8 1 m_law := by
  obtain ⟨fd, F⟩ := T.def_ (d := p_law) mp_law rfl
  exact ⟨⟨_, fd, ["script"], fnM F sc_law (fun cdv A outer s H E hr => 
  (cs_cons (cs_set (i := 1) sc_law.nd rfl (Or.inl rfl) (ce_call ((D__law_pool T).mono (by decide)) (takes_of rfl rfl rfl rfl) hr (by rfl) (ca_cons (ce_var (pv 0)) ca_nil)))
  (cs_cons (cs_if (PW.pt (cw_or (ct_not (ct_truth (ce_call ((D__law_errors_right T).mono (by decide)) (takes_of rfl rfl rfl rfl) hr (by rfl) (ca_cons (ce_var (pv 1)) ca_nil)))) (pw_or1 (ct_not (ct_truth (ce_call ((D__law_same T 6).mono (by decide)) (takes_of rfl rfl rfl rfl) hr (by rfl) (ca_cons (ce_gstr (g_ALPHABET T) (by rfl)) (ca_cons (ce_call0 ((D__law_alphabet T).mono (by decide)) (takes_of rfl rfl rfl rfl) hr (by rfl)) ca_nil))))))))
  (cs_one (cs_ret ce_bl))
  cs_nil)
  (cs_cons (cs_for (passes_of rfl) rfl (ci_range1 (by rfl) (n_range T) (ca_cons ce_int ca_nil)) (cg_name (i := 2) sc_law.nd rfl (Or.inl rfl))
  (cs_cons (cs_expr (ce_call ((D__law_next T).mono (by decide)) (takes_of rfl rfl rfl rfl) hr (by rfl) (ca_cons (ce_var (pv 1)) ca_nil)))
  (cs_cons (cs_set (i := 3) sc_law.nd rfl (Or.inl rfl) (ce_call ((D__law_pick T).mono (by decide)) (takes_of rfl rfl rfl rfl) hr (by rfl) (ca_cons (ce_var (pv 1)) (ca_cons (ce_lst (ca_cons ce_str (ca_cons ce_str (ca_cons ce_str (ca_cons ce_str ca_nil))))) ca_nil))))
  (cs_cons (cs_if (PW.pt (cw_or (ct_not (ct_truth (ce_call ((D__law_codes_right T).mono (by decide)) (takes_of rfl rfl rfl rfl) hr (by rfl) (ca_cons (ce_var (pv 1)) (ca_cons (ce_var (pv 3)) ca_nil))))) (cw_or (ct_not (ct_truth (ce_call ((D__law_cells_right T).mono (by decide)) (takes_of rfl rfl rfl rfl) hr (by rfl) (ca_cons (ce_var (pv 1)) (ca_cons (ce_var (pv 3)) ca_nil))))) (pw_or1 (ct_not (ct_truth (ce_call ((D__law_names_right T).mono (by decide)) (takes_of rfl rfl rfl rfl) hr (by rfl) (ca_cons (ce_var (pv 1)) ca_nil))))))))
  (cs_one (cs_ret ce_bl))
  cs_nil)
  (cs_one (cs_for (passes_of rfl) rfl (ci_any (ce_call ((D__law_near T).mono (by decide)) (takes_of rfl rfl rfl rfl) hr (by rfl) (ca_cons (ce_var (pv 1)) ca_nil))) (cg_name (i := 4) sc_law.nd rfl (Or.inl rfl))
  (cs_one (cs_for (passes_of rfl) rfl (ci_any (ce_lst (ca_cons ce_str (ca_cons ce_str (ca_cons ce_str ca_nil))))) (cg_name (i := 5) sc_law.nd rfl (Or.inl rfl))
  (cs_one (cs_if (ct_not (ct_truth (ce_call ((D__law_same T 6).mono (by decide)) (takes_of rfl rfl rfl rfl) hr (by rfl) (ca_cons (ce_call ((D_is_value T).mono (by decide)) (takes_of rfl rfl rfl rfl) hr (by rfl) (ca_cons (ce_var (pv 5)) (ca_cons (ce_var (pv 4)) ca_nil))) (ca_cons (ce_call ((D__law_due_value T).mono (by decide)) (takes_of rfl rfl rfl rfl) hr (by rfl) (ca_cons (ce_var (pv 5)) (ca_cons (ce_var (pv 4)) ca_nil))) ca_nil)))))
  (cs_one (cs_ret ce_bl))
  cs_nil))))))))))
  (cs_one (cs_ret ce_bl)))))), T.glo p_law mp_law, F.kp, F.binds (ps := ["script"]) fun _ _ _ _ _ _ us hl => match us, hl with | [_], _ => rfl⟩⟩
end
end L51

namespace L51
open PySem PySem.W PySem.Calls PyProof.Rows PM
theorem ob0_eq (s : SharedT) : ob0 s = (hookE D0).obs s.abs := obsE_eq (HandSHeadRun.getT_eq s)
theorem map3 {α β γ δ : Type} {x : Option α} {a : α → β} {b : α → γ} {c : α → δ} {p : β} {q : γ} {r : δ} (h1 : x.map (fun s => a s) = some p) (h2 : x.map (fun s => b s) = some q) (h3 : x.map (fun s => c s) = some r) : x.map (fun s => (a s, b s, c s)) = some (p, q, r) := by
  cases x with
  | none => cases h1
  | some s =>
    have e1 : a s = p := Option.some.inj h1
    have e2 : b s = q := Option.some.inj h2
    have e3 : c s = r := Option.some.inj h3
    show some (a s, b s, c s) = _
    rw [e1, e2, e3]
theorem run0 (w : World) : HandSHeadRun.RunEq R0 qv (hookE D0) ob0 12000 names w := fun os => map3 (run_ea w os) (run_eb w os) (run_ec w os)
end L51

/-! k51, the plain part: the pool of numbers. -/
namespace L51
open PySem PySem.Spec PyProof.Rows L2 PM

local macro_rules | `(tactic| done) => `(tactic| first
  | (with_reducible apply ws_seq) | (with_reducible apply ws_set) | (with_reducible apply ws_ret) | (with_reducible apply ws_if) | (with_reducible apply ws_expr) | (with_reducible apply ws_sub) | (with_reducible apply ws_nil) | (with_reducible apply ws_retN)
  | ((with_reducible apply w_var); · exact rfl)
  | (with_reducible apply w_c) | (with_reducible apply w_op) | (with_reducible apply w_un) | (with_reducible apply w_t) | (with_reducible apply w_tr) | (with_reducible apply w_and) | (with_reducible apply w_or) | (with_reducible apply w_not)
  | (with_reducible apply w_andV) | (with_reducible apply w_orV) | (with_reducible apply w_notV) | (with_reducible apply w_ifE) | (with_reducible apply w_chain) | (with_reducible apply w_nil) | (with_reducible apply w_cons) | (with_reducible apply w_cb)
  | (with_reducible apply w_tup) | (with_reducible apply w_lst) | (with_reducible apply w_call) | (with_reducible apply w_meth) | (with_reducible apply w_isi) | (with_reducible apply w_isi2) | (with_reducible apply w_slice) | (with_reducible apply w_no) | (with_reducible apply w_part)
  | (with_reducible apply o_add) | (with_reducible apply o_sub) | (with_reducible apply o_neg) | (with_reducible apply o_eqi) | (with_reducible apply o_nei) | (with_reducible apply o_eqs) | (with_reducible apply o_nes) | (with_reducible apply o_eqb) | (with_reducible apply o_neb)
  | (with_reducible apply o_lt) | (with_reducible apply o_gt) | (with_reducible apply o_le) | (with_reducible apply o_ge) | (with_reducible apply o_int) | (with_reducible apply o_max) | (with_reducible apply o_min)
  | ((with_reducible apply o_is); · exact rfl) | ((with_reducible apply o_isn); · exact rfl) | (with_reducible apply o_in) | (with_reducible apply o_nin)
  | (with_reducible refine ⟨_, rfl, ?_⟩))

theorem mulOk_big {i j : Int} (h1 : i.natAbs < 2 ^ 1000) (h2 : j.natAbs < 2 ^ 1000) : mulOk i j = true := by
  unfold mulOk
  have l1 : i.natAbs.log2 < 1000 := by
    by_cases z : i.natAbs = 0
    · rw [z]; decide
    · exact (Nat.log2_lt z).mpr h1
  have l2 : j.natAbs.log2 < 1000 := by
    by_cases z : j.natAbs = 0
    · rw [z]; decide
    · exact (Nat.log2_lt z).mpr h2
  have : i.natAbs.log2 + j.natAbs.log2 < 1000000 := by omega
  rw [decide_eq_true this, Bool.or_true]
/-- every object but p is as it was -/
structure Fr (p : Nat) (c c' : CS) : Prop where
  nx : c.next ≤ c'.next
  ob : ∀ n, n < c.next → n ≠ p → c'.obj n = c.obj n
theorem Fr.refl {p : Nat} {c : CS} : Fr p c c := ⟨Nat.le_refl _, fun _ _ _ => rfl⟩
theorem Fr.trans {p : Nat} {c c1 c2 : CS} (a : Fr p c c1) (b : Fr p c1 c2) : Fr p c c2 := ⟨Nat.le_trans a.nx b.nx, fun n h h' => (b.ob n (Nat.lt_of_lt_of_le h a.nx) h').trans (a.ob n h h')⟩
theorem Fr.set {p : Nat} {c : CS} {o : CO} : Fr p c (c.set p o) := ⟨Nat.le_refl _, fun n _ h => CS.set_ne h⟩
theorem Fr.new {p : Nat} {c : CS} {o : CO} : Fr p c (c.new o) := ⟨Nat.le_succ _, fun n h _ => CS.new_ne (Nat.ne_of_lt h)⟩
/-- the pool at p over the script at s -/
structure Pool (ns : List Int) (p : Nat) (c : CS) : Prop where
  lt : p < c.next
  s0 : 0 < p
  at_ : ∃ i q f : Int, c.obj p = .lst [.ref 0, .int i, .int q, .int f]
  sc : c.obj 0 = .rol (ns.map CV.int)
theorem Pool.fr {ns : List Int} {p r : Nat} {c c' : CS} (h : Pool ns p c) (f : Fr r c c') (hr : p < r) : Pool ns p c' := by
  obtain ⟨h1, h2, ⟨i, q, g, h3⟩, h4⟩ := h
  exact ⟨Nat.lt_of_lt_of_le h1 f.nx, h2, ⟨i, q, g, by rw [f.ob p h1 (by omega)]; exact h3⟩, by rw [f.ob 0 (by omega) (by omega)]; exact h4⟩

theorem t_mixed (number place : Int) (c : CS) (P : CV → CS → Prop) (h : ∀ v, P (.int v) c) : Tot (m__law_mixed [.int number, .int place] c) P := by
  unfold m__law_mixed
  refine w_run ?_
  repeat done
  refine o_mul (mulOk_l (by decide)) ?_
  repeat done
  refine o_mul (mulOk_l (by decide)) ?_
  repeat done
  refine o_mod (by decide) ?_
  repeat done
  have hb : ∀ a : Int, (a % 618970019642690137449562111).natAbs < 2 ^ 1000 := fun a => by
    have h1 := Int.emod_nonneg a (show (618970019642690137449562111 : Int) ≠ 0 by decide)
    have h2 := Int.emod_lt_of_pos a (show (0 : Int) < 618970019642690137449562111 by decide)
    have : (a % 618970019642690137449562111).natAbs < 618970019642690137449562111 := by omega
    exact Nat.lt_trans this (by decide)
  have hb2 : ∀ a : Int, (a % 162259276829213363391578010288127).natAbs < 2 ^ 1000 := fun a => by
    have h1 := Int.emod_nonneg a (show (162259276829213363391578010288127 : Int) ≠ 0 by decide)
    have h2 := Int.emod_lt_of_pos a (show (0 : Int) < 162259276829213363391578010288127 by decide)
    have : (a % 162259276829213363391578010288127).natAbs < 162259276829213363391578010288127 := by omega
    exact Nat.lt_trans this (by decide)
  refine o_mul (mulOk_big (hb _) (hb _)) ?_
  repeat done
  refine o_mul (mulOk_r (by decide)) ?_
  repeat done
  refine o_mod (by decide) ?_
  repeat done
  refine o_mul (mulOk_big (hb2 _) (hb2 _)) ?_
  repeat done
  refine o_mod (by decide) ?_
  repeat done
  refine o_mul (mulOk_big (hb2 _) (by decide)) ?_
  repeat done
  exact h _
theorem atI_map {ns : List Int} {i : Int} (h1 : 0 ≤ i) (h2 : i < ns.length) : ∃ n, atI (ns.map CV.int) i = some (.int n) := by
  unfold atI ixN
  rw [List.length_map, if_pos h1, if_pos h2]
  have h3 : i.toNat < ns.length := by omega
  exact ⟨ns[i.toNat], by show (ns.map CV.int)[i.toNat]? = _; rw [List.getElem?_map, List.getElem?_eq_getElem h3]; rfl⟩
/-- a test that always goes one way -/
theorem bt {P Q : Prop} (h : P) : (true = true → P) ∧ (true = false → Q) := ⟨fun _ => h, fun z => nomatch z⟩
theorem bf {P Q : Prop} (h : Q) : (false = true → P) ∧ (false = false → Q) := ⟨fun z => (nomatch z), fun _ => h⟩
theorem bd {A P Q : Prop} [Decidable A] (h1 : A → P) (h2 : ¬ A → Q) : (decide A = true → P) ∧ (decide A = false → Q) := ⟨fun z => h1 (of_decide_eq_true z), fun z => h2 (of_decide_eq_false z)⟩
theorem bn {A P Q : Prop} [Decidable A] (h1 : ¬ A → P) (h2 : A → Q) : ((!decide A) = true → P) ∧ ((!decide A) = false → Q) := ⟨fun z => h1 (by rw [Bool.not_eq_true'] at z; exact of_decide_eq_false z), fun z => h2 (by rw [Bool.not_eq_false'] at z; exact of_decide_eq_true z)⟩
theorem tS.mono {r : RS} {D D' : Post} (h : tS r D) (h1 : ∀ ρ c, D.nx ρ c → D'.nx ρ c) (h2 : ∀ v c, D.rt v c → D'.rt v c) (h3 : ∀ ρ c, D.bk ρ c → D'.bk ρ c) (h4 : ∀ ρ c, D.ct ρ c → D'.ct ρ c) : tS r D' := by
  unfold tS at *
  cases r with
  | nx ρ c => exact h1 _ _ h
  | ret v c => exact h2 _ _ h
  | bk ρ c => exact h3 _ _ h
  | ct ρ c => exact h4 _ _ h
  | exc e ρ c => exact h
  | stuck => exact h
/-- a statement, what holds behind it, the rest -/
theorem ws_join {sa sb : MS} {ρ : CEnv} {c : CS} {D : Post} (J : CEnv → CS → Prop) (h1 : wS sa ρ c ⟨J, D.rt, D.bk, D.ct⟩) (h2 : ∀ ρ1 c1, J ρ1 c1 → wS sb ρ1 c1 D) : wS (sSeq sa sb) ρ c D :=
  ws_seq (tS.mono h1 h2 (fun _ _ z => z) (fun _ _ z => z) fun _ _ z => z)
theorem t_rest {ns : List Int} {c : CS} (hs : c.obj 0 = .rol (ns.map CV.int)) (place fills : Int) (P : CV → CS → Prop) (h : ∀ v, P (.int v) c) : Tot (m__law_rest [.ref 0, .int place, .int fills] c) P := by
  unfold m__law_rest
  refine w_run ?_
  let J : CEnv → CS → Prop := fun ρ1 c1 => ∃ number : Int, ρ1 = [some (.ref 0), some (.int place), some (.int fills), some (.int number)] ∧ c1 = c
  refine ws_join J (by
    repeat done
    exact rfl) ?_
  rintro _ _ ⟨n0, rfl, rfl⟩
  refine ws_join J ?_ ?_
  · repeat done
    refine o_lenr hs ?_
    repeat done
    refine bd (fun hl => ?_) (fun _ => ?_)
    · repeat done
      refine o_lenr hs ?_
      refine o_mod hl ?_
      have hl' : (0 : Int) < ns.length := by simpa using hl
      have hi1 := Int.emod_nonneg place (show ((ns.map CV.int).length : Int) ≠ 0 by omega)
      have hi2 := Int.emod_lt_of_pos place hl
      obtain ⟨n, hn⟩ := atI_map (ns := ns) hi1 (by rw [List.length_map] at hi2 ⊢; exact hi2)
      refine o_ixr hs hn ?_
      repeat done
      all_goals exact rfl
    · repeat done
      all_goals exact rfl
  rintro _ _ ⟨n1, rfl, rfl⟩
  refine ws_join J ?_ ?_
  · repeat done
    refine bd (fun _ => ?_) (fun _ => ?_)
    · repeat done
      refine o_mul (mulOk_r (by decide)) ?_
      repeat done
      all_goals exact rfl
    · repeat done
      all_goals exact rfl
  rintro _ _ ⟨n2, rfl, rfl⟩
  refine ws_join J ?_ ?_
  · repeat done
    refine bd (fun _ => ?_) (fun _ => bf ?_)
    · repeat done
      refine o_lenr hs ?_
      repeat done
      refine bd (fun _ => ?_) (fun _ => bf ?_)
      · repeat done
        refine o_pow (i := 10) (j := 18) (by decide) ?_
        repeat done
        refine bd (fun _ => ?_) (fun _ => ?_)
        · repeat done
          refine o_pow (i := 10) (j := 18) (by decide) ?_
          repeat done
          exact h _
        · repeat done
          all_goals exact rfl
      · repeat done
        all_goals exact rfl
    · repeat done
      all_goals exact rfl
  rintro _ _ ⟨n3, rfl, rfl⟩
  repeat done
  refine o_mul (mulOk_l (by decide)) ?_
  repeat done
  exact ⟨rfl, t_mixed _ _ _ _ h⟩
/-- the pool's draw -/
theorem t_draw {ns : List Int} {p : Nat} {c : CS} (hp : Pool ns p c) {limit : Int} (h0 : 0 < limit) (hl : limit.natAbs.log2 < 9000) (P : CV → CS → Prop) (h : ∀ v c', 0 ≤ v → v < limit → Pool ns p c' → Fr p c c' → c'.next = c.next → P (.int v) c') : Tot (m__law_draw [.ref p, .int limit] c) P := by
  obtain ⟨q1, q2, ⟨i, q, f, q3⟩, q4⟩ := hp
  unfold m__law_draw
  refine w_run ?_
  refine ws_join (fun ρ1 c1 => ∃ q f : Int, ρ1 = [some (.ref p), some (.int limit), none] ∧ c1.obj p = .lst [.ref 0, .int i, .int q, .int f] ∧ Fr p c c1 ∧ c1.next = c.next) ?_ ?_
  · repeat done
    refine o_ixl q3 rfl ?_
    repeat done
    refine bd (fun _ => ?_) (fun _ => ?_)
    · repeat done
      refine o_ixl q3 rfl ?_
      repeat done
      refine ⟨_, st_list q3 rfl, ?_⟩
      have q3' : (c.set p (.lst [.ref 0, .int i, .int q, .int (f + 1)])).obj p = .lst [.ref 0, .int i, .int q, .int (f + 1)] := CS.set_same _ _ _
      repeat done
      refine o_ixl q3' rfl ?_
      repeat done
      refine o_ixl q3' rfl ?_
      repeat done
      refine o_ixl q3' rfl ?_
      repeat done
      refine ⟨rfl, t_rest (ns := ns) (by rw [← q4]; exact CS.set_ne (by omega)) _ _ _ fun v => ?_⟩
      repeat done
      refine ⟨_, st_list q3' rfl, ?_⟩
      exact ⟨v, f + 1, rfl, CS.set_same _ _ _, Fr.trans .set .set, rfl⟩
    · apply ws_nil
      exact ⟨q, f, rfl, q3, .refl, rfl⟩
  rintro _ c1 ⟨q, f, rfl, e1, e2, e3⟩
  repeat done
  refine o_ixl e1 rfl ?_
  repeat done
  refine o_mod h0 ?_
  repeat done
  refine o_ixl e1 rfl ?_
  repeat done
  refine o_fdiv ⟨h0, hl⟩ ?_
  repeat done
  refine ⟨_, st_list e1 rfl, ?_⟩
  repeat done
  refine h _ _ (Int.emod_nonneg _ (by omega)) (Int.emod_lt_of_pos _ h0) ⟨by rw [CS.set_next, e3]; exact q1, q2, ⟨i, _, f, CS.set_same _ _ _⟩, ?_⟩ (e2.trans .set) e3
  rw [CS.set_ne (by omega), e2.ob 0 (by omega) (by omega)]
  exact q4
end L51

/-! k51, the plain part: the alphabet, texts by digits, codes. -/
namespace L51
open PySem PySem.Spec PyProof.Rows L2 PM

def AL : Str := " !\"#$&'()*+,-./0123456789:;<=>?@ABCDEFGHIJKLMNOPQRSTUVWXYZ[\\]^_`abcdefghijklmnopqrstuvwxyz{|}~"
def ALs : List Nat := AL.cps.toList
def al (d : Nat) : Nat := ALs.getD d 0
def stc (l : List Nat) : Str := ⟨l.toArray⟩
def tx (ds : List Nat) : Str := stc (ds.map al)
theorem stc_list (l : List Nat) : (stc l).cps.toList = l := rfl
theorem stc_len (l : List Nat) : (stc l).length = l.length := List.size_toArray
theorem tx_len (ds : List Nat) : (tx ds).length = ds.length := by unfold tx; rw [stc_len, List.length_map]
theorem al_len : ALs.length = 94 := by decide +kernel
theorem AL_len : AL.length = 94 := by decide +kernel
theorem al_nodup : ALs.Nodup := by decide +kernel
theorem al_find : ((List.range 94).all fun i => decide (Txt.find AL ⟨#[al i]⟩ = (i : Int)) && decide (Builtin.Str.occurrences AL ⟨#[al i]⟩ 0 AL.length 1 = [i])) = true := by decide +kernel
theorem find_al {d : Nat} (h : d < 94) : Txt.find AL ⟨#[al d]⟩ = (d : Int) := by
  have := List.all_eq_true.mp al_find d (List.mem_range.mpr h)
  rw [Bool.and_eq_true] at this
  exact of_decide_eq_true this.1
theorem occ_al {d : Nat} (h : d < 94) : Builtin.Str.occurrences AL ⟨#[al d]⟩ 0 AL.length 1 = [d] := by
  have := List.all_eq_true.mp al_find d (List.mem_range.mpr h)
  rw [Bool.and_eq_true] at this
  exact of_decide_eq_true this.2
theorem al_get {d : Nat} (h : d < 94) : ALs[d]? = some (al d) := by
  have h' : d < ALs.length := by rw [al_len]; exact h
  unfold al
  rw [List.getD_eq_getElem?_getD, List.getElem?_eq_getElem h']
  rfl
theorem al_mem {d : Nat} (h : d < 94) : al d ∈ ALs := List.mem_of_getElem? (al_get h)
theorem mem_al {p : Nat} (h : p ∈ ALs) : ∃ d, d < 94 ∧ p = al d := by
  obtain ⟨d, hd, e⟩ := List.mem_iff_getElem.mp h
  have hd' : d < 94 := by rw [al_len] at hd; exact hd
  refine ⟨d, hd', ?_⟩
  have := al_get hd'
  rw [List.getElem?_eq_getElem hd, e] at this
  exact Option.some.inj this
/-- a text of the alphabet, by digits -/
theorem tx_of : ∀ {l : List Nat}, (∀ p ∈ l, p ∈ ALs) → ∃ ds : List Nat, (∀ d ∈ ds, d < 94) ∧ l = ds.map al
  | [], _ => ⟨[], by simp, rfl⟩
  | p :: l, h => by
    obtain ⟨ds, h1, h2⟩ := tx_of (l := l) fun q hq => h q (List.mem_cons_of_mem _ hq)
    obtain ⟨d, h3, h4⟩ := mem_al (h p List.mem_cons_self)
    exact ⟨d :: ds, by simpa [h3] using h1, by rw [List.map_cons, ← h4, ← h2]⟩
theorem joinL_one (f : Nat → Nat) : ∀ ds : List Nat, TL.joinL [] (ds.map fun d => [f d]) = ds.map f
  | [] => rfl
  | [d] => rfl
  | d :: e :: ds => by
    have := joinL_one f (e :: ds)
    rw [List.map_cons, List.map_cons] at this ⊢
    rw [TL.joinL, this] <;> first | rfl | simp
theorem join_one (ds : List Nat) : Txt.join "" (ds.map fun d => (⟨#[al d]⟩ : Str)) = tx ds := by
  have h := SX.join_S [] (ds.map fun d => [al d])
  rw [joinL_one, List.map_map] at h
  exact h
theorem strs_map (l : List Str) : strsOf (l.map CV.str) = some l := by
  induction l with
  | nil => rfl
  | cons a l ih => rw [List.map_cons, strsOf, ih]; rfl
theorem fits_one (ds : List Nat) (h : ds.length ≤ 1000) : joinFits "" (ds.map fun d => (⟨#[al d]⟩ : Str)) = true := by
  unfold joinFits
  rw [decide_eq_true_eq]
  have h1 : ((ds.map fun d => (⟨#[al d]⟩ : Str)).map (·.length)).sum = ds.length := by
    clear h
    induction ds with
    | nil => rfl
    | cons d ds ih => rw [List.map_cons, List.map_cons, List.sum_cons, ih, List.length_cons]; show 1 + ds.length = _; omega
  have h2 : ("" : Str).length = 0 := by decide
  rw [h1, h2, List.length_map]
  omega

/-! ### codes -/
def F : Nat → Int
  | 0 => 0
  | n + 1 => F n * 94 + 1
def B (ds : List Nat) : Int := ds.foldl (fun (a : Int) (d : Nat) => a * 94 + (d : Int)) 0
def Lc (ds : List Nat) : Int := ds.foldl (fun (a : Int) (d : Nat) => a * 94 + (d : Int) + 1) 0
theorem B_snoc (ds : List Nat) (d : Nat) : B (ds ++ [d]) = B ds * 94 + d := by unfold B; rw [List.foldl_append]; rfl
theorem Lc_snoc (ds : List Nat) (d : Nat) : Lc (ds ++ [d]) = Lc ds * 94 + d + 1 := by unfold Lc; rw [List.foldl_append]; rfl
theorem snoc_ind {P : List Nat → Prop} (h0 : P []) (h1 : ∀ l a, P l → P (l ++ [a])) (l : List Nat) : P l := by
  have : ∀ r : List Nat, P r.reverse := by
    intro r
    induction r with
    | nil => exact h0
    | cons a r ih => rw [List.reverse_cons]; exact h1 _ _ ih
  have h := this l.reverse
  rwa [List.reverse_reverse] at h
theorem Lc_eq (ds : List Nat) : Lc ds = F ds.length + B ds := by
  induction ds using snoc_ind with
  | h0 => rfl
  | h1 l a ih => rw [Lc_snoc, B_snoc, ih, List.length_append, List.length_singleton, F]; omega
theorem F_nonneg : ∀ n, 0 ≤ F n
  | 0 => by show (0 : Int) ≤ 0; omega
  | n + 1 => by have := F_nonneg n; show 0 ≤ F n * 94 + 1; omega
theorem F_mono_step (n : Nat) : F n < F (n + 1) := by have := F_nonneg n; show F n < F n * 94 + 1; omega
theorem F_mono {m n : Nat} (h : m ≤ n) : F m ≤ F n := by
  induction n with
  | zero => have : m = 0 := by omega
            subst this; exact Int.le_refl _
  | succ n ih =>
    rcases Nat.lt_or_ge n m with z | z
    · have : m = n + 1 := by omega
      subst this; exact Int.le_refl _
    · exact Int.le_trans (ih z) (Int.le_of_lt (F_mono_step n))
theorem F_pow (n : Nat) : F (n + 1) = F n + 94 ^ n := by
  induction n with
  | zero => rfl
  | succ n ih =>
    have e : F (n + 2) = F (n + 1) * 94 + 1 := rfl
    have e2 : F (n + 1) = F n * 94 + 1 := rfl
    have e3 : (94 : Int) ^ (n + 1) = 94 ^ n * 94 := Int.pow_succ _ _
    rw [e, e3]
    rw [e2] at ih ⊢
    omega
theorem Lc_nonneg (ds : List Nat) : 0 ≤ Lc ds := by
  induction ds using snoc_ind with
  | h0 => show (0 : Int) ≤ 0; omega
  | h1 l a ih => rw [Lc_snoc]; omega
theorem Lc_inj {as bs : List Nat} (ha : ∀ d ∈ as, d < 94) (hb : ∀ d ∈ bs, d < 94) (h : Lc as = Lc bs) : as = bs := by
  induction as using snoc_ind generalizing bs with
  | h0 =>
    induction bs using snoc_ind with
    | h0 => rfl
    | h1 l a _ => rw [Lc_snoc] at h; have := Lc_nonneg l; have : Lc [] = 0 := rfl; omega
  | h1 l a ih =>
    induction bs using snoc_ind with
    | h0 => rw [Lc_snoc] at h; have := Lc_nonneg l; have : Lc [] = 0 := rfl; omega
    | h1 m b _ =>
      rw [Lc_snoc, Lc_snoc] at h
      have h1 := ha a (by simp)
      have h2 := hb b (by simp)
      have e1 : a = b := by omega
      have e2 : Lc l = Lc m := by omega
      rw [ih (fun d hd => ha d (by simp [hd])) (fun d hd => hb d (by simp [hd])) e2, e1]
/-- digits of a rest -/
theorem B_bound (ds : List Nat) (h : ∀ d ∈ ds, d < 94) : 0 ≤ B ds ∧ B ds < 94 ^ ds.length := by
  induction ds using snoc_ind with
  | h0 => exact ⟨by show (0 : Int) ≤ 0; omega, by show (0 : Int) < 94 ^ 0; decide⟩
  | h1 l a ih =>
    obtain ⟨h1, h2⟩ := ih fun d hd => h d (by simp [hd])
    have h3 := h a (by simp)
    rw [B_snoc, List.length_append, List.length_singleton, Int.pow_succ]
    constructor <;> omega
def size (k : Str) : Int := if k = "int" then 2000000001 else if k = "flag" then 2 else F 21
theorem F21 : F 21 = (94 ^ 21 - 1) / 93 := by decide +kernel
theorem Lc_lt {ds : List Nat} (h : ∀ d ∈ ds, d < 94) (hl : ds.length ≤ 20) : Lc ds < F 21 := by
  rw [Lc_eq]
  have h1 := (B_bound ds h).2
  have h2 : F ds.length + 94 ^ ds.length = F (ds.length + 1) := (F_pow _).symm
  have h3 : F (ds.length + 1) ≤ F 21 := F_mono (by omega)
  omega
end L51

/-! k51, the plain part: the program's codes and texts. -/
namespace L51
open PySem PySem.Spec PyProof.Rows L2 PM

local macro_rules | `(tactic| done) => `(tactic| first
  | (with_reducible apply ws_seq) | (with_reducible apply ws_set) | (with_reducible apply ws_ret) | (with_reducible apply ws_if) | (with_reducible apply ws_expr) | (with_reducible apply ws_sub) | (with_reducible apply ws_nil) | (with_reducible apply ws_retN)
  | ((with_reducible apply w_var); · exact rfl)
  | (with_reducible apply w_c) | (with_reducible apply w_op) | (with_reducible apply w_un) | (with_reducible apply w_t) | (with_reducible apply w_tr) | (with_reducible apply w_and) | (with_reducible apply w_or) | (with_reducible apply w_not)
  | (with_reducible apply w_andV) | (with_reducible apply w_orV) | (with_reducible apply w_notV) | (with_reducible apply w_ifE) | (with_reducible apply w_chain) | (with_reducible apply w_nil) | (with_reducible apply w_cons) | (with_reducible apply w_cb)
  | (with_reducible apply w_tup) | (with_reducible apply w_lst) | (with_reducible apply w_call) | (with_reducible apply w_meth) | (with_reducible apply w_isi) | (with_reducible apply w_isi2) | (with_reducible apply w_slice) | (with_reducible apply w_no) | (with_reducible apply w_part)
  | (with_reducible apply o_add) | (with_reducible apply o_sub) | (with_reducible apply o_neg) | (with_reducible apply o_eqi) | (with_reducible apply o_nei) | (with_reducible apply o_eqs) | (with_reducible apply o_nes) | (with_reducible apply o_eqb) | (with_reducible apply o_neb)
  | (with_reducible apply o_lt) | (with_reducible apply o_gt) | (with_reducible apply o_le) | (with_reducible apply o_ge) | (with_reducible apply o_int) | (with_reducible apply o_max) | (with_reducible apply o_min)
  | ((with_reducible apply o_is); · exact rfl) | ((with_reducible apply o_isn); · exact rfl) | (with_reducible apply o_in) | (with_reducible apply o_nin)
  | (with_reducible refine ⟨_, rfl, ?_⟩))

/-- only new objects -/
structure Gr (c c' : CS) : Prop where
  nx : c.next ≤ c'.next
  ob : ∀ n, n < c.next → c'.obj n = c.obj n
theorem Gr.refl {c : CS} : Gr c c := ⟨Nat.le_refl _, fun _ _ => rfl⟩
theorem Gr.trans {c c1 c2 : CS} (a : Gr c c1) (b : Gr c1 c2) : Gr c c2 := ⟨Nat.le_trans a.nx b.nx, fun n h => (b.ob n (Nat.lt_of_lt_of_le h a.nx)).trans (a.ob n h)⟩
theorem Gr.new {c : CS} {o : CO} : Gr c (c.new o) := ⟨Nat.le_succ _, fun n h => CS.new_ne (Nat.ne_of_lt h)⟩
theorem Gr.set {c c1 : CS} (g : Gr c c1) {n : Nat} {o : CO} (h : c.next ≤ n) : Gr c (c1.set n o) := ⟨g.nx, fun m hm => by rw [CS.set_ne (by omega)]; exact g.ob m hm⟩
theorem Gr.fr {c c' : CS} (g : Gr c c') (p : Nat) : Fr p c c' := ⟨g.nx, fun n h _ => g.ob n h⟩
theorem Fr.gr {p : Nat} {c c1 c2 : CS} (f : Fr p c c1) (g : Gr c1 c2) : Fr p c c2 := f.trans (g.fr p)
theorem Pool.gr {ns : List Int} {p : Nat} {c c' : CS} (h : Pool ns p c) (g : Gr c c') : Pool ns p c' := by
  obtain ⟨h1, h2, ⟨i, q, f, h3⟩, h4⟩ := h
  exact ⟨Nat.lt_of_lt_of_le h1 g.nx, h2, ⟨i, q, f, by rw [g.ob p h1]; exact h3⟩, by rw [g.ob 0 (by omega)]; exact h4⟩
theorem iInt_get {lo : Int} {n k : Nat} {x : CV} (h : (iInt lo n)[k]? = some x) : k < n ∧ x = .int (lo + k) := by
  unfold iInt at h
  rw [List.getElem?_map] at h
  cases e : (List.range n)[k]? with
  | none => rw [e] at h; cases h
  | some j =>
    rw [e] at h
    obtain ⟨h1, h2⟩ := List.getElem?_eq_some_iff.mp e
    rw [List.getElem_range] at h2
    rw [List.length_range] at h1
    subst h2
    exact ⟨h1, (Option.some.inj h).symm⟩
theorem iInt_len {lo : Int} {n : Nat} : (iInt lo n).length = n := by unfold iInt; rw [List.length_map, List.length_range]
theorem rg_small {n : Nat} (h : n ≤ 1000000) : rgOk (n : Int) = true := by
  unfold rgOk
  have e : (2 : Int) ^ 62 = 4611686018427387904 := by decide
  rw [e, Bool.and_eq_true, decide_eq_true_eq, decide_eq_true_eq]
  constructor <;> omega

theorem t_first_code (n : Nat) (hn : n ≤ 1000) (c : CS) (P : CV → CS → Prop) (h : P (.int (F n)) c) : Tot (m_first_code [.int n] c) P := by
  generalize hi : (n : Int) = i
  unfold m_first_code
  refine w_run ?_
  refine ws_join (fun ρ1 c1 => ρ1 = [some (.int i), some (.int (F 0)), none] ∧ c = c1) ?_ ?_
  · repeat done
    all_goals exact ⟨rfl, rfl⟩
  rintro _ _ ⟨rfl, rfl⟩
  refine ws_join (fun ρ1 c1 => (∃ o, ρ1 = [some (.int i), some (.int (F n)), o]) ∧ c = c1) ?_ ?_
  · apply ws_for
    apply wi_r1
    repeat done
    refine ⟨by rw [← hi]; exact rg_small (by omega), ?_⟩
    refine for_inv (J := fun k ρ1 c1 => (∃ o, ρ1 = [some (.int i), some (.int (F k)), o]) ∧ c = c1) ⟨⟨_, rfl⟩, rfl⟩ (fun _ _ _ _ => trivial) ?_ ?_
    · rintro k x _ _ hx ⟨⟨o, rfl⟩, rfl⟩
      repeat done
      refine o_mul (mulOk_l (by decide)) ?_
      repeat done
      all_goals exact ⟨⟨_, rfl⟩, rfl⟩
    · rintro _ _ ⟨⟨o, rfl⟩, rfl⟩
      refine ⟨⟨o, ?_⟩, rfl⟩
      rw [iInt_len, ← hi]
      rfl
  rintro _ _ ⟨⟨o, rfl⟩, rfl⟩
  repeat done
  all_goals exact h
/-- the kinds -/
inductive Kd where
  | i | f | t
def Kd.s : Kd → Str
  | .i => "int"
  | .f => "flag"
  | .t => "text"
def Kd.size : Kd → Int
  | .i => 2000000001
  | .f => 2
  | .t => F 21
def Kd.v (k : Kd) : CV := .str k.s
theorem ks_i : decide (Kd.i.s = "int") = true := by decide
theorem ks_ff : decide (Kd.f.s = "flag") = true := by decide
theorem t_size_of (k : Kd) (c : CS) (P : CV → CS → Prop) (h : P (.int k.size) c) : Tot (m_size_of [k.v] c) P := by
  unfold m_size_of
  refine w_run ?_
  cases k with
  | i =>
    show wS _ [some (.str "int")] _ _
    repeat done
    refine bd (fun _ => ?_) (fun z => absurd (by decide) z)
    repeat done
    all_goals exact h
  | f =>
    show wS _ [some (.str "flag")] _ _
    repeat done
    refine bd (fun z => absurd z (by decide)) (fun _ => ?_)
    repeat done
    refine bd (fun _ => ?_) (fun z => absurd (by decide) z)
    repeat done
    all_goals exact h
  | t =>
    show wS _ [some (.str "text")] _ _
    repeat done
    refine bd (fun z => absurd z (by decide)) (fun _ => ?_)
    repeat done
    refine bd (fun z => absurd z (by decide)) (fun _ => ?_)
    repeat done
    all_goals (show P (.int 2932256630791119505061064402082674519051) c; rw [show (2932256630791119505061064402082674519051 : Int) = F 21 from by decide +kernel]; exact h)
/-- the values of a kind, their codes -/
inductive Val : Kd → CV → Int → Prop where
  | i {n : Int} (h1 : -1000000000 ≤ n) (h2 : n ≤ 1000000000) : Val .i (.int n) (n + 1000000000)
  | f (b : Bool) : Val .f (.bl b) (if b = true then 1 else 0)
  | t {ds : List Nat} (h1 : ∀ d ∈ ds, d < 94) (h2 : ds.length ≤ 20) : Val .t (.str (tx ds)) (Lc ds)
theorem Val.range {k : Kd} {v : CV} {n : Int} (h : Val k v n) : 0 ≤ n ∧ n < k.size := by
  cases h with
  | i h1 h2 => show _ ∧ _ < (2000000001 : Int); omega
  | f b => show _ ∧ _ < (2 : Int); cases b <;> decide
  | t h1 h2 => exact ⟨Lc_nonneg _, Lc_lt h1 h2⟩
theorem size_line {n : Nat} (h : n ≤ 1000) : n ≤ sizeLine := by rw [sizeLine_eq]; omega
theorem tx_get {ds : List Nat} {k : Nat} {x : CV} (h : ((tx ds).cps.toList.map fun p => CV.str ⟨#[p]⟩)[k]? = some x) : ∃ d, ds[k]? = some d ∧ x = .str ⟨#[al d]⟩ := by
  unfold tx at h
  rw [stc_list, List.getElem?_map, List.getElem?_map] at h
  cases e : ds[k]? with
  | none => rw [e] at h; cases h
  | some d => rw [e] at h; exact ⟨d, rfl, (Option.some.inj h).symm⟩
theorem take_snoc {α : Type} {l : List α} {k : Nat} {a : α} (h : l[k]? = some a) : l.take (k + 1) = l.take k ++ [a] := by
  rw [List.take_add_one, h]
  rfl
theorem t_code_of (k : Kd) (v : CV) (n : Int) (hv : Val k v n) (c : CS) (P : CV → CS → Prop) (h : P (.int n) c) : Tot (m_code_of [k.v, v] c) P := by
  unfold m_code_of
  refine w_run ?_
  cases hv with
  | @i n h1 h2 =>
    show wS _ [some (.str "int"), some (.int n), none, none] _ _
    repeat done
    refine bd (fun _ => ?_) (fun z => absurd (by decide) z)
    repeat done
    all_goals exact h
  | f b =>
    show wS _ [some (.str "flag"), some (.bl b), none, none] _ _
    repeat done
    refine bd (fun z => absurd z (by decide)) (fun _ => ?_)
    repeat done
    refine bd (fun _ => ?_) (fun z => absurd (by decide) z)
    repeat done
    refine ⟨fun hb => ?_, fun hb => ?_⟩
    · repeat done
      all_goals (rw [hb, if_pos rfl] at h; exact h)
    · repeat done
      all_goals (rw [hb, if_neg Bool.false_ne_true] at h; exact h)
  | @t ds h1 h2 =>
    show wS _ [some (.str "text"), some (.str (tx ds)), none, none] _ _
    refine ws_join (fun ρ1 c1 => ρ1 = [some (.str "text"), some (.str (tx ds)), none, none] ∧ c = c1) ?_ ?_
    · repeat done
      refine bd (fun z => absurd z (by decide)) (fun _ => ?_)
      apply ws_nil
      exact ⟨rfl, rfl⟩
    rintro _ _ ⟨rfl, rfl⟩
    refine ws_join (fun ρ1 c1 => ρ1 = [some (.str "text"), some (.str (tx ds)), none, none] ∧ c = c1) ?_ ?_
    · repeat done
      refine bd (fun z => absurd z (by decide)) (fun _ => ?_)
      apply ws_nil
      exact ⟨rfl, rfl⟩
    rintro _ _ ⟨rfl, rfl⟩
    refine ws_join (fun ρ1 c1 => ρ1 = [some (.str "text"), some (.str (tx ds)), some (.int 0), none] ∧ c = c1) ?_ ?_
    · repeat done
      all_goals exact ⟨rfl, rfl⟩
    rintro _ _ ⟨rfl, rfl⟩
    refine ws_join (fun ρ1 c1 => (∃ o, ρ1 = [some (.str "text"), some (.str (tx ds)), some (.int (B ds)), o]) ∧ c = c1) ?_ ?_
    · apply ws_for
      apply wi_iter
      repeat done
      refine for_inv (J := fun k ρ1 c1 => (∃ o, ρ1 = [some (.str "text"), some (.str (tx ds)), some (.int (B (ds.take k))), o]) ∧ c = c1) ⟨⟨_, rfl⟩, rfl⟩ (fun _ _ _ _ => trivial) ?_ ?_
      · rintro k x _ _ hx ⟨⟨o, rfl⟩, rfl⟩
        obtain ⟨d, hd, rfl⟩ := tx_get hx
        have hd94 := h1 d (List.mem_of_getElem? hd)
        repeat done
        refine o_mul (mulOk_l (by decide)) ?_
        repeat done
        refine ⟨rfl, ?_⟩
        repeat done
        refine o_index (occ_al hd94) ?_
        repeat done
        refine ⟨⟨some (.str ⟨#[al d]⟩), ?_⟩, rfl⟩
        rw [take_snoc hd, B_snoc]
        rfl
      · rintro _ _ ⟨⟨o, rfl⟩, rfl⟩
        refine ⟨⟨o, ?_⟩, rfl⟩
        have : (List.map (fun p => CV.str ⟨#[p]⟩) (tx ds).cps.toList).length = ds.length := by
          unfold tx; rw [stc_list, List.length_map, List.length_map]
        rw [this, List.take_length]
    rintro _ _ ⟨⟨o, rfl⟩, rfl⟩
    repeat done
    have hz : (tx ds).length ≤ sizeLine := by rw [tx_len]; exact size_line (by omega)
    apply o_lens hz
    repeat done
    rw [tx_len]
    refine ⟨List.length_singleton, ?_⟩
    with_reducible refine t_first_code ds.length ?_ _ _ ?_
    · omega
    repeat done
    rw [← Lc_eq]
    exact h
end L51

namespace L51
open PySem PySem.Spec PyProof.Rows L2 PM

local macro_rules | `(tactic| done) => `(tactic| first
  | (with_reducible apply ws_seq) | (with_reducible apply ws_set) | (with_reducible apply ws_ret) | (with_reducible apply ws_if) | (with_reducible apply ws_expr) | (with_reducible apply ws_sub) | (with_reducible apply ws_nil) | (with_reducible apply ws_retN)
  | ((with_reducible apply w_var); · exact rfl)
  | (with_reducible apply w_c) | (with_reducible apply w_op) | (with_reducible apply w_un) | (with_reducible apply w_t) | (with_reducible apply w_tr) | (with_reducible apply w_and) | (with_reducible apply w_or) | (with_reducible apply w_not)
  | (with_reducible apply w_andV) | (with_reducible apply w_orV) | (with_reducible apply w_notV) | (with_reducible apply w_ifE) | (with_reducible apply w_chain) | (with_reducible apply w_nil) | (with_reducible apply w_cons) | (with_reducible apply w_cb)
  | (with_reducible apply w_tup) | (with_reducible apply w_lst) | (with_reducible apply w_call) | (with_reducible apply w_meth) | (with_reducible apply w_isi) | (with_reducible apply w_isi2) | (with_reducible apply w_slice) | (with_reducible apply w_no) | (with_reducible apply w_part)
  | (with_reducible apply o_add) | (with_reducible apply o_sub) | (with_reducible apply o_neg) | (with_reducible apply o_eqi) | (with_reducible apply o_nei) | (with_reducible apply o_eqs) | (with_reducible apply o_nes) | (with_reducible apply o_eqb) | (with_reducible apply o_neb)
  | (with_reducible apply o_lt) | (with_reducible apply o_gt) | (with_reducible apply o_le) | (with_reducible apply o_ge) | (with_reducible apply o_int) | (with_reducible apply o_max) | (with_reducible apply o_min)
  | ((with_reducible apply o_is); · exact rfl) | ((with_reducible apply o_isn); · exact rfl) | (with_reducible apply o_in) | (with_reducible apply o_nin)
  | (with_reducible refine ⟨_, rfl, ?_⟩))


theorem alpha_eq : ((" !\"#$&'()*+,-./0123456789:;<=>?@ABCDEFGHIJKLMNOPQRSTUVWXYZ[\\]^_`" : Str) ++ ("abcdefghijklmnopqrstuvwxyz{|}~" : Str)) = AL := by decide +kernel
theorem t_alphabet (c : CS) (P : CV → CS → Prop) (h : P (.str AL) c) : Tot (m__law_alphabet [] c) P := by
  unfold m__law_alphabet
  refine w_run ?_
  repeat done
  refine o_adds (by decide +kernel) ?_
  rw [alpha_eq]
  exact h
theorem t_law_size (k : Kd) (c : CS) (P : CV → CS → Prop) (h : ∀ c', Gr c c' → P (.int k.size) c') : Tot (m__law_size [k.v] c) P := by
  unfold m__law_size
  refine w_run ?_
  have g : Gr c ((c.new (.dct [])).set c.next (.dct [(.str "int", .int 2000000001), (.str "flag", .int 2), (.str "text", .int (F 21))])) := Gr.set .new (Nat.le_refl _)
  have key : ∀ Q : CV → CS → Prop, Q (.ref c.next) ((c.new (.dct [])).set c.next (.dct [(.str "int", .int 2000000001), (.str "flag", .int 2), (.str "text", .int (F 21))])) →
    wE (mDisp (mPs (mC (.str "int")) (mC (.int 2000000001)) (mPs (mC (.str "flag")) (mC (.int 2)) (mPs (mC (.str "text")) (mOp vFdiv (mOp vSub (mOp vPow (mC (.int 94)) (mC (.int 21))) (mC (.int 1))) (mC (.int 93))) mPs0)))) [some k.v] c Q := by
    intro Q hQ
    have e3 : wE (mOp vFdiv (mOp vSub (mOp vPow (mC (.int 94)) (mC (.int 21))) (mC (.int 1))) (mC (.int 93))) [some k.v] (c.new (.dct [])) fun v c1 => v = .int (F 21) ∧ c1 = c.new (.dct []) := by
      repeat done
      refine o_pow (i := 94) (j := 21) (by decide) ?_
      repeat done
      refine o_fdiv (by decide) ?_
      exact ⟨congrArg CV.int (by decide +kernel), rfl⟩
    unfold PM.wE mDisp
    refine Tot.bind ?_
    unfold mPs
    refine Tot.bind (Tot.of (Tot.bind (Tot.of (Tot.bind ?_))))
    refine Tot.bind (Tot.of (Tot.bind (Tot.of (Tot.bind ?_))))
    refine Tot.bind (Tot.of (Tot.bind (Tot.mono e3 ?_)))
    rintro _ _ ⟨rfl, rfl⟩
    refine Tot.bind (Tot.of (Tot.of (Tot.of (Tot.of ?_))))
    show Tot (match (c.new (.dct [])).obj c.next with | .dct [] => _ | _ => _) Q
    rw [CS.new_same]
    show Tot (if ([(.inr "int" : L2.Key), .inr "flag", .inr "text"] : List L2.Key).Nodup ∧ 3 ≤ 15 then _ else _) Q
    rw [if_pos (by decide)]
    exact Tot.of hQ
  repeat done
  show wE _ [some k.v] c _
  refine key _ ?_
  repeat done
  have ho : ((c.new (.dct [])).set c.next (.dct [(.str "int", .int 2000000001), (.str "flag", .int 2), (.str "text", .int (F 21))])).obj c.next = .dct [(.str "int", .int 2000000001), (.str "flag", .int 2), (.str "text", .int (F 21))] := CS.set_same _ _ _
  cases k with
  | i => exact o_ixd (v := .int 2000000001) ho (by decide +kernel) (by decide +kernel) (h _ g)
  | f => exact o_ixd (v := .int 2) ho (by decide +kernel) (by decide +kernel) (h _ g)
  | t => exact o_ixd (v := .int (F 21)) ho (by decide +kernel) (by decide +kernel) (h _ g)
end L51

namespace L51
open PySem PySem.Spec PyProof.Rows L2 PM

local macro_rules | `(tactic| done) => `(tactic| first
  | (with_reducible apply ws_seq) | (with_reducible apply ws_set) | (with_reducible apply ws_ret) | (with_reducible apply ws_if) | (with_reducible apply ws_expr) | (with_reducible apply ws_sub) | (with_reducible apply ws_nil) | (with_reducible apply ws_retN)
  | ((with_reducible apply w_var); · exact rfl)
  | (with_reducible apply w_c) | (with_reducible apply w_op) | (with_reducible apply w_un) | (with_reducible apply w_t) | (with_reducible apply w_tr) | (with_reducible apply w_and) | (with_reducible apply w_or) | (with_reducible apply w_not)
  | (with_reducible apply w_andV) | (with_reducible apply w_orV) | (with_reducible apply w_notV) | (with_reducible apply w_ifE) | (with_reducible apply w_chain) | (with_reducible apply w_nil) | (with_reducible apply w_cons) | (with_reducible apply w_cb)
  | (with_reducible apply w_tup) | (with_reducible apply w_lst) | (with_reducible apply w_call) | (with_reducible apply w_meth) | (with_reducible apply w_isi) | (with_reducible apply w_isi2) | (with_reducible apply w_slice) | (with_reducible apply w_no) | (with_reducible apply w_part)
  | (with_reducible apply o_add) | (with_reducible apply o_sub) | (with_reducible apply o_neg) | (with_reducible apply o_eqi) | (with_reducible apply o_nei) | (with_reducible apply o_eqs) | (with_reducible apply o_nes) | (with_reducible apply o_eqb) | (with_reducible apply o_neb)
  | (with_reducible apply o_lt) | (with_reducible apply o_gt) | (with_reducible apply o_le) | (with_reducible apply o_ge) | (with_reducible apply o_int) | (with_reducible apply o_max) | (with_reducible apply o_min)
  | ((with_reducible apply o_is); · exact rfl) | ((with_reducible apply o_isn); · exact rfl) | (with_reducible apply o_in) | (with_reducible apply o_nin)
  | (with_reducible refine ⟨_, rfl, ?_⟩))


/-- the digits of a rest, most significant first -/
def dg : Nat → Int → List Nat
  | 0, _ => []
  | n + 1, r => dg n (r / 94) ++ [(r % 94).toNat]
theorem dg_len : ∀ (n : Nat) (r : Int), (dg n r).length = n
  | 0, _ => rfl
  | n + 1, r => by rw [dg, List.length_append, dg_len n]; rfl
theorem mod94 (r : Int) : 0 ≤ r % 94 ∧ r % 94 < 94 := by omega
theorem dg_lt : ∀ (n : Nat) (r : Int), ∀ d ∈ dg n r, d < 94
  | 0, _, d, h => by cases h
  | n + 1, r, d, h => by
    rw [dg] at h
    rcases List.mem_append.mp h with h | h
    · exact dg_lt n _ d h
    · rw [List.mem_singleton.mp h]
      have := mod94 r
      omega
theorem dg_B : ∀ (n : Nat) (r : Int), 0 ≤ r → r < 94 ^ n → B (dg n r) = r
  | 0, r, h1, h2 => by
    have e : (94 : Int) ^ 0 = 1 := by decide
    rw [e] at h2
    have : r = 0 := by omega
    subst this
    rfl
  | n + 1, r, h1, h2 => by
    rw [Int.pow_succ] at h2
    rw [dg, B_snoc, dg_B n (r / 94) (by omega) (by omega)]
    have := mod94 r
    omega
theorem strs_rev (l : List Nat) : ((l.map fun d => CV.str ⟨#[al d]⟩)) = ((l.map fun d => (⟨#[al d]⟩ : Str)).map CV.str) := by rw [List.map_map]; rfl
theorem atI_str {d : Nat} (h : d < 94) : atI AL.cps.toList (d : Int) = some (al d) := by
  unfold atI ixN
  have e : AL.cps.toList.length = 94 := al_len
  rw [e, if_pos (by omega), if_pos (by omega)]
  show AL.cps.toList[((d : Int)).toNat]? = _
  rw [Int.toNat_natCast]
  exact al_get h
theorem t_text_of (code : Int) (h0 : 0 ≤ code) (h1 : code < F 21) (c : CS) (P : CV → CS → Prop) (h : ∀ ds c', (∀ d ∈ ds, d < 94) → ds.length ≤ 20 → Lc ds = code → Gr c c' → P (.str (tx ds)) c') : Tot (m_text_of [.int code] c) P := by
  unfold m_text_of
  refine w_run ?_
  refine ws_join (fun ρ1 c1 => ρ1 = [some (.int code), some (.int 0), none, none, none] ∧ c = c1) ?_ ?_
  · repeat done
    exact ⟨rfl, rfl⟩
  rintro _ _ ⟨rfl, rfl⟩
  refine ws_join (fun ρ1 c1 => (∃ k : Nat, k ≤ 20 ∧ F k ≤ code ∧ code < F (k + 1) ∧ ρ1 = [some (.int code), some (.int k), none, none, none]) ∧ c = c1) ?_ ?_
  · apply ws_while
    refine while_inv (J := fun m ρ1 c1 => (∃ (k : Nat) (i : Int), i = k ∧ k ≤ 20 ∧ m = 20 - k ∧ F k ≤ code ∧ ρ1 = [some (.int code), some (.int i), none, none, none]) ∧ c = c1) ?_ 20 1000000 _ _ (by omega) ⟨⟨0, 0, rfl, by omega, rfl, h0, rfl⟩, rfl⟩
    rintro m _ _ ⟨⟨k, i, hi, hk, hm, hF, rfl⟩, rfl⟩
    repeat done
    refine bd (fun hlt => ?_) (fun hge => bf ?_)
    · repeat done
      have ei : i + 1 = ((k + 1 : Nat) : Int) := by omega
      rw [ei]
      generalize hj : ((k + 1 : Nat) : Int) = j
      refine ⟨rfl, ?_⟩
      rw [← hj]
      with_reducible refine t_first_code (k + 1) ?_ _ _ ?_
      · omega
      repeat done
      refine bd (fun hle => ?_) (fun hgt => ?_)
      · refine ⟨m - 1, by omega, ?_⟩
        repeat done
        exact ⟨⟨k + 1, i + 1, by omega, by omega, by omega, hle, rfl⟩, rfl⟩
      · exact ⟨⟨k, hk, hF, by omega, by rw [hi]⟩, rfl⟩
    · have : k = 20 := by omega
      subst this
      exact ⟨⟨20, hk, hF, h1, by rw [hi]⟩, rfl⟩
  rintro _ _ ⟨⟨k, hk, hF, hF1, rfl⟩, rfl⟩
  generalize hki : (k : Int) = ki
  have hr0 : 0 ≤ code - F k := by omega
  have hr1 : code - F k < 94 ^ k := by rw [F_pow] at hF1; omega
  refine ws_join (fun ρ1 c1 => ρ1 = [some (.int code), some (.int ki), some (.int (code - F k)), none, none] ∧ c = c1) ?_ ?_
  · repeat done
    refine ⟨rfl, ?_⟩
    rw [← hki]
    with_reducible refine t_first_code k ?_ _ _ ?_
    · omega
    repeat done
    exact ⟨rfl, rfl⟩
  rintro _ _ ⟨rfl, rfl⟩
  refine ws_join (fun ρ1 c1 => ρ1 = [some (.int code), some (.int ki), some (.int (code - F k)), some (.ref c.next), none] ∧ c1 = c.new (.lst [])) ?_ ?_
  · repeat done
    refine ⟨Nat.zero_le _, ?_⟩
    exact ⟨rfl, rfl⟩
  rintro _ _ ⟨rfl, rfl⟩
  refine ws_join (fun ρ1 c1 => ∃ (o : Option CV) (r : Int) (l : List Nat), ρ1 = [some (.int code), some (.int ki), some (.int r), some (.ref c.next), o] ∧ Gr c c1 ∧ c.next < c1.next ∧ c1.obj c.next = .lst (l.map fun d => CV.str ⟨#[al d]⟩) ∧ dg k (code - F k) = l.reverse) ?_ ?_
  · apply ws_for
    apply wi_r1
    repeat done
    refine ⟨by rw [← hki]; exact rg_small (by omega), ?_⟩
    refine for_inv (J := fun i ρ1 c1 => i ≤ k ∧ ∃ (o : Option CV) (r : Int) (l : List Nat), ρ1 = [some (.int code), some (.int ki), some (.int r), some (.ref c.next), o] ∧ Gr c c1 ∧ c.next < c1.next ∧ l.length = i ∧ c1.obj c.next = .lst (l.map fun d => CV.str ⟨#[al d]⟩) ∧ dg k (code - F k) = dg (k - i) r ++ l.reverse)
      ⟨Nat.zero_le _, none, code - F k, [], rfl, .new, Nat.lt_succ_self _, rfl, CS.new_same _ _, by rw [Nat.sub_zero, List.reverse_nil, List.append_nil]⟩ (fun _ _ _ _ => trivial) ?_ ?_
    · rintro i x _ c1 hx ⟨hi, o, r, l, rfl, g, gn, hll, ho, hd⟩
      have hlt : i < k := by
        have := (iInt_get hx).1
        omega
      have hm := mod94 r
      have hm94 : (r % 94).toNat < 94 := by omega
      repeat done
      refine ⟨by show (match c1.obj c.next with | .lst _ => "list" == "list" | .rol _ => "list" == "list" | .dct _ => "list" == "dict" | _ => false) = true; rw [ho]; rfl, ?_⟩
      repeat done
      refine o_mod (by decide) ?_
      have em : r % 94 = (((r % 94).toNat : Nat) : Int) := by omega
      refine o_ixs (x := AL) (p := al (r % 94).toNat) (by rw [AL_len]; exact size_line (by omega)) (by rw [em]; exact atI_str hm94) ?_
      repeat done
      refine o_app ho (by rw [List.length_map]; have := size_line (n := 1000) (by omega); omega) ?_
      repeat done
      refine o_fdiv (by decide) ?_
      refine ⟨hlt, _, r / 94, l ++ [(r % 94).toNat], rfl, Gr.set g (Nat.le_refl _), gn, by rw [List.length_append, hll]; rfl, ?_, ?_⟩
      · rw [CS.set_same, List.map_append]
        rfl
      · have e1 : k - i = (k - (i + 1)) + 1 := by omega
        rw [hd, e1, dg, List.reverse_append, List.append_assoc]
        rfl
    · rintro _ c1 ⟨hi, o, r, l, rfl, g, gn, hll, ho, hd⟩
      rw [iInt_len] at hd
      refine ⟨o, r, l, rfl, g, gn, ho, ?_⟩
      rw [hd, show k - ki.toNat = 0 from by omega]
      rfl
  rintro _ c1 ⟨o, r, l, rfl, g, gn, ho, hd⟩
  repeat done
  unfold PM.wE mJoinRev
  refine Tot.bind ?_
  apply w_var rfl
  dsimp only
  rw [getL_of ho]
  dsimp only
  rw [strs_rev, strs_map]
  dsimp only
  rw [← List.map_reverse, ← hd]
  have hlen := dg_len k (code - F k)
  rw [if_pos (fits_one _ (by rw [hlen]; omega)), join_one]
  refine Tot.of (h _ _ (dg_lt _ _) (by rw [hlen]; exact hk) ?_ g)
  rw [Lc_eq, hlen, dg_B _ _ hr0 hr1]
  omega
theorem t_value_of (k : Kd) (n : Int) (h0 : 0 ≤ n) (h1 : n < k.size) (c : CS) (P : CV → CS → Prop) (h : ∀ v c', Val k v n → Gr c c' → P v c') : Tot (m_value_of [k.v, .int n] c) P := by
  unfold m_value_of
  refine w_run ?_
  cases k with
  | i =>
    show wS _ [some (.str "int"), some (.int n)] _ _
    repeat done
    refine bd (fun _ => ?_) (fun z => absurd (by decide) z)
    repeat done
    have h1' : n < 2000000001 := h1
    refine h _ _ ?_ .refl
    have := Val.i (n := n - 1000000000) (by omega) (by omega)
    rw [show n - 1000000000 + 1000000000 = n by omega] at this
    exact this
  | f =>
    show wS _ [some (.str "flag"), some (.int n)] _ _
    repeat done
    refine bd (fun z => absurd z (by decide)) (fun _ => ?_)
    repeat done
    refine bd (fun _ => ?_) (fun z => absurd (by decide) z)
    repeat done
    have h1' : n < 2 := h1
    refine h _ _ ?_ .refl
    have := Val.f (decide (n = 1))
    by_cases z : n = 1
    · subst z; exact this
    · have : n = 0 := by omega
      subst this; exact this
  | t =>
    show wS _ [some (.str "text"), some (.int n)] _ _
    repeat done
    refine bd (fun z => absurd z (by decide)) (fun _ => ?_)
    repeat done
    refine bd (fun z => absurd z (by decide)) (fun _ => ?_)
    repeat done
    refine ⟨rfl, t_text_of n h0 h1 _ _ fun ds c' a1 a2 a3 a4 => ?_⟩
    refine h _ _ ?_ a4
    rw [← a3]
    exact .t a1 a2
end L51

namespace L51
open PySem PySem.Spec PyProof.Rows L2 PM

local macro_rules | `(tactic| done) => `(tactic| first
  | (with_reducible apply ws_seq) | (with_reducible apply ws_set) | (with_reducible apply ws_ret) | (with_reducible apply ws_if) | (with_reducible apply ws_expr) | (with_reducible apply ws_sub) | (with_reducible apply ws_nil) | (with_reducible apply ws_retN)
  | ((with_reducible apply w_var); · exact rfl)
  | (with_reducible apply w_c) | (with_reducible apply w_op) | (with_reducible apply w_un) | (with_reducible apply w_t) | (with_reducible apply w_tr) | (with_reducible apply w_and) | (with_reducible apply w_or) | (with_reducible apply w_not)
  | (with_reducible apply w_andV) | (with_reducible apply w_orV) | (with_reducible apply w_notV) | (with_reducible apply w_ifE) | (with_reducible apply w_chain) | (with_reducible apply w_nil) | (with_reducible apply w_cons) | (with_reducible apply w_cb)
  | (with_reducible apply w_tup) | (with_reducible apply w_lst) | (with_reducible apply w_call) | (with_reducible apply w_meth) | (with_reducible apply w_isi) | (with_reducible apply w_isi2) | (with_reducible apply w_slice) | (with_reducible apply w_no) | (with_reducible apply w_part)
  | (with_reducible apply o_add) | (with_reducible apply o_sub) | (with_reducible apply o_neg) | (with_reducible apply o_eqi) | (with_reducible apply o_nei) | (with_reducible apply o_eqs) | (with_reducible apply o_nes) | (with_reducible apply o_eqb) | (with_reducible apply o_neb)
  | (with_reducible apply o_lt) | (with_reducible apply o_gt) | (with_reducible apply o_le) | (with_reducible apply o_ge) | (with_reducible apply o_int) | (with_reducible apply o_max) | (with_reducible apply o_min)
  | ((with_reducible apply o_is); · exact rfl) | ((with_reducible apply o_isn); · exact rfl) | (with_reducible apply o_in) | (with_reducible apply o_nin)
  | (refine ⟨_, (rfl : tyName _ _ = some _), ?_⟩) | (refine ⟨_, (rfl : vTruth _ _ = some _), ?_⟩) | (with_reducible refine ⟨_, rfl, ?_⟩))


theorem t_law_code (k : Kd) (v : CV) (n : Int) (hv : Val k v n) (c : CS) (P : CV → CS → Prop) (h : P (.int n) c) : Tot (m__law_code [k.v, v] c) P := by
  unfold m__law_code
  refine w_run ?_
  cases hv with
  | @i n h1 h2 =>
    show wS _ [some (.str "int"), some (.int n), none, none] _ _
    repeat done
    refine bd (fun _ => ?_) (fun z => absurd (by decide) z)
    repeat done
    exact h
  | f b =>
    show wS _ [some (.str "flag"), some (.bl b), none, none] _ _
    repeat done
    refine bd (fun z => absurd z (by decide)) (fun _ => ?_)
    repeat done
    refine bd (fun _ => ?_) (fun z => absurd (by decide) z)
    repeat done
    refine ⟨fun hb => ?_, fun hb => ?_⟩
    · repeat done
      rw [hb, if_pos rfl] at h
      exact h
    · repeat done
      rw [hb, if_neg Bool.false_ne_true] at h
      exact h
  | @t ds h1 h2 =>
    show wS _ [some (.str "text"), some (.str (tx ds)), none, none] _ _
    have hz : (tx ds).length ≤ sizeLine := by rw [tx_len]; exact size_line (by omega)
    refine ws_join (fun ρ1 c1 => ρ1 = [some (.str "text"), some (.str (tx ds)), none, none] ∧ c = c1) ?_ ?_
    · repeat done
      refine bd (fun z => absurd z (by decide)) (fun _ => ?_)
      apply ws_nil
      exact ⟨rfl, rfl⟩
    rintro _ _ ⟨rfl, rfl⟩
    refine ws_join (fun ρ1 c1 => ρ1 = [some (.str "text"), some (.str (tx ds)), none, none] ∧ c = c1) ?_ ?_
    · repeat done
      refine bd (fun z => absurd z (by decide)) (fun _ => ?_)
      apply ws_nil
      exact ⟨rfl, rfl⟩
    rintro _ _ ⟨rfl, rfl⟩
    refine ws_join (fun ρ1 c1 => ρ1 = [some (.str "text"), some (.str (tx ds)), some (.int 0), none] ∧ c = c1) ?_ ?_
    · repeat done
      exact ⟨rfl, rfl⟩
    rintro _ _ ⟨rfl, rfl⟩
    refine ws_join (fun ρ1 c1 => (∃ o, ρ1 = [some (.str "text"), some (.str (tx ds)), some (.int (Lc ds)), o]) ∧ c = c1) ?_ ?_
    · apply ws_for
      apply wi_r1
      repeat done
      apply o_lens hz
      repeat done
      refine ⟨by rw [tx_len]; exact rg_small (by omega), ?_⟩
      rw [tx_len, Int.toNat_natCast]
      refine for_inv (J := fun k ρ1 c1 => (∃ o, ρ1 = [some (.str "text"), some (.str (tx ds)), some (.int (Lc (ds.take k))), o]) ∧ c = c1) ⟨⟨_, rfl⟩, rfl⟩ (fun _ _ _ _ => trivial) ?_ ?_
      · rintro k x _ _ hx ⟨⟨o, rfl⟩, rfl⟩
        obtain ⟨hk, rfl⟩ := iInt_get hx
        obtain ⟨d, hd⟩ : ∃ d, ds[k]? = some d := ⟨ds[k], List.getElem?_eq_getElem hk⟩
        have hd94 := h1 d (List.mem_of_getElem? hd)
        have hat : atI (tx ds).cps.toList (0 + (k : Int)) = some (al d) := by
          unfold atI ixN tx
          rw [stc_list, List.length_map, if_pos (by omega), if_pos (by omega)]
          show (ds.map al)[(0 + (k : Int)).toNat]? = _
          rw [show (0 + (k : Int)).toNat = k by omega, List.getElem?_map, hd]
          rfl
        generalize hik : (0 + (k : Int)) = ik at hat
        repeat done
        refine o_mul (mulOk_l (by decide)) ?_
        repeat done
        refine ⟨rfl, t_alphabet _ _ ?_⟩
        refine ⟨rfl, ?_⟩
        repeat done
        refine o_ixs hz hat ?_
        repeat done
        apply o_find
        rw [find_al hd94]
        repeat done
        refine ⟨⟨some (.int ik), ?_⟩, rfl⟩
        rw [take_snoc hd, Lc_snoc]
        rfl
      · rintro _ _ ⟨⟨o, rfl⟩, rfl⟩
        refine ⟨⟨o, ?_⟩, rfl⟩
        rw [iInt_len, List.take_length]
    rintro _ _ ⟨⟨o, rfl⟩, rfl⟩
    repeat done
    exact h
/-- the same, as the law asks -/
def Sm (c : CS) : Nat → CV → CV → Prop
  | _, .non, y => y = .non
  | _, .bl b, y => y = .bl b
  | _, .int i, y => y = .int i
  | _, .str s, y => y = .str s
  | n + 1, .tup xs, y => ∃ ys, y = .tup ys ∧ xs.length = ys.length ∧ xs.length ≤ 1000 ∧ ∀ (i : Nat) (u v : CV), xs[i]? = some u → ys[i]? = some v → Sm c n u v
  | n + 1, .ref a, y => ∃ b xs ys, y = .ref b ∧ c.obj a = .lst xs ∧ c.obj b = .lst ys ∧ xs.length = ys.length ∧ xs.length ≤ 1000 ∧ ∀ (i : Nat) (u v : CV), xs[i]? = some u → ys[i]? = some v → Sm c n u v
  | 0, _, _ => False
theorem atI_nat {xs : List CV} {k : Nat} {x : CV} (h : xs[k]? = some x) : atI xs (0 + (k : Int)) = some x := by
  have hk := (List.getElem?_eq_some_iff.mp h).1
  unfold atI ixN
  rw [if_pos (by omega), if_pos (by omega)]
  show xs[(0 + (k : Int)).toNat]? = _
  rw [show (0 + (k : Int)).toNat = k by omega]
  exact h
def isAtom : CV → Bool
  | .tup _ => false
  | .ref _ => false
  | _ => true
theorem t_same_atom (n : Nat) (c : CS) (x y : CV) (P : CV → CS → Prop) (hx : isAtom x = true) (hs : y = x) (h : P (.bl true) c) : Tot (m__law_same (n + 1) [x, y] c) P := by
  subst hs
  rw [m__law_same]
  refine w_run ?_
  cases y with
  | non =>
    skip
    show wS _ [some .non, some .non, none, none] _ _
    repeat done
    refine bt ?_
    repeat done
    exact h
  | bl b =>
    skip
    show wS _ [some (.bl b), some (.bl b), none, none] _ _
    repeat done
    refine bf ?_
    repeat done
    cases b with
    | true =>
      refine bt ?_
      repeat done
      exact h
    | false =>
      refine bf ?_
      repeat done
      refine bt ?_
      repeat done
      exact h
  | int i =>
    skip
    show wS _ [some (.int i), some (.int i), none, none] _ _
    repeat done
    refine bf ?_
    repeat done
    refine bf ?_
    repeat done
    refine bf ?_
    repeat done
    refine bt ?_
    repeat done
    refine bt ?_
    repeat done
    refine bt ?_
    repeat done
    rw [decide_eq_true rfl]
    exact h
  | str s =>
    skip
    show wS _ [some (.str s), some (.str s), none, none] _ _
    repeat done
    refine bf ?_
    repeat done
    refine bf ?_
    repeat done
    refine bf ?_
    repeat done
    refine bf ?_
    repeat done
    refine bt ?_
    repeat done
    refine bt ?_
    repeat done
    rw [decide_eq_true rfl]
    exact h
  | tup xs => cases hx
  | ref r => cases hx
theorem sm_atom {c : CS} {n : Nat} {x y : CV} (hx : isAtom x = true) (h : Sm c n x y) : y = x := by
  cases x with
  | tup xs => cases hx
  | ref r => cases hx
  | non => cases n <;> simpa [Sm] using h
  | bl b => cases n <;> simpa [Sm] using h
  | int i => cases n <;> simpa [Sm] using h
  | str s => cases n <;> simpa [Sm] using h
theorem t_same : ∀ (n : Nat) (c : CS) (x y : CV) (P : CV → CS → Prop), Sm c n x y → P (.bl true) c → Tot (m__law_same (n + 1) [x, y] c) P := by
  intro n
  induction n with
  | zero =>
    intro c x y P hs h
    by_cases hx : isAtom x = true
    · exact t_same_atom 0 c x y P hx (sm_atom hx hs) h
    · cases x with
      | tup xs => simp [Sm] at hs
      | ref r => simp [Sm] at hs
      | _ => exact absurd rfl hx
  | succ n ih =>
    intro c x y P hs h
    by_cases hx : isAtom x = true
    · exact t_same_atom (n + 1) c x y P hx (sm_atom hx hs) h
    · cases x with
      | tup xs =>
        rw [Sm] at hs
        obtain ⟨ys, rfl, hl, hl2, hp⟩ := hs
        rw [m__law_same]
        refine w_run ?_
        show wS _ [some (.tup xs), some (.tup ys), none, none] _ _
        repeat done
        refine bf ?_
        repeat done
        refine bf ?_
        repeat done
        refine bf ?_
        repeat done
        refine bf ?_
        repeat done
        refine bf ?_
        repeat done
        refine bf ?_
        repeat done
        refine bf ?_
        repeat done
        refine bf ?_
        repeat done
        apply o_lent
        repeat done
        apply o_lent
        repeat done
        refine bn (fun z => absurd (by rw [hl]) z) (fun _ => ?_)
        apply ws_nil
        refine ws_join (fun ρ1 c1 => (∃ o, ρ1 = [some (.tup xs), some (.tup ys), o, none]) ∧ c = c1) ?_ ?_
        · apply ws_for
          apply wi_r1
          repeat done
          apply o_lent
          repeat done
          refine ⟨rg_small (by omega), ?_⟩
          rw [Int.toNat_natCast]
          refine for_inv (J := fun k ρ1 c1 => (∃ o, ρ1 = [some (.tup xs), some (.tup ys), o, none]) ∧ c = c1) ⟨⟨_, rfl⟩, rfl⟩ (fun _ _ _ _ => trivial) ?_ ?_
          · rintro k x _ _ hx ⟨⟨o, rfl⟩, rfl⟩
            obtain ⟨hk, rfl⟩ := iInt_get hx
            have g1 : xs[k]? = some xs[k] := List.getElem?_eq_getElem (by omega)
            have g2 : ys[k]? = some ys[k] := List.getElem?_eq_getElem hk
            have a1 := atI_nat g1
            have a2 := atI_nat g2
            have sk := hp k _ _ g1 g2
            generalize hik : (0 + (k : Int)) = ik at a1 a2
            repeat done
            refine o_ixt a1 ?_
            repeat done
            refine o_ixt a2 ?_
            repeat done
            refine ⟨rfl, ih c _ _ _ sk ?_⟩
            repeat done
            refine bf ?_
            repeat done
            exact ⟨⟨some (.int ik), rfl⟩, rfl⟩
          · rintro _ _ ⟨⟨o, rfl⟩, rfl⟩
            exact ⟨⟨o, rfl⟩, rfl⟩
        rintro _ _ ⟨⟨o, rfl⟩, rfl⟩
        repeat done
        exact h
      | ref r =>
        rw [Sm] at hs
        obtain ⟨b, xs, ys, rfl, oa, ob, hl, hl2, hp⟩ := hs
        have ta : tyName (.ref r) c = some "list" := by unfold tyName; simp only [oa]
        have tb : tyName (.ref b) c = some "list" := by unfold tyName; simp only [ob]
        rw [m__law_same]
        refine w_run ?_
        show wS _ [some (.ref r), some (.ref b), none, none] _ _
        repeat done
        refine bf ?_
        repeat done
        refine bf ?_
        repeat done
        refine bf ?_
        repeat done
        refine ⟨_, tb, ?_⟩
        repeat done
        refine bf ?_
        repeat done
        refine ⟨_, tb, ?_⟩
        repeat done
        refine bf ?_
        repeat done
        refine ⟨_, tb, ?_⟩
        repeat done
        refine bf ?_
        repeat done
        refine ⟨_, ta, ?_⟩
        repeat done
        refine ⟨_, tb, ?_⟩
        repeat done
        refine bf ?_
        repeat done
        refine ⟨_, ta, ?_⟩
        repeat done
        refine ⟨_, tb, ?_⟩
        repeat done
        refine bf ?_
        repeat done
        apply o_lenl oa
        repeat done
        apply o_lenl ob
        repeat done
        refine bn (fun z => absurd (by rw [hl]) z) (fun _ => ?_)
        apply ws_nil
        refine ws_join (fun ρ1 c1 => (∃ o, ρ1 = [some (.ref r), some (.ref b), o, none]) ∧ c = c1) ?_ ?_
        · apply ws_for
          apply wi_r1
          repeat done
          apply o_lenl ob
          repeat done
          refine ⟨rg_small (by omega), ?_⟩
          rw [Int.toNat_natCast]
          refine for_inv (J := fun k ρ1 c1 => (∃ o, ρ1 = [some (.ref r), some (.ref b), o, none]) ∧ c = c1) ⟨⟨_, rfl⟩, rfl⟩ (fun _ _ _ _ => trivial) ?_ ?_
          · rintro k x _ _ hx ⟨⟨o, rfl⟩, rfl⟩
            obtain ⟨hk, rfl⟩ := iInt_get hx
            have g1 : xs[k]? = some xs[k] := List.getElem?_eq_getElem (by omega)
            have g2 : ys[k]? = some ys[k] := List.getElem?_eq_getElem hk
            have a1 := atI_nat g1
            have a2 := atI_nat g2
            have sk := hp k _ _ g1 g2
            generalize hik : (0 + (k : Int)) = ik at a1 a2
            repeat done
            refine o_ixl oa a1 ?_
            repeat done
            refine o_ixl ob a2 ?_
            repeat done
            refine ⟨rfl, ih c _ _ _ sk ?_⟩
            repeat done
            refine bf ?_
            repeat done
            exact ⟨⟨some (.int ik), rfl⟩, rfl⟩
          · rintro _ _ ⟨⟨o, rfl⟩, rfl⟩
            exact ⟨⟨o, rfl⟩, rfl⟩
        rintro _ _ ⟨⟨o, rfl⟩, rfl⟩
        repeat done
        exact h
      | _ => exact absurd rfl hx
end L51

namespace L51
open PySem PySem.Spec PyProof.Rows L2 PM

local macro_rules | `(tactic| done) => `(tactic| first
  | (with_reducible apply ws_seq) | (with_reducible apply ws_set) | (with_reducible apply ws_ret) | (with_reducible apply ws_if) | (with_reducible apply ws_expr) | (with_reducible apply ws_sub) | (with_reducible apply ws_nil) | (with_reducible apply ws_retN)
  | ((with_reducible apply w_var); · exact rfl)
  | (with_reducible apply w_c) | (with_reducible apply w_op) | (with_reducible apply w_un) | (with_reducible apply w_t) | (with_reducible apply w_tr) | (with_reducible apply w_and) | (with_reducible apply w_or) | (with_reducible apply w_not)
  | (with_reducible apply w_andV) | (with_reducible apply w_orV) | (with_reducible apply w_notV) | (with_reducible apply w_ifE) | (with_reducible apply w_chain) | (with_reducible apply w_nil) | (with_reducible apply w_cons) | (with_reducible apply w_cb)
  | (with_reducible apply w_tup) | (with_reducible apply w_lst) | (with_reducible apply w_call) | (with_reducible apply w_meth) | (with_reducible apply w_isi) | (with_reducible apply w_isi2) | (with_reducible apply w_slice) | (with_reducible apply w_no) | (with_reducible apply w_part)
  | (with_reducible apply o_add) | (with_reducible apply o_sub) | (with_reducible apply o_neg) | (with_reducible apply o_eqi) | (with_reducible apply o_nei) | (with_reducible apply o_eqs) | (with_reducible apply o_nes) | (with_reducible apply o_eqb) | (with_reducible apply o_neb)
  | (with_reducible apply o_lt) | (with_reducible apply o_gt) | (with_reducible apply o_le) | (with_reducible apply o_ge) | (with_reducible apply o_int) | (with_reducible apply o_max) | (with_reducible apply o_min)
  | ((with_reducible apply o_is); · exact rfl) | ((with_reducible apply o_isn); · exact rfl) | (with_reducible apply o_in) | (with_reducible apply o_nin)
  | (refine ⟨_, (rfl : tyName _ _ = some _), ?_⟩) | (refine ⟨_, (rfl : vTruth _ _ = some _), ?_⟩) | (with_reducible refine ⟨_, rfl, ?_⟩))


theorem t_text {ns : List Int} {p : Nat} {c : CS} (hp : Pool ns p c) {i : Int} {m : Nat} (hi : i = m) (hm : m ≤ 500) (P : CV → CS → Prop) (h : ∀ ds c', ds.length = m → (∀ d ∈ ds, d < 94) → Pool ns p c' → Fr p c c' → P (.str (tx ds)) c') : Tot (m__law_text [.ref p, .int i] c) P := by
  unfold m__law_text
  refine w_run ?_
  show wS _ [some (.ref p), some (.int i), none, none] _ _
  apply ws_seq
  apply ws_set
  apply w_c
  refine ws_join (fun ρ1 c1 => ρ1 = [some (.ref p), some (.int i), some (.str AL), none] ∧ c = c1) ?_ ?_
  · repeat done
    refine o_adds (by decide +kernel) ?_
    rw [alpha_eq]
    exact ⟨rfl, rfl⟩
  rintro _ _ ⟨rfl, rfl⟩
  apply ws_ret
  apply w_meth
  apply w_c
  refine ⟨rfl, ?_⟩
  apply w_cons
  refine lc_inv ?_
  apply wi_r1
  repeat done
  refine ⟨by rw [hi]; exact rg_small (by omega), ?_⟩
  have hlt := hp.lt
  refine ⟨fun k acc c1 => ∃ ds : List Nat, ds.length = k ∧ (∀ d ∈ ds, d < 94) ∧ acc = (ds.map fun d => CV.str ⟨#[al d]⟩) ∧ k ≤ m ∧ Pool ns p c1 ∧ Fr p c c1 ∧ c1.obj c.next = .lst acc ∧ c.next < c1.next, ?_, ?_, ?_, ?_⟩
  · refine ⟨[], rfl, by simp, rfl, Nat.zero_le _, hp.gr .new, .new, CS.new_same _ _, Nat.lt_succ_self _⟩
  · exact fun _ _ _ _ => trivial
  · rintro k x acc c1 hx ⟨ds, hl, hd, rfl, hk, pl, fr, ho, hn⟩
    have hkm : k < m := by
      have := (iInt_get hx).1
      omega
    unfold PM.wT tYesM
    refine Tot.of ⟨fun _ => ?_, fun z => nomatch z⟩
    show PM.wE _ [some (.ref p), some (.int i), some (.str AL), some x] _ _
    repeat done
    refine ⟨rfl, t_draw pl (by decide) (by decide +kernel) _ fun v c2 a1 a2 a3 a4 a5 => ?_⟩
    have ev : v = ((v.toNat : Nat) : Int) := by omega
    have hv : v.toNat < 94 := by omega
    refine o_ixs (x := AL) (p := al v.toNat) (by rw [AL_len]; exact size_line (by omega)) (by rw [ev]; exact atI_str hv) ?_
    have ho2 : c2.obj c.next = .lst (ds.map fun d => CV.str ⟨#[al d]⟩) := by rw [a4.ob _ hn (by omega)]; exact ho
    refine ⟨ho2, by rw [List.length_map]; have := size_line (n := 1000) (by omega); omega, ds ++ [v.toNat], by rw [List.length_append, hl]; rfl, ?_, by rw [List.map_append]; rfl, hkm, ?_, ?_, CS.set_same _ _ _, by rw [CS.set_next, a5]; exact hn⟩
    · intro d hdd
      rcases List.mem_append.mp hdd with z | z
      · exact hd d z
      · rw [List.mem_singleton.mp z]; exact hv
    · exact a3.fr (r := c.next) .set hlt
    · refine ⟨by rw [CS.set_next]; exact Nat.le_trans fr.nx a4.nx, fun n hn1 hn2 => ?_⟩
      rw [CS.set_ne (by omega)]
      exact (fr.trans a4).ob n hn1 hn2
  · rintro acc c1 ⟨ds, hl, hd, rfl, hk, pl, fr, ho, hn⟩
    rw [iInt_len] at hl
    apply w_nil
    have hlm : ds.length = m := by omega
    refine o_join ho ?_ (fits_one ds (by omega)) ?_
    · rw [strs_rev, strs_map]
    · rw [join_one]
      exact h ds c1 hlm hd pl fr
theorem t_pick {ns : List Int} {p o : Nat} {c : CS} {xs : List CV} (hp : Pool ns p c) (ho : c.obj o = .lst xs) (hne : o ≠ p) (hlt : o < c.next) (h0 : 0 < xs.length) (h1 : xs.length ≤ 1000) (P : CV → CS → Prop) (h : ∀ x c', x ∈ xs → Pool ns p c' → Fr p c c' → P x c') : Tot (m__law_pick [.ref p, .ref o] c) P := by
  unfold m__law_pick
  refine w_run ?_
  show wS _ [some (.ref p), some (.ref o)] _ _
  have hz : ((xs.length : Int)).natAbs.log2 < 9000 := by
    rw [Int.natAbs_natCast]
    have : xs.length < 2 ^ 9000 := Nat.lt_of_le_of_lt h1 (Nat.lt_of_lt_of_le (by decide : 1000 < 2 ^ 10) (Nat.pow_le_pow_right (by decide) (by decide)))
    exact (Nat.log2_lt (by omega)).mpr this
  generalize hL : (xs.length : Int) = L at hz
  repeat done
  apply o_lenl ho
  rw [hL]
  repeat done
  refine ⟨rfl, t_draw hp (by omega) hz _ fun v c' a1 a2 a3 a4 a5 => ?_⟩
  have ho' : c'.obj o = .lst xs := by rw [a4.ob o hlt hne]; exact ho
  have hv : v.toNat < xs.length := by omega
  refine o_ixl ho' (v := xs[v.toNat]) ?_ (h _ _ (List.getElem_mem hv) a3 a4)
  unfold atI ixN
  rw [if_pos a1, if_pos (by omega)]
  exact List.getElem?_eq_getElem hv
theorem Val.text {ds : List Nat} (h1 : ∀ d ∈ ds, d < 94) (h2 : ds.length ≤ 20) : Val .t (.str (tx ds)) (Lc ds) := .t h1 h2
theorem lit_texts : (("" : Str) = tx []) ∧ (("a" : Str) = tx [64]) ∧ (("b" : Str) = tx [65]) ∧ (("ab" : Str) = tx [64, 65]) := by decide +kernel
theorem t_value {ns : List Int} {p : Nat} {c : CS} (hp : Pool ns p c) (k : Kd) (P : CV → CS → Prop) (h : ∀ v n c', Val k v n → Pool ns p c' → Fr p c c' → P v c') : Tot (m__law_value [.ref p, k.v] c) P := by
  unfold m__law_value
  refine w_run ?_
  show wS _ [some (.ref p), some k.v, none] _ _
  refine ws_join (fun ρ1 c1 => ∃ way : Int, ρ1 = [some (.ref p), some k.v, some (.int way)] ∧ Pool ns p c1 ∧ Fr p c c1) ?_ ?_
  · repeat done
    exact ⟨rfl, t_draw hp (by decide) (by decide +kernel) _ fun v c2 a1 a2 a3 a4 a5 => ⟨v, rfl, a3, a4⟩⟩
  rintro _ c1 ⟨way, rfl, p1, f1⟩
  cases k with
  | f =>
    show wS _ [some (.ref p), some (.str "flag"), some (.int way)] _ _
    repeat done
    refine bd (fun _ => ?_) (fun z => absurd (by decide) z)
    repeat done
    exact h _ _ _ (.f _) p1 f1
  | t =>
    show wS _ [some (.ref p), some (.str "text"), some (.int way)] _ _
    repeat done
    refine bd (fun z => absurd z (by decide)) (fun _ => ?_)
    repeat done
    refine bd (fun _ => ?_) (fun z => absurd (by decide) z)
    repeat done
    refine bd (fun _ => ?_) (fun _ => ?_)
    · repeat done
      refine ⟨by show 6 ≤ sizeLine; exact size_line (by omega), ?_⟩
      repeat done
      refine ⟨rfl, t_pick (p1.gr .new) (CS.new_same _ _) (by have := p1.lt; omega) (Nat.lt_succ_self _) (by decide) (by decide) _ fun x c2 hx pl fr => ?_⟩
      have hx' : ∃ m : Nat, m ≤ 20 ∧ x = .int m := by
        simp only [List.mem_cons, List.not_mem_nil, or_false] at hx
        rcases hx with rfl | rfl | rfl | rfl | rfl | rfl
        · exact ⟨0, by omega, rfl⟩
        · exact ⟨1, by omega, rfl⟩
        · exact ⟨1, by omega, rfl⟩
        · exact ⟨2, by omega, rfl⟩
        · exact ⟨3, by omega, rfl⟩
        · exact ⟨20, by omega, rfl⟩
      obtain ⟨m, hm, rfl⟩ := hx'
      generalize hmi : (m : Int) = mi
      repeat done
      refine ⟨rfl, t_text pl hmi.symm (by omega) _ fun ds c3 b1 b2 b3 b4 => ?_⟩
      exact h _ _ _ (.t b2 (by omega)) b3 ((f1.trans (Fr.trans .new fr)).trans b4)
    · repeat done
      refine ⟨by show 4 ≤ sizeLine; exact size_line (by omega), ?_⟩
      repeat done
      refine ⟨rfl, t_pick (p1.gr .new) (CS.new_same _ _) (by have := p1.lt; omega) (Nat.lt_succ_self _) (by decide) (by decide) _ fun x c2 hx pl fr => ?_⟩
      have fr2 := f1.trans (Fr.trans .new fr)
      simp only [List.mem_cons, List.not_mem_nil, or_false] at hx
      rcases hx with rfl | rfl | rfl | rfl
      · rw [lit_texts.1]; exact h _ _ _ (.t (by decide) (by decide)) pl fr2
      · rw [lit_texts.2.1]; exact h _ _ _ (.t (by decide) (by decide)) pl fr2
      · rw [lit_texts.2.2.1]; exact h _ _ _ (.t (by decide) (by decide)) pl fr2
      · rw [lit_texts.2.2.2]; exact h _ _ _ (.t (by decide) (by decide)) pl fr2
  | i =>
    show wS _ [some (.ref p), some (.str "int"), some (.int way)] _ _
    repeat done
    refine bd (fun z => absurd z (by decide)) (fun _ => ?_)
    repeat done
    refine bd (fun z => absurd z (by decide)) (fun _ => ?_)
    repeat done
    refine bd (fun _ => ?_) (fun _ => ?_)
    · repeat done
      refine ⟨rfl, t_draw p1 (by decide) (by decide +kernel) _ fun v c2 a1 a2 a3 a4 a5 => ?_⟩
      repeat done
      exact h _ _ _ (.i (by omega) (by omega)) a3 (f1.trans a4)
    · repeat done
      refine bd (fun _ => ?_) (fun _ => ?_)
      · repeat done
        refine ⟨rfl, t_draw p1 (by decide) (by decide +kernel) _ fun v c2 a1 a2 a3 a4 a5 => ?_⟩
        repeat done
        exact h _ _ _ (.i (by omega) (by omega)) a3 (f1.trans a4)
      · repeat done
        refine ⟨rfl, t_draw p1 (by decide) (by decide +kernel) _ fun v c2 a1 a2 a3 a4 a5 => ?_⟩
        repeat done
        refine ⟨rfl, t_draw a3 (by decide) (by decide +kernel) _ fun u c3 b1 b2 b3 b4 b5 => ?_⟩
        repeat done
        refine o_mul (mulOk_r (by decide)) ?_
        repeat done
        refine o_mul (mulOk_l (by omega)) ?_
        have hu : u = 0 ∨ u = 1 := by omega
        refine h _ _ _ (.i ?_ ?_) b3 ((f1.trans a4).trans b4)
        · rcases hu with rfl | rfl <;> omega
        · rcases hu with rfl | rfl <;> omega
end L51

namespace L51
open PySem PySem.Spec PyProof.Rows L2 PM

local macro_rules | `(tactic| done) => `(tactic| first
  | (with_reducible apply ws_seq) | (with_reducible apply ws_set) | (with_reducible apply ws_ret) | (with_reducible apply ws_if) | (with_reducible apply ws_expr) | (with_reducible apply ws_sub) | (with_reducible apply ws_nil) | (with_reducible apply ws_retN)
  | ((with_reducible apply w_var); · exact rfl)
  | (with_reducible apply w_c) | (with_reducible apply w_op) | (with_reducible apply w_un) | (with_reducible apply w_t) | (with_reducible apply w_tr) | (with_reducible apply w_and) | (with_reducible apply w_or) | (with_reducible apply w_not)
  | (with_reducible apply w_andV) | (with_reducible apply w_orV) | (with_reducible apply w_notV) | (with_reducible apply w_ifE) | (with_reducible apply w_chain) | (with_reducible apply w_nil) | (with_reducible apply w_cons) | (with_reducible apply w_cb)
  | (with_reducible apply w_tup) | (with_reducible apply w_lst) | (with_reducible apply w_call) | (with_reducible apply w_meth) | (with_reducible apply w_isi) | (with_reducible apply w_isi2) | (with_reducible apply w_slice) | (with_reducible apply w_no) | (with_reducible apply w_part)
  | (with_reducible apply o_add) | (with_reducible apply o_sub) | (with_reducible apply o_neg) | (with_reducible apply o_eqi) | (with_reducible apply o_nei) | (with_reducible apply o_eqs) | (with_reducible apply o_nes) | (with_reducible apply o_eqb) | (with_reducible apply o_neb)
  | (with_reducible apply o_lt) | (with_reducible apply o_gt) | (with_reducible apply o_le) | (with_reducible apply o_ge) | (with_reducible apply o_int) | (with_reducible apply o_max) | (with_reducible apply o_min)
  | ((with_reducible apply o_is); · exact rfl) | ((with_reducible apply o_isn); · exact rfl) | (with_reducible apply o_in) | (with_reducible apply o_nin)
  | (refine ⟨_, (rfl : tyName _ _ = some _), ?_⟩) | (refine ⟨_, (rfl : vTruth _ _ = some _), ?_⟩) | (with_reducible refine ⟨_, rfl, ?_⟩))


def okT (z : Str) : Bool := decide (z.length ≤ 20) && z.cps.toList.all fun p => decide (p ∈ ALs)
theorem okT_tx {ds : List Nat} (h1 : ∀ d ∈ ds, d < 94) (h2 : ds.length ≤ 20) : okT (tx ds) = true := by
  unfold okT
  rw [tx_len, decide_eq_true h2, Bool.true_and, List.all_eq_true]
  intro p hp
  unfold tx at hp
  rw [stc_list] at hp
  obtain ⟨d, hd, rfl⟩ := List.mem_map.mp hp
  exact decide_eq_true (al_mem (h1 d hd))
theorem sgn_get {z : Str} {k : Nat} {x : CV} (h : (z.cps.toList.map fun p => CV.str ⟨#[p]⟩)[k]? = some x) : ∃ p, z.cps.toList[k]? = some p ∧ x = .str ⟨#[p]⟩ := by
  rw [List.getElem?_map] at h
  cases e : z.cps.toList[k]? with
  | none => rw [e] at h; cases h
  | some d => rw [e] at h; exact ⟨d, rfl, (Option.some.inj h).symm⟩
theorem in_al (p : Nat) : strIn ⟨#[p]⟩ AL = decide (p ∈ ALs) := strIn_sign p AL
theorem t_is_text (z : Str) (hz : z.length ≤ 1000) (c : CS) (P : CV → CS → Prop) (h : P (.bl (okT z)) c) : Tot (m_is_text [.str z] c) P := by
  unfold m_is_text
  refine w_run ?_
  show wS _ [some (.str z), none] _ _
  have hz' : z.length ≤ sizeLine := size_line hz
  repeat done
  refine bf ?_
  apply w_t
  repeat done
  refine o_lens hz' ?_
  repeat done
  refine bd (fun hgt => ?_) (fun hle => ?_)
  · repeat done
    have : okT z = false := by
      unfold okT
      rw [decide_eq_false (by omega), Bool.false_and]
    rw [this] at h
    exact h
  · apply ws_nil
    have hl : z.length ≤ 20 := by omega
    refine ws_join (fun ρ1 c1 => (∃ o, ρ1 = [some (.str z), o]) ∧ c = c1 ∧ z.cps.toList.all (fun p => decide (p ∈ ALs)) = true) ?_ ?_
    · apply ws_for
      apply wi_iter
      repeat done
      refine for_inv (J := fun k ρ1 c1 => (∃ o, ρ1 = [some (.str z), o]) ∧ c = c1 ∧ ∀ j p, j < k → z.cps.toList[j]? = some p → p ∈ ALs) ⟨⟨_, rfl⟩, rfl, fun j p hj => absurd hj (Nat.not_lt_zero _)⟩ (fun _ _ _ _ => trivial) ?_ ?_
      · rintro k x _ _ hx ⟨⟨o, rfl⟩, rfl, hall⟩
        obtain ⟨p, hp, rfl⟩ := sgn_get hx
        repeat done
        rw [show strIn ⟨#[p]⟩ " !\"#$&'()*+,-./0123456789:;<=>?@ABCDEFGHIJKLMNOPQRSTUVWXYZ[\\]^_`abcdefghijklmnopqrstuvwxyz{|}~" = decide (p ∈ ALs) from in_al p]
        refine bn (fun hn => ?_) (fun hy => ?_)
        · repeat done
          have : okT z = false := by
            unfold okT
            rw [Bool.and_eq_false_iff]
            refine .inr (Bool.eq_false_iff.mpr fun q => hn ?_)
            exact of_decide_eq_true (List.all_eq_true.mp q p (List.mem_of_getElem? hp))
          rw [this] at h
          exact h
        · apply ws_nil
          refine ⟨⟨some (.str ⟨#[p]⟩), rfl⟩, rfl, fun j q hj hq => ?_⟩
          rcases Nat.lt_or_ge j k with w | w
          · exact hall j q w hq
          · have : j = k := by omega
            subst this
            rw [hp] at hq
            cases hq
            exact hy
      · rintro _ _ ⟨⟨o, rfl⟩, rfl, hall⟩
        refine ⟨⟨o, rfl⟩, rfl, List.all_eq_true.mpr fun p hp => ?_⟩
        obtain ⟨j, hj, e⟩ := List.mem_iff_getElem.mp hp
        exact decide_eq_true (hall j p (by rw [List.length_map]; exact hj) (by rw [List.getElem?_eq_getElem hj, e]))
    rintro _ _ ⟨⟨o, rfl⟩, rfl, hall⟩
    repeat done
    have : okT z = true := by unfold okT; rw [decide_eq_true hl, hall]; rfl
    rw [this] at h
    exact h
/-- the values that are asked -/
def askB : Kd → CV → Bool
  | .f, .bl _ => true
  | .i, .int n => decide (-1000000000 ≤ n) && decide (n ≤ 1000000000)
  | .t, .str z => okT z
  | _, _ => false
def ask (c : CS) : CV → Prop
  | .str z => z.length ≤ 1000
  | .ref n => ∃ xs, c.obj n = .lst xs
  | _ => True
def intB : CV → Bool
  | .int _ => true
  | .bl _ => true
  | _ => false
def strB : CV → Bool
  | .str _ => true
  | _ => false
theorem ask_ty {c : CS} {v : CV} (h : ask c v) : ∃ t, tyName v c = some t ∧ isB t "bool" = askB .f v ∧ isB t "int" = intB v ∧ isB t "str" = strB v := by
  cases v with
  | ref n =>
    obtain ⟨xs, ho⟩ := h
    refine ⟨"list", by unfold tyName; simp only [ho], rfl, rfl, rfl⟩
  | non => exact ⟨_, rfl, rfl, rfl, rfl⟩
  | bl b => exact ⟨_, rfl, rfl, rfl, rfl⟩
  | int i => exact ⟨_, rfl, rfl, rfl, rfl⟩
  | str z => exact ⟨_, rfl, rfl, rfl, rfl⟩
  | tup xs => exact ⟨_, rfl, rfl, rfl, rfl⟩
theorem t_is_value (k : Kd) (v : CV) (c : CS) (hv : ask c v) (P : CV → CS → Prop) (h : P (.bl (askB k v)) c) : Tot (m_is_value [k.v, v] c) P := by
  obtain ⟨t, ht, tb, ti, ts⟩ := ask_ty hv
  unfold m_is_value
  refine w_run ?_
  cases k with
  | f =>
    show wS _ [some (.str "flag"), some v] _ _
    repeat done
    refine bd (fun _ => ?_) (fun z => absurd (by decide) z)
    apply ws_ret
    apply w_isi
    apply w_var rfl
    refine ⟨t, ht, ?_⟩
    rw [tb]
    exact h
  | i =>
    show wS _ [some (.str "int"), some v] _ _
    repeat done
    refine bd (fun z => absurd z (by decide)) (fun _ => ?_)
    repeat done
    refine bd (fun _ => ?_) (fun z => absurd (by decide) z)
    apply ws_ret
    apply w_andV
    apply w_isi
    apply w_var rfl
    refine ⟨t, ht, _, rfl, ?_⟩
    rw [ti]
    cases v with
    | int n =>
      refine bt ?_
      apply w_andV
      apply w_notV
      apply w_isi
      apply w_var rfl
      refine ⟨t, ht, _, rfl, _, rfl, ?_⟩
      rw [tb]
      refine bt ?_
      repeat done
      refine bd (fun h1 => ?_) (fun h1 => ?_)
      · repeat done
        have : askB .i (.int n) = decide (n ≤ 1000000000) := by show (decide (-1000000000 ≤ n) && decide (n ≤ 1000000000)) = _; rw [decide_eq_true h1, Bool.true_and]
        rw [this] at h
        exact h
      · have : askB .i (.int n) = false := by show (decide (-1000000000 ≤ n) && decide (n ≤ 1000000000)) = _; rw [decide_eq_false h1, Bool.false_and]
        rw [this] at h
        exact h
    | bl b =>
      refine bt ?_
      apply w_andV
      apply w_notV
      apply w_isi
      apply w_var rfl
      refine ⟨t, ht, _, rfl, _, rfl, ?_⟩
      rw [tb]
      exact bf h
    | non => exact bf h
    | str z => exact bf h
    | tup xs => exact bf h
    | ref n => exact bf h
  | t =>
    show wS _ [some (.str "text"), some v] _ _
    repeat done
    refine bd (fun z => absurd z (by decide)) (fun _ => ?_)
    repeat done
    refine bd (fun z => absurd z (by decide)) (fun _ => ?_)
    apply ws_nil
    apply ws_ret
    apply w_call
    apply w_cons
    apply w_var rfl
    apply w_nil
    refine ⟨rfl, ?_⟩
    by_cases hs : ∃ z, v = .str z
    · obtain ⟨z, rfl⟩ := hs
      exact t_is_text z hv c P h
    · have e1 : isB t "str" = false := by
        rw [ts]
        cases v with
        | str z => exact absurd ⟨z, rfl⟩ hs
        | _ => rfl
      have e2 : askB .t v = false := by
        cases v with
        | str z => exact absurd ⟨z, rfl⟩ hs
        | _ => rfl
      rw [e2] at h
      unfold m_is_text
      refine w_run ?_
      show wS _ [some v, none] _ _
      apply ws_seq
      apply ws_if
      apply w_or
      apply w_not
      apply w_tr
      apply w_isi
      apply w_var rfl
      refine ⟨t, ht, _, rfl, ?_⟩
      rw [e1]
      refine bt ?_
      refine bt ?_
      repeat done
      exact h
end L51

namespace L51
open PySem PySem.Spec PyProof.Rows L2 PM

local macro_rules | `(tactic| done) => `(tactic| first
  | (with_reducible apply ws_seq) | (with_reducible apply ws_set) | (with_reducible apply ws_ret) | (with_reducible apply ws_if) | (with_reducible apply ws_expr) | (with_reducible apply ws_sub) | (with_reducible apply ws_nil) | (with_reducible apply ws_retN)
  | ((with_reducible apply w_var); · exact rfl)
  | (with_reducible apply w_c) | (with_reducible apply w_op) | (with_reducible apply w_un) | (with_reducible apply w_t) | (with_reducible apply w_tr) | (with_reducible apply w_and) | (with_reducible apply w_or) | (with_reducible apply w_not)
  | (with_reducible apply w_andV) | (with_reducible apply w_orV) | (with_reducible apply w_notV) | (with_reducible apply w_ifE) | (with_reducible apply w_chain) | (with_reducible apply w_nil) | (with_reducible apply w_cons) | (with_reducible apply w_cb)
  | (with_reducible apply w_tup) | (with_reducible apply w_lst) | (with_reducible apply w_call) | (with_reducible apply w_meth) | (with_reducible apply w_isi) | (with_reducible apply w_isi2) | (with_reducible apply w_slice) | (with_reducible apply w_no) | (with_reducible apply w_part)
  | (with_reducible apply o_add) | (with_reducible apply o_sub) | (with_reducible apply o_neg) | (with_reducible apply o_eqi) | (with_reducible apply o_nei) | (with_reducible apply o_eqs) | (with_reducible apply o_nes) | (with_reducible apply o_eqb) | (with_reducible apply o_neb)
  | (with_reducible apply o_lt) | (with_reducible apply o_gt) | (with_reducible apply o_le) | (with_reducible apply o_ge) | (with_reducible apply o_int) | (with_reducible apply o_max) | (with_reducible apply o_min)
  | ((with_reducible apply o_is); · exact rfl) | ((with_reducible apply o_isn); · exact rfl) | (with_reducible apply o_in) | (with_reducible apply o_nin)
  | (refine ⟨_, (rfl : tyName _ _ = some _), ?_⟩) | (refine ⟨_, (rfl : vTruth _ _ = some _), ?_⟩) | (with_reducible refine ⟨_, rfl, ?_⟩))


theorem t_due_text (z : Str) (hz : z.length ≤ 1000) (c : CS) (P : CV → CS → Prop) (h : ∀ c', Gr c c' → P (.bl (okT z)) c') : Tot (m__law_due_value [.str "text", .str z] c) P := by
  unfold m__law_due_value
  refine w_run ?_
  show wS _ [some (.str "text"), some (.str z), none] _ _
  have hz' : z.length ≤ sizeLine := size_line hz
  repeat done
  refine bd (fun w => absurd w (by decide)) (fun _ => ?_)
  repeat done
  refine bd (fun w => absurd w (by decide)) (fun _ => ?_)
  repeat done
  refine bf ?_
  apply w_t
  repeat done
  refine o_lens hz' ?_
  repeat done
  refine bd (fun hgt => ?_) (fun hle => ?_)
  · repeat done
    have : okT z = false := by
      unfold okT
      rw [decide_eq_false (by omega), Bool.false_and]
    rw [this] at h
    exact h _ .refl
  · apply ws_nil
    have hl : z.length ≤ 20 := by omega
    apply ws_ret
    apply w_op
    apply w_cb
    apply w_cons
    refine lc_inv ?_
    apply wi_iter
    repeat done
    refine ⟨fun k acc c1 => c1.obj c.next = .lst acc ∧ Gr c c1 ∧ c.next < c1.next ∧ acc.length ≤ k ∧ k ≤ z.length ∧ (acc = [] ↔ ∀ j p, j < k → z.cps.toList[j]? = some p → p ∈ ALs), ?_, ?_, ?_, ?_⟩
    · exact ⟨CS.new_same _ _, .new, Nat.lt_succ_self _, Nat.le_refl _, Nat.zero_le _, fun _ j p hj => absurd hj (Nat.not_lt_zero _), fun _ => rfl⟩
    · exact fun _ _ _ _ => trivial
    · rintro k x acc c1 hx ⟨ho, g, gn, ha, hk, hall⟩
      obtain ⟨p, hp, rfl⟩ := sgn_get hx
      have hkz : k < z.length := (List.getElem?_eq_some_iff.mp hp).1
      show PM.wT _ [some (.str "text"), some (.str z), some (.str ⟨#[p]⟩)] _ _
      repeat done
      refine ⟨rfl, t_alphabet _ _ ?_⟩
      repeat done
      rw [in_al]
      refine ⟨fun hn => ?_, fun hy => ?_⟩
      · apply w_var rfl
        refine ⟨ho, by have := size_line (n := 1000) (by omega); omega, CS.set_same _ _ _, Gr.set g (Nat.le_refl _), gn, by rw [List.length_append]; exact Nat.succ_le_succ ha, hkz, fun e => by simp at e, fun e => ?_⟩
        have := e k p (Nat.lt_succ_self _) hp
        rw [decide_eq_true this] at hn
        cases hn
      · have hy' : p ∈ ALs := by
          rw [Bool.not_eq_false'] at hy
          exact of_decide_eq_true hy
        refine ⟨ho, g, gn, Nat.le_succ_of_le ha, hkz, fun e j q hj hq => ?_, fun e => hall.mpr fun j q hj hq => e j q (Nat.lt_succ_of_lt hj) hq⟩
        rcases Nat.lt_or_ge j k with w | w
        · exact hall.mp e j q w hq
        · have : j = k := by omega
          subst this
          rw [hp] at hq
          cases hq
          exact hy'
    · rintro acc c1 ⟨ho, g, gn, ha, hk, hall⟩
      rw [List.length_map] at hall
      repeat done
      refine o_lenl ho ?_
      repeat done
      have e : decide ((acc.length : Int) = 0) = okT z := by
        unfold okT
        rw [decide_eq_true hl, Bool.true_and, Bool.eq_iff_iff, decide_eq_true_eq, List.all_eq_true]
        constructor
        · intro q p hp
          have : acc = [] := List.eq_nil_of_length_eq_zero (by omega)
          obtain ⟨j, hj, e⟩ := List.mem_iff_getElem.mp hp
          exact decide_eq_true (hall.mp this j p hj (by rw [List.getElem?_eq_getElem hj, e]))
        · intro q
          have : acc = [] := hall.mpr fun j p _ hp => of_decide_eq_true (q p (List.mem_of_getElem? hp))
          rw [this]
          rfl
      rw [e]
      exact h _ g
theorem t_due_value (k : Kd) (v : CV) (c : CS) (hv : ask c v) (P : CV → CS → Prop) (h : ∀ c', Gr c c' → P (.bl (askB k v)) c') : Tot (m__law_due_value [k.v, v] c) P := by
  obtain ⟨t, ht, tb, ti, ts⟩ := ask_ty hv
  by_cases hs : ∃ z, k = .t ∧ v = .str z
  · obtain ⟨z, rfl, rfl⟩ := hs
    exact t_due_text z hv c P h
  replace h := h c .refl
  unfold m__law_due_value
  refine w_run ?_
  cases k with
  | f =>
    show wS _ [some (.str "flag"), some v, none] _ _
    repeat done
    refine bd (fun _ => ?_) (fun z => absurd (by decide) z)
    apply ws_ret
    apply w_isi
    apply w_var rfl
    refine ⟨t, ht, ?_⟩
    rw [tb]
    exact h
  | i =>
    show wS _ [some (.str "int"), some v, none] _ _
    repeat done
    refine bd (fun z => absurd z (by decide)) (fun _ => ?_)
    repeat done
    refine bd (fun _ => ?_) (fun z => absurd (by decide) z)
    apply ws_ret
    apply w_andV
    apply w_isi
    apply w_var rfl
    refine ⟨t, ht, _, rfl, ?_⟩
    rw [ti]
    cases v with
    | int n =>
      refine bt ?_
      apply w_andV
      apply w_notV
      apply w_isi
      apply w_var rfl
      refine ⟨t, ht, _, rfl, _, rfl, ?_⟩
      rw [tb]
      refine bt ?_
      repeat done
      refine bd (fun h1 => ?_) (fun h1 => ?_)
      · repeat done
        have : askB .i (.int n) = decide (n ≤ 1000000000) := by show (decide (-1000000000 ≤ n) && decide (n ≤ 1000000000)) = _; rw [decide_eq_true h1, Bool.true_and]
        rw [this] at h
        exact h
      · have : askB .i (.int n) = false := by show (decide (-1000000000 ≤ n) && decide (n ≤ 1000000000)) = _; rw [decide_eq_false h1, Bool.false_and]
        rw [this] at h
        exact h
    | bl b =>
      refine bt ?_
      apply w_andV
      apply w_notV
      apply w_isi
      apply w_var rfl
      refine ⟨t, ht, _, rfl, _, rfl, ?_⟩
      rw [tb]
      exact bf h
    | non => exact bf h
    | str z => exact bf h
    | tup xs => exact bf h
    | ref n => exact bf h
  | t =>
    have e1 : isB t "str" = false := by
      rw [ts]
      cases v with
      | str z => exact absurd ⟨z, rfl, rfl⟩ hs
      | _ => rfl
    have e2 : askB .t v = false := by
      cases v with
      | str z => exact absurd ⟨z, rfl, rfl⟩ hs
      | _ => rfl
    rw [e2] at h
    show wS _ [some (.str "text"), some v, none] _ _
    repeat done
    refine bd (fun z => absurd z (by decide)) (fun _ => ?_)
    repeat done
    refine bd (fun z => absurd z (by decide)) (fun _ => ?_)
    apply ws_nil
    apply ws_seq
    apply ws_if
    apply w_or
    apply w_not
    apply w_tr
    apply w_isi
    apply w_var rfl
    refine ⟨t, ht, _, rfl, ?_⟩
    rw [e1]
    refine bt ?_
    refine bt ?_
    repeat done
    exact h
/-- a code drawn -/
theorem t_drawn_code {ns : List Int} {p : Nat} {c : CS} (hp : Pool ns p c) (k : Kd) (P : CV → CS → Prop) (h : ∀ n c', 0 ≤ n → n < k.size → Pool ns p c' → Fr p c c' → P (.int n) c') : Tot (m__law_drawn_code [.ref p, k.v] c) P := by
  have hs0 : 2 ≤ k.size := by cases k <;> decide +kernel
  have hsl : k.size.natAbs.log2 < 9000 := by cases k <;> decide +kernel
  unfold m__law_drawn_code
  refine w_run ?_
  show wS _ [some (.ref p), some k.v, none, none, none, none] _ _
  generalize hkv : k.v = kv
  refine ws_join (fun ρ1 c1 => ρ1 = [some (.ref p), some kv, some (.int k.size), none, none, none] ∧ Gr c c1) ?_ ?_
  · repeat done
    rw [← hkv]
    exact ⟨rfl, t_law_size k _ _ fun c' g => ⟨rfl, g⟩⟩
  rintro _ c1 ⟨rfl, g1⟩
  have p1 := hp.gr g1
  have f1 : Fr p c c1 := g1.fr p
  refine ws_join (fun ρ1 c1 => ∃ way : Int, ρ1 = [some (.ref p), some kv, some (.int k.size), some (.int way), none, none] ∧ Pool ns p c1 ∧ Fr p c c1) ?_ ?_
  · repeat done
    exact ⟨rfl, t_draw p1 (by decide) (by decide +kernel) _ fun v c2 a1 a2 a3 a4 a5 => ⟨v, rfl, a3, f1.trans a4⟩⟩
  rintro _ c2 ⟨way, rfl, p2, f2⟩
  have hmin : ∃ q : Int, (if (100 : Int) < k.size then (100 : Int) else k.size) = q ∧ 0 < q ∧ q ≤ k.size ∧ q.natAbs.log2 < 9000 := by
    cases k with
    | i => exact ⟨100, by decide, by decide, by decide, by decide⟩
    | f => exact ⟨2, by decide, by decide, by decide, by decide⟩
    | t => exact ⟨100, by decide +kernel, by decide, by decide +kernel, by decide⟩
  obtain ⟨q, hq, q0, q1, q2⟩ := hmin
  generalize hS : k.size = S at *
  refine ws_join (fun ρ1 c1 => ρ1 = [some (.ref p), some kv, some (.int S), some (.int way), none, none] ∧ c2 = c1) ?_ ?_
  · repeat done
    refine bd (fun _ => ?_) (fun _ => ?_)
    · repeat done
      rw [hq]
      exact ⟨rfl, t_draw p2 q0 q2 _ fun v c3 a1 a2 a3 a4 a5 => h _ _ a1 (by omega) a3 (f2.trans a4)⟩
    · apply ws_nil
      exact ⟨rfl, rfl⟩
  rintro _ _ ⟨rfl, rfl⟩
  refine ws_join (fun ρ1 c1 => ρ1 = [some (.ref p), some kv, some (.int S), some (.int way), none, none] ∧ c2 = c1) ?_ ?_
  · repeat done
    refine bd (fun _ => ?_) (fun _ => ?_)
    · repeat done
      rw [hq]
      refine ⟨rfl, t_draw p2 q0 q2 _ fun v c3 a1 a2 a3 a4 a5 => ?_⟩
      repeat done
      exact h _ _ (by omega) (by omega) a3 (f2.trans a4)
    · apply ws_nil
      exact ⟨rfl, rfl⟩
  rintro _ _ ⟨rfl, rfl⟩
  refine ws_join (fun ρ1 c1 => ρ1 = [some (.ref p), some kv, some (.int S), some (.int way), none, none] ∧ c2 = c1) ?_ ?_
  · apply ws_if
    apply w_and
    repeat done
    refine bd (fun _ => ?_) (fun _ => ?_)
    · rw [← hkv]
      show PM.wT (mT (mOp vEq (mVar 1) (mC (.str "text")))) [some (.ref p), some (.str k.s), some (.int S), some (.int way), none, none] c2 _
      repeat done
      refine bd (fun hk => ?_) (fun _ => ?_)
      · have hkt : S = F 21 := by
          cases k with
          | i => exact absurd hk (by decide)
          | f => exact absurd hk (by decide)
          | t => exact hS.symm
        refine ws_join (fun ρ1 c1 => ρ1 = [some (.ref p), some (.str k.s), some (.int S), some (.int way), some (.int 0), none] ∧ c2 = c1) ?_ ?_
        · repeat done
          exact ⟨rfl, rfl⟩
        rintro _ _ ⟨rfl, rfl⟩
        refine ws_join (fun ρ1 c1 => ∃ (o : Option CV) (m : Nat), m < 20 ∧ ρ1 = [some (.ref p), some (.str k.s), some (.int S), some (.int way), some (.int (F m)), o] ∧ Pool ns p c1 ∧ Fr p c c1) ?_ ?_
        · apply ws_for
          apply wi_r1
          repeat done
          refine ⟨rfl, t_draw p2 (by decide) (by decide +kernel) _ fun v c3 a1 a2 a3 a4 a5 => ?_⟩
          repeat done
          refine ⟨by rw [show v = ((v.toNat : Nat) : Int) by omega]; exact rg_small (by omega), ?_⟩
          refine for_inv (J := fun j ρ1 c1 => (∃ o : Option CV, ρ1 = [some (.ref p), some (.str k.s), some (.int S), some (.int way), some (.int (F j)), o]) ∧ c3 = c1) ⟨⟨_, rfl⟩, rfl⟩ (fun _ _ _ _ => trivial) ?_ ?_
          · rintro j x _ _ hx ⟨⟨o, rfl⟩, rfl⟩
            repeat done
            refine o_mul (mulOk_l (by decide)) ?_
            repeat done
            exact ⟨⟨some x, rfl⟩, rfl⟩
          · rintro _ _ ⟨⟨o, rfl⟩, rfl⟩
            exact ⟨o, v.toNat, by omega, by rw [iInt_len], a3, f2.trans a4⟩
        rintro _ c3 ⟨o, m, hm, rfl, p3, f3⟩
        repeat done
        refine ⟨rfl, t_draw p3 (by decide) (by decide +kernel) _ fun v c4 a1 a2 a3 a4 a5 => ?_⟩
        repeat done
        have hF0 := F_nonneg m
        have hF1 : F m ≤ F 19 := F_mono (by omega)
        have hF2 : F 19 + 3 < F 21 := by decide +kernel
        refine h _ _ ?_ ?_ a3 (f3.trans a4)
        · split <;> omega
        · split <;> omega
      · apply ws_nil
        exact ⟨rfl, rfl⟩
    · refine bf ?_
      apply ws_nil
      exact ⟨rfl, rfl⟩
  rintro _ _ ⟨rfl, rfl⟩
  repeat done
  exact ⟨rfl, t_draw p2 (by omega) hsl _ fun v c3 a1 a2 a3 a4 a5 => h _ _ a1 a2 a3 (f2.trans a4)⟩
end L51

namespace L51
open PySem PySem.Spec PyProof.Rows L2 PM

local macro_rules | `(tactic| done) => `(tactic| first
  | (with_reducible apply ws_seq) | (with_reducible apply ws_set) | (with_reducible apply ws_ret) | (with_reducible apply ws_if) | (with_reducible apply ws_expr) | (with_reducible apply ws_sub) | (with_reducible apply ws_nil) | (with_reducible apply ws_retN)
  | ((with_reducible apply w_var); · exact rfl)
  | (with_reducible apply w_c) | (with_reducible apply w_op) | (with_reducible apply w_un) | (with_reducible apply w_t) | (with_reducible apply w_tr) | (with_reducible apply w_and) | (with_reducible apply w_or) | (with_reducible apply w_not)
  | (with_reducible apply w_andV) | (with_reducible apply w_orV) | (with_reducible apply w_notV) | (with_reducible apply w_ifE) | (with_reducible apply w_chain) | (with_reducible apply w_nil) | (with_reducible apply w_cons) | (with_reducible apply w_cb)
  | (with_reducible apply w_tup) | (with_reducible apply w_lst) | (with_reducible apply w_call) | (with_reducible apply w_meth) | (with_reducible apply w_isi) | (with_reducible apply w_isi2) | (with_reducible apply w_slice) | (with_reducible apply w_no) | (with_reducible apply w_part)
  | (with_reducible apply o_add) | (with_reducible apply o_sub) | (with_reducible apply o_neg) | (with_reducible apply o_eqi) | (with_reducible apply o_nei) | (with_reducible apply o_eqs) | (with_reducible apply o_nes) | (with_reducible apply o_eqb) | (with_reducible apply o_neb)
  | (with_reducible apply o_lt) | (with_reducible apply o_gt) | (with_reducible apply o_le) | (with_reducible apply o_ge) | (with_reducible apply o_int) | (with_reducible apply o_max) | (with_reducible apply o_min)
  | ((with_reducible apply o_is); · exact rfl) | ((with_reducible apply o_isn); · exact rfl) | (with_reducible apply o_in) | (with_reducible apply o_nin)
  | (refine ⟨_, (rfl : tyName _ _ = some _), ?_⟩) | (refine ⟨_, (rfl : vTruth _ _ = some _), ?_⟩) | (with_reducible refine ⟨_, rfl, ?_⟩))


theorem Val.atom {k : Kd} {v : CV} {n : Int} (h : Val k v n) : isAtom v = true := by cases h <;> rfl
theorem Val.ask {k : Kd} {v : CV} {n : Int} (h : Val k v n) (c : CS) : ask c v := by
  cases h with
  | i => exact True.intro
  | f => exact True.intro
  | t h1 h2 => show (tx _).length ≤ 1000; rw [tx_len]; omega
theorem Val.askB {k : Kd} {v : CV} {n : Int} (h : Val k v n) : askB k v = true := by
  cases h with
  | @i n h1 h2 => show (decide (-1000000000 ≤ n) && decide (n ≤ 1000000000)) = true; rw [decide_eq_true h1, decide_eq_true h2]; rfl
  | f b => rfl
  | t h1 h2 => exact okT_tx h1 h2
theorem Val.inj {k : Kd} {v u : CV} {n : Int} (h : Val k v n) (h' : Val k u n) : v = u := by
  cases h with
  | @i m h1 h2 =>
    generalize hn : m + 1000000000 = n at h'
    cases h' with
    | @i m' _ _ => exact congrArg CV.int (by omega)
  | f b =>
    generalize hn : (if b = true then (1 : Int) else 0) = n at h'
    cases h' with
    | f b' => cases b <;> cases b' <;> first | rfl | cases hn
  | @t ds h1 h2 =>
    generalize hn : Lc ds = n at h'
    cases h' with
    | @t ds' h1' h2' => rw [Lc_inj h1 h1' hn]
theorem Val.code {k : Kd} {v : CV} {n m : Int} (h : Val k v n) (h' : Val k v m) : n = m := by
  cases h with
  | i => cases h' with | i => rfl
  | f => cases h' with | f => rfl
  | @t ds h1 h2 =>
    generalize hv : CV.str (tx ds) = v at h'
    cases h' with
    | @t ds' h1' h2' =>
      have e : tx ds = tx ds' := CV.str.inj hv
      have e2 : ds.map al = ds'.map al := by
        have := congrArg (fun z : Str => z.cps.toList) e
        exact this
      have inj : ∀ {as bs : List Nat}, (∀ d ∈ as, d < 94) → (∀ d ∈ bs, d < 94) → as.map al = bs.map al → as = bs := by
        intro as
        induction as with
        | nil => intro bs _ _ q; cases bs with
          | nil => rfl
          | cons b bs => cases q
        | cons a as ih =>
          intro bs ha hb q
          cases bs with
          | nil => cases q
          | cons b bs =>
            rw [List.map_cons, List.map_cons] at q
            obtain ⟨q1, q2⟩ := List.cons.inj q
            have ga := find_al (ha a List.mem_cons_self)
            have gb := find_al (hb b List.mem_cons_self)
            rw [q1, gb] at ga
            have : a = b := by omega
            rw [this, ih (fun d hd => ha d (List.mem_cons_of_mem _ hd)) (fun d hd => hb d (List.mem_cons_of_mem _ hd)) q2]
      rw [inj h1 h1' e2]
/-- two atoms that are the same -/
theorem t_sameA {x y : CV} {c : CS} {P : CV → CS → Prop} (hx : isAtom x = true) (e : y = x) (h : P (.bl true) c) : Tot (m__law_same 6 [x, y] c) P := t_same_atom 5 c x y P hx e h
theorem t_codes_right {ns : List Int} {p : Nat} {c : CS} (hp : Pool ns p c) (k : Kd) (P : CV → CS → Prop) (h : ∀ c', Pool ns p c' → Fr p c c' → P (.bl true) c') : Tot (m__law_codes_right [.ref p, k.v] c) P := by
  unfold m__law_codes_right
  refine w_run ?_
  show wS _ [some (.ref p), some k.v, none, none] _ _
  generalize hkv : k.v = kv
  have rk : ∀ {Q : Kd → Prop}, Q k → Q k := fun q => q
  refine ws_join (fun ρ1 c1 => ρ1 = [some (.ref p), some kv, none, none] ∧ Gr c c1) ?_ ?_
  · apply ws_if
    apply w_not
    apply w_tr
    repeat done
    try rw [← hkv]
    refine ⟨rfl, t_size_of k _ _ ?_⟩
    repeat done
    try rw [← hkv]
    refine ⟨rfl, t_law_size k _ _ fun c1 g => ?_⟩
    repeat done
    refine ⟨rfl, t_sameA rfl rfl ?_⟩
    repeat done
    refine bf ?_
    apply ws_nil
    exact ⟨rfl, g⟩
  rintro _ c1 ⟨rfl, g1⟩
  have p1 := hp.gr g1
  refine ws_join (fun ρ1 c2 => ∃ v n, Val k v n ∧ ρ1 = [some (.ref p), some kv, some v, none] ∧ Pool ns p c2 ∧ Fr p c c2) ?_ ?_
  · repeat done
    try rw [← hkv]
    exact ⟨rfl, t_value p1 k _ fun v n c2 hv pl fr => ⟨v, n, hv, rfl, pl, (g1.fr p).trans fr⟩⟩
  rintro _ c2 ⟨v, n, hv, rfl, p2, f2⟩
  refine ws_join (fun ρ1 c3 => ρ1 = [some (.ref p), some kv, some v, some (.int n)] ∧ c2 = c3) ?_ ?_
  · repeat done
    try rw [← hkv]
    exact ⟨rfl, t_law_code k v n hv _ _ ⟨rfl, rfl⟩⟩
  rintro _ _ ⟨rfl, rfl⟩
  obtain ⟨r0, r1⟩ := hv.range
  refine ws_join (fun ρ1 c3 => ρ1 = [some (.ref p), some kv, some v, some (.int n)] ∧ Gr c2 c3) ?_ ?_
  · apply ws_if
    apply w_or
    apply w_not
    apply w_tr
    repeat done
    try rw [← hkv]
    refine ⟨rfl, t_code_of k v n hv _ _ ?_⟩
    repeat done
    refine ⟨rfl, t_sameA rfl rfl ?_⟩
    repeat done
    refine bf ?_
    apply w_not
    apply w_tr
    repeat done
    try rw [← hkv]
    refine ⟨rfl, t_value_of k n r0 r1 _ _ fun u c3 hu g3 => ?_⟩
    obtain rfl := hu.inj hv
    repeat done
    refine ⟨rfl, t_sameA hu.atom rfl ?_⟩
    repeat done
    refine bf ?_
    apply ws_nil
    exact ⟨rfl, g3⟩
  rintro _ c3 ⟨rfl, g3⟩
  have p3 := p2.gr g3
  have f3 := f2.gr g3
  refine ws_join (fun ρ1 c4 => ∃ m : Int, 0 ≤ m ∧ m < k.size ∧ ρ1 = [some (.ref p), some kv, some v, some (.int m)] ∧ Pool ns p c4 ∧ Fr p c c4) ?_ ?_
  · repeat done
    try rw [← hkv]
    exact ⟨rfl, t_drawn_code p3 k _ fun m c4 a1 a2 a3 a4 => ⟨m, a1, a2, rfl, a3, f3.trans a4⟩⟩
  rintro _ c4 ⟨m, m0, m1, rfl, p4, f4⟩
  refine ws_join (fun ρ1 c5 => ∃ u, Val k u m ∧ ρ1 = [some (.ref p), some kv, some u, some (.int m)] ∧ Gr c4 c5) ?_ ?_
  · repeat done
    try rw [← hkv]
    exact ⟨rfl, t_value_of k m m0 m1 _ _ fun u c5 hu g5 => ⟨u, hu, rfl, g5⟩⟩
  rintro _ c5 ⟨u, hu, rfl, g5⟩
  have p5 := p4.gr g5
  have f5 := f4.gr g5
  obtain ⟨t, ht, tb, ti, ts⟩ := ask_ty (hu.ask c5)
  refine ws_join (fun ρ1 c6 => ρ1 = [some (.ref p), some kv, some u, some (.int m)] ∧ c5 = c6) ?_ ?_
  · subst hkv
    cases hu with
    | i h1 h2 =>
      show wS _ [some (.ref p), some (.str "int"), some (.int _), some (.int _)] _ _
      repeat done
      refine bf ?_
      apply w_t
      repeat done
      refine bf ?_
      apply ws_nil
      exact ⟨rfl, rfl⟩
    | f b =>
      show wS _ [some (.ref p), some (.str "flag"), some (.bl _), some (.int _)] _ _
      repeat done
      refine bf ?_
      apply w_t
      repeat done
      refine bf ?_
      apply ws_nil
      exact ⟨rfl, rfl⟩
    | t h1 h2 =>
      show wS _ [some (.ref p), some (.str "text"), some (.str _), some (.int _)] _ _
      repeat done
      refine bf ?_
      apply w_t
      repeat done
      refine bf ?_
      apply ws_nil
      exact ⟨rfl, rfl⟩
  rintro _ _ ⟨rfl, rfl⟩
  refine ws_join (fun ρ1 c6 => ρ1 = [some (.ref p), some kv, some u, some (.int m)] ∧ c5 = c6) ?_ ?_
  · apply ws_if
    apply w_or
    apply w_not
    apply w_tr
    apply w_isi2
    apply w_var rfl
    have e : (isB t "str" || isB t "int") = true := by
      rw [ts, ti]
      cases hu <;> rfl
    refine ⟨t, ht, _, rfl, ?_⟩
    rw [e]
    refine bf ?_
    repeat done
    try rw [← hkv]
    refine ⟨rfl, t_law_code k u m hu _ _ ?_⟩
    repeat done
    refine bn (fun z => absurd rfl z) (fun _ => ?_)
    apply ws_nil
    exact ⟨rfl, rfl⟩
  rintro _ _ ⟨rfl, rfl⟩
  apply ws_ret
  apply w_andV
  apply w_op
  repeat done
  try rw [← hkv]
  refine ⟨rfl, t_is_value k u _ (hu.ask _) _ ?_⟩
  rw [hu.askB]
  apply w_c
  refine o_is rfl ?_
  refine ⟨true, rfl, fun _ => ?_, fun z => nomatch z⟩
  repeat done
  try rw [← hkv]
  refine ⟨rfl, t_code_of k u m hu _ _ ?_⟩
  repeat done
  exact ⟨rfl, t_sameA rfl rfl (h _ p5 f5)⟩
end L51

namespace L51
open PySem PySem.Spec PyProof.Rows L2 PM

local macro_rules | `(tactic| done) => `(tactic| first
  | (with_reducible apply ws_seq) | (with_reducible apply ws_set) | (with_reducible apply ws_ret) | (with_reducible apply ws_if) | (with_reducible apply ws_expr) | (with_reducible apply ws_sub) | (with_reducible apply ws_nil) | (with_reducible apply ws_retN)
  | ((with_reducible apply w_var); · exact rfl)
  | (with_reducible apply w_c) | (with_reducible apply w_op) | (with_reducible apply w_un) | (with_reducible apply w_t) | (with_reducible apply w_tr) | (with_reducible apply w_and) | (with_reducible apply w_or) | (with_reducible apply w_not)
  | (with_reducible apply w_andV) | (with_reducible apply w_orV) | (with_reducible apply w_notV) | (with_reducible apply w_ifE) | (with_reducible apply w_chain) | (with_reducible apply w_nil) | (with_reducible apply w_cons) | (with_reducible apply w_cb)
  | (with_reducible apply w_tup) | (with_reducible apply w_lst) | (with_reducible apply w_call) | (with_reducible apply w_meth) | (with_reducible apply w_isi) | (with_reducible apply w_isi2) | (with_reducible apply w_slice) | (with_reducible apply w_no) | (with_reducible apply w_part)
  | (with_reducible apply o_add) | (with_reducible apply o_sub) | (with_reducible apply o_neg) | (with_reducible apply o_eqi) | (with_reducible apply o_nei) | (with_reducible apply o_eqs) | (with_reducible apply o_nes) | (with_reducible apply o_eqb) | (with_reducible apply o_neb)
  | (with_reducible apply o_lt) | (with_reducible apply o_gt) | (with_reducible apply o_le) | (with_reducible apply o_ge) | (with_reducible apply o_int) | (with_reducible apply o_max) | (with_reducible apply o_min)
  | ((with_reducible apply o_is); · exact rfl) | ((with_reducible apply o_isn); · exact rfl) | (with_reducible apply o_in) | (with_reducible apply o_nin)
  | (refine ⟨_, (rfl : tyName _ _ = some _), ?_⟩) | (refine ⟨_, (rfl : vTruth _ _ = some _), ?_⟩) | (with_reducible refine ⟨_, rfl, ?_⟩))


theorem mod_mul (a S q : Int) : (a - S * q) % S = a % S := by
  rw [show a - S * q = a + S * (-q) by rw [Int.mul_neg]; omega, Int.add_mul_emod_self_left]
theorem mod_back {n s S : Int} (h0 : 0 ≤ n) (h1 : n < S) : ((n + s) % S - s) % S = n := by
  rw [Int.emod_def (n + s), show n + s - S * ((n + s) / S) - s = n - S * ((n + s) / S) by omega, mod_mul, Int.emod_eq_of_lt h0 h1]
theorem mod_back2 {n s S : Int} (h0 : 0 ≤ n) (h1 : n < S) : ((n + s) % S - s % S) % S = n := by
  rw [Int.emod_def s, show (n + s) % S - (s - S * (s / S)) = ((n + s) % S - s) - S * (-(s / S)) by rw [Int.mul_neg]; omega, mod_mul, mod_back h0 h1]
theorem mod_other {n m s S : Int} : (m + (s + n - m) % S) % S = (n + s) % S := by
  rw [Int.emod_def (s + n - m), show m + (s + n - m - S * ((s + n - m) / S)) = (n + s) - S * ((s + n - m) / S) by omega, mod_mul]
theorem mod_wrong {m f d S : Int} (h0 : 0 ≤ d) (h1 : d < S - 1) : (m + (f + 1 + d) % S) % S ≠ (m + f) % S := fun e => by
  have e2 := Int.emod_eq_emod_iff_emod_sub_eq_zero.mp e
  rw [Int.emod_def (f + 1 + d), show m + (f + 1 + d - S * ((f + 1 + d) / S)) - (m + f) = (1 + d) - S * ((f + 1 + d) / S) by omega, mod_mul, Int.emod_eq_of_lt (by omega) (by omega)] at e2
  omega
theorem t_sealed (k : Kd) (v : CV) (n num pad : Int) (hv : Val k v n) (c : CS) (P : CV → CS → Prop) (h : P (.tup [.str "sealed", k.v, .int num, .int ((n + pad) % k.size)]) c) : Tot (m_sealed [k.v, .int num, v, .int pad] c) P := by
  have hs0 : 0 < k.size := by cases k <;> decide +kernel
  unfold m_sealed
  refine w_run ?_
  show wS _ [some k.v, some (.int num), some v, some (.int pad)] _ _
  repeat done
  refine ⟨rfl, t_code_of k v n hv _ _ ?_⟩
  repeat done
  refine ⟨rfl, t_size_of k _ _ ?_⟩
  refine o_mod hs0 ?_
  repeat done
  exact ⟨size_line (by show 4 ≤ 1000; omega), h⟩
theorem t_opened (k : Kd) (n num pad x : Int) (c : CS) (e : (x - pad) % k.size = n) (h0 : 0 ≤ n) (h1 : n < k.size) (P : CV → CS → Prop) (h : ∀ v c', Val k v n → Gr c c' → P v c') : Tot (m_opened [.tup [.str "sealed", k.v, .int num, .int x], .int pad] c) P := by
  have hs0 : 0 < k.size := by cases k <;> decide +kernel
  unfold m_opened
  refine w_run ?_
  show wS _ [some (.tup [.str "sealed", k.v, .int num, .int x]), some (.int pad), none] _ _
  repeat done
  refine o_ixt (v := k.v) rfl ?_
  repeat done
  refine o_ixt (v := .int x) rfl ?_
  repeat done
  refine ⟨rfl, t_size_of k _ _ ?_⟩
  refine o_mod hs0 ?_
  repeat done
  rw [e]
  exact ⟨rfl, t_value_of k n h0 h1 _ _ h⟩
theorem t_other_pad (k : Kd) (v u : CV) (n m pad : Int) (hv : Val k v n) (hu : Val k u m) (c : CS) (P : CV → CS → Prop) (h : P (.int ((pad + n - m) % k.size)) c) : Tot (m_other_pad [k.v, v, .int pad, u] c) P := by
  have hs0 : 0 < k.size := by cases k <;> decide +kernel
  unfold m_other_pad
  refine w_run ?_
  show wS _ [some k.v, some v, some (.int pad), some u] _ _
  repeat done
  refine ⟨rfl, t_code_of k v n hv _ _ ?_⟩
  repeat done
  refine ⟨rfl, t_code_of k u m hu _ _ ?_⟩
  repeat done
  refine ⟨rfl, t_size_of k _ _ ?_⟩
  exact o_mod hs0 h
theorem sm_self {c : CS} {n : Nat} {x : CV} (h : isAtom x = true) : Sm c n x x := by
  cases x with
  | tup xs => cases h
  | ref r => cases h
  | _ => cases n <;> simp [Sm]
theorem sm_tup {c : CS} {n : Nat} {xs : List CV} (hl : xs.length ≤ 1000) (h : ∀ x ∈ xs, isAtom x = true) : Sm c (n + 1) (.tup xs) (.tup xs) := by
  rw [Sm]
  refine ⟨xs, rfl, rfl, hl, fun i u v hu hv => ?_⟩
  rw [hu] at hv
  cases hv
  exact sm_self (h u (List.mem_of_getElem? hu))
theorem t_cells_right {ns : List Int} {p : Nat} {c : CS} (hp : Pool ns p c) (k : Kd) (P : CV → CS → Prop) (h : ∀ c', Pool ns p c' → Fr p c c' → P (.bl true) c') : Tot (m__law_cells_right [.ref p, k.v] c) P := by
  have hs0 : 2 ≤ k.size := by cases k <;> decide +kernel
  have hsl : (k.size - 1).natAbs.log2 < 9000 := by cases k <;> decide +kernel
  unfold m__law_cells_right
  refine w_run ?_
  show wS _ [some (.ref p), some k.v, none, none, none, none, none, none, none, none, none] _ _
  generalize hkv : k.v = kv
  generalize hS : k.size = S at *
  refine ws_join (fun ρ1 c1 => ρ1 = [some (.ref p), some kv, some (.int S), none, none, none, none, none, none, none, none] ∧ Gr c c1) ?_ ?_
  · repeat done
    try rw [← hkv]
    refine ⟨rfl, t_law_size k _ _ fun c1 g => ?_⟩
    rw [hS]
    exact ⟨rfl, g⟩
  rintro _ c1 ⟨rfl, g1⟩
  have p1 := hp.gr g1
  have f1 : Fr p c c1 := g1.fr p
  refine ws_join (fun ρ1 c1 => ∃ num : Int, ρ1 = [some (.ref p), some kv, some (.int S), some (.int num), none, none, none, none, none, none, none] ∧ Pool ns p c1 ∧ Fr p c c1) ?_ ?_
  · repeat done
    refine o_pow (i := 10) (j := 6) (by decide) ?_
    repeat done
    refine ⟨rfl, t_draw p1 (by decide) (by decide +kernel) _ fun v c2 a1 a2 a3 a4 a5 => ?_⟩
    repeat done
    exact ⟨a3, f1.trans a4⟩
  rintro _ c2 ⟨num, rfl, p2, f2⟩
  refine ws_join (fun ρ1 c1 => ∃ v n, Val k v n ∧ ρ1 = [some (.ref p), some kv, some (.int S), some (.int num), some v, none, none, none, none, none, none] ∧ Pool ns p c1 ∧ Fr p c c1) ?_ ?_
  · repeat done
    try rw [← hkv]
    exact ⟨rfl, t_value p2 k _ fun v n c3 hv pl fr => ⟨v, n, hv, rfl, pl, f2.trans fr⟩⟩
  rintro _ c3 ⟨v, n, hv, rfl, p3, f3⟩
  obtain ⟨r0, r1⟩ := hv.range
  refine ws_join (fun ρ1 c1 => ∃ s : Int, ρ1 = [some (.ref p), some kv, some (.int S), some (.int num), some v, some (.int s), none, none, none, none, none] ∧ Pool ns p c1 ∧ Fr p c c1) ?_ ?_
  · repeat done
    refine o_pow (i := 10) (j := 45) (by decide) ?_
    repeat done
    exact ⟨rfl, t_draw p3 (by decide) (by decide +kernel) _ fun s c4 a1 a2 a3 a4 a5 => ⟨s, rfl, a3, f3.trans a4⟩⟩
  rintro _ c4 ⟨s, rfl, p4, f4⟩
  obtain ⟨cell, hcell⟩ : ∃ cell : CV, cell = .tup [.str "sealed", kv, .int num, .int ((n + s) % S)] := ⟨_, rfl⟩
  refine ws_join (fun ρ1 c1 => ρ1 = [some (.ref p), some kv, some (.int S), some (.int num), some v, some (.int s), some cell, none, none, none, none] ∧ c4 = c1) ?_ ?_
  · repeat done
    try rw [← hkv]
    refine ⟨rfl, t_sealed k v n num s hv _ _ ?_⟩
    rw [hkv, hS, ← hcell]
    exact ⟨rfl, rfl⟩
  rintro _ _ ⟨rfl, rfl⟩
  refine ws_join (fun ρ1 c1 => ρ1 = [some (.ref p), some kv, some (.int S), some (.int num), some v, some (.int s), some cell, none, none, none, none] ∧ c4 = c1) ?_ ?_
  · apply ws_if
    apply w_not
    apply w_tr
    repeat done
    try rw [← hkv]
    refine ⟨rfl, t_law_code k v n hv _ _ ?_⟩
    repeat done
    refine o_mod (by omega) ?_
    repeat done
    refine ⟨size_line (by show 4 ≤ 1000; omega), ?_⟩
    repeat done
    refine ⟨rfl, t_same 5 _ _ _ _ ?_ ?_⟩
    · rw [hcell, hkv]
      refine sm_tup (by show 4 ≤ 1000; omega) fun x hx => ?_
      simp only [List.mem_cons, List.not_mem_nil, or_false] at hx
      rcases hx with rfl | rfl | rfl | rfl
      · rfl
      · rw [← hkv]; rfl
      · rfl
      · rfl
    · repeat done
      refine bf ?_
      apply ws_nil
      exact ⟨by first | rfl | (rw [hkv]; rfl), rfl⟩
  rintro _ _ ⟨rfl, rfl⟩
  refine ws_join (fun ρ1 c1 => ρ1 = [some (.ref p), some kv, some (.int S), some (.int num), some v, some (.int s), some cell, none, none, none, none] ∧ Gr c4 c1) ?_ ?_
  · subst hcell hkv hS
    apply ws_if
    apply w_or
    apply w_not
    apply w_tr
    repeat done
    refine ⟨rfl, t_opened k n num s _ _ (mod_back r0 r1) r0 r1 _ fun u c5 hu g5 => ?_⟩
    obtain rfl := hu.inj hv
    repeat done
    refine ⟨rfl, t_sameA hu.atom rfl ?_⟩
    repeat done
    refine bf ?_
    apply w_not
    apply w_tr
    repeat done
    refine o_mod (by omega) ?_
    repeat done
    refine ⟨rfl, t_opened k n num _ _ _ (mod_back2 r0 r1) r0 r1 _ fun u' c6 hu' g6 => ?_⟩
    obtain rfl := hu'.inj hv
    repeat done
    refine ⟨rfl, t_sameA hu'.atom rfl ?_⟩
    repeat done
    refine bf ?_
    apply ws_nil
    exact ⟨rfl, g5.trans g6⟩
  rintro _ c5 ⟨rfl, g5⟩
  have p5 := p4.gr g5
  have f5 := f4.gr g5
  refine ws_join (fun ρ1 c1 => ∃ u m, Val k u m ∧ ρ1 = [some (.ref p), some kv, some (.int S), some (.int num), some v, some (.int s), some cell, some u, none, none, none] ∧ Pool ns p c1 ∧ Fr p c c1) ?_ ?_
  · repeat done
    try rw [← hkv]
    exact ⟨rfl, t_value p5 k _ fun u m c6 hu pl fr => ⟨u, m, hu, rfl, pl, f5.trans fr⟩⟩
  rintro _ c6 ⟨u, m, hu, rfl, p6, f6⟩
  refine ws_join (fun ρ1 c1 => ρ1 = [some (.ref p), some kv, some (.int S), some (.int num), some v, some (.int s), some cell, some u, some (.int ((s + n - m) % S)), none, none] ∧ c6 = c1) ?_ ?_
  · repeat done
    try rw [← hkv]
    refine ⟨rfl, t_other_pad k v u n m s hv hu _ _ ?_⟩
    rw [hS]
    exact ⟨by first | rfl | (rw [hkv]; rfl), rfl⟩
  rintro _ _ ⟨rfl, rfl⟩
  refine ws_join (fun ρ1 c1 => ρ1 = [some (.ref p), some kv, some (.int S), some (.int num), some v, some (.int s), some cell, some u, some (.int ((s + n - m) % S)), some (.int ((s + n - m) % S)), none] ∧ c6 = c1) ?_ ?_
  · repeat done
    try rw [← hkv]
    refine ⟨rfl, t_law_code k v n hv _ _ ?_⟩
    repeat done
    refine ⟨rfl, t_law_code k u m hu _ _ ?_⟩
    repeat done
    refine o_mod (by omega) ?_
    exact ⟨by first | rfl | (rw [hkv]; rfl), rfl⟩
  rintro _ _ ⟨rfl, rfl⟩
  refine ws_join (fun ρ1 c1 => ρ1 = [some (.ref p), some kv, some (.int S), some (.int num), some v, some (.int s), some cell, some u, some (.int ((s + n - m) % S)), some (.int ((s + n - m) % S)), none] ∧ c6 = c1) ?_ ?_
  · apply ws_if
    apply w_or
    apply w_not
    apply w_tr
    repeat done
    refine ⟨rfl, t_sameA rfl rfl ?_⟩
    repeat done
    refine bf ?_
    apply w_not
    apply w_tr
    repeat done
    try rw [← hkv]
    refine ⟨rfl, t_sealed k u m num _ hu _ _ ?_⟩
    repeat done
    rw [hS, mod_other, hkv, ← hcell]
    refine ⟨rfl, t_same 5 _ _ _ _ ?_ ?_⟩
    · rw [hcell]
      refine sm_tup (by show 4 ≤ 1000; omega) fun x hx => ?_
      simp only [List.mem_cons, List.not_mem_nil, or_false] at hx
      rcases hx with rfl | rfl | rfl | rfl
      · rfl
      · rw [← hkv]; rfl
      · rfl
      · rfl
    · repeat done
      refine bf ?_
      apply ws_nil
      exact ⟨by first | rfl | (rw [hkv]; rfl), rfl⟩
  rintro _ _ ⟨rfl, rfl⟩
  refine ws_join (fun ρ1 c1 => ∃ d : Int, 0 ≤ d ∧ d < S - 1 ∧ ρ1 = [some (.ref p), some kv, some (.int S), some (.int num), some v, some (.int s), some cell, some u, some (.int ((s + n - m) % S)), some (.int ((s + n - m) % S)), some (.int (((s + n - m) % S + 1 + d) % S))] ∧ Pool ns p c1 ∧ Fr p c c1) ?_ ?_
  · repeat done
    refine ⟨rfl, t_draw p6 (by omega) hsl _ fun d c7 a1 a2 a3 a4 a5 => ?_⟩
    repeat done
    refine o_mod (by omega) ?_
    exact ⟨d, a1, a2, rfl, a3, f6.trans a4⟩
  rintro _ c7 ⟨d, d0, d1, rfl, p7, f7⟩
  repeat done
  try rw [← hkv]
  refine ⟨rfl, t_sealed k u m num _ hu _ _ ?_⟩
  repeat done
  refine o_ixt rfl ?_
  repeat done
  rw [hcell]
  repeat done
  refine o_ixt rfl ?_
  apply o_nei
  have hne := mod_wrong (m := m) (f := (s + n - m) % S) d0 d1
  rw [hS]
  rw [mod_other] at hne
  rw [decide_eq_false hne]
  exact h _ p7 f7
end L51

namespace L51
open PySem PySem.Spec PyProof.Rows L2 PM

local macro_rules | `(tactic| done) => `(tactic| first
  | (with_reducible apply ws_seq) | (with_reducible apply ws_set) | (with_reducible apply ws_ret) | (with_reducible apply ws_if) | (with_reducible apply ws_expr) | (with_reducible apply ws_sub) | (with_reducible apply ws_nil) | (with_reducible apply ws_retN)
  | ((with_reducible apply w_var); · exact rfl)
  | (with_reducible apply w_c) | (with_reducible apply w_op) | (with_reducible apply w_un) | (with_reducible apply w_t) | (with_reducible apply w_tr) | (with_reducible apply w_and) | (with_reducible apply w_or) | (with_reducible apply w_not)
  | (with_reducible apply w_andV) | (with_reducible apply w_orV) | (with_reducible apply w_notV) | (with_reducible apply w_ifE) | (with_reducible apply w_chain) | (with_reducible apply w_nil) | (with_reducible apply w_cons) | (with_reducible apply w_cb)
  | (with_reducible apply w_tup) | (with_reducible apply w_lst) | (with_reducible apply w_call) | (with_reducible apply w_meth) | (with_reducible apply w_isi) | (with_reducible apply w_isi2) | (with_reducible apply w_slice) | (with_reducible apply w_no) | (with_reducible apply w_part)
  | (with_reducible apply o_add) | (with_reducible apply o_sub) | (with_reducible apply o_neg) | (with_reducible apply o_eqi) | (with_reducible apply o_nei) | (with_reducible apply o_eqs) | (with_reducible apply o_nes) | (with_reducible apply o_eqb) | (with_reducible apply o_neb)
  | (with_reducible apply o_lt) | (with_reducible apply o_gt) | (with_reducible apply o_le) | (with_reducible apply o_ge) | (with_reducible apply o_int) | (with_reducible apply o_max) | (with_reducible apply o_min)
  | ((with_reducible apply o_is); · exact rfl) | ((with_reducible apply o_isn); · exact rfl) | (with_reducible apply o_in) | (with_reducible apply o_nin)
  | (refine ⟨_, (rfl : tyName _ _ = some _), ?_⟩) | (refine ⟨_, (rfl : vTruth _ _ = some _), ?_⟩) | (with_reducible refine ⟨_, rfl, ?_⟩))


theorem cutS_len (z : Str) (lo hi : Option Int) : (cutS z lo hi).length ≤ z.length := by
  unfold cutS
  show (List.toArray _).size ≤ z.cps.size
  rw [List.size_toArray, List.length_take, List.length_drop]
  have : z.cps.toList.length = z.cps.size := Array.length_toList
  omega
theorem one_len : ("\n" : Str).length = 1 ∧ ("\t" : Str).length = 1 := by decide +kernel
/-- what may be asked, and stays so -/
def askN (c : CS) (x : CV) : Prop := ask c x ∧ ∀ n, x = .ref n → n < c.next
theorem askN.gr {c c' : CS} {x : CV} (h : askN c x) (g : Gr c c') : askN c' x := by
  refine ⟨?_, fun n e => Nat.lt_of_lt_of_le (h.2 n e) g.nx⟩
  cases x with
  | ref n =>
    obtain ⟨xs, ho⟩ := h.1
    exact ⟨xs, by rw [g.ob n (h.2 n rfl)]; exact ho⟩
  | str z => exact h.1
  | _ => exact True.intro
theorem t_near {ns : List Int} {p : Nat} {c : CS} (hp : Pool ns p c) (P : CV → CS → Prop) (h : ∀ r xs c', c'.obj r = .lst xs → c.next ≤ r → r < c'.next → (∀ x ∈ xs, askN c' x) → Pool ns p c' → Fr p c c' → P (.ref r) c') : Tot (m__law_near [.ref p] c) P := by
  unfold m__law_near
  refine w_run ?_
  show wS _ [some (.ref p), none, none, none, none, none] _ _
  refine ws_join (fun ρ1 c1 => ρ1 = [some (.ref p), some (.int 1000000000), none, none, none, none] ∧ c = c1) ?_ ?_
  · repeat done
    exact ⟨rfl, rfl⟩
  rintro _ _ ⟨rfl, rfl⟩
  refine ws_join (fun ρ1 c1 => ∃ z : Str, z.length ≤ 21 ∧ ρ1 = [some (.ref p), some (.int 1000000000), some (.str z), none, none, none] ∧ Pool ns p c1 ∧ Fr p c c1) ?_ ?_
  · repeat done
    refine ⟨by show 6 ≤ sizeLine; exact size_line (by omega), ?_⟩
    repeat done
    refine ⟨rfl, t_pick (hp.gr .new) (CS.new_same _ _) (by have := hp.lt; omega) (Nat.lt_succ_self _) (by decide) (by decide) _ fun x c2 hx pl fr => ?_⟩
    have hx' : ∃ m : Nat, m ≤ 21 ∧ x = .int m := by
      simp only [List.mem_cons, List.not_mem_nil, or_false] at hx
      rcases hx with rfl | rfl | rfl | rfl | rfl | rfl
      · exact ⟨0, by omega, rfl⟩
      · exact ⟨1, by omega, rfl⟩
      · exact ⟨5, by omega, rfl⟩
      · exact ⟨19, by omega, rfl⟩
      · exact ⟨20, by omega, rfl⟩
      · exact ⟨21, by omega, rfl⟩
    obtain ⟨m, hm, rfl⟩ := hx'
    generalize hmi : (m : Int) = mi
    repeat done
    refine ⟨rfl, t_text pl hmi.symm (by omega) _ fun ds c3 b1 b2 b3 b4 => ?_⟩
    exact ⟨tx ds, by rw [tx_len]; omega, rfl, b3, (Fr.trans .new fr).trans b4⟩
  rintro _ c1 ⟨z, hz, rfl, p1, f1⟩
  have hzl : z.length ≤ sizeLine := size_line (by omega)
  generalize hL : ((z.length : Nat) : Int) = L
  refine ws_join (fun ρ1 c1 => ∃ pl : Int, ρ1 = [some (.ref p), some (.int 1000000000), some (.str z), some (.int pl), none, none] ∧ Pool ns p c1 ∧ Fr p c c1) ?_ ?_
  · repeat done
    refine o_lens hzl ?_
    rw [hL]
    repeat done
    refine ⟨rfl, t_draw p1 (by omega) ?_ _ fun v c2 a1 a2 a3 a4 a5 => ⟨v, rfl, a3, f1.trans a4⟩⟩
    have h1 : (L + 1).natAbs ≠ 0 := by omega
    have h2 : (L + 1).natAbs < 2 ^ 5 := by omega
    have := (Nat.log2_lt h1).mpr h2
    omega
  rintro _ c2 ⟨pl, rfl, p2, f2⟩
  refine ws_join (fun ρ1 c1 => ∃ st : Str, st.length = 1 ∧ ρ1 = [some (.ref p), some (.int 1000000000), some (.str z), some (.int pl), some (.str st), none] ∧ Pool ns p c1 ∧ Fr p c c1) ?_ ?_
  · repeat done
    refine ⟨by show 2 ≤ sizeLine; exact size_line (by omega), ?_⟩
    repeat done
    refine ⟨rfl, t_pick (p2.gr .new) (CS.new_same _ _) (by have := p2.lt; omega) (Nat.lt_succ_self _) (by decide) (by decide) _ fun x c3 hx pl' fr => ?_⟩
    simp only [List.mem_cons, List.not_mem_nil, or_false] at hx
    rcases hx with rfl | rfl
    · exact ⟨_, one_len.1, rfl, pl', f2.trans (Fr.trans .new fr)⟩
    · exact ⟨_, one_len.2, rfl, pl', f2.trans (Fr.trans .new fr)⟩
  rintro _ c3 ⟨st, hst, rfl, p3, f3⟩
  have l1 := cutS_len z none (some pl)
  have l2 := cutS_len z (some pl) none
  refine ws_join (fun ρ1 c4 => ∃ z2 : Str, z2.length ≤ 50 ∧ ρ1 = [some (.ref p), some (.int 1000000000), some (.str z), some (.int pl), some (.str st), some (.ref c3.next)] ∧
    c4 = c3.new (.lst [.str z, .str z2, .int 1000000000, .int (1000000000 + 1), .int (-1000000000), .int (-1000000000 - 1), .int 0, .int 1, .bl true, .bl false])) ?_ ?_
  · repeat done
    refine o_sls hzl ?_
    repeat done
    have a1 : (cutS z none (some pl)).length + st.length ≤ sizeLine := size_line (by omega)
    refine o_adds a1 ?_
    repeat done
    refine o_sls hzl ?_
    have a2 : (cutS z none (some pl) ++ st).length + (cutS z (some pl) none).length ≤ sizeLine := by rw [Str.length_append]; exact size_line (by omega)
    refine o_adds a2 ?_
    repeat done
    refine ⟨by show 10 ≤ sizeLine; exact size_line (by omega), ?_⟩
    exact ⟨_, by rw [Str.length_append, Str.length_append]; omega, rfl, rfl⟩
  rintro _ _ ⟨z2, hz2, rfl, rfl⟩
  have p4 := p3.gr (c' := c3.new (.lst [.str z, .str z2, .int 1000000000, .int (1000000000 + 1), .int (-1000000000), .int (-1000000000 - 1), .int 0, .int 1, .bl true, .bl false])) .new
  repeat done
  refine ⟨Nat.zero_le _, ?_⟩
  repeat done
  refine ⟨by show 1 ≤ sizeLine; exact size_line (by omega), ?_⟩
  repeat done
  refine ⟨Nat.zero_le _, ?_⟩
  repeat done
  refine o_pow (i := 10) (j := 20) (by decide) ?_
  repeat done
  refine ⟨rfl, t_draw (p4.gr .new) (by decide) (by decide +kernel) _ fun v c5 b1 b2 b3 b4 b5 => ?_⟩
  repeat done
  refine ⟨by show 7 ≤ sizeLine; exact size_line (by omega), ?_⟩
  have hp3 := p3.lt
  have o1 : c5.obj c3.next = .lst [.str z, .str z2, .int 1000000000, .int (1000000000 + 1), .int (-1000000000), .int (-1000000000 - 1), .int 0, .int 1, .bl true, .bl false] := by
    rw [b4.ob _ (by show c3.next < c3.next + 1 + 1; omega) (by omega)]
    rw [CS.new_ne (by show c3.next ≠ c3.next + 1; omega), CS.new_same]
  have o3 : c5.obj (c3.next + 1) = .lst [] := by
    rw [b4.ob _ (by show c3.next + 1 < c3.next + 1 + 1; omega) (by omega)]
    exact CS.new_same _ _
  have n5 : c5.next = c3.next + 2 := b5
  refine o_addl (by rw [CS.new_ne (by omega)]; exact o1) (CS.new_same _ _) (by show 10 + 7 ≤ sizeLine; exact size_line (by omega)) ?_
  have fr : Fr p c ((c5.new (.lst [.non, .tup [], .tup [.int 1], .ref (c3.new (.lst [.str z, .str z2, .int 1000000000, .int (1000000000 + 1), .int (-1000000000), .int (-1000000000 - 1), .int 0, .int 1, .bl true, .bl false])).next, .int v, .str "0", .str ""])).new
      (.lst ([.str z, .str z2, .int 1000000000, .int (1000000000 + 1), .int (-1000000000), .int (-1000000000 - 1), .int 0, .int 1, .bl true, .bl false] ++ [.non, .tup [], .tup [.int 1], .ref (c3.new (.lst [.str z, .str z2, .int 1000000000, .int (1000000000 + 1), .int (-1000000000), .int (-1000000000 - 1), .int 0, .int 1, .bl true, .bl false])).next, .int v, .str "0", .str ""]))) :=
    (((f3.trans .new).trans .new).trans b4).trans (Fr.trans .new .new)
  refine h _ _ _ (CS.new_same _ _) (Nat.le_trans (Nat.le_trans f3.nx (by omega)) (Nat.le_succ_of_le (Nat.le_refl c5.next))) (Nat.lt_succ_self _) ?_ ((b3.gr .new).gr .new) fr
  intro x hx
  simp only [List.cons_append, List.nil_append, List.mem_cons, List.not_mem_nil, or_false] at hx
  have lit : ("0" : Str).length ≤ 1000 ∧ ("" : Str).length ≤ 1000 := by decide +kernel
  rcases hx with rfl | rfl | rfl | rfl | rfl | rfl | rfl | rfl | rfl | rfl | rfl | rfl | rfl | rfl | rfl | rfl | rfl
  · exact ⟨by show z.length ≤ 1000; omega, fun n e => nomatch e⟩
  · exact ⟨by show z2.length ≤ 1000; omega, fun n e => nomatch e⟩
  · exact ⟨True.intro, fun n e => nomatch e⟩
  · exact ⟨True.intro, fun n e => nomatch e⟩
  · exact ⟨True.intro, fun n e => nomatch e⟩
  · exact ⟨True.intro, fun n e => nomatch e⟩
  · exact ⟨True.intro, fun n e => nomatch e⟩
  · exact ⟨True.intro, fun n e => nomatch e⟩
  · exact ⟨True.intro, fun n e => nomatch e⟩
  · exact ⟨True.intro, fun n e => nomatch e⟩
  · exact ⟨True.intro, fun n e => nomatch e⟩
  · exact ⟨True.intro, fun n e => nomatch e⟩
  · exact ⟨True.intro, fun n e => nomatch e⟩
  · refine ⟨⟨[], ?_⟩, fun n e => ?_⟩
    · show CS.obj _ (c3.next + 1) = _
      rw [CS.new_ne (by show c3.next + 1 ≠ c5.next + 1; omega), CS.new_ne (by show c3.next + 1 ≠ c5.next; omega)]
      exact o3
    · cases e
      show c3.next + 1 < c5.next + 1 + 1
      omega
  · exact ⟨True.intro, fun n e => nomatch e⟩
  · exact ⟨lit.1, fun n e => nomatch e⟩
  · exact ⟨lit.2, fun n e => nomatch e⟩
end L51

namespace L51
open PySem PySem.Spec PyProof.Rows L2 PM

local macro_rules | `(tactic| done) => `(tactic| first
  | (with_reducible apply ws_seq) | (with_reducible apply ws_set) | (with_reducible apply ws_ret) | (with_reducible apply ws_if) | (with_reducible apply ws_expr) | (with_reducible apply ws_sub) | (with_reducible apply ws_nil) | (with_reducible apply ws_retN)
  | ((with_reducible apply w_var); · exact rfl)
  | (with_reducible apply w_c) | (with_reducible apply w_op) | (with_reducible apply w_un) | (with_reducible apply w_t) | (with_reducible apply w_tr) | (with_reducible apply w_and) | (with_reducible apply w_or) | (with_reducible apply w_not)
  | (with_reducible apply w_andV) | (with_reducible apply w_orV) | (with_reducible apply w_notV) | (with_reducible apply w_ifE) | (with_reducible apply w_chain) | (with_reducible apply w_nil) | (with_reducible apply w_cons) | (with_reducible apply w_cb)
  | (with_reducible apply w_tup) | (with_reducible apply w_lst) | (with_reducible apply w_call) | (with_reducible apply w_meth) | (with_reducible apply w_isi) | (with_reducible apply w_isi2) | (with_reducible apply w_slice) | (with_reducible apply w_no) | (with_reducible apply w_part)
  | (with_reducible apply o_add) | (with_reducible apply o_sub) | (with_reducible apply o_neg) | (with_reducible apply o_eqi) | (with_reducible apply o_nei) | (with_reducible apply o_eqs) | (with_reducible apply o_nes) | (with_reducible apply o_eqb) | (with_reducible apply o_neb)
  | (with_reducible apply o_lt) | (with_reducible apply o_gt) | (with_reducible apply o_le) | (with_reducible apply o_ge) | (with_reducible apply o_int) | (with_reducible apply o_max) | (with_reducible apply o_min)
  | ((with_reducible apply o_is); · exact rfl) | ((with_reducible apply o_isn); · exact rfl) | (with_reducible apply o_in) | (with_reducible apply o_nin)
  | (refine ⟨_, (rfl : tyName _ _ = some _), ?_⟩) | (refine ⟨_, (rfl : vTruth _ _ = some _), ?_⟩) | (with_reducible refine ⟨_, rfl, ?_⟩))


def LET : Str := "abcdefghijklmnopqrstuvwxyz"
def FIG : Str := "0123456789"
def okC (p : Nat) : Bool := decide (p ∈ LET.cps.toList) || decide (p ∈ FIG.cps.toList)
/-- a name's beginning -/
def nm0 (z : Str) : Bool := match z.cps.toList with
  | [] => false
  | p :: _ => decide (z.length ≤ 12) && decide (p ∈ LET.cps.toList)
def nameB (z : Str) : Bool := nm0 z && z.cps.toList.all okC
theorem in_let (p : Nat) : strIn ⟨#[p]⟩ LET = decide (p ∈ LET.cps.toList) := strIn_sign p LET
theorem in_fig (p : Nat) : strIn ⟨#[p]⟩ FIG = decide (p ∈ FIG.cps.toList) := strIn_sign p FIG
theorem in_both (p : Nat) : strIn ⟨#[p]⟩ (LET ++ FIG) = okC p := by
  rw [strIn_sign]
  have e : (LET ++ FIG).cps.toList = LET.cps.toList ++ FIG.cps.toList := Array.toList_append
  rw [e]
  unfold okC
  rw [Bool.eq_iff_iff, Bool.or_eq_true, decide_eq_true_eq, decide_eq_true_eq, decide_eq_true_eq, List.mem_append]
theorem nil_len {z : Str} (h : z.length = 0) : z.cps.toList = [] := List.eq_nil_of_length_eq_zero (by rw [Array.length_toList]; exact h)
theorem first_of {z : Str} (h : z.length ≠ 0) : ∃ p r, z.cps.toList = p :: r := by
  cases e : z.cps.toList with
  | nil =>
    have : z.cps.toList.length = z.cps.size := Array.length_toList
    rw [e] at this
    exact absurd this.symm h
  | cons p r => exact ⟨p, r, rfl⟩
theorem at0 {z : Str} {p : Nat} {r : List Nat} (e : z.cps.toList = p :: r) : atI z.cps.toList 0 = some p := by
  rw [e]
  unfold atI ixN
  rw [if_pos (by omega), if_pos (by rw [List.length_cons]; omega)]
  rfl
theorem t_is_name (z : Str) (hz : z.length ≤ 1000) (c : CS) (P : CV → CS → Prop) (h : P (.bl (nameB z)) c) : Tot (m_is_name [.str z] c) P := by
  unfold m_is_name
  refine w_run ?_
  show wS _ [some (.str z), none] _ _
  have hz' : z.length ≤ sizeLine := size_line hz
  refine ws_join (fun ρ1 c1 => ρ1 = [some (.str z), none] ∧ c = c1 ∧ nm0 z = true) ?_ ?_
  · apply ws_if
    apply w_or
    apply w_not
    apply w_t
    repeat done
    refine o_lens hz' ?_
    repeat done
    have neg : nm0 z = false → P (.bl false) c := fun e => by
      have : nameB z = false := by unfold nameB; rw [e, Bool.false_and]
      rw [this] at h
      exact h
    refine bd (fun h1 => ?_) (fun h1 => ?_)
    · repeat done
      have hne : z.length ≠ 0 := by omega
      obtain ⟨p, r, e⟩ := first_of hne
      have e0 : nm0 z = (decide (z.length ≤ 12) && decide (p ∈ LET.cps.toList)) := by unfold nm0; rw [e]
      refine bn (fun h2 => ?_) (fun h2 => ?_)
      · refine bt ?_
        repeat done
        exact neg (by rw [e0, decide_eq_false (by omega), Bool.false_and])
      · repeat done
        refine o_ixs hz' (at0 e) ?_
        repeat done
        rw [show strIn ⟨#[p]⟩ "abcdefghijklmnopqrstuvwxyz" = decide (p ∈ LET.cps.toList) from in_let p]
        refine bn (fun h3 => ?_) (fun h3 => ?_)
        · repeat done
          exact neg (by rw [e0, decide_eq_false h3, Bool.and_false])
        · apply ws_nil
          exact ⟨rfl, rfl, by rw [e0, decide_eq_true (by omega), decide_eq_true h3]; rfl⟩
    · repeat done
      refine bt ?_
      refine bt ?_
      repeat done
      refine neg ?_
      unfold nm0
      rw [nil_len (by omega)]
  rintro _ _ ⟨rfl, rfl, h0⟩
  refine ws_join (fun ρ1 c1 => (∃ o, ρ1 = [some (.str z), o]) ∧ c = c1 ∧ z.cps.toList.all okC = true) ?_ ?_
  · apply ws_for
    apply wi_iter
    repeat done
    refine for_inv (J := fun k ρ1 c1 => (∃ o, ρ1 = [some (.str z), o]) ∧ c = c1 ∧ ∀ j p, j < k → z.cps.toList[j]? = some p → okC p = true) ⟨⟨_, rfl⟩, rfl, fun j p hj => absurd hj (Nat.not_lt_zero _)⟩ (fun _ _ _ _ => trivial) ?_ ?_
    · rintro k x _ _ hx ⟨⟨o, rfl⟩, rfl, hall⟩
      obtain ⟨p, hp, rfl⟩ := sgn_get hx
      have nxt : okC p = true → (∃ o, [some (CV.str z), some (CV.str ⟨#[p]⟩)] = [some (CV.str z), o]) ∧ c = c ∧ ∀ j q, j < k + 1 → z.cps.toList[j]? = some q → okC q = true := fun hy => ⟨⟨_, rfl⟩, rfl, fun j q hj hq => by
        rcases Nat.lt_or_ge j k with w | w
        · exact hall j q w hq
        · have : j = k := by omega
          subst this
          rw [hp] at hq
          cases hq
          exact hy⟩
      repeat done
      rw [show strIn ⟨#[p]⟩ "abcdefghijklmnopqrstuvwxyz" = decide (p ∈ LET.cps.toList) from in_let p]
      refine bn (fun h1 => ?_) (fun h1 => ?_)
      · repeat done
        rw [show strIn ⟨#[p]⟩ "0123456789" = decide (p ∈ FIG.cps.toList) from in_fig p]
        refine bn (fun h2 => ?_) (fun h2 => ?_)
        · repeat done
          have : nameB z = false := by
            unfold nameB
            rw [Bool.and_eq_false_iff]
            refine .inr (Bool.eq_false_iff.mpr fun q => ?_)
            have := List.all_eq_true.mp q p (List.mem_of_getElem? hp)
            unfold okC at this
            rw [decide_eq_false h1, decide_eq_false h2] at this
            cases this
          rw [this] at h
          exact h
        · apply ws_nil
          exact nxt (by unfold okC; rw [decide_eq_true h2, Bool.or_true])
      · refine bf ?_
        apply ws_nil
        exact nxt (by unfold okC; rw [decide_eq_true h1, Bool.true_or])
    · rintro _ _ ⟨⟨o, rfl⟩, rfl, hall⟩
      refine ⟨⟨o, rfl⟩, rfl, List.all_eq_true.mpr fun p hp => ?_⟩
      obtain ⟨j, hj, e⟩ := List.mem_iff_getElem.mp hp
      exact hall j p (by rw [List.length_map]; exact hj) (by rw [List.getElem?_eq_getElem hj, e])
  rintro _ _ ⟨⟨o, rfl⟩, rfl, hall⟩
  repeat done
  have : nameB z = true := by unfold nameB; rw [h0, hall]; rfl
  rw [this] at h
  exact h
/-- one text of names_right -/
theorem name_one (z : Str) (hz : z.length ≤ 1000) (a0 a3 a4 a5 a6 o8 o9 : Option CV) (c : CS) (D : Post) (h : ∀ o8 o9, D.nx [a0, some (.str LET), some (.str FIG), a3, a4, a5, a6, some (.str z), o8, o9] c) :
    wS (sSeq (sSet 8 (mAndV (mChain vLe vLe (mC (.int 1)) (mCB vLen (mCons (mVar 7) mNil)) (mC (.int 12))) (mOp (vIn false) (mOp vIx (mVar 7) (mC (.int 0))) (mVar 1))))
  (sSeq (sFor (mIter (mVar 7)) (gN 9)
  (sSet 8 (mAndV (mVar 8) (mOp (vIn false) (mVar 9) (mOp vAdd (mVar 1) (mVar 2))))))
  (sIf (mNot (mTr (mCall 2 (m__law_same 6) (mCons (mCall 1 m_is_name (mCons (mVar 7) mNil)) (mCons (mVar 8) mNil)))))
  (sRet (mC (.bl false)))
  sNil))) [a0, some (.str LET), some (.str FIG), a3, a4, a5, a6, some (.str z), o8, o9] c D := by
  have hz' : z.length ≤ sizeLine := size_line hz
  refine ws_join (fun ρ1 c1 => ρ1 = [a0, some (.str LET), some (.str FIG), a3, a4, a5, a6, some (.str z), some (.bl (nm0 z)), o9] ∧ c = c1) ?_ ?_
  · repeat done
    refine o_lens hz' ?_
    repeat done
    refine bd (fun h1 => ?_) (fun h1 => ?_)
    · repeat done
      have hne : z.length ≠ 0 := by omega
      obtain ⟨p, r, e⟩ := first_of hne
      have e0 : nm0 z = (decide (z.length ≤ 12) && decide (p ∈ LET.cps.toList)) := by unfold nm0; rw [e]
      refine bd (fun h2 => ?_) (fun h2 => ?_)
      · repeat done
        refine o_ixs hz' (at0 e) ?_
        repeat done
        rw [in_let, e0, decide_eq_true (show z.length ≤ 12 by omega), Bool.true_and]
        exact ⟨rfl, rfl⟩
      · rw [e0, decide_eq_false (show ¬ z.length ≤ 12 by omega), Bool.false_and, decide_eq_false h2]
        exact ⟨rfl, rfl⟩
    · refine ⟨_, rfl, bf ?_⟩
      have : nm0 z = false := by
        unfold nm0
        rw [nil_len (by omega)]
      rw [this]
      exact ⟨rfl, rfl⟩
  rintro _ _ ⟨rfl, rfl⟩
  refine ws_join (fun ρ1 c1 => (∃ o9, ρ1 = [a0, some (.str LET), some (.str FIG), a3, a4, a5, a6, some (.str z), some (.bl (nameB z)), o9]) ∧ c = c1) ?_ ?_
  · apply ws_for
    apply wi_iter
    repeat done
    refine for_inv (J := fun k ρ1 c1 => (∃ o9, ρ1 = [a0, some (.str LET), some (.str FIG), a3, a4, a5, a6, some (.str z), some (.bl (nm0 z && (z.cps.toList.take k).all okC)), o9]) ∧ c = c1) ⟨⟨o9, by rw [List.take_zero, List.all_nil, Bool.and_true]⟩, rfl⟩ (fun _ _ _ _ => trivial) ?_ ?_
    · rintro k x _ _ hx ⟨⟨o, rfl⟩, rfl⟩
      obtain ⟨p, hp, rfl⟩ := sgn_get hx
      have e1 : (z.cps.toList.take (k + 1)).all okC = ((z.cps.toList.take k).all okC && okC p) := by
        rw [take_snoc hp, List.all_append, List.all_cons, List.all_nil, Bool.and_true]
      repeat done
      refine ⟨fun h1 => ?_, fun h1 => ?_⟩
      · repeat done
        refine o_adds (by decide +kernel) ?_
        repeat done
        rw [in_both]
        refine ⟨⟨some (.str ⟨#[p]⟩), ?_⟩, rfl⟩
        rw [e1, ← Bool.and_assoc, h1, Bool.true_and]
        rfl
      · refine ⟨⟨some (.str ⟨#[p]⟩), ?_⟩, rfl⟩
        rw [e1, ← Bool.and_assoc, h1, Bool.false_and]
        rfl
    · rintro _ _ ⟨⟨o, rfl⟩, rfl⟩
      refine ⟨⟨o, ?_⟩, rfl⟩
      have : (List.map (fun p => CV.str ⟨#[p]⟩) z.cps.toList).length = z.cps.toList.length := List.length_map ..
      rw [this, List.take_length]
      rfl
  rintro _ _ ⟨⟨o, rfl⟩, rfl⟩
  apply ws_if
  apply w_not
  apply w_tr
  repeat done
  refine ⟨rfl, t_is_name z hz _ _ ?_⟩
  repeat done
  refine ⟨rfl, t_sameA rfl rfl ?_⟩
  repeat done
  refine bf ?_
  apply ws_nil
  exact h _ _
end L51

namespace L51
open PySem PySem.Spec PyProof.Rows L2 PM

local macro_rules | `(tactic| done) => `(tactic| first
  | (with_reducible apply ws_seq) | (with_reducible apply ws_set) | (with_reducible apply ws_ret) | (with_reducible apply ws_if) | (with_reducible apply ws_expr) | (with_reducible apply ws_sub) | (with_reducible apply ws_nil) | (with_reducible apply ws_retN)
  | ((with_reducible apply w_var); · exact rfl)
  | (with_reducible apply w_c) | (with_reducible apply w_op) | (with_reducible apply w_un) | (with_reducible apply w_t) | (with_reducible apply w_tr) | (with_reducible apply w_and) | (with_reducible apply w_or) | (with_reducible apply w_not)
  | (with_reducible apply w_andV) | (with_reducible apply w_orV) | (with_reducible apply w_notV) | (with_reducible apply w_ifE) | (with_reducible apply w_chain) | (with_reducible apply w_nil) | (with_reducible apply w_cons) | (with_reducible apply w_cb)
  | (with_reducible apply w_tup) | (with_reducible apply w_lst) | (with_reducible apply w_call) | (with_reducible apply w_meth) | (with_reducible apply w_isi) | (with_reducible apply w_isi2) | (with_reducible apply w_slice) | (with_reducible apply w_no) | (with_reducible apply w_part)
  | (with_reducible apply o_add) | (with_reducible apply o_sub) | (with_reducible apply o_neg) | (with_reducible apply o_eqi) | (with_reducible apply o_nei) | (with_reducible apply o_eqs) | (with_reducible apply o_nes) | (with_reducible apply o_eqb) | (with_reducible apply o_neb)
  | (with_reducible apply o_lt) | (with_reducible apply o_gt) | (with_reducible apply o_le) | (with_reducible apply o_ge) | (with_reducible apply o_int) | (with_reducible apply o_max) | (with_reducible apply o_min)
  | ((with_reducible apply o_is); · exact rfl) | ((with_reducible apply o_isn); · exact rfl) | (with_reducible apply o_in) | (with_reducible apply o_nin)
  | (refine ⟨_, (rfl : tyName _ _ = some _), ?_⟩) | (refine ⟨_, (rfl : vTruth _ _ = some _), ?_⟩) | (with_reducible refine ⟨_, rfl, ?_⟩))


theorem at_lt {l : List Nat} {v : Int} (h0 : 0 ≤ v) (h1 : v < l.length) : ∃ p, atI l v = some p := by
  unfold atI ixN
  rw [if_pos h0, if_pos h1]
  have h3 : v.toNat < l.length := by omega
  exact ⟨l[v.toNat], List.getElem?_eq_getElem h3⟩
theorem let_len : LET.cps.toList.length = 26 ∧ FIG.cps.toList.length = 10 ∧ (LET ++ FIG).cps.toList.length = 36 ∧ LET.length = 26 ∧ FIG.length = 10 ∧ (LET ++ FIG).length = 36 := by decide +kernel
theorem mul2_len (x : Str) : (Txt.mul x 2).length = x.length + x.length := by
  unfold Txt.mul
  rw [if_neg (by decide)]
  by_cases h : x.length = 0
  · rw [if_pos (by rw [h]; rfl), h]
  · rw [if_neg (by simp [h])]
    show (List.foldl (· ++ ·) #[] (List.replicate 2 x.cps)).size = _
    rw [show List.replicate 2 x.cps = [x.cps, x.cps] from rfl, List.foldl_cons, List.foldl_cons, List.foldl_nil, Array.size_append, Array.size_append]
    show 0 + x.cps.size + x.cps.size = _
    rw [Nat.zero_add]
    rfl
theorem st_lits : (" " : Str).length = 1 ∧ ("A" : Str).length = 1 ∧ ("_" : Str).length = 1 ∧ ("-" : Str).length = 1 ∧ ("~" : Str).length = 1 ∧ ("" : Str).length = 0 := by decide +kernel
theorem t_names_right {ns : List Int} {p : Nat} {c : CS} (hp : Pool ns p c) (P : CV → CS → Prop) (h : ∀ c', Pool ns p c' → Fr p c c' → P (.bl true) c') : Tot (m__law_names_right [.ref p] c) P := by
  unfold m__law_names_right
  refine w_run ?_
  show wS _ [some (.ref p), none, none, none, none, none, none, none, none, none] _ _
  refine ws_join (fun ρ1 c1 => ρ1 = [some (.ref p), some (.str LET), none, none, none, none, none, none, none, none] ∧ c = c1) ?_ ?_
  · repeat done
    exact ⟨rfl, rfl⟩
  rintro _ _ ⟨rfl, rfl⟩
  refine ws_join (fun ρ1 c1 => ρ1 = [some (.ref p), some (.str LET), some (.str FIG), none, none, none, none, none, none, none] ∧ c = c1) ?_ ?_
  · repeat done
    exact ⟨rfl, rfl⟩
  rintro _ _ ⟨rfl, rfl⟩
  refine ws_join (fun ρ1 c1 => ∃ z : Str, z.length = 1 ∧ ρ1 = [some (.ref p), some (.str LET), some (.str FIG), some (.str z), none, none, none, none, none, none] ∧ Pool ns p c1 ∧ Fr p c c1) ?_ ?_
  · repeat done
    refine ⟨rfl, t_draw hp (by decide) (by decide +kernel) _ fun v c1 a1 a2 a3 a4 a5 => ?_⟩
    obtain ⟨q, hq⟩ := at_lt (l := LET.cps.toList) a1 (by rw [let_len.1]; exact a2)
    refine o_ixs (x := LET) (size_line (by rw [let_len.2.2.2.1]; omega)) hq ?_
    exact ⟨_, rfl, rfl, a3, a4⟩
  rintro _ c1 ⟨z, hz, rfl, p1, f1⟩
  refine ws_join (fun ρ1 c1 => ∃ (z : Str) (o : Option CV), 1 ≤ z.length ∧ z.length ≤ 13 ∧ ρ1 = [some (.ref p), some (.str LET), some (.str FIG), some (.str z), o, none, none, none, none, none] ∧ Pool ns p c1 ∧ Fr p c c1) ?_ ?_
  · apply ws_for
    apply wi_r1
    repeat done
    refine ⟨by show 5 ≤ sizeLine; exact size_line (by omega), ?_⟩
    repeat done
    refine ⟨rfl, t_pick (p1.gr .new) (CS.new_same _ _) (by have := p1.lt; omega) (Nat.lt_succ_self _) (by decide) (by decide) _ fun x c2 hx pl fr => ?_⟩
    have hx' : ∃ m : Nat, m ≤ 12 ∧ x = .int m := by
      simp only [List.mem_cons, List.not_mem_nil, or_false] at hx
      rcases hx with rfl | rfl | rfl | rfl | rfl
      · exact ⟨0, by omega, rfl⟩
      · exact ⟨1, by omega, rfl⟩
      · exact ⟨5, by omega, rfl⟩
      · exact ⟨11, by omega, rfl⟩
      · exact ⟨12, by omega, rfl⟩
    obtain ⟨m, hm, rfl⟩ := hx'
    repeat done
    refine ⟨rg_small (by omega), ?_⟩
    rw [Int.toNat_natCast]
    refine for_inv (J := fun k ρ1 c3 => k ≤ m ∧ ∃ (z : Str) (o : Option CV), z.length = 1 + k ∧ ρ1 = [some (.ref p), some (.str LET), some (.str FIG), some (.str z), o, none, none, none, none, none] ∧ Pool ns p c3 ∧ Fr p c c3) ⟨Nat.zero_le _, z, none, hz, rfl, pl, (f1.trans .new).trans fr⟩ (fun _ _ _ _ => trivial) ?_ ?_
    · rintro k x _ c3 hx ⟨hk, y, o, hy, rfl, p3, f3⟩
      have hkm : k < m := (iInt_get hx).1
      repeat done
      refine o_adds (by decide +kernel) ?_
      repeat done
      refine ⟨rfl, t_draw p3 (by decide) (by decide +kernel) _ fun v c4 a1 a2 a3 a4 a5 => ?_⟩
      obtain ⟨q, hq⟩ := at_lt (l := (LET ++ FIG).cps.toList) a1 (by rw [let_len.2.2.1]; exact a2)
      refine o_ixs (x := LET ++ FIG) (size_line (by rw [let_len.2.2.2.2.2]; omega)) hq ?_
      have e1 : (⟨#[q]⟩ : Str).length = 1 := rfl
      refine o_adds (by rw [e1]; exact size_line (by omega)) ?_
      exact ⟨hkm, y ++ ⟨#[q]⟩, some x, by rw [Str.length_append, e1]; omega, rfl, a3, f3.trans a4⟩
    · rintro _ c3 ⟨hk, y, o, hy, rfl, p3, f3⟩
      rw [iInt_len] at hk hy
      exact ⟨y, o, by omega, by omega, rfl, p3, f3⟩
  rintro _ c2 ⟨y, o, hy1, hy2, rfl, p2, f2⟩
  have hyl : y.length ≤ sizeLine := size_line (by omega)
  generalize hL : ((y.length : Nat) : Int) = L
  refine ws_join (fun ρ1 c1 => ∃ pl : Int, 0 ≤ pl ∧ pl < L ∧ ρ1 = [some (.ref p), some (.str LET), some (.str FIG), some (.str y), o, some (.int pl), none, none, none, none] ∧ Pool ns p c1 ∧ Fr p c c1) ?_ ?_
  · repeat done
    refine o_lens hyl ?_
    rw [hL]
    repeat done
    refine ⟨rfl, t_draw p2 (by omega) ?_ _ fun v c2 a1 a2 a3 a4 a5 => ⟨v, a1, a2, rfl, a3, f2.trans a4⟩⟩
    have h1 : L.natAbs ≠ 0 := by omega
    have h2 : L.natAbs < 2 ^ 5 := by omega
    have := (Nat.log2_lt h1).mpr h2
    omega
  rintro _ c3 ⟨pl, pl0, pl1, rfl, p3, f3⟩
  refine ws_join (fun ρ1 c1 => ∃ st : Str, st.length = 1 ∧ ρ1 = [some (.ref p), some (.str LET), some (.str FIG), some (.str y), o, some (.int pl), some (.str st), none, none, none] ∧ Pool ns p c1 ∧ Fr p c c1) ?_ ?_
  · repeat done
    refine ⟨by show 5 ≤ sizeLine; exact size_line (by omega), ?_⟩
    repeat done
    refine ⟨rfl, t_pick (p3.gr .new) (CS.new_same _ _) (by have := p3.lt; omega) (Nat.lt_succ_self _) (by decide) (by decide) _ fun x c4 hx pl' fr => ?_⟩
    have fr2 := f3.trans (Fr.trans .new fr)
    simp only [List.mem_cons, List.not_mem_nil, or_false] at hx
    rcases hx with rfl | rfl | rfl | rfl | rfl
    · exact ⟨_, st_lits.1, rfl, pl', fr2⟩
    · exact ⟨_, st_lits.2.1, rfl, pl', fr2⟩
    · exact ⟨_, st_lits.2.2.1, rfl, pl', fr2⟩
    · exact ⟨_, st_lits.2.2.2.1, rfl, pl', fr2⟩
    · exact ⟨_, st_lits.2.2.2.2.1, rfl, pl', fr2⟩
  rintro _ c4 ⟨st, hst, rfl, p4, f4⟩
  have l1 := cutS_len y none (some pl)
  have l2 := cutS_len y (some (pl + 1)) none
  have l3 := cutS_len y (some 1) none
  refine ws_join (fun ρ1 c1 => (∃ o7 o8 o9, ρ1 = [some (.ref p), some (.str LET), some (.str FIG), some (.str y), o, some (.int pl), some (.str st), o7, o8, o9]) ∧ Pool ns p c1 ∧ Fr p c c1) ?_ ?_
  · apply ws_for
    apply wi_iter
    repeat done
    refine o_sls hyl ?_
    have a1 : (cutS y none (some pl)).length + st.length ≤ sizeLine := size_line (by omega)
    repeat done
    refine o_adds a1 ?_
    repeat done
    refine o_sls hyl ?_
    have a2 : (cutS y none (some pl) ++ st).length + (cutS y (some (pl + 1)) none).length ≤ sizeLine := by rw [Str.length_append]; exact size_line (by omega)
    refine o_adds a2 ?_
    repeat done
    refine ⟨rfl, t_draw p4 (by decide) (by decide +kernel) _ fun v c5 b1 b2 b3 b4 b5 => ?_⟩
    obtain ⟨q, hq⟩ := at_lt (l := FIG.cps.toList) b1 (by rw [let_len.2.1]; exact b2)
    refine o_ixs (x := FIG) (size_line (by rw [let_len.2.2.2.2.1]; omega)) hq ?_
    repeat done
    refine o_sls hyl ?_
    have e1 : (⟨#[q]⟩ : Str).length = 1 := rfl
    refine o_adds (by rw [e1]; exact size_line (by omega)) ?_
    repeat done
    refine o_mods ?_ ?_
    · unfold repOk
      have e2 : y.length * (2 : Int).toNat ≤ sizeLine := size_line (by show y.length * 2 ≤ 1000; omega)
      have e3 : y.length ≤ 1000000 := by omega
      rw [decide_eq_true e2, decide_eq_true e3]
      decide
    repeat done
    refine ⟨by show 5 ≤ sizeLine; exact size_line (by omega), ?_⟩
    have f5 : Fr p c (c5.new (.lst [.str y, .str (cutS y none (some pl) ++ st ++ cutS y (some (pl + 1)) none), .str (⟨#[q]⟩ ++ cutS y (some 1) none), .str "", .str (Txt.mul y 2)])) := (f4.trans b4).trans .new
    have p5 := b3.gr (c' := c5.new (.lst [.str y, .str (cutS y none (some pl) ++ st ++ cutS y (some (pl + 1)) none), .str (⟨#[q]⟩ ++ cutS y (some 1) none), .str "", .str (Txt.mul y 2)])) .new
    have hall : ∀ x ∈ [CV.str y, .str (cutS y none (some pl) ++ st ++ cutS y (some (pl + 1)) none), .str (⟨#[q]⟩ ++ cutS y (some 1) none), .str "", .str (Txt.mul y 2)], ∃ z : Str, z.length ≤ 1000 ∧ x = .str z := by
      intro x hx
      simp only [List.mem_cons, List.not_mem_nil, or_false] at hx
      rcases hx with rfl | rfl | rfl | rfl | rfl
      · exact ⟨_, by omega, rfl⟩
      · exact ⟨_, by rw [Str.length_append, Str.length_append]; omega, rfl⟩
      · exact ⟨_, by rw [Str.length_append, e1]; omega, rfl⟩
      · exact ⟨_, by rw [st_lits.2.2.2.2.2]; omega, rfl⟩
      · exact ⟨_, by rw [mul2_len]; omega, rfl⟩
    generalize [CV.str y, .str (cutS y none (some pl) ++ st ++ cutS y (some (pl + 1)) none), .str (⟨#[q]⟩ ++ cutS y (some 1) none), .str "", .str (Txt.mul y 2)] = xs at *
    have hg : getL (c5.new (.lst xs)) c5.next = some xs := getL_of (CS.new_same _ _)
    refine ⟨_, by unfold iterC; simp only [hg]; rfl, ?_⟩
    refine for_inv (J := fun k ρ1 c6 => (∃ o7 o8 o9, ρ1 = [some (.ref p), some (.str LET), some (.str FIG), some (.str y), o, some (.int pl), some (.str st), o7, o8, o9]) ∧ c5.new (.lst xs) = c6) ⟨⟨_, _, _, rfl⟩, rfl⟩ (fun _ _ _ ⟨_, e⟩ => by rw [← e]; exact hg) ?_ ?_
    · rintro k x _ _ hx ⟨⟨o7, o8, o9, rfl⟩, rfl⟩
      obtain ⟨w, hw, rfl⟩ := hall x (List.mem_of_getElem? hx)
      exact name_one w hw _ _ _ _ _ o8 o9 _ _ fun o8' o9' => ⟨⟨_, o8', o9', rfl⟩, rfl⟩
    · rintro _ _ ⟨⟨o7, o8, o9, rfl⟩, rfl⟩
      exact ⟨⟨_, _, _, rfl⟩, p5, f5⟩
  rintro _ c5 ⟨⟨o7, o8, o9, rfl⟩, p5, f5⟩
  repeat done
  exact h _ p5 f5
end L51

namespace L51
open PySem PySem.Spec PyProof.Rows L2 PM

local macro_rules | `(tactic| done) => `(tactic| first
  | (with_reducible apply ws_seq) | (with_reducible apply ws_set) | (with_reducible apply ws_ret) | (with_reducible apply ws_if) | (with_reducible apply ws_expr) | (with_reducible apply ws_sub) | (with_reducible apply ws_nil) | (with_reducible apply ws_retN)
  | ((with_reducible apply w_var); · exact rfl)
  | (with_reducible apply w_c) | (with_reducible apply w_op) | (with_reducible apply w_un) | (with_reducible apply w_t) | (with_reducible apply w_tr) | (with_reducible apply w_and) | (with_reducible apply w_or) | (with_reducible apply w_not)
  | (with_reducible apply w_andV) | (with_reducible apply w_orV) | (with_reducible apply w_notV) | (with_reducible apply w_ifE) | (with_reducible apply w_chain) | (with_reducible apply w_nil) | (with_reducible apply w_cons) | (with_reducible apply w_cb)
  | (with_reducible apply w_tup) | (with_reducible apply w_lst) | (with_reducible apply w_call) | (with_reducible apply w_meth) | (with_reducible apply w_isi) | (with_reducible apply w_isi2) | (with_reducible apply w_slice) | (with_reducible apply w_no) | (with_reducible apply w_part)
  | (with_reducible apply o_add) | (with_reducible apply o_sub) | (with_reducible apply o_neg) | (with_reducible apply o_eqi) | (with_reducible apply o_nei) | (with_reducible apply o_eqs) | (with_reducible apply o_nes) | (with_reducible apply o_eqb) | (with_reducible apply o_neb)
  | (with_reducible apply o_lt) | (with_reducible apply o_gt) | (with_reducible apply o_le) | (with_reducible apply o_ge) | (with_reducible apply o_int) | (with_reducible apply o_max) | (with_reducible apply o_min)
  | ((with_reducible apply o_is); · exact rfl) | ((with_reducible apply o_isn); · exact rfl) | (with_reducible apply o_in) | (with_reducible apply o_nin)
  | (refine ⟨_, (rfl : tyName _ _ = some _), ?_⟩) | (refine ⟨_, (rfl : vTruth _ _ = some _), ?_⟩) | (with_reducible refine ⟨_, rfl, ?_⟩))


/-- what an element of a list is known to be -/
inductive El where
  | va (x : CV)
  | xc (C : Str)
def El.ok : El → CS → CV → Prop
  | .va x, _, y => y = x
  | .xc C, c, y => ∃ r fs, y = .ref r ∧ c.obj r = .exn C fs ∧ r < c.next
theorem El.mon {E : El} {c c' : CS} {y : CV} (g : Gr c c') (h : E.ok c y) : E.ok c' y := by
  cases E with
  | va x => exact h
  | xc C =>
    obtain ⟨r, fs, e, ho, hl⟩ := h
    exact ⟨r, fs, e, by rw [g.ob r hl]; exact ho, Nat.lt_of_lt_of_le hl g.nx⟩
def RL (c : CS) : List El → List CV → Prop
  | [], xs => xs = []
  | E :: Es, xs => ∃ y ys, xs = y :: ys ∧ E.ok c y ∧ RL c Es ys
theorem RL.mon {c c' : CS} (g : Gr c c') : ∀ {Es : List El} {xs : List CV}, RL c Es xs → RL c' Es xs
  | [], _, h => h
  | _ :: _, _, ⟨y, ys, e, h1, h2⟩ => ⟨y, ys, e, El.mon g h1, RL.mon g h2⟩
theorem RL.len {c : CS} : ∀ {Es : List El} {xs : List CV}, RL c Es xs → xs.length = Es.length
  | [], _, h => by rw [show _ = [] from h]; rfl
  | _ :: _, _, ⟨y, ys, e, h1, h2⟩ => by rw [e, List.length_cons, List.length_cons, RL.len h2]
theorem RL.app {c : CS} : ∀ {Es Fs : List El} {xs ys : List CV}, RL c Es xs → RL c Fs ys → RL c (Es ++ Fs) (xs ++ ys)
  | [], _, _, _, h, t => by rw [show _ = [] from h]; exact t
  | _ :: _, _, _, _, ⟨y, ys, e, h1, h2⟩, t => by rw [e]; exact ⟨y, _, rfl, h1, RL.app h2 t⟩
theorem RL.get {c : CS} : ∀ {Es : List El} {xs : List CV} {i : Nat} {E : El}, RL c Es xs → Es[i]? = some E → ∃ y, xs[i]? = some y ∧ E.ok c y
  | [], _, _, _, _, q => by simp at q
  | _ :: _, _, 0, _, ⟨y, ys, e, h1, h2⟩, q => by simp at q; subst q; exact ⟨y, by rw [e]; rfl, h1⟩
  | _ :: _, _, i + 1, _, ⟨y, ys, e, h1, h2⟩, q => by
    obtain ⟨z, q1, q2⟩ := RL.get (i := i) h2 (by simpa using q)
    exact ⟨z, by rw [e]; simpa using q1, q2⟩
theorem RL.vals {c : CS} : ∀ {vs xs : List CV}, RL c (vs.map El.va) xs → xs = vs
  | [], _, h => h
  | _ :: _, _, ⟨y, ys, e, h1, h2⟩ => by rw [e, show y = _ from h1, RL.vals h2]
/-- an argument list whose values are so -/
def AW (ms : MA) (ρ : CEnv) (Es : List El) : Prop := ∀ c PA, (∀ xs c', Gr c c' → RL c' Es xs → PA xs c') → wA ms ρ c PA
theorem aw_nil {ρ : CEnv} : AW mNil ρ [] := fun c PA h => w_nil (h _ _ .refl rfl)
theorem aw_cons {a : ME} {ms : MA} {ρ : CEnv} {E : El} {Es : List El} (he : ∀ c P, (∀ y c', Gr c c' → E.ok c' y → P y c') → PM.wE a ρ c P) (hs : AW ms ρ Es) : AW (mCons a ms) ρ (E :: Es) := fun c PA h =>
  w_cons (he _ _ fun y c1 g1 h1 => hs _ _ fun ys c2 g2 h2 => h _ _ (g1.trans g2) ⟨y, ys, rfl, El.mon g2 h1, h2⟩)
/-- a list that was made -/
structure LS (c0 c : CS) (r : Nat) (Es : List El) : Prop where
  gr : Gr c0 c
  ex : ∃ xs, c.obj r = .lst xs ∧ r < c.next ∧ RL c Es xs
theorem LS.mon {c0 c c' : CS} {r : Nat} {Es : List El} (h : LS c0 c r Es) (g : Gr c c') : LS c0 c' r Es := by
  obtain ⟨g0, xs, ho, hl, hr⟩ := h
  exact ⟨g0.trans g, xs, by rw [g.ob r hl]; exact ho, Nat.lt_of_lt_of_le hl g.nx, hr.mon g⟩
theorem l_first {ms : MA} {ρ : CEnv} {Es : List El} {c0 c : CS} {P : CV → CS → Prop} (g : Gr c0 c) (ha : AW ms ρ Es) (hl : Es.length ≤ 1000) (h : ∀ r c', LS c0 c' r Es → P (.ref r) c') : PM.wE (mLst ms) ρ c P :=
  w_lst (ha _ _ fun xs c1 g1 h1 => ⟨size_line (by rw [h1.len]; exact hl), h _ _ ⟨(g.trans g1).trans .new, xs, CS.new_same _ _, Nat.lt_succ_self _, h1.mon .new⟩⟩)
theorem l_app {ms : MA} {ρ : CEnv} {Es Fs : List El} {c0 c : CS} {P : CV → CS → Prop} {i r : Nat} (hi : ρ[i]? = some (some (.ref r))) (hL : LS c0 c r Es) (ha : AW ms ρ Fs) (hl : Es.length + Fs.length ≤ 1000) (h : ∀ r c', LS c0 c' r (Es ++ Fs) → P (.ref r) c') : PM.wE (mOp vAdd (mVar i) (mLst ms)) ρ c P := by
  apply w_op
  refine w_var hi ?_
  refine w_lst (ha _ _ fun xs c1 g1 h1 => ⟨size_line (by rw [h1.len]; omega), ?_⟩)
  obtain ⟨g0, ys, ho, hlt, hr⟩ := hL.mon (g1.trans .new (c2 := c1.new (.lst xs)))
  refine o_addl ho (CS.new_same _ _) (size_line (by rw [h1.len, hr.len]; omega)) ?_
  exact h _ _ ⟨g0.trans .new, _, CS.new_same _ _, Nat.lt_succ_self _, (hr.mon .new).app ((h1.mon .new).mon .new)⟩
/-- a new exception as an element; a field of one -/
theorem e_new {C : Str} {fn : List Str} {ms : MA} {ρ : CEnv} {xs : List CV} (hp : ∀ c PA, PA xs c → wA ms ρ c PA) (hl : xs.length = fn.length) : ∀ c P, (∀ y c', Gr c c' → (El.xc C).ok c' y → P y c') → PM.wE (mNew C fn ms) ρ c P := fun c P h =>
  w_new (hp _ _ ⟨hl, h _ _ .new ⟨_, _, rfl, CS.new_same _ _, Nat.lt_succ_self _⟩⟩)
theorem e_newG {C : Str} {fn : List Str} {ms : MA} {ρ : CEnv} (hp : ∀ c PA, (∀ xs c', Gr c c' → xs.length = fn.length → PA xs c') → wA ms ρ c PA) : ∀ c P, (∀ y c', Gr c c' → (El.xc C).ok c' y → P y c') → PM.wE (mNew C fn ms) ρ c P := fun c P h =>
  w_new (hp _ _ fun xs c1 g hl => ⟨hl, h _ _ (g.trans .new) ⟨_, _, rfl, CS.new_same _ _, Nat.lt_succ_self _⟩⟩)
theorem e_new0 {C : Str} {ρ : CEnv} : ∀ c P, (∀ y c', Gr c c' → (El.xc C).ok c' y → P y c') → PM.wE (mNew0 C) ρ c P := fun c P h =>
  w_new0 (h _ _ .new ⟨_, _, rfl, CS.new_same _ _, Nat.lt_succ_self _⟩)
theorem e_xf {C f : Str} {fn : List Str} {ms : MA} {ρ : CEnv} {xs : List CV} {v : CV} (hp : ∀ c PA, PA xs c → wA ms ρ c PA) (hl : xs.length = fn.length) (hk : (fn.zip xs).reverse.lookup f = some v) : ∀ c P, (∀ y c', Gr c c' → (El.va v).ok c' y → P y c') → PM.wE (mXf [C] f (mNew C fn ms)) ρ c P := fun c P h => by
  apply w_xf
  exact w_new (hp _ _ ⟨hl, _, _, _, v, rfl, CS.new_same _ _, List.mem_singleton.mpr rfl, hk, h _ _ .new rfl⟩)
theorem e_isX {ρ : CEnv} {f : Str → Bool} {i r : Nat} {c0 : CS} {C : Str} {fs : List (Str × CV)} (hi : ρ[i]? = some (some (.ref r))) (hC : C ∈ D0.isC) (c : CS) (ho : c.obj r = .exn C fs) (P : CV → CS → Prop) (h : P (.bl (f C)) c) : PM.wE (mIsX D0.isC f (mVar i)) ρ c P := by
  apply w_isX
  refine w_var hi ?_
  exact ⟨r, C, fs, rfl, ho, hC, h⟩
/-- the law's order of the classes -/
def kg0 : List Str := ["BadText", "HoldersDown", "NoTable"]
def kg1 : List Str := ["NoColumn", "NameTaken", "WrongKind"]
def kg2 : List Str := ["WrongMark", "WrongValue", "NoNode"]
def kg3 : List Str := ["NodeDown", "NotLeading", "NoHolder"]
def kg4 : List Str := ["LastHolder", "NoLine", "NoTenant"]
def kg5 : List Str := ["NoLeader", "StillUsed", "StillNeeded"]
def kg6 : List Str := ["Hidden", "Unsayable", "NoRoad"]
def kg7 : List Str := ["Forked", "MoveOpen", "NoMove"]
def kg8 : List Str := ["WrongPhase", "BadFile", "NoVersion"]
def kg9 : List Str := ["BadOps", "NoMoment", "StampBack"]
def kg10 : List Str := ["NotCommitted", "NoItem", "WrongPads"]
def kg11 : List Str := ["Held", "Behind", "NoTicket"]
def kg12 : List Str := ["Unsafe", "Mismatch", "TooNew"]
def ksL : List Str := ((((((((((((kg0 ++ kg1) ++ kg2) ++ kg3) ++ kg4) ++ kg5) ++ kg6) ++ kg7) ++ kg8) ++ kg9) ++ kg10) ++ kg11) ++ kg12)
def kEl (C : Str) (l : List Str) : List El := l.map fun d => El.va (.bl (D0.sub C d))
/-- an argument list of isinstance calls, over a heap that still has the exception -/
theorem k_aw {ρ : CEnv} {r i : Nat} {C : Str} (hi : ρ[i]? = some (some (.ref r))) (hC : C ∈ D0.isC) (Ds : List Str) (c : CS) (fs : List (Str × CV)) (ho : c.obj r = .exn C fs) (ms : MA) (hm : ms = Ds.foldr (fun d m => mCons (mIsX D0.isC (fun C => D0.sub C d) (mVar i)) m) mNil) (PA : List CV → CS → Prop) (h : PA (Ds.map fun d => .bl (D0.sub C d)) c) : wA ms ρ c PA := by
  subst hm
  induction Ds generalizing PA with
  | nil => exact w_nil h
  | cons d Ds ih =>
    refine w_cons (e_isX (c0 := c) hi hC c ho _ ?_)
    exact ih _ h
theorem k_first {ρ : CEnv} {r i : Nat} {C : Str} {c : CS} {fs : List (Str × CV)} {ms : MA} {P : CV → CS → Prop} (Ds : List Str) (hl : Ds.length ≤ 100) (hi : ρ[i]? = some (some (.ref r))) (hC : C ∈ D0.isC) (ho : c.obj r = .exn C fs) (hr : r < c.next) (hm : ms = Ds.foldr (fun d m => mCons (mIsX D0.isC (fun C => D0.sub C d) (mVar i)) m) mNil)
    (h : ∀ q c', Gr c c' → c'.obj q = .lst (Ds.map fun d => .bl (D0.sub C d)) → q < c'.next → P (.ref q) c') : PM.wE (mLst ms) ρ c P := by
  apply w_lst
  refine k_aw hi hC Ds c fs ho ms hm _ ⟨size_line (by rw [List.length_map]; omega), ?_⟩
  exact h _ _ .new (CS.new_same _ _) (Nat.lt_succ_self _)
theorem k_app {ρ : CEnv} {r i j q : Nat} {C : Str} {c : CS} {fs : List (Str × CV)} {ms : MA} {P : CV → CS → Prop} (Es Ds : List Str) (hl : Es.length + Ds.length ≤ 100) (hj : ρ[j]? = some (some (.ref q))) (hi : ρ[i]? = some (some (.ref r))) (hC : C ∈ D0.isC) (ho : c.obj r = .exn C fs) (hr : r < c.next) (hq : c.obj q = .lst (Es.map fun d => .bl (D0.sub C d))) (hq2 : q < c.next)
    (hm : ms = Ds.foldr (fun d m => mCons (mIsX D0.isC (fun C => D0.sub C d) (mVar i)) m) mNil)
    (h : ∀ q c', Gr c c' → c'.obj q = .lst ((Es ++ Ds).map fun d => .bl (D0.sub C d)) → q < c'.next → P (.ref q) c') : PM.wE (mOp vAdd (mVar j) (mLst ms)) ρ c P := by
  apply w_op
  refine w_var hj ?_
  apply w_lst
  refine k_aw hi hC Ds c fs ho ms hm _ ⟨size_line (by rw [List.length_map]; omega), ?_⟩
  refine o_addl (by rw [CS.new_ne (Nat.ne_of_lt hq2)]; exact hq) (CS.new_same _ _) (size_line (by rw [List.length_map, List.length_map]; omega)) ?_
  exact h _ _ (Gr.trans .new .new) (by rw [CS.new_same, List.map_append]) (Nat.lt_succ_self _)
theorem t_kinds {r : Nat} {C : Str} {fs : List (Str × CV)} (hC : C ∈ D0.isC) (c : CS) (ho : c.obj r = .exn C fs) (hr : r < c.next) (P : CV → CS → Prop) (h : ∀ q c', Gr c c' → c'.obj q = .lst (ksL.map fun d => .bl (D0.sub C d)) → q < c'.next → P (.ref q) c') : Tot (m__law_kinds [.ref r] c) P := by
  unfold m__law_kinds
  refine w_run ?_
  show wS _ [some (.ref r), none] _ _
  refine ws_join (fun ρ1 c1 => ∃ q, ρ1 = [some (.ref r), some (.ref q)] ∧ Gr c c1 ∧ c1.obj q = .lst (kg0.map fun d => .bl (D0.sub C d)) ∧ q < c1.next) ?_ ?_
  · apply ws_set
    exact k_first kg0 (by decide) rfl hC ho hr rfl fun q c1 g e l => ⟨q, rfl, g, e, l⟩
  rintro _ c1 ⟨q, rfl, g, e, l⟩
  refine ws_join (fun ρ1 c2 => ∃ q, ρ1 = [some (.ref r), some (.ref q)] ∧ Gr c c2 ∧ c2.obj q = .lst ((kg0 ++ kg1).map fun d => .bl (D0.sub C d)) ∧ q < c2.next) ?_ ?_
  · apply ws_set
    exact k_app kg0 kg1 (by decide) rfl rfl hC (by rw [g.ob r hr]; exact ho) (Nat.lt_of_lt_of_le hr g.nx) e l rfl fun q c2 g2 e l => ⟨q, rfl, g.trans g2, e, l⟩
  clear e l g
  rintro _ c1 ⟨q, rfl, g, e, l⟩
  refine ws_join (fun ρ1 c2 => ∃ q, ρ1 = [some (.ref r), some (.ref q)] ∧ Gr c c2 ∧ c2.obj q = .lst (((kg0 ++ kg1) ++ kg2).map fun d => .bl (D0.sub C d)) ∧ q < c2.next) ?_ ?_
  · apply ws_set
    exact k_app (kg0 ++ kg1) kg2 (by decide) rfl rfl hC (by rw [g.ob r hr]; exact ho) (Nat.lt_of_lt_of_le hr g.nx) e l rfl fun q c2 g2 e l => ⟨q, rfl, g.trans g2, e, l⟩
  clear e l g
  rintro _ c1 ⟨q, rfl, g, e, l⟩
  refine ws_join (fun ρ1 c2 => ∃ q, ρ1 = [some (.ref r), some (.ref q)] ∧ Gr c c2 ∧ c2.obj q = .lst ((((kg0 ++ kg1) ++ kg2) ++ kg3).map fun d => .bl (D0.sub C d)) ∧ q < c2.next) ?_ ?_
  · apply ws_set
    exact k_app ((kg0 ++ kg1) ++ kg2) kg3 (by decide) rfl rfl hC (by rw [g.ob r hr]; exact ho) (Nat.lt_of_lt_of_le hr g.nx) e l rfl fun q c2 g2 e l => ⟨q, rfl, g.trans g2, e, l⟩
  clear e l g
  rintro _ c1 ⟨q, rfl, g, e, l⟩
  refine ws_join (fun ρ1 c2 => ∃ q, ρ1 = [some (.ref r), some (.ref q)] ∧ Gr c c2 ∧ c2.obj q = .lst (((((kg0 ++ kg1) ++ kg2) ++ kg3) ++ kg4).map fun d => .bl (D0.sub C d)) ∧ q < c2.next) ?_ ?_
  · apply ws_set
    exact k_app (((kg0 ++ kg1) ++ kg2) ++ kg3) kg4 (by decide) rfl rfl hC (by rw [g.ob r hr]; exact ho) (Nat.lt_of_lt_of_le hr g.nx) e l rfl fun q c2 g2 e l => ⟨q, rfl, g.trans g2, e, l⟩
  clear e l g
  rintro _ c1 ⟨q, rfl, g, e, l⟩
  refine ws_join (fun ρ1 c2 => ∃ q, ρ1 = [some (.ref r), some (.ref q)] ∧ Gr c c2 ∧ c2.obj q = .lst ((((((kg0 ++ kg1) ++ kg2) ++ kg3) ++ kg4) ++ kg5).map fun d => .bl (D0.sub C d)) ∧ q < c2.next) ?_ ?_
  · apply ws_set
    exact k_app ((((kg0 ++ kg1) ++ kg2) ++ kg3) ++ kg4) kg5 (by decide) rfl rfl hC (by rw [g.ob r hr]; exact ho) (Nat.lt_of_lt_of_le hr g.nx) e l rfl fun q c2 g2 e l => ⟨q, rfl, g.trans g2, e, l⟩
  clear e l g
  rintro _ c1 ⟨q, rfl, g, e, l⟩
  refine ws_join (fun ρ1 c2 => ∃ q, ρ1 = [some (.ref r), some (.ref q)] ∧ Gr c c2 ∧ c2.obj q = .lst (((((((kg0 ++ kg1) ++ kg2) ++ kg3) ++ kg4) ++ kg5) ++ kg6).map fun d => .bl (D0.sub C d)) ∧ q < c2.next) ?_ ?_
  · apply ws_set
    exact k_app (((((kg0 ++ kg1) ++ kg2) ++ kg3) ++ kg4) ++ kg5) kg6 (by decide) rfl rfl hC (by rw [g.ob r hr]; exact ho) (Nat.lt_of_lt_of_le hr g.nx) e l rfl fun q c2 g2 e l => ⟨q, rfl, g.trans g2, e, l⟩
  clear e l g
  rintro _ c1 ⟨q, rfl, g, e, l⟩
  refine ws_join (fun ρ1 c2 => ∃ q, ρ1 = [some (.ref r), some (.ref q)] ∧ Gr c c2 ∧ c2.obj q = .lst ((((((((kg0 ++ kg1) ++ kg2) ++ kg3) ++ kg4) ++ kg5) ++ kg6) ++ kg7).map fun d => .bl (D0.sub C d)) ∧ q < c2.next) ?_ ?_
  · apply ws_set
    exact k_app ((((((kg0 ++ kg1) ++ kg2) ++ kg3) ++ kg4) ++ kg5) ++ kg6) kg7 (by decide) rfl rfl hC (by rw [g.ob r hr]; exact ho) (Nat.lt_of_lt_of_le hr g.nx) e l rfl fun q c2 g2 e l => ⟨q, rfl, g.trans g2, e, l⟩
  clear e l g
  rintro _ c1 ⟨q, rfl, g, e, l⟩
  refine ws_join (fun ρ1 c2 => ∃ q, ρ1 = [some (.ref r), some (.ref q)] ∧ Gr c c2 ∧ c2.obj q = .lst (((((((((kg0 ++ kg1) ++ kg2) ++ kg3) ++ kg4) ++ kg5) ++ kg6) ++ kg7) ++ kg8).map fun d => .bl (D0.sub C d)) ∧ q < c2.next) ?_ ?_
  · apply ws_set
    exact k_app (((((((kg0 ++ kg1) ++ kg2) ++ kg3) ++ kg4) ++ kg5) ++ kg6) ++ kg7) kg8 (by decide) rfl rfl hC (by rw [g.ob r hr]; exact ho) (Nat.lt_of_lt_of_le hr g.nx) e l rfl fun q c2 g2 e l => ⟨q, rfl, g.trans g2, e, l⟩
  clear e l g
  rintro _ c1 ⟨q, rfl, g, e, l⟩
  refine ws_join (fun ρ1 c2 => ∃ q, ρ1 = [some (.ref r), some (.ref q)] ∧ Gr c c2 ∧ c2.obj q = .lst ((((((((((kg0 ++ kg1) ++ kg2) ++ kg3) ++ kg4) ++ kg5) ++ kg6) ++ kg7) ++ kg8) ++ kg9).map fun d => .bl (D0.sub C d)) ∧ q < c2.next) ?_ ?_
  · apply ws_set
    exact k_app ((((((((kg0 ++ kg1) ++ kg2) ++ kg3) ++ kg4) ++ kg5) ++ kg6) ++ kg7) ++ kg8) kg9 (by decide) rfl rfl hC (by rw [g.ob r hr]; exact ho) (Nat.lt_of_lt_of_le hr g.nx) e l rfl fun q c2 g2 e l => ⟨q, rfl, g.trans g2, e, l⟩
  clear e l g
  rintro _ c1 ⟨q, rfl, g, e, l⟩
  refine ws_join (fun ρ1 c2 => ∃ q, ρ1 = [some (.ref r), some (.ref q)] ∧ Gr c c2 ∧ c2.obj q = .lst (((((((((((kg0 ++ kg1) ++ kg2) ++ kg3) ++ kg4) ++ kg5) ++ kg6) ++ kg7) ++ kg8) ++ kg9) ++ kg10).map fun d => .bl (D0.sub C d)) ∧ q < c2.next) ?_ ?_
  · apply ws_set
    exact k_app (((((((((kg0 ++ kg1) ++ kg2) ++ kg3) ++ kg4) ++ kg5) ++ kg6) ++ kg7) ++ kg8) ++ kg9) kg10 (by decide) rfl rfl hC (by rw [g.ob r hr]; exact ho) (Nat.lt_of_lt_of_le hr g.nx) e l rfl fun q c2 g2 e l => ⟨q, rfl, g.trans g2, e, l⟩
  clear e l g
  rintro _ c1 ⟨q, rfl, g, e, l⟩
  refine ws_join (fun ρ1 c2 => ∃ q, ρ1 = [some (.ref r), some (.ref q)] ∧ Gr c c2 ∧ c2.obj q = .lst ((((((((((((kg0 ++ kg1) ++ kg2) ++ kg3) ++ kg4) ++ kg5) ++ kg6) ++ kg7) ++ kg8) ++ kg9) ++ kg10) ++ kg11).map fun d => .bl (D0.sub C d)) ∧ q < c2.next) ?_ ?_
  · apply ws_set
    exact k_app ((((((((((kg0 ++ kg1) ++ kg2) ++ kg3) ++ kg4) ++ kg5) ++ kg6) ++ kg7) ++ kg8) ++ kg9) ++ kg10) kg11 (by decide) rfl rfl hC (by rw [g.ob r hr]; exact ho) (Nat.lt_of_lt_of_le hr g.nx) e l rfl fun q c2 g2 e l => ⟨q, rfl, g.trans g2, e, l⟩
  clear e l g
  rintro _ c1 ⟨q, rfl, g, e, l⟩
  apply ws_ret
  exact k_app (((((((((((kg0 ++ kg1) ++ kg2) ++ kg3) ++ kg4) ++ kg5) ++ kg6) ++ kg7) ++ kg8) ++ kg9) ++ kg10) ++ kg11) kg12 (by decide) rfl rfl hC (by rw [g.ob r hr]; exact ho) (Nat.lt_of_lt_of_le hr g.nx) e l rfl fun q c2 g2 e l => h q c2 (g.trans g2) e l
end L51

namespace L51
open PySem PySem.Spec PyProof.Rows L2 PM

local macro_rules | `(tactic| done) => `(tactic| first
  | (with_reducible apply ws_seq) | (with_reducible apply ws_set) | (with_reducible apply ws_ret) | (with_reducible apply ws_if) | (with_reducible apply ws_expr) | (with_reducible apply ws_sub) | (with_reducible apply ws_nil) | (with_reducible apply ws_retN)
  | ((with_reducible apply w_var); · exact rfl)
  | (with_reducible apply w_c) | (with_reducible apply w_op) | (with_reducible apply w_un) | (with_reducible apply w_t) | (with_reducible apply w_tr) | (with_reducible apply w_and) | (with_reducible apply w_or) | (with_reducible apply w_not)
  | (with_reducible apply w_andV) | (with_reducible apply w_orV) | (with_reducible apply w_notV) | (with_reducible apply w_ifE) | (with_reducible apply w_chain) | (with_reducible apply w_nil) | (with_reducible apply w_cons) | (with_reducible apply w_cb)
  | (with_reducible apply w_tup) | (with_reducible apply w_lst) | (with_reducible apply w_call) | (with_reducible apply w_meth) | (with_reducible apply w_isi) | (with_reducible apply w_isi2) | (with_reducible apply w_slice) | (with_reducible apply w_no) | (with_reducible apply w_part)
  | (with_reducible apply o_add) | (with_reducible apply o_sub) | (with_reducible apply o_neg) | (with_reducible apply o_eqi) | (with_reducible apply o_nei) | (with_reducible apply o_eqs) | (with_reducible apply o_nes) | (with_reducible apply o_eqb) | (with_reducible apply o_neb)
  | (with_reducible apply o_lt) | (with_reducible apply o_gt) | (with_reducible apply o_le) | (with_reducible apply o_ge) | (with_reducible apply o_int) | (with_reducible apply o_max) | (with_reducible apply o_min)
  | ((with_reducible apply o_is); · exact rfl) | ((with_reducible apply o_isn); · exact rfl) | (with_reducible apply o_in) | (with_reducible apply o_nin)
  | (refine ⟨_, (rfl : tyName _ _ = some _), ?_⟩) | (refine ⟨_, (rfl : vTruth _ _ = some _), ?_⟩) | (with_reducible refine ⟨_, rfl, ?_⟩))

theorem sm_refs {c : CS} {n a b : Nat} {xs : List CV} (h1 : c.obj a = .lst xs) (h2 : c.obj b = .lst xs) (hl : xs.length ≤ 1000) (h : ∀ x ∈ xs, isAtom x = true) : Sm c (n + 1) (.ref a) (.ref b) := by
  rw [Sm]
  refine ⟨b, xs, xs, rfl, h1, h2, rfl, hl, fun i u v hu hv => ?_⟩
  rw [hu] at hv
  cases hv
  exact sm_self (h u (List.mem_of_getElem? hu))
theorem sm_tup2 {c : CS} {n : Nat} {xs ys : List CV} (e : xs.length = ys.length) (hl : xs.length ≤ 1000) (h : ∀ (i : Nat) (u v : CV), xs[i]? = some u → ys[i]? = some v → Sm c n u v) : Sm c (n + 1) (.tup xs) (.tup ys) := by
  rw [Sm]
  exact ⟨ys, rfl, e, hl, h⟩
theorem rep_atoms {n : Nat} {v : CV} (h : isAtom v = true) : ∀ x ∈ List.replicate n v, isAtom x = true := fun x hx => by rw [(List.mem_replicate.mp hx).2]; exact h
theorem xf_list {c : CS} {ρ : CEnv} {P : CV → CS → Prop} {C f : Str} {fn : List Str} {ms : MA} (h : wA ms ρ c fun xs c1 => xs.length = fn.length ∧ ∃ v, (fn.zip xs).reverse.lookup f = some v ∧ P v (c1.new (.exn C (fn.zip xs).reverse))) : PM.wE (mXf [C] f (mNew C fn ms)) ρ c P := by
  apply w_xf
  apply w_new
  exact Tot.mono h fun xs c1 ⟨h1, v, h2, h3⟩ => ⟨h1, _, _, _, v, rfl, CS.new_same _ _, List.mem_singleton.mpr rfl, h2, h3⟩
/-- the first half: the fields told -/
theorem er_names {z y : Str} {num : Int} {p : Nat} (c0 : CS) (D : Post) (sb : MS) (h : ∀ (r : Nat) c', Gr c0 c' → wS sb [some (.ref p), some (.str z), some (.str y), some (.int num), some (.ref r), none, none, none, none] c' D) :
    wS (sSeq (sSet 4 (mLst (mCons (mXf ["NoTable"] "name" (mNew "NoTable" ["name"] (mCons (mVar 1) mNil))) (mCons (mXf ["NoColumn"] "name" (mNew "NoColumn" ["name"] (mCons (mVar 1) mNil))) (mCons (mXf ["NameTaken"] "name" (mNew "NameTaken" ["name"] (mCons (mVar 1) mNil))) (mCons (mXf ["WrongKind"] "name" (mNew "WrongKind" ["name"] (mCons (mVar 1) mNil))) (mCons (mXf ["WrongMark"] "name" (mNew "WrongMark" ["name"] (mCons (mVar 1) mNil))) mNil)))))))
  (sSeq (sSet 4 (mOp vAdd (mVar 4) (mLst (mCons (mXf ["WrongValue"] "name" (mNew "WrongValue" ["name"] (mCons (mVar 1) mNil))) (mCons (mXf ["NoNode"] "name" (mNew "NoNode" ["name"] (mCons (mVar 1) mNil))) (mCons (mXf ["NodeDown"] "name" (mNew "NodeDown" ["name"] (mCons (mVar 1) mNil))) (mCons (mXf ["NotLeading"] "name" (mNew "NotLeading" ["name"] (mCons (mVar 1) mNil))) mNil)))))))
  (sSeq (sSet 4 (mOp vAdd (mVar 4) (mLst (mCons (mXf ["NoHolder"] "name" (mNew "NoHolder" ["name"] (mCons (mVar 1) mNil))) (mCons (mXf ["LastHolder"] "name" (mNew "LastHolder" ["name"] (mCons (mVar 1) mNil))) (mCons (mXf ["NoLine"] "name" (mNew "NoLine" ["name"] (mCons (mVar 1) mNil))) (mCons (mXf ["NoTenant"] "name" (mNew "NoTenant" ["name"] (mCons (mVar 1) mNil))) (mCons (mXf ["NoLeader"] "name" (mNew "NoLeader" ["name"] (mCons (mVar 1) mNil))) mNil))))))))
  (sSeq (sSet 4 (mOp vAdd (mVar 4) (mLst (mCons (mXf ["StillUsed"] "name" (mNew "StillUsed" ["name"] (mCons (mVar 1) mNil))) (mCons (mXf ["StillNeeded"] "name" (mNew "StillNeeded" ["name", "position"] (mCons (mVar 1) (mCons (mC (.int 1)) mNil)))) (mCons (mXf ["Hidden"] "table" (mNew "Hidden" ["table"] (mCons (mVar 1) mNil))) (mCons (mXf ["Unsayable"] "table" (mNew "Unsayable" ["table", "column", "key"] (mCons (mVar 1) (mCons (mC (.str "c")) (mCons (mC (.int 1)) mNil))))) mNil)))))))
  (sSeq (sSet 4 (mOp vAdd (mVar 4) (mLst (mCons (mXf ["NoRoad"] "line" (mNew "NoRoad" ["line", "position"] (mCons (mVar 1) (mCons (mC (.int 1)) mNil)))) (mCons (mXf ["Forked"] "line" (mNew "Forked" ["line"] (mCons (mVar 1) mNil))) (mCons (mXf ["MoveOpen"] "tenant" (mNew "MoveOpen" ["tenant"] (mCons (mVar 1) mNil))) (mCons (mXf ["NoMove"] "tenant" (mNew "NoMove" ["tenant"] (mCons (mVar 1) mNil))) mNil)))))))
  (sSeq (sIf (mNot (mTr (mCall 2 (m__law_same 6) (mCons (mOp vAdd (mVar 4) (mLst (mCons (mXf ["WrongPhase"] "phase" (mNew "WrongPhase" ["phase"] (mCons (mVar 1) mNil))) mNil))) (mCons (mOp vMul (mLst (mCons (mVar 1) mNil)) (mC (.int 23))) mNil)))))
  (sRet (mC (.bl false)))
  sNil)
  sb)))))) [some (.ref p), some (.str z), some (.str y), some (.int num), none, none, none, none, none] c0 D := by
  refine ws_join (fun ρ1 c1 => ∃ r, ρ1 = [some (.ref p), some (.str z), some (.str y), some (.int num), some (.ref r), none, none, none, none] ∧ LS c0 c1 r (List.replicate 5 (El.va (.str z)))) ?_ ?_
  · apply ws_set
    exact l_first Gr.refl (aw_cons (e_xf (xs := [.str z]) (fun c PA h => w_cons (w_var rfl (w_nil h))) rfl rfl) (aw_cons (e_xf (xs := [.str z]) (fun c PA h => w_cons (w_var rfl (w_nil h))) rfl rfl) (aw_cons (e_xf (xs := [.str z]) (fun c PA h => w_cons (w_var rfl (w_nil h))) rfl rfl) (aw_cons (e_xf (xs := [.str z]) (fun c PA h => w_cons (w_var rfl (w_nil h))) rfl rfl) (aw_cons (e_xf (xs := [.str z]) (fun c PA h => w_cons (w_var rfl (w_nil h))) rfl rfl) aw_nil))))) (by simp) fun r c' h => ⟨r, rfl, h⟩
  rintro _ c1 ⟨r, rfl, hL⟩
  refine ws_join (fun ρ1 c2 => ∃ r, ρ1 = [some (.ref p), some (.str z), some (.str y), some (.int num), some (.ref r), none, none, none, none] ∧ LS c0 c2 r (List.replicate 9 (El.va (.str z)))) ?_ ?_
  · apply ws_set
    exact l_app (Es := List.replicate 5 (El.va (.str z))) (Fs := List.replicate 4 (El.va (.str z))) rfl hL (aw_cons (e_xf (xs := [.str z]) (fun c PA h => w_cons (w_var rfl (w_nil h))) rfl rfl) (aw_cons (e_xf (xs := [.str z]) (fun c PA h => w_cons (w_var rfl (w_nil h))) rfl rfl) (aw_cons (e_xf (xs := [.str z]) (fun c PA h => w_cons (w_var rfl (w_nil h))) rfl rfl) (aw_cons (e_xf (xs := [.str z]) (fun c PA h => w_cons (w_var rfl (w_nil h))) rfl rfl) aw_nil)))) (by simp) fun r c' h => ⟨r, rfl, h⟩
  clear hL
  rintro _ c1 ⟨r, rfl, hL⟩
  refine ws_join (fun ρ1 c2 => ∃ r, ρ1 = [some (.ref p), some (.str z), some (.str y), some (.int num), some (.ref r), none, none, none, none] ∧ LS c0 c2 r (List.replicate 14 (El.va (.str z)))) ?_ ?_
  · apply ws_set
    exact l_app (Es := List.replicate 9 (El.va (.str z))) (Fs := List.replicate 5 (El.va (.str z))) rfl hL (aw_cons (e_xf (xs := [.str z]) (fun c PA h => w_cons (w_var rfl (w_nil h))) rfl rfl) (aw_cons (e_xf (xs := [.str z]) (fun c PA h => w_cons (w_var rfl (w_nil h))) rfl rfl) (aw_cons (e_xf (xs := [.str z]) (fun c PA h => w_cons (w_var rfl (w_nil h))) rfl rfl) (aw_cons (e_xf (xs := [.str z]) (fun c PA h => w_cons (w_var rfl (w_nil h))) rfl rfl) (aw_cons (e_xf (xs := [.str z]) (fun c PA h => w_cons (w_var rfl (w_nil h))) rfl rfl) aw_nil))))) (by simp) fun r c' h => ⟨r, rfl, h⟩
  clear hL
  rintro _ c1 ⟨r, rfl, hL⟩
  refine ws_join (fun ρ1 c2 => ∃ r, ρ1 = [some (.ref p), some (.str z), some (.str y), some (.int num), some (.ref r), none, none, none, none] ∧ LS c0 c2 r (List.replicate 18 (El.va (.str z)))) ?_ ?_
  · apply ws_set
    exact l_app (Es := List.replicate 14 (El.va (.str z))) (Fs := List.replicate 4 (El.va (.str z))) rfl hL (aw_cons (e_xf (xs := [.str z]) (fun c PA h => w_cons (w_var rfl (w_nil h))) rfl rfl) (aw_cons (e_xf (xs := [.str z, .int 1]) (fun c PA h => w_cons (w_var rfl (w_cons (w_c (w_nil h))))) rfl rfl) (aw_cons (e_xf (xs := [.str z]) (fun c PA h => w_cons (w_var rfl (w_nil h))) rfl rfl) (aw_cons (e_xf (xs := [.str z, .str "c", .int 1]) (fun c PA h => w_cons (w_var rfl (w_cons (w_c (w_cons (w_c (w_nil h))))))) rfl rfl) aw_nil)))) (by simp) fun r c' h => ⟨r, rfl, h⟩
  clear hL
  rintro _ c1 ⟨r, rfl, hL⟩
  refine ws_join (fun ρ1 c2 => ∃ r, ρ1 = [some (.ref p), some (.str z), some (.str y), some (.int num), some (.ref r), none, none, none, none] ∧ LS c0 c2 r (List.replicate 22 (El.va (.str z)))) ?_ ?_
  · apply ws_set
    exact l_app (Es := List.replicate 18 (El.va (.str z))) (Fs := List.replicate 4 (El.va (.str z))) rfl hL (aw_cons (e_xf (xs := [.str z, .int 1]) (fun c PA h => w_cons (w_var rfl (w_cons (w_c (w_nil h))))) rfl rfl) (aw_cons (e_xf (xs := [.str z]) (fun c PA h => w_cons (w_var rfl (w_nil h))) rfl rfl) (aw_cons (e_xf (xs := [.str z]) (fun c PA h => w_cons (w_var rfl (w_nil h))) rfl rfl) (aw_cons (e_xf (xs := [.str z]) (fun c PA h => w_cons (w_var rfl (w_nil h))) rfl rfl) aw_nil)))) (by simp) fun r c' h => ⟨r, rfl, h⟩
  clear hL
  rintro _ c1 ⟨r, rfl, hL⟩
  refine ws_join (fun ρ1 c2 => ρ1 = [some (.ref p), some (.str z), some (.str y), some (.int num), some (.ref r), none, none, none, none] ∧ Gr c0 c2) ?_ ?_
  · apply ws_if
    apply w_not
    apply w_tr
    apply w_call
    apply w_cons
    refine l_app (Es := List.replicate 22 (El.va (.str z))) (Fs := List.replicate 1 (El.va (.str z))) rfl hL (aw_cons (e_xf (xs := [.str z]) (fun c PA h => w_cons (w_var rfl (w_nil h))) rfl rfl) aw_nil) (by simp) fun r2 c2 hL2 => ?_
    apply w_cons
    apply w_op
    apply w_lst
    repeat done
    refine ⟨size_line (by show 1 ≤ 1000; omega), ?_⟩
    apply w_c
    refine o_mull (CS.new_same _ _) ⟨by decide, by decide, size_line (by simp)⟩ ?_
    repeat done
    refine ⟨rfl, t_same 5 _ _ _ _ ?_ ?_⟩
    · have hL3 := (hL2.mon (Gr.new (o := .lst [.str z]))).mon (Gr.new (o := .lst (List.replicate (23 : Int).toNat [CV.str z]).flatten))
      obtain ⟨g3, xs, ho, hlt, hr⟩ := hL3
      have ex : xs = List.replicate 23 (.str z) := RL.vals (vs := List.replicate 23 (.str z)) hr
      subst ex
      exact sm_refs ho (CS.new_same _ _) (by rw [List.length_replicate]; omega) (rep_atoms rfl)
    · repeat done
      refine bf ?_
      apply ws_nil
      exact ⟨rfl, (hL2.gr.trans .new).trans .new⟩
  rintro _ c2 ⟨rfl, g2⟩
  exact h r c2 g2
theorem er_numbers {z y : Str} {num : Int} {p : Nat} (r0 : Option CV) (c0 : CS) (D : Post) (sb : MS) (h : ∀ (r : Nat) c', Gr c0 c' → wS sb [some (.ref p), some (.str z), some (.str y), some (.int num), some (.ref r), none, none, none, none] c' D) :
    wS (sSeq (sSet 4 (mLst (mCons (mXf ["BadFile"] "row" (mNew "BadFile" ["row"] (mCons (mVar 3) mNil))) (mCons (mXf ["NoVersion"] "version" (mNew "NoVersion" ["version"] (mCons (mVar 3) mNil))) (mCons (mXf ["BadOps"] "place" (mNew "BadOps" ["place"] (mCons (mVar 3) mNil))) (mCons (mXf ["NoMoment"] "position" (mNew "NoMoment" ["position"] (mCons (mVar 3) mNil))) mNil))))))
  (sSeq (sSet 4 (mOp vAdd (mVar 4) (mLst (mCons (mXf ["StampBack"] "stamp" (mNew "StampBack" ["stamp"] (mCons (mVar 3) mNil))) (mCons (mXf ["NotCommitted"] "position" (mNew "NotCommitted" ["position"] (mCons (mVar 3) mNil))) (mCons (mXf ["NoItem"] "number" (mNew "NoItem" ["number"] (mCons (mVar 3) mNil))) (mCons (mXf ["NoRoad"] "position" (mNew "NoRoad" ["line", "position"] (mCons (mC (.str "l")) (mCons (mVar 3) mNil)))) mNil)))))))
  (sSeq (sSet 4 (mOp vAdd (mVar 4) (mLst (mCons (mXf ["WrongPads"] "needed" (mNew "WrongPads" ["needed"] (mCons (mVar 3) mNil))) (mCons (mXf ["Held"] "person" (mNew "Held" ["person"] (mCons (mVar 3) mNil))) (mCons (mXf ["Behind"] "moment" (mNew "Behind" ["moment"] (mCons (mVar 3) mNil))) (mCons (mXf ["NoTicket"] "number" (mNew "NoTicket" ["number"] (mCons (mVar 3) mNil))) mNil)))))))
  (sSeq (sSet 4 (mOp vAdd (mVar 4) (mLst (mCons (mXf ["StillNeeded"] "position" (mNew "StillNeeded" ["name", "position"] (mCons (mC (.str "n")) (mCons (mVar 3) mNil)))) (mCons (mXf ["Unsayable"] "key" (mNew "Unsayable" ["table", "column", "key"] (mCons (mC (.str "t")) (mCons (mC (.str "c")) (mCons (mVar 3) mNil))))) mNil)))))
  (sSeq (sIf (mOr (mNot (mTr (mCall 2 (m__law_same 6) (mCons (mVar 4) (mCons (mOp vMul (mLst (mCons (mVar 3) mNil)) (mC (.int 14))) mNil))))) (mNot (mTr (mCall 2 (m__law_same 6) (mCons (mXf ["Unsayable"] "column" (mNew "Unsayable" ["table", "column", "key"] (mCons (mC (.str "t")) (mCons (mVar 1) (mCons (mC (.int 1)) mNil))))) (mCons (mVar 1) mNil))))))
  (sRet (mC (.bl false)))
  sNil)
  sb))))) [some (.ref p), some (.str z), some (.str y), some (.int num), r0, none, none, none, none] c0 D := by
  refine ws_join (fun ρ1 c1 => ∃ r, ρ1 = [some (.ref p), some (.str z), some (.str y), some (.int num), some (.ref r), none, none, none, none] ∧ LS c0 c1 r (List.replicate 4 (El.va (.int num)))) ?_ ?_
  · apply ws_set
    exact l_first Gr.refl (aw_cons (e_xf (xs := [.int num]) (fun c PA h => w_cons (w_var rfl (w_nil h))) rfl rfl) (aw_cons (e_xf (xs := [.int num]) (fun c PA h => w_cons (w_var rfl (w_nil h))) rfl rfl) (aw_cons (e_xf (xs := [.int num]) (fun c PA h => w_cons (w_var rfl (w_nil h))) rfl rfl) (aw_cons (e_xf (xs := [.int num]) (fun c PA h => w_cons (w_var rfl (w_nil h))) rfl rfl) aw_nil)))) (by simp) fun r c' h => ⟨r, rfl, h⟩
  rintro _ c1 ⟨r, rfl, hL⟩
  refine ws_join (fun ρ1 c2 => ∃ r, ρ1 = [some (.ref p), some (.str z), some (.str y), some (.int num), some (.ref r), none, none, none, none] ∧ LS c0 c2 r (List.replicate 8 (El.va (.int num)))) ?_ ?_
  · apply ws_set
    exact l_app (Es := List.replicate 4 (El.va (.int num))) (Fs := List.replicate 4 (El.va (.int num))) rfl hL (aw_cons (e_xf (xs := [.int num]) (fun c PA h => w_cons (w_var rfl (w_nil h))) rfl rfl) (aw_cons (e_xf (xs := [.int num]) (fun c PA h => w_cons (w_var rfl (w_nil h))) rfl rfl) (aw_cons (e_xf (xs := [.int num]) (fun c PA h => w_cons (w_var rfl (w_nil h))) rfl rfl) (aw_cons (e_xf (xs := [.str "l", .int num]) (fun c PA h => w_cons (w_c (w_cons (w_var rfl (w_nil h))))) rfl rfl) aw_nil)))) (by simp) fun r c' h => ⟨r, rfl, h⟩
  clear hL
  rintro _ c1 ⟨r, rfl, hL⟩
  refine ws_join (fun ρ1 c2 => ∃ r, ρ1 = [some (.ref p), some (.str z), some (.str y), some (.int num), some (.ref r), none, none, none, none] ∧ LS c0 c2 r (List.replicate 12 (El.va (.int num)))) ?_ ?_
  · apply ws_set
    exact l_app (Es := List.replicate 8 (El.va (.int num))) (Fs := List.replicate 4 (El.va (.int num))) rfl hL (aw_cons (e_xf (xs := [.int num]) (fun c PA h => w_cons (w_var rfl (w_nil h))) rfl rfl) (aw_cons (e_xf (xs := [.int num]) (fun c PA h => w_cons (w_var rfl (w_nil h))) rfl rfl) (aw_cons (e_xf (xs := [.int num]) (fun c PA h => w_cons (w_var rfl (w_nil h))) rfl rfl) (aw_cons (e_xf (xs := [.int num]) (fun c PA h => w_cons (w_var rfl (w_nil h))) rfl rfl) aw_nil)))) (by simp) fun r c' h => ⟨r, rfl, h⟩
  clear hL
  rintro _ c1 ⟨r, rfl, hL⟩
  refine ws_join (fun ρ1 c2 => ∃ r, ρ1 = [some (.ref p), some (.str z), some (.str y), some (.int num), some (.ref r), none, none, none, none] ∧ LS c0 c2 r (List.replicate 14 (El.va (.int num)))) ?_ ?_
  · apply ws_set
    exact l_app (Es := List.replicate 12 (El.va (.int num))) (Fs := List.replicate 2 (El.va (.int num))) rfl hL (aw_cons (e_xf (xs := [.str "n", .int num]) (fun c PA h => w_cons (w_c (w_cons (w_var rfl (w_nil h))))) rfl rfl) (aw_cons (e_xf (xs := [.str "t", .str "c", .int num]) (fun c PA h => w_cons (w_c (w_cons (w_c (w_cons (w_var rfl (w_nil h))))))) rfl rfl) aw_nil)) (by simp) fun r c' h => ⟨r, rfl, h⟩
  clear hL
  rintro _ c1 ⟨r, rfl, hL⟩
  refine ws_join (fun ρ1 c2 => ρ1 = [some (.ref p), some (.str z), some (.str y), some (.int num), some (.ref r), none, none, none, none] ∧ Gr c0 c2) ?_ ?_
  · apply ws_if
    apply w_or
    apply w_not
    apply w_tr
    apply w_call
    apply w_cons
    refine w_var rfl ?_
    apply w_cons
    apply w_op
    apply w_lst
    repeat done
    refine ⟨size_line (by show 1 ≤ 1000; omega), ?_⟩
    apply w_c
    refine o_mull (CS.new_same _ _) ⟨by decide, by decide, size_line (by simp)⟩ ?_
    repeat done
    have hL3 := (hL.mon (Gr.new (o := .lst [.int num]))).mon (Gr.new (o := .lst (List.replicate (14 : Int).toNat [CV.int num]).flatten))
    refine ⟨rfl, t_same 5 _ _ _ _ ?_ ?_⟩
    · obtain ⟨g3, xs, ho, hlt, hr⟩ := hL3
      have ex : xs = List.replicate 14 (.int num) := RL.vals (vs := List.replicate 14 (.int num)) hr
      subst ex
      exact sm_refs ho (CS.new_same _ _) (by rw [List.length_replicate]; omega) (rep_atoms rfl)
    · repeat done
      refine bf ?_
      apply w_not
      apply w_tr
      apply w_call
      apply w_cons
      refine e_xf (xs := [.str "t", .str z, .int 1]) (fun c PA h => w_cons (w_c (w_cons (w_var rfl (w_cons (w_c (w_nil h))))))) rfl rfl _ _ fun v c4 g4 e4 => ?_
      obtain rfl : v = .str z := e4
      repeat done
      refine ⟨rfl, t_sameA rfl rfl ?_⟩
      repeat done
      refine bf ?_
      apply ws_nil
      exact ⟨rfl, hL3.gr.trans g4⟩
  rintro _ c2 ⟨rfl, g2⟩
  exact h r c2 g2
end L51

namespace L51
open PySem PySem.Spec PyProof.Rows L2 PM

local macro_rules | `(tactic| done) => `(tactic| first
  | (with_reducible apply ws_seq) | (with_reducible apply ws_set) | (with_reducible apply ws_ret) | (with_reducible apply ws_if) | (with_reducible apply ws_expr) | (with_reducible apply ws_sub) | (with_reducible apply ws_nil) | (with_reducible apply ws_retN)
  | ((with_reducible apply w_var); · exact rfl)
  | (with_reducible apply w_c) | (with_reducible apply w_op) | (with_reducible apply w_un) | (with_reducible apply w_t) | (with_reducible apply w_tr) | (with_reducible apply w_and) | (with_reducible apply w_or) | (with_reducible apply w_not)
  | (with_reducible apply w_andV) | (with_reducible apply w_orV) | (with_reducible apply w_notV) | (with_reducible apply w_ifE) | (with_reducible apply w_chain) | (with_reducible apply w_nil) | (with_reducible apply w_cons) | (with_reducible apply w_cb)
  | (with_reducible apply w_tup) | (with_reducible apply w_lst) | (with_reducible apply w_call) | (with_reducible apply w_meth) | (with_reducible apply w_isi) | (with_reducible apply w_isi2) | (with_reducible apply w_slice) | (with_reducible apply w_no) | (with_reducible apply w_part)
  | (with_reducible apply o_add) | (with_reducible apply o_sub) | (with_reducible apply o_neg) | (with_reducible apply o_eqi) | (with_reducible apply o_nei) | (with_reducible apply o_eqs) | (with_reducible apply o_nes) | (with_reducible apply o_eqb) | (with_reducible apply o_neb)
  | (with_reducible apply o_lt) | (with_reducible apply o_gt) | (with_reducible apply o_le) | (with_reducible apply o_ge) | (with_reducible apply o_int) | (with_reducible apply o_max) | (with_reducible apply o_min)
  | ((with_reducible apply o_is); · exact rfl) | ((with_reducible apply o_isn); · exact rfl) | (with_reducible apply o_in) | (with_reducible apply o_nin)
  | (refine ⟨_, (rfl : tyName _ _ = some _), ?_⟩) | (refine ⟨_, (rfl : vTruth _ _ = some _), ?_⟩) | (with_reducible refine ⟨_, rfl, ?_⟩))


theorem sm_pair {c : CS} {z y : Str} : Sm c 5 (.tup [.tup [.str z], .tup [.str y]]) (.tup [.tup [.str z], .tup [.str y]]) := by
  refine sm_tup2 rfl (by simp) fun i u v hu hv => ?_
  rw [hu] at hv
  cases hv
  have hm := List.mem_of_getElem? hu
  simp only [List.mem_cons, List.not_mem_nil, or_false] at hm
  rcases hm with rfl | rfl
  · exact sm_tup (by simp) fun x hx => by rw [List.mem_singleton.mp hx]; rfl
  · exact sm_tup (by simp) fun x hx => by rw [List.mem_singleton.mp hx]; rfl
theorem sm_pair4 {c : CS} {z y : Str} : Sm c 4 (.tup [.tup [.str z], .tup [.str y]]) (.tup [.tup [.str z], .tup [.str y]]) := by
  refine sm_tup2 rfl (by simp) fun i u v hu hv => ?_
  rw [hu] at hv
  cases hv
  have hm := List.mem_of_getElem? hu
  simp only [List.mem_cons, List.not_mem_nil, or_false] at hm
  rcases hm with rfl | rfl
  · exact sm_tup (by simp) fun x hx => by rw [List.mem_singleton.mp hx]; rfl
  · exact sm_tup (by simp) fun x hx => by rw [List.mem_singleton.mp hx]; rfl
theorem er_pair {z y : Str} {num : Int} {p : Nat} (r : Nat) (c0 : CS) (D : Post) (sb : MS) (h : ∀ c', Gr c0 c' → wS sb [some (.ref p), some (.str z), some (.str y), some (.int num), some (.ref r), some (.tup [.tup [.str z], .tup [.str y]]), none, none, none] c' D) :
    wS (sSeq (sSet 5 (mTup (mCons (mTup (mCons (mVar 1) mNil)) (mCons (mTup (mCons (mVar 2) mNil)) mNil))))
  (sSeq (sIf (mNot (mTr (mCall 2 (m__law_same 6) (mCons (mTup (mCons (mXf ["Unsafe"] "one" (mNew "Unsafe" ["one", "other"] (mCons (mOp vIx (mVar 5) (mC (.int 0))) (mCons (mOp vIx (mVar 5) (mC (.int 1))) mNil)))) (mCons (mXf ["Unsafe"] "other" (mNew "Unsafe" ["one", "other"] (mCons (mOp vIx (mVar 5) (mC (.int 0))) (mCons (mOp vIx (mVar 5) (mC (.int 1))) mNil)))) mNil))) (mCons (mVar 5) mNil)))))
  (sRet (mC (.bl false)))
  sNil)
  (sSeq (sIf (mNot (mTr (mCall 2 (m__law_same 6) (mCons (mTup (mCons (mXf ["Mismatch"] "slot" (mNew "Mismatch" ["slot"] (mCons (mVar 5) mNil))) (mCons (mXf ["TooNew"] "names" (mNew "TooNew" ["names"] (mCons (mLst (mCons (mVar 1) (mCons (mVar 2) mNil))) mNil))) mNil))) (mCons (mTup (mCons (mVar 5) (mCons (mLst (mCons (mVar 1) (mCons (mVar 2) mNil))) mNil))) mNil)))))
  (sRet (mC (.bl false)))
  sNil)
  sb))) [some (.ref p), some (.str z), some (.str y), some (.int num), some (.ref r), none, none, none, none] c0 D := by
  refine ws_join (fun ρ1 c2 => ρ1 = [some (.ref p), some (.str z), some (.str y), some (.int num), some (.ref r), some (.tup [.tup [.str z], .tup [.str y]]), none, none, none] ∧ c0 = c2) ?_ ?_
  · repeat done
    refine ⟨size_line (by simp), ?_⟩
    repeat done
    refine ⟨size_line (by simp), ?_⟩
    repeat done
    refine ⟨size_line (by simp), ?_⟩
    exact ⟨rfl, rfl⟩
  rintro _ _ ⟨rfl, rfl⟩
  refine ws_join (fun ρ1 c2 => ρ1 = [some (.ref p), some (.str z), some (.str y), some (.int num), some (.ref r), some (.tup [.tup [.str z], .tup [.str y]]), none, none, none] ∧ Gr c0 c2) ?_ ?_
  · apply ws_if
    apply w_not
    apply w_tr
    apply w_call
    apply w_cons
    apply w_tup
    apply w_cons
    refine xf_list (w_cons (w_op (w_var rfl (w_c (o_ixt rfl (w_cons (w_op (w_var rfl (w_c (o_ixt rfl (w_nil ⟨rfl, .tup [.str z], rfl, ?_⟩)))))))))))
    apply w_cons
    refine xf_list (w_cons (w_op (w_var rfl (w_c (o_ixt rfl (w_cons (w_op (w_var rfl (w_c (o_ixt rfl (w_nil ⟨rfl, .tup [.str y], rfl, ?_⟩)))))))))))
    apply w_nil
    refine ⟨size_line (by simp), ?_⟩
    repeat done
    refine ⟨rfl, t_same 5 _ _ _ _ sm_pair ?_⟩
    repeat done
    refine bf ?_
    apply ws_nil
    exact ⟨rfl, Gr.trans .new .new⟩
  rintro _ c1 ⟨rfl, g1⟩
  refine ws_join (fun ρ1 c2 => ρ1 = [some (.ref p), some (.str z), some (.str y), some (.int num), some (.ref r), some (.tup [.tup [.str z], .tup [.str y]]), none, none, none] ∧ Gr c0 c2) ?_ ?_
  · apply ws_if
    apply w_not
    apply w_tr
    apply w_call
    apply w_cons
    apply w_tup
    apply w_cons
    refine xf_list (w_cons (w_var rfl (w_nil ⟨rfl, (.tup [.tup [.str z], .tup [.str y]]), rfl, ?_⟩)))
    apply w_cons
    refine xf_list (w_cons (w_lst (w_cons (w_var rfl (w_cons (w_var rfl (w_nil ⟨size_line (by simp), w_nil ⟨rfl, _, rfl, ?_⟩⟩)))))))
    apply w_nil
    refine ⟨size_line (by simp), ?_⟩
    apply w_cons
    apply w_tup
    apply w_cons
    refine w_var rfl ?_
    apply w_cons
    refine w_lst (w_cons (w_var rfl (w_cons (w_var rfl (w_nil ⟨size_line (by simp), ?_⟩)))))
    apply w_nil
    refine ⟨size_line (by simp), ?_⟩
    apply w_nil
    refine ⟨rfl, t_same 5 _ _ _ _ ?_ ?_⟩
    · refine sm_tup2 rfl (by simp) fun i u v hu hv => ?_
      match i, hu, hv with
      | 0, hu, hv =>
        cases hu
        cases hv
        exact sm_pair4
      | 1, hu, hv =>
        cases hu
        cases hv
        refine sm_refs (xs := [.str z, .str y]) ?_ (CS.new_same _ _) (by simp) fun x hx => ?_
        · rw [CS.new_ne (Nat.ne_of_lt (Nat.lt_succ_of_lt (Nat.lt_succ_self _))), CS.new_ne (Nat.ne_of_lt (Nat.lt_succ_self _))]
          exact CS.new_same _ _
        · simp only [List.mem_cons, List.not_mem_nil, or_false] at hx
          rcases hx with rfl | rfl <;> rfl
      | i + 2, hu, hv => simp at hu
    · repeat done
      refine bf ?_
      apply ws_nil
      exact ⟨rfl, (((g1.trans .new).trans .new).trans .new).trans .new⟩
  rintro _ c2 ⟨rfl, g2⟩
  exact h c2 g2

end L51

namespace L51
open PySem PySem.Spec PyProof.Rows L2 PM

local macro_rules | `(tactic| done) => `(tactic| first
  | (with_reducible apply ws_seq) | (with_reducible apply ws_set) | (with_reducible apply ws_ret) | (with_reducible apply ws_if) | (with_reducible apply ws_expr) | (with_reducible apply ws_sub) | (with_reducible apply ws_nil) | (with_reducible apply ws_retN)
  | ((with_reducible apply w_var); · exact rfl)
  | (with_reducible apply w_c) | (with_reducible apply w_op) | (with_reducible apply w_un) | (with_reducible apply w_t) | (with_reducible apply w_tr) | (with_reducible apply w_and) | (with_reducible apply w_or) | (with_reducible apply w_not)
  | (with_reducible apply w_andV) | (with_reducible apply w_orV) | (with_reducible apply w_notV) | (with_reducible apply w_ifE) | (with_reducible apply w_chain) | (with_reducible apply w_nil) | (with_reducible apply w_cons) | (with_reducible apply w_cb)
  | (with_reducible apply w_tup) | (with_reducible apply w_lst) | (with_reducible apply w_call) | (with_reducible apply w_meth) | (with_reducible apply w_isi) | (with_reducible apply w_isi2) | (with_reducible apply w_slice) | (with_reducible apply w_no) | (with_reducible apply w_part)
  | (with_reducible apply o_add) | (with_reducible apply o_sub) | (with_reducible apply o_neg) | (with_reducible apply o_eqi) | (with_reducible apply o_nei) | (with_reducible apply o_eqs) | (with_reducible apply o_nes) | (with_reducible apply o_eqb) | (with_reducible apply o_neb)
  | (with_reducible apply o_lt) | (with_reducible apply o_gt) | (with_reducible apply o_le) | (with_reducible apply o_ge) | (with_reducible apply o_int) | (with_reducible apply o_max) | (with_reducible apply o_min)
  | ((with_reducible apply o_is); · exact rfl) | ((with_reducible apply o_isn); · exact rfl) | (with_reducible apply o_in) | (with_reducible apply o_nin)
  | (refine ⟨_, (rfl : tyName _ _ = some _), ?_⟩) | (refine ⟨_, (rfl : vTruth _ _ = some _), ?_⟩) | (with_reducible refine ⟨_, rfl, ?_⟩))

def mg0 : List Str := ["BadText", "HoldersDown", "NoTable", "NoColumn", "NameTaken", "WrongKind", "WrongMark"]
def mg1 : List Str := ["WrongValue", "NoNode", "NodeDown", "NotLeading", "NoHolder", "LastHolder"]
def mg2 : List Str := ["NoLine", "NoTenant", "NoLeader", "StillUsed", "StillNeeded", "Hidden"]
def mg3 : List Str := ["Unsayable", "NoRoad", "Forked", "MoveOpen", "NoMove", "WrongPhase"]
def mg4 : List Str := ["BadFile", "NoVersion", "BadOps", "NoMoment", "StampBack", "NotCommitted", "NoItem"]
def mg5 : List Str := ["WrongPads", "Held", "Behind", "NoTicket", "Unsafe", "Mismatch", "TooNew"]
def mgL : List Str := (((((mg0 ++ mg1) ++ mg2) ++ mg3) ++ mg4) ++ mg5)
theorem mg_len : mgL.length = 39 := by decide
theorem mg_in : (mgL.all fun C => decide (C ∈ D0.isC)) = true := by decide +kernel
theorem mg_tab : ((List.range 39).all fun k => decide ((ksL.map fun d => D0.sub (mgL.getD k "") d) = (List.range 39).map fun j => decide (((j : Nat) : Int) = ((k : Nat) : Int)))) = true := by decide +kernel
theorem sub_se (C : Str) : D0.sub C "StoreError" = true := by
  show (decide _ || decide (("StoreError" : Str) = "StoreError")) = true
  rw [decide_eq_true (p := ("StoreError" : Str) = "StoreError") rfl, Bool.or_true]
theorem td_bls {c : CS} {a : Nat} {bs : List Bool} (h : c.obj a = .lst (bs.map CV.bl)) : toD dK c (.ref a) = some (.list (bs.map PyData.bool)) := by
  have e : ∀ bs : List Bool, toDs (toD 39 c) (bs.map CV.bl) = some (bs.map PyData.bool) := by
    intro bs
    induction bs with
    | nil => rfl
    | cons b bs ih => rw [List.map_cons, toDs, ih]; rfl
  show toD (39 + 1) c (.ref a) = _
  rw [toD]
  simp only [h, e]
  rfl
theorem eqv_bls (bs : List Bool) : PyData.eqv (.list (bs.map PyData.bool)) (.list (bs.map PyData.bool)) = true := by
  rw [PyData.eqv]
  induction bs with
  | nil => rfl
  | cons b bs ih => rw [List.map_cons, PyData.eqvAll, ih, PyData.eqv]; cases b <;> rfl
def xL (l : List Str) : List El := l.map El.xc

theorem er_made {z y : Str} {num : Int} {p r0 : Nat} (c0 : CS) (P : CV → CS → Prop) (h : ∀ c', Gr c0 c' → P (.bl true) c') :
    wS (sSeq (sSet 6 (mLst (mCons (mNew0 "BadText") (mCons (mNew0 "HoldersDown") (mCons (mNew "NoTable" ["name"] (mCons (mVar 1) mNil)) (mCons (mNew "NoColumn" ["name"] (mCons (mVar 1) mNil)) (mCons (mNew "NameTaken" ["name"] (mCons (mVar 1) mNil)) (mCons (mNew "WrongKind" ["name"] (mCons (mVar 1) mNil)) (mCons (mNew "WrongMark" ["name"] (mCons (mVar 1) mNil)) mNil)))))))))
  (sSeq (sSet 6 (mOp vAdd (mVar 6) (mLst (mCons (mNew "WrongValue" ["name"] (mCons (mVar 1) mNil)) (mCons (mNew "NoNode" ["name"] (mCons (mVar 1) mNil)) (mCons (mNew "NodeDown" ["name"] (mCons (mVar 1) mNil)) (mCons (mNew "NotLeading" ["name"] (mCons (mVar 1) mNil)) (mCons (mNew "NoHolder" ["name"] (mCons (mVar 1) mNil)) (mCons (mNew "LastHolder" ["name"] (mCons (mVar 1) mNil)) mNil)))))))))
  (sSeq (sSet 6 (mOp vAdd (mVar 6) (mLst (mCons (mNew "NoLine" ["name"] (mCons (mVar 1) mNil)) (mCons (mNew "NoTenant" ["name"] (mCons (mVar 1) mNil)) (mCons (mNew "NoLeader" ["name"] (mCons (mVar 1) mNil)) (mCons (mNew "StillUsed" ["name"] (mCons (mVar 1) mNil)) (mCons (mNew "StillNeeded" ["name", "position"] (mCons (mVar 1) (mCons (mC (.int 1)) mNil))) (mCons (mNew "Hidden" ["table"] (mCons (mVar 1) mNil)) mNil)))))))))
  (sSeq (sSet 6 (mOp vAdd (mVar 6) (mLst (mCons (mNew "Unsayable" ["table", "column", "key"] (mCons (mVar 1) (mCons (mC (.str "c")) (mCons (mC (.int 1)) mNil)))) (mCons (mNew "NoRoad" ["line", "position"] (mCons (mVar 1) (mCons (mC (.int 1)) mNil))) (mCons (mNew "Forked" ["line"] (mCons (mVar 1) mNil)) (mCons (mNew "MoveOpen" ["tenant"] (mCons (mVar 1) mNil)) (mCons (mNew "NoMove" ["tenant"] (mCons (mVar 1) mNil)) (mCons (mNew "WrongPhase" ["phase"] (mCons (mVar 1) mNil)) mNil)))))))))
  (sSeq (sSet 6 (mOp vAdd (mVar 6) (mLst (mCons (mNew "BadFile" ["row"] (mCons (mC (.int 1)) mNil)) (mCons (mNew "NoVersion" ["version"] (mCons (mC (.int 1)) mNil)) (mCons (mNew "BadOps" ["place"] (mCons (mC (.int 1)) mNil)) (mCons (mNew "NoMoment" ["position"] (mCons (mC (.int 1)) mNil)) (mCons (mNew "StampBack" ["stamp"] (mCons (mC (.int 1)) mNil)) (mCons (mNew "NotCommitted" ["position"] (mCons (mC (.int 1)) mNil)) (mCons (mNew "NoItem" ["number"] (mCons (mC (.int 1)) mNil)) mNil))))))))))
  (sSeq (sSet 6 (mOp vAdd (mVar 6) (mLst (mCons (mNew "WrongPads" ["needed"] (mCons (mC (.int 1)) mNil)) (mCons (mNew "Held" ["person"] (mCons (mC (.int 1)) mNil)) (mCons (mNew "Behind" ["moment"] (mCons (mC (.int 1)) mNil)) (mCons (mNew "NoTicket" ["number"] (mCons (mC (.int 1)) mNil)) (mCons (mNew "Unsafe" ["one", "other"] (mCons (mTup mNil) (mCons (mTup mNil) mNil))) (mCons (mNew "Mismatch" ["slot"] (mCons (mC (.int 1)) mNil)) (mCons (mNew "TooNew" ["names"] (mCons (mLst mNil) mNil)) mNil))))))))))
  (sSeq (sFor (mRange1 (mCons (mCB vLen (mCons (mVar 6) mNil)) mNil)) (gN 7)
  (sSeq (sIf (mOr (mNot (mTr (mIsX D0.isC (fun C => D0.sub C "StoreError") (mOp vIx (mVar 6) (mVar 7))))) (mNot (mTr (mIsX D0.isC (fun _ => true) (mOp vIx (mVar 6) (mVar 7))))))
  (sRet (mC (.bl false)))
  sNil)
  (sIf (mT (mOp vNe (mCall 1 m__law_kinds (mCons (mOp vIx (mVar 6) (mVar 7)) mNil)) (mLc (mRange1 (mCons (mCB vLen (mCons (mVar 6) mNil)) mNil)) (gN 8) tYesM (mOp vEq (mVar 8) (mVar 7)) [8])))
  (sRet (mC (.bl false)))
  sNil)))
  (sRet (mOp vEq (mCB vLen (mCons (mVar 6) mNil)) (mC (.int 39))))))))))) [some (.ref p), some (.str z), some (.str y), some (.int num), some (.ref r0), some (.tup [.tup [.str z], .tup [.str y]]), none, none, none] c0 (dEnd P) := by
  refine ws_join (fun ρ1 c1 => ∃ r, ρ1 = [some (.ref p), some (.str z), some (.str y), some (.int num), some (.ref r0), some (.tup [.tup [.str z], .tup [.str y]]), some (.ref r), none, none] ∧ LS c0 c1 r (xL mg0)) ?_ ?_
  · apply ws_set
    exact l_first Gr.refl (Es := xL mg0) (aw_cons e_new0 (aw_cons e_new0 (aw_cons (e_new (xs := [.str z]) (fun c PA h => w_cons (w_var rfl (w_nil h))) rfl) (aw_cons (e_new (xs := [.str z]) (fun c PA h => w_cons (w_var rfl (w_nil h))) rfl) (aw_cons (e_new (xs := [.str z]) (fun c PA h => w_cons (w_var rfl (w_nil h))) rfl) (aw_cons (e_new (xs := [.str z]) (fun c PA h => w_cons (w_var rfl (w_nil h))) rfl) (aw_cons (e_new (xs := [.str z]) (fun c PA h => w_cons (w_var rfl (w_nil h))) rfl) aw_nil))))))) (by simp [xL, mg0]) fun r c' h => ⟨r, rfl, h⟩
  rintro _ c1 ⟨r, rfl, hL⟩
  refine ws_join (fun ρ1 c2 => ∃ r, ρ1 = [some (.ref p), some (.str z), some (.str y), some (.int num), some (.ref r0), some (.tup [.tup [.str z], .tup [.str y]]), some (.ref r), none, none] ∧ LS c0 c2 r (xL (mg0 ++ mg1))) ?_ ?_
  · apply ws_set
    refine l_app (Es := xL mg0) (Fs := xL mg1) rfl hL (aw_cons (e_new (xs := [.str z]) (fun c PA h => w_cons (w_var rfl (w_nil h))) rfl) (aw_cons (e_new (xs := [.str z]) (fun c PA h => w_cons (w_var rfl (w_nil h))) rfl) (aw_cons (e_new (xs := [.str z]) (fun c PA h => w_cons (w_var rfl (w_nil h))) rfl) (aw_cons (e_new (xs := [.str z]) (fun c PA h => w_cons (w_var rfl (w_nil h))) rfl) (aw_cons (e_new (xs := [.str z]) (fun c PA h => w_cons (w_var rfl (w_nil h))) rfl) (aw_cons (e_new (xs := [.str z]) (fun c PA h => w_cons (w_var rfl (w_nil h))) rfl) aw_nil)))))) (by unfold xL; rw [List.length_map, List.length_map]; decide) fun r c' h => ⟨r, rfl, ?_⟩
    unfold xL at h ⊢
    rw [List.map_append]
    exact h
  clear hL
  rintro _ c1 ⟨r, rfl, hL⟩
  refine ws_join (fun ρ1 c2 => ∃ r, ρ1 = [some (.ref p), some (.str z), some (.str y), some (.int num), some (.ref r0), some (.tup [.tup [.str z], .tup [.str y]]), some (.ref r), none, none] ∧ LS c0 c2 r (xL ((mg0 ++ mg1) ++ mg2))) ?_ ?_
  · apply ws_set
    refine l_app (Es := xL (mg0 ++ mg1)) (Fs := xL mg2) rfl hL (aw_cons (e_new (xs := [.str z]) (fun c PA h => w_cons (w_var rfl (w_nil h))) rfl) (aw_cons (e_new (xs := [.str z]) (fun c PA h => w_cons (w_var rfl (w_nil h))) rfl) (aw_cons (e_new (xs := [.str z]) (fun c PA h => w_cons (w_var rfl (w_nil h))) rfl) (aw_cons (e_new (xs := [.str z]) (fun c PA h => w_cons (w_var rfl (w_nil h))) rfl) (aw_cons (e_new (xs := [.str z, .int 1]) (fun c PA h => w_cons (w_var rfl (w_cons (w_c (w_nil h))))) rfl) (aw_cons (e_new (xs := [.str z]) (fun c PA h => w_cons (w_var rfl (w_nil h))) rfl) aw_nil)))))) (by unfold xL; rw [List.length_map, List.length_map]; decide) fun r c' h => ⟨r, rfl, ?_⟩
    unfold xL at h ⊢
    rw [List.map_append]
    exact h
  clear hL
  rintro _ c1 ⟨r, rfl, hL⟩
  refine ws_join (fun ρ1 c2 => ∃ r, ρ1 = [some (.ref p), some (.str z), some (.str y), some (.int num), some (.ref r0), some (.tup [.tup [.str z], .tup [.str y]]), some (.ref r), none, none] ∧ LS c0 c2 r (xL (((mg0 ++ mg1) ++ mg2) ++ mg3))) ?_ ?_
  · apply ws_set
    refine l_app (Es := xL ((mg0 ++ mg1) ++ mg2)) (Fs := xL mg3) rfl hL (aw_cons (e_new (xs := [.str z, .str "c", .int 1]) (fun c PA h => w_cons (w_var rfl (w_cons (w_c (w_cons (w_c (w_nil h))))))) rfl) (aw_cons (e_new (xs := [.str z, .int 1]) (fun c PA h => w_cons (w_var rfl (w_cons (w_c (w_nil h))))) rfl) (aw_cons (e_new (xs := [.str z]) (fun c PA h => w_cons (w_var rfl (w_nil h))) rfl) (aw_cons (e_new (xs := [.str z]) (fun c PA h => w_cons (w_var rfl (w_nil h))) rfl) (aw_cons (e_new (xs := [.str z]) (fun c PA h => w_cons (w_var rfl (w_nil h))) rfl) (aw_cons (e_new (xs := [.str z]) (fun c PA h => w_cons (w_var rfl (w_nil h))) rfl) aw_nil)))))) (by unfold xL; rw [List.length_map, List.length_map]; decide) fun r c' h => ⟨r, rfl, ?_⟩
    unfold xL at h ⊢
    rw [List.map_append]
    exact h
  clear hL
  rintro _ c1 ⟨r, rfl, hL⟩
  refine ws_join (fun ρ1 c2 => ∃ r, ρ1 = [some (.ref p), some (.str z), some (.str y), some (.int num), some (.ref r0), some (.tup [.tup [.str z], .tup [.str y]]), some (.ref r), none, none] ∧ LS c0 c2 r (xL ((((mg0 ++ mg1) ++ mg2) ++ mg3) ++ mg4))) ?_ ?_
  · apply ws_set
    refine l_app (Es := xL (((mg0 ++ mg1) ++ mg2) ++ mg3)) (Fs := xL mg4) rfl hL (aw_cons (e_new (xs := [.int 1]) (fun c PA h => w_cons (w_c (w_nil h))) rfl) (aw_cons (e_new (xs := [.int 1]) (fun c PA h => w_cons (w_c (w_nil h))) rfl) (aw_cons (e_new (xs := [.int 1]) (fun c PA h => w_cons (w_c (w_nil h))) rfl) (aw_cons (e_new (xs := [.int 1]) (fun c PA h => w_cons (w_c (w_nil h))) rfl) (aw_cons (e_new (xs := [.int 1]) (fun c PA h => w_cons (w_c (w_nil h))) rfl) (aw_cons (e_new (xs := [.int 1]) (fun c PA h => w_cons (w_c (w_nil h))) rfl) (aw_cons (e_new (xs := [.int 1]) (fun c PA h => w_cons (w_c (w_nil h))) rfl) aw_nil))))))) (by unfold xL; rw [List.length_map, List.length_map]; decide) fun r c' h => ⟨r, rfl, ?_⟩
    unfold xL at h ⊢
    rw [List.map_append]
    exact h
  clear hL
  rintro _ c1 ⟨r, rfl, hL⟩
  refine ws_join (fun ρ1 c2 => ∃ r, ρ1 = [some (.ref p), some (.str z), some (.str y), some (.int num), some (.ref r0), some (.tup [.tup [.str z], .tup [.str y]]), some (.ref r), none, none] ∧ LS c0 c2 r (xL (((((mg0 ++ mg1) ++ mg2) ++ mg3) ++ mg4) ++ mg5))) ?_ ?_
  · apply ws_set
    refine l_app (Es := xL ((((mg0 ++ mg1) ++ mg2) ++ mg3) ++ mg4)) (Fs := xL mg5) rfl hL (aw_cons (e_new (xs := [.int 1]) (fun c PA h => w_cons (w_c (w_nil h))) rfl) (aw_cons (e_new (xs := [.int 1]) (fun c PA h => w_cons (w_c (w_nil h))) rfl) (aw_cons (e_new (xs := [.int 1]) (fun c PA h => w_cons (w_c (w_nil h))) rfl) (aw_cons (e_new (xs := [.int 1]) (fun c PA h => w_cons (w_c (w_nil h))) rfl) (aw_cons (e_new (xs := [.tup [], .tup []]) (fun c PA h => w_cons (w_tup (w_nil ⟨Nat.zero_le _, w_cons (w_tup (w_nil ⟨Nat.zero_le _, w_nil h⟩))⟩))) rfl) (aw_cons (e_new (xs := [.int 1]) (fun c PA h => w_cons (w_c (w_nil h))) rfl) (aw_cons (e_newG fun c PA h => w_cons (w_lst (w_nil ⟨Nat.zero_le _, w_nil (h _ _ .new rfl)⟩))) aw_nil))))))) (by unfold xL; rw [List.length_map, List.length_map]; decide) fun r c' h => ⟨r, rfl, ?_⟩
    unfold xL at h ⊢
    rw [List.map_append]
    exact h
  clear hL
  rintro _ c1 ⟨r, rfl, hL⟩
  replace hL : LS c0 c1 r (xL mgL) := hL
  have hlen : (xL mgL).length = 39 := by unfold xL; rw [List.length_map, mg_len]
  refine ws_join (fun ρ1 c2 => (∃ o7 o8, ρ1 = [some (.ref p), some (.str z), some (.str y), some (.int num), some (.ref r0), some (.tup [.tup [.str z], .tup [.str y]]), some (.ref r), o7, o8]) ∧ LS c0 c2 r (xL mgL)) ?_ ?_
  · apply ws_for
    apply wi_r1
    repeat done
    obtain ⟨g0, xs, ho, hlt, hr⟩ := id hL
    have hxl : xs.length = 39 := by rw [hr.len, hlen]
    refine o_lenl ho ?_
    repeat done
    rw [hxl]
    refine ⟨by decide, ?_⟩
    refine for_inv (J := fun k ρ1 c2 => (∃ o7 o8, ρ1 = [some (.ref p), some (.str z), some (.str y), some (.int num), some (.ref r0), some (.tup [.tup [.str z], .tup [.str y]]), some (.ref r), o7, o8]) ∧ LS c0 c2 r (xL mgL)) ⟨⟨_, _, rfl⟩, hL⟩ (fun _ _ _ _ => trivial) ?_ (fun ρ c q => q)
    rintro k x _ c2 hx ⟨⟨o7, o8, rfl⟩, hL2⟩
    obtain ⟨hk, rfl⟩ := iInt_get hx
    have hk39 : k < 39 := hk
    obtain ⟨g2, ys, ho2, hlt2, hr2⟩ := id hL2
    have hC : mgL[k]? = some (mgL.getD k "") := by
      rw [List.getD_eq_getElem?_getD, List.getElem?_eq_getElem (by rw [mg_len]; exact hk39)]
      rfl
    generalize hCC : mgL.getD k "" = C at hC
    have hE : (xL mgL)[k]? = some (El.xc C) := by unfold xL; rw [List.getElem?_map, hC]; rfl
    obtain ⟨yv, hy, q, fs, rfl, hq, hql⟩ := hr2.get hE
    have hCin : C ∈ D0.isC := of_decide_eq_true (List.all_eq_true.mp mg_in C (List.mem_of_getElem? hC))
    have hat := atI_nat hy
    generalize hik : (0 + (k : Int)) = ik at hat
    refine ws_join (fun ρ1 c3 => ρ1 = [some (.ref p), some (.str z), some (.str y), some (.int num), some (.ref r0), some (.tup [.tup [.str z], .tup [.str y]]), some (.ref r), some (.int ik), o8] ∧ c2 = c3) ?_ ?_
    · show wS _ [some (.ref p), some (.str z), some (.str y), some (.int num), some (.ref r0), some (.tup [.tup [.str z], .tup [.str y]]), some (.ref r), some (.int ik), o8] c2 _
      apply ws_if
      apply w_or
      apply w_not
      apply w_tr
      apply w_isX
      apply w_op
      refine w_var rfl (w_var rfl (o_ixl ho2 hat ?_))
      refine ⟨q, C, fs, rfl, hq, hCin, _, rfl, ?_⟩
      rw [sub_se]
      refine bf ?_
      apply w_not
      apply w_tr
      apply w_isX
      apply w_op
      refine w_var rfl (w_var rfl (o_ixl ho2 hat ?_))
      refine ⟨q, C, fs, rfl, hq, hCin, _, rfl, ?_⟩
      refine bf ?_
      apply ws_nil
      exact ⟨rfl, rfl⟩
    rintro _ _ ⟨rfl, rfl⟩
    apply ws_if
    apply w_t
    apply w_op
    apply w_call
    apply w_cons
    apply w_op
    refine w_var rfl (w_var rfl (o_ixl ho2 hat ?_))
    apply w_nil
    refine ⟨rfl, t_kinds hCin c2 hq hql _ fun a c3 g3 ha hal => ?_⟩
    refine lc_inv ?_
    apply wi_r1
    repeat done
    have ho3 : c3.obj r = .lst ys := by rw [g3.ob r hlt2]; exact ho2
    refine o_lenl ho3 ?_
    have hyl : ys.length = 39 := by rw [hr2.len, hlen]
    rw [hyl]
    repeat done
    refine ⟨by decide, ?_⟩
    refine ⟨fun i acc c4 => acc = ((List.range i).map fun j => CV.bl (decide (((j : Nat) : Int) = ik))) ∧ Gr c3 c4 ∧ c3.next < c4.next ∧ c4.obj c3.next = .lst acc ∧ i ≤ 39, ?_, ?_, ?_, ?_⟩
    · exact ⟨rfl, .new, Nat.lt_succ_self _, CS.new_same _ _, Nat.zero_le _⟩
    · exact fun _ _ _ _ => trivial
    · rintro i x acc c4 hx ⟨rfl, g4, n4, o4, hi⟩
      obtain ⟨hi2, rfl⟩ := iInt_get hx
      have hi3 : i < 39 := hi2
      unfold PM.wT tYesM
      refine Tot.of ⟨fun _ => ?_, fun z => nomatch z⟩
      show PM.wE _ [some (.ref p), some (.str z), some (.str y), some (.int num), some (.ref r0), some (.tup [.tup [.str z], .tup [.str y]]), some (.ref r), some (.int ik), some (.int (0 + (i : Int)))] _ _
      apply w_op
      refine w_var rfl (w_var rfl (o_eqi ?_))
      rw [Int.zero_add]
      refine ⟨o4, by rw [List.length_map, List.length_range]; have := size_line (n := 1000) (by omega); omega, by rw [List.range_succ, List.map_append]; rfl, Gr.set g4 (Nat.le_refl _), n4, CS.set_same _ _ _, hi3⟩
    · rintro acc c4 ⟨rfl, g4, n4, o4, hi⟩
      rw [iInt_len] at o4
      have tab := of_decide_eq_true (List.all_eq_true.mp mg_tab k (List.mem_range.mpr hk39))
      rw [hCC] at tab
      have ek : ik = ((k : Nat) : Int) := by omega
      have e1 : c4.obj a = .lst ((ksL.map fun d => D0.sub C d).map CV.bl) := by rw [g4.ob a hal, ha, List.map_map]; rfl
      have e2 : c4.obj c3.next = .lst ((ksL.map fun d => D0.sub C d).map CV.bl) := by rw [o4, tab, List.map_map, ek]; rfl
      refine o_ne (td_bls e1) (td_bls e2) ?_
      rw [eqv_bls]
      refine ⟨_, rfl, bf ?_⟩
      apply ws_nil
      exact ⟨⟨_, _, rfl⟩, hL2.mon (g3.trans g4)⟩
  rintro _ c2 ⟨⟨o7, o8, rfl⟩, hL2⟩
  obtain ⟨g2, ys, ho2, hlt2, hr2⟩ := id hL2
  have hyl : ys.length = 39 := by rw [hr2.len, hlen]
  repeat done
  refine o_lenl ho2 ?_
  rw [hyl]
  repeat done
  exact h _ g2
end L51

namespace L51
open PySem PySem.Spec PyProof.Rows L2 PM

local macro_rules | `(tactic| done) => `(tactic| first
  | (with_reducible apply ws_seq) | (with_reducible apply ws_set) | (with_reducible apply ws_ret) | (with_reducible apply ws_if) | (with_reducible apply ws_expr) | (with_reducible apply ws_sub) | (with_reducible apply ws_nil) | (with_reducible apply ws_retN)
  | ((with_reducible apply w_var); · exact rfl)
  | (with_reducible apply w_c) | (with_reducible apply w_op) | (with_reducible apply w_un) | (with_reducible apply w_t) | (with_reducible apply w_tr) | (with_reducible apply w_and) | (with_reducible apply w_or) | (with_reducible apply w_not)
  | (with_reducible apply w_andV) | (with_reducible apply w_orV) | (with_reducible apply w_notV) | (with_reducible apply w_ifE) | (with_reducible apply w_chain) | (with_reducible apply w_nil) | (with_reducible apply w_cons) | (with_reducible apply w_cb)
  | (with_reducible apply w_tup) | (with_reducible apply w_lst) | (with_reducible apply w_call) | (with_reducible apply w_meth) | (with_reducible apply w_isi) | (with_reducible apply w_isi2) | (with_reducible apply w_slice) | (with_reducible apply w_no) | (with_reducible apply w_part)
  | (with_reducible apply o_add) | (with_reducible apply o_sub) | (with_reducible apply o_neg) | (with_reducible apply o_eqi) | (with_reducible apply o_nei) | (with_reducible apply o_eqs) | (with_reducible apply o_nes) | (with_reducible apply o_eqb) | (with_reducible apply o_neb)
  | (with_reducible apply o_lt) | (with_reducible apply o_gt) | (with_reducible apply o_le) | (with_reducible apply o_ge) | (with_reducible apply o_int) | (with_reducible apply o_max) | (with_reducible apply o_min)
  | ((with_reducible apply o_is); · exact rfl) | ((with_reducible apply o_isn); · exact rfl) | (with_reducible apply o_in) | (with_reducible apply o_nin)
  | (refine ⟨_, (rfl : tyName _ _ = some _), ?_⟩) | (refine ⟨_, (rfl : vTruth _ _ = some _), ?_⟩) | (with_reducible refine ⟨_, rfl, ?_⟩))


theorem t_errors_right {ns : List Int} {p : Nat} {c : CS} (hp : Pool ns p c) (P : CV → CS → Prop) (h : ∀ c', Pool ns p c' → Fr p c c' → P (.bl true) c') : Tot (m__law_errors_right [.ref p] c) P := by
  unfold m__law_errors_right
  refine w_run ?_
  show wS _ [some (.ref p), none, none, none, none, none, none, none, none] _ _
  refine ws_join (fun ρ1 c1 => ∃ z : Str, ρ1 = [some (.ref p), some (.str z), none, none, none, none, none, none, none] ∧ Pool ns p c1 ∧ Fr p c c1) ?_ ?_
  · repeat done
    exact ⟨rfl, t_text (m := 4) hp rfl (by omega) _ fun ds c1 b1 b2 b3 b4 => ⟨_, rfl, b3, b4⟩⟩
  rintro _ c1 ⟨z, rfl, p1, f1⟩
  refine ws_join (fun ρ1 c1 => ∃ y : Str, ρ1 = [some (.ref p), some (.str z), some (.str y), none, none, none, none, none, none] ∧ Pool ns p c1 ∧ Fr p c c1) ?_ ?_
  · repeat done
    exact ⟨rfl, t_text (m := 3) p1 rfl (by omega) _ fun ds c1 b1 b2 b3 b4 => ⟨_, rfl, b3, f1.trans b4⟩⟩
  rintro _ c2 ⟨y, rfl, p2, f2⟩
  refine ws_join (fun ρ1 c1 => ∃ num : Int, ρ1 = [some (.ref p), some (.str z), some (.str y), some (.int num), none, none, none, none, none] ∧ Pool ns p c1 ∧ Fr p c c1) ?_ ?_
  · repeat done
    refine o_pow (i := 10) (j := 6) (by decide) ?_
    repeat done
    exact ⟨rfl, t_draw p2 (by decide) (by decide +kernel) _ fun v c3 a1 a2 a3 a4 a5 => ⟨v, rfl, a3, f2.trans a4⟩⟩
  rintro _ c3 ⟨num, rfl, p3, f3⟩
  refine er_names c3 _ _ fun r c4 g4 => ?_
  refine er_numbers _ c4 _ _ fun r2 c5 g5 => ?_
  refine er_pair r2 c5 _ _ fun c6 g6 => ?_
  refine er_made c6 P fun c7 g7 => ?_
  have g := ((g4.trans g5).trans g6).trans g7
  exact h _ (p3.gr g) (f3.gr g)
theorem t_next {ns : List Int} {p : Nat} {c : CS} (hp : Pool ns p c) (P : CV → CS → Prop) (h : ∀ v c', Pool ns p c' → Fr p c c' → P v c') : Tot (m__law_next [.ref p] c) P := by
  obtain ⟨q1, q2, ⟨i, q, f, q3⟩, q4⟩ := hp
  unfold m__law_next
  refine w_run ?_
  show wS _ [some (.ref p)] _ _
  repeat done
  refine o_ixl q3 rfl ?_
  repeat done
  refine ⟨_, st_list q3 rfl, ?_⟩
  have q3' : (c.set p (.lst [.ref 0, .int (i + 1), .int q, .int f])).obj p = .lst [.ref 0, .int (i + 1), .int q, .int f] := CS.set_same _ _ _
  repeat done
  refine o_ixl q3' rfl ?_
  repeat done
  refine o_ixl q3' rfl ?_
  repeat done
  refine ⟨rfl, t_rest (ns := ns) (by rw [← q4]; exact CS.set_ne (by omega)) _ _ _ fun v => ?_⟩
  repeat done
  refine ⟨_, st_list q3' rfl, ?_⟩
  repeat done
  refine ⟨_, st_list (CS.set_same _ _ _) rfl, ?_⟩
  refine h _ _ ⟨q1, q2, ⟨_, _, _, CS.set_same _ _ _⟩, ?_⟩ (Fr.trans (Fr.trans .set .set) .set)
  rw [CS.set_ne (by omega), CS.set_ne (by omega), CS.set_ne (by omega)]
  exact q4
theorem t_pool (ns : List Int) (P : CV → CS → Prop) (h : ∀ p c', Pool ns p c' → P (.ref p) c') : Tot (m__law_pool [.ref 0] (cs0 ns)) P := by
  unfold m__law_pool
  refine w_run ?_
  show wS _ [some (.ref 0)] _ _
  repeat done
  refine ⟨rfl, t_rest (ns := ns) rfl _ _ _ fun v => ?_⟩
  repeat done
  refine ⟨size_line (by simp), ?_⟩
  exact h _ _ ⟨Nat.lt_succ_self _, Nat.zero_lt_one, ⟨_, _, _, CS.new_same _ _⟩, rfl⟩
theorem t_ask_same (k : Kd) (v : CV) (c : CS) (hv : askN c v) (ρ : CEnv) (h4 : ρ[4]? = some (some v)) (h5 : ρ[5]? = some (some k.v)) (D : Post) (h : ∀ c', Gr c c' → D.nx ρ c') :
    wS (sIf (mNot (mTr (mCall 2 (m__law_same 6) (mCons (mCall 2 m_is_value (mCons (mVar 5) (mCons (mVar 4) mNil))) (mCons (mCall 2 m__law_due_value (mCons (mVar 5) (mCons (mVar 4) mNil))) mNil)))))
  (sRet (mC (.bl false)))
  sNil) ρ c D := by
  apply ws_if
  apply w_not
  apply w_tr
  apply w_call
  apply w_cons
  apply w_call
  refine w_cons (w_var h5 (w_cons (w_var h4 (w_nil ⟨rfl, t_is_value k v c hv.1 _ ?_⟩))))
  apply w_cons
  apply w_call
  refine w_cons (w_var h5 (w_cons (w_var h4 (w_nil ⟨rfl, t_due_value k v c hv.1 _ fun c1 g => ?_⟩))))
  apply w_nil
  refine ⟨rfl, t_sameA rfl rfl ?_⟩
  refine ⟨_, rfl, bf ?_⟩
  apply ws_nil
  exact h c1 g
theorem law_mirror (ns : List Int) : Tot (m_law [.ref 0] (cs0 ns)) fun v _ => v = .bl true := by
  unfold m_law
  refine w_run ?_
  show wS _ [some (.ref 0), none, none, none, none, none] _ _
  refine ws_join (fun ρ1 c1 => ∃ p, ρ1 = [some (.ref 0), some (.ref p), none, none, none, none] ∧ Pool ns p c1) ?_ ?_
  · repeat done
    exact ⟨rfl, t_pool ns _ fun p c1 h1 => ⟨p, rfl, h1⟩⟩
  rintro _ c1 ⟨p, rfl, p1⟩
  refine ws_join (fun ρ1 c2 => ρ1 = [some (.ref 0), some (.ref p), none, none, none, none] ∧ Pool ns p c2) ?_ ?_
  · apply ws_if
    apply w_or
    apply w_not
    apply w_tr
    repeat done
    refine ⟨rfl, t_errors_right p1 _ fun c2 p2 f2 => ?_⟩
    refine ⟨_, rfl, bf ?_⟩
    apply w_not
    apply w_tr
    repeat done
    refine ⟨rfl, t_alphabet _ _ ?_⟩
    repeat done
    refine ⟨rfl, t_sameA rfl rfl ?_⟩
    refine ⟨_, rfl, bf ?_⟩
    apply ws_nil
    exact ⟨rfl, p2⟩
  rintro _ c2 ⟨rfl, p2⟩
  refine ws_join (fun ρ1 c3 => ∃ o2 o3 o4 o5, ρ1 = [some (.ref 0), some (.ref p), o2, o3, o4, o5] ∧ Pool ns p c3) ?_ ?_
  · apply ws_for
    apply wi_r1
    repeat done
    refine ⟨by decide, ?_⟩
    refine for_inv (J := fun k ρ1 c3 => ∃ o2 o3 o4 o5, ρ1 = [some (.ref 0), some (.ref p), o2, o3, o4, o5] ∧ Pool ns p c3) ⟨_, _, _, _, rfl, p2⟩ (fun _ _ _ _ => trivial) ?_ (fun ρ c q => q)
    rintro k x _ c3 hx ⟨o2, o3, o4, o5, rfl, p3⟩
    refine ws_join (fun ρ1 c4 => ρ1 = [some (.ref 0), some (.ref p), some x, o3, o4, o5] ∧ Pool ns p c4) ?_ ?_
    · show wS _ [some (.ref 0), some (.ref p), some x, o3, o4, o5] _ _
      repeat done
      exact ⟨rfl, t_next p3 _ fun v c4 p4 f4 => ⟨rfl, p4⟩⟩
    rintro _ c4 ⟨rfl, p4⟩
    refine ws_join (fun ρ1 c5 => ∃ kd : Kd, ρ1 = [some (.ref 0), some (.ref p), some x, some kd.v, o4, o5] ∧ Pool ns p c5) ?_ ?_
    · repeat done
      refine ⟨size_line (by simp), ?_⟩
      repeat done
      refine ⟨rfl, t_pick (p4.gr .new) (CS.new_same _ _) (by have := p4.lt; omega) (Nat.lt_succ_self _) (by decide) (by decide) _ fun u c5 hu p5 f5 => ?_⟩
      simp only [List.mem_cons, List.not_mem_nil, or_false] at hu
      rcases hu with rfl | rfl | rfl | rfl
      · exact ⟨.i, rfl, p5⟩
      · exact ⟨.t, rfl, p5⟩
      · exact ⟨.t, rfl, p5⟩
      · exact ⟨.f, rfl, p5⟩
    rintro _ c5 ⟨kd, rfl, p5⟩
    refine ws_join (fun ρ1 c6 => ρ1 = [some (.ref 0), some (.ref p), some x, some kd.v, o4, o5] ∧ Pool ns p c6) ?_ ?_
    · apply ws_if
      apply w_or
      apply w_not
      apply w_tr
      repeat done
      refine ⟨rfl, t_codes_right p5 kd _ fun c6 p6 f6 => ?_⟩
      refine ⟨_, rfl, bf ?_⟩
      apply w_or
      apply w_not
      apply w_tr
      repeat done
      refine ⟨rfl, t_cells_right p6 kd _ fun c7 p7 f7 => ?_⟩
      refine ⟨_, rfl, bf ?_⟩
      apply w_not
      apply w_tr
      repeat done
      refine ⟨rfl, t_names_right p7 _ fun c8 p8 f8 => ?_⟩
      refine ⟨_, rfl, bf ?_⟩
      apply ws_nil
      exact ⟨rfl, p8⟩
    rintro _ c6 ⟨rfl, p6⟩
    apply ws_for
    apply wi_iter
    repeat done
    refine ⟨rfl, t_near p6 _ fun r xs c7 ho hr hr2 hall p7 f7 => ?_⟩
    have hg : getL c7 r = some xs := getL_of ho
    refine ⟨_, by unfold iterC; simp only [hg]; rfl, ?_⟩
    have getG : ∀ c8, Gr c7 c8 → getL c8 r = some xs := fun c8 g => getL_of (by rw [g.ob r hr2]; exact ho)
    refine for_inv (J := fun k ρ1 c8 => (∃ o4 o5, ρ1 = [some (.ref 0), some (.ref p), some x, some kd.v, o4, o5]) ∧ Gr c7 c8) ⟨⟨_, _, rfl⟩, .refl⟩ (fun _ _ c8 ⟨_, g⟩ => getG c8 g) ?_ ?_
    · rintro k v _ c8 hv ⟨⟨o4, o5, rfl⟩, g8⟩
      have av := (hall v (List.mem_of_getElem? hv)).gr g8
      show wS _ [some (.ref 0), some (.ref p), some x, some kd.v, some v, o5] _ _
      apply ws_for
      apply wi_iter
      repeat done
      refine ⟨size_line (by simp), ?_⟩
      have hg2 : getL (c8.new (.lst [.str "int", .str "text", .str "flag"])) c8.next = some [.str "int", .str "text", .str "flag"] := getL_of (CS.new_same _ _)
      refine ⟨_, by unfold iterC; simp only [hg2]; rfl, ?_⟩
      refine for_inv (J := fun k ρ1 c9 => (∃ o5, ρ1 = [some (.ref 0), some (.ref p), some x, some kd.v, some v, o5]) ∧ Gr (c8.new (.lst [.str "int", .str "text", .str "flag"])) c9) ⟨⟨_, rfl⟩, .refl⟩ (fun _ _ c9 ⟨_, g⟩ => getL_of (by rw [g.ob _ (Nat.lt_succ_self _)]; exact CS.new_same _ _)) ?_ ?_
      · rintro j w _ c9 hw ⟨⟨o5, rfl⟩, g9⟩
        have a9 := (av.gr (.new (o := .lst [.str "int", .str "text", .str "flag"]))).gr g9
        have hw2 : ∃ kw : Kd, w = kw.v := by
          have hm := List.mem_of_getElem? hw
          simp only [List.mem_cons, List.not_mem_nil, or_false] at hm
          rcases hm with rfl | rfl | rfl
          · exact ⟨.i, rfl⟩
          · exact ⟨.t, rfl⟩
          · exact ⟨.f, rfl⟩
        obtain ⟨kw, rfl⟩ := hw2
        exact t_ask_same kw v c9 a9 _ rfl rfl _ fun c10 g10 => ⟨⟨_, rfl⟩, g9.trans g10⟩
      · rintro _ c9 ⟨⟨o5, rfl⟩, g9⟩
        exact ⟨⟨_, _, rfl⟩, (g8.trans .new).trans g9⟩
    · rintro _ c8 ⟨⟨o4, o5, rfl⟩, g8⟩
      exact ⟨_, _, _, _, rfl, p7.gr g8⟩
  rintro _ c3 ⟨o2, o3, o4, o5, rfl, p3⟩
  repeat done
  rfl
end L51

namespace L51
open PySem PySem.Spec PyProof.Rows L2 He PM
section
variable {w : World} {K : PySem.W.Frag} {mg : Str → Option Value} {base h : Heap}
theorem O_law (T : D0.Ok K h mg) {f : Addr} {fd : FuncData} (F : Fun K "law" "law" s_law f fd) : FnOk P0 w K mg base (L2.CX P0 w) 8 f fd ["script"] (spM (cfgOf D0.exs K) 1 m_law) :=
  fnM F sc_law (fun cdv A outer s H E hr =>
  (cs_cons (cs_set (i := 1) sc_law.nd rfl (Or.inl rfl) (ce_call ((D__law_pool T).mono (by decide)) (takes_of rfl rfl rfl rfl) hr (by rfl) (ca_cons (ce_var (pv 0)) ca_nil)))
  (cs_cons (cs_if (PW.pt (cw_or (ct_not (ct_truth (ce_call ((D__law_errors_right T).mono (by decide)) (takes_of rfl rfl rfl rfl) hr (by rfl) (ca_cons (ce_var (pv 1)) ca_nil)))) (pw_or1 (ct_not (ct_truth (ce_call ((D__law_same T 6).mono (by decide)) (takes_of rfl rfl rfl rfl) hr (by rfl) (ca_cons (ce_gstr (g_ALPHABET T) (by rfl)) (ca_cons (ce_call0 ((D__law_alphabet T).mono (by decide)) (takes_of rfl rfl rfl rfl) hr (by rfl)) ca_nil))))))))
  (cs_one (cs_ret ce_bl))
  cs_nil)
  (cs_cons (cs_for (passes_of rfl) rfl (ci_range1 (by rfl) (n_range T) (ca_cons ce_int ca_nil)) (cg_name (i := 2) sc_law.nd rfl (Or.inl rfl))
  (cs_cons (cs_expr (ce_call ((D__law_next T).mono (by decide)) (takes_of rfl rfl rfl rfl) hr (by rfl) (ca_cons (ce_var (pv 1)) ca_nil)))
  (cs_cons (cs_set (i := 3) sc_law.nd rfl (Or.inl rfl) (ce_call ((D__law_pick T).mono (by decide)) (takes_of rfl rfl rfl rfl) hr (by rfl) (ca_cons (ce_var (pv 1)) (ca_cons (ce_lst (ca_cons ce_str (ca_cons ce_str (ca_cons ce_str (ca_cons ce_str ca_nil))))) ca_nil))))
  (cs_cons (cs_if (PW.pt (cw_or (ct_not (ct_truth (ce_call ((D__law_codes_right T).mono (by decide)) (takes_of rfl rfl rfl rfl) hr (by rfl) (ca_cons (ce_var (pv 1)) (ca_cons (ce_var (pv 3)) ca_nil))))) (cw_or (ct_not (ct_truth (ce_call ((D__law_cells_right T).mono (by decide)) (takes_of rfl rfl rfl rfl) hr (by rfl) (ca_cons (ce_var (pv 1)) (ca_cons (ce_var (pv 3)) ca_nil))))) (pw_or1 (ct_not (ct_truth (ce_call ((D__law_names_right T).mono (by decide)) (takes_of rfl rfl rfl rfl) hr (by rfl) (ca_cons (ce_var (pv 1)) ca_nil))))))))
  (cs_one (cs_ret ce_bl))
  cs_nil)
  (cs_one (cs_for (passes_of rfl) rfl (ci_any (ce_call ((D__law_near T).mono (by decide)) (takes_of rfl rfl rfl rfl) hr (by rfl) (ca_cons (ce_var (pv 1)) ca_nil))) (cg_name (i := 4) sc_law.nd rfl (Or.inl rfl))
  (cs_one (cs_for (passes_of rfl) rfl (ci_any (ce_lst (ca_cons ce_str (ca_cons ce_str (ca_cons ce_str ca_nil))))) (cg_name (i := 5) sc_law.nd rfl (Or.inl rfl))
  (cs_one (cs_if (ct_not (ct_truth (ce_call ((D__law_same T 6).mono (by decide)) (takes_of rfl rfl rfl rfl) hr (by rfl) (ca_cons (ce_call ((D_is_value T).mono (by decide)) (takes_of rfl rfl rfl rfl) hr (by rfl) (ca_cons (ce_var (pv 5)) (ca_cons (ce_var (pv 4)) ca_nil))) (ca_cons (ce_call ((D__law_due_value T).mono (by decide)) (takes_of rfl rfl rfl rfl) hr (by rfl) (ca_cons (ce_var (pv 5)) (ca_cons (ce_var (pv 4)) ca_nil))) ca_nil)))))
  (cs_one (cs_ret ce_bl))
  cs_nil))))))))))
  (cs_one (cs_ret ce_bl))))))
theorem B_law {f : Addr} {fd : FuncData} (F : Fun K "law" "law" s_law f fd) : ∀ (s : Shared) (u : Value), BindsTo s fd ⟨[u], []⟩ [("script", u)] := by
  obtain ⟨oc, od, kV, doc, pm, an, cdv, ct, osl, rfl, lk, hcd⟩ := F.ex
  exact fun s u => .of_eq rfl
end
end L51
open PySem PySem.W PySem.Calls PyProof.Rows
theorem PySem.Challenge.cw_storelife_k51_values_codes_and_pads_holds : PySem.Challenge.rw_storelife_k51_values_codes_and_pads.Holds := by
  w_on; o_law
  refine HandSHeadRun.head_any (r := OpenLaw.row PySem.Challenge.rw_storelife_k51_values_codes_and_pads) (q := view (OpenLaw.row PySem.Challenge.rw_storelife_k51_values_codes_and_pads).prog [82]) (H := PM.hookE L51.D0) (ob := L51.ob0) (M := 12000) (loose := L51.names) (d := HandSHeadRun.topDef (OpenLaw.row PySem.Challenge.rw_storelife_k51_values_codes_and_pads).prog 82) (kwd := []) L51.ob0_eq
    (by kernel_rfl) (fun s => by kernel_rfl) L51.run0 (by kernel_rfl) (by kernel_rfl) (by kernel_rfl) (by rfl) (by first | assumption | decide +kernel) (by decide +kernel) ⟨rfl, rfl, rfl, rfl, rfl, by decide +kernel⟩ ?hw ?hc
  case hw => w_witness2
  case hc =>
    refine PM.walk_E (l := PySem.Challenge.rw_storelife_k51_values_codes_and_pads) (n := 63) (k := 8) (x := "script") (D := L51.D0) (G := fun K => PM.cfgOf L51.D0.exs K) (m := L51.m_law) rfl (by decide) (by kernel_rfl) ⟨rfl, by decide, by decide⟩ ?F (fun ns _ _ => (L51.law_mirror ns).rok)
    intro w K mg fa h KX G OK hmg0
    have hmg : mg ("law" : PySem.Str) = some (.ref fa) := by
      have e : (HandSHeadRun.topDef (OpenLaw.row PySem.Challenge.rw_storelife_k51_values_codes_and_pads).prog 82).name = ("law" : PySem.Str) := by kernel_rfl
      rw [← e]
      exact hmg0
    obtain ⟨fd, F⟩ := OK.def_ (d := L51.p_law) L51.mp_law rfl
    have e2 := OK.glo L51.p_law L51.mp_law
    have e3 : mg ("law" : PySem.Str) = some (.ref (He.fAd K L51.p_law.at_)) := e2
    rw [hmg] at e3
    obtain rfl : fa = He.fAd K L51.p_law.at_ := PySem.Value.ref.inj (Option.some.inj e3)
    exact ⟨fd, L51.B_law F, fun base _ _ => L51.O_law OK F⟩

