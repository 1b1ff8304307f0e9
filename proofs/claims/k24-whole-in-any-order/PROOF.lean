import PyProof.Rows.All
import Wide.All
import OpenK.AllK
import Wide.FinOn
import KE.KStateDown
import HandS.ForMost
import HandS.Defaults
import HandS.HeadHook1
import HandS.HeadHook2
import HandS.ExcInit
import HandS.ExcField
import KE.KSuper
import HandS.TryMany
import HandS.Head0
import HandS.Head1
import HandS.Head2
import HandS.TupAny
import HandS.Style
import HandS.Deep
import HandS.Star
import HandS.Exc
import HandS.IsInst
import HandS.Walk
import HandS.Conv
import HandS.SortRule
import PyProof.TupleOfSeq
import KE.GoesMore
import KE.GoesEnum
import HandS.Iter
import KE.KExcSuper
import HandS.Nested
import PyProof.P3In
import KE.KDictDisplayH
import HandS.HeadEnd
import HandS.FStrTup
import PyProof.ReprRoads
import PyProof.Rows.StrJoinMade
import HandS.SetFor
import HandS.Zip
import HandS.HeadHook4
import PySem.Challenge.RW_lateslips_k24_whole_in_any_order
set_option Elab.async false
set_option linter.all false
set_option maxRecDepth 100000
set_option maxHeartbeats 4000000
namespace Lt
open PySem PySem.Spec PyProof.Rows L2
/-! ### the text -/
def topS (i : Nat) : Stmt := PySem.Challenge.pw_lateslips_k24_whole_in_any_order.main.body.getD i (.Pass ⟨0, 0, 0, 0⟩)
def clsS (st : Stmt) (i : Nat) : Stmt := match st with
  | .ClassDef _ _ _ body _ _ _ _ _ _ _ => body.getD i (.Pass ⟨0, 0, 0, 0⟩)
  | _ => .Pass ⟨0, 0, 0, 0⟩
abbrev sInvalidMachineInit : Stmt := clsS (topS 2) 0
abbrev sInvalidSlipInit : Stmt := clsS (topS 3) 0
abbrev sRefusedInit : Stmt := clsS (topS 4) 0
abbrev sIsInteger : Stmt := topS 6
abbrev sIsNumber : Stmt := topS 7
abbrev sIsIndex : Stmt := topS 8
abbrev sIsSequence : Stmt := topS 9
abbrev sFollowed : Stmt := topS 10
abbrev sIdle : Stmt := topS 11
abbrev sMachineInit : Stmt := clsS (topS 13) 0
abbrev sMachineEq : Stmt := clsS (topS 13) 1
abbrev sMachineFound : Stmt := clsS (topS 13) 2
abbrev sMachineDoes : Stmt := clsS (topS 13) 3
abbrev sLed : Stmt := topS 14
abbrev sIsSlip : Stmt := topS 16
abbrev sCheckedSlip : Stmt := topS 17
abbrev sCheckedHeap : Stmt := topS 18
abbrev sRowOf : Stmt := topS 19
abbrev sPutIn : Stmt := topS 20
abbrev sClashBehind : Stmt := topS 22
abbrev sTrayOf : Stmt := topS 24
abbrev sTray : Stmt := topS 25
abbrev sJoined : Stmt := topS 26
abbrev sBeginnings : Stmt := topS 28
abbrev sWaysBack : Stmt := topS 30
abbrev sRedone : Stmt := topS 31
abbrev sReceive : Stmt := topS 32
abbrev sReceiveAll : Stmt := topS 33
abbrev sLawDraw : Stmt := topS 35
abbrev sLawAny : Stmt := topS 36
abbrev sLawOf : Stmt := topS 37
abbrev sLawMixed : Stmt := topS 38
abbrev sLawColumns : Stmt := topS 39
abbrev sLawColumn : Stmt := topS 40
abbrev sLawMachine : Stmt := topS 41
abbrev sLawLed : Stmt := topS 42
abbrev sLawHeap : Stmt := topS 43
abbrev sLawStock : Stmt := topS 44
abbrev sLawBeside : Stmt := topS 45
abbrev sLawGuarded : Stmt := topS 46
abbrev sLawFew : Stmt := topS 47
abbrev sLawBlind : Stmt := topS 48
abbrev sLawClash : Stmt := topS 49
abbrev sLawHeavy : Stmt := topS 50
abbrev sLawCommands : Stmt := topS 51
abbrev sLawTray : Stmt := topS 52
abbrev sLawOdd : Stmt := topS 53
abbrev sLawSlips : Stmt := topS 54
abbrev sLawOne : Stmt := topS 55
abbrev sLawAll : Stmt := topS 56
abbrev sLawAfter : Stmt := topS 57
abbrev sLawRun : Stmt := topS 58
abbrev sLawErrors : Stmt := topS 59
abbrev sLaw : Stmt := topS 60
end Lt
set_option maxHeartbeats 0
namespace Lt
open PySem PySem.Spec PyProof.Rows L2
def dIsInteger : He.DefD := ⟨("is_integer", none), "is_integer", "is_integer", defArgs sIsInteger, defBody sIsInteger, defScope sIsInteger, [], []⟩
def dIsNumber : He.DefD := ⟨("is_number", none), "is_number", "is_number", defArgs sIsNumber, defBody sIsNumber, defScope sIsNumber, [], []⟩
def dIsIndex : He.DefD := ⟨("is_index", none), "is_index", "is_index", defArgs sIsIndex, defBody sIsIndex, defScope sIsIndex, [], []⟩
def dIsSequence : He.DefD := ⟨("is_sequence", none), "is_sequence", "is_sequence", defArgs sIsSequence, defBody sIsSequence, defScope sIsSequence, [], []⟩
def dFollowed : He.DefD := ⟨("followed", none), "followed", "followed", defArgs sFollowed, defBody sFollowed, defScope sFollowed, [], []⟩
def dIdle : He.DefD := ⟨("idle", none), "idle", "idle", defArgs sIdle, defBody sIdle, defScope sIdle, [], []⟩
def dMachineInit : He.DefD := ⟨("Machine", some "__init__"), "__init__", "Machine.__init__", defArgs sMachineInit, defBody sMachineInit, defScope sMachineInit, [], []⟩
def dMachineDoes : He.DefD := ⟨("Machine", some "does"), "does", "Machine.does", defArgs sMachineDoes, defBody sMachineDoes, defScope sMachineDoes, [], []⟩
def dLed : He.DefD := ⟨("led", none), "led", "led", defArgs sLed, defBody sLed, defScope sLed, [], []⟩
def dIsSlip : He.DefD := ⟨("is_slip", none), "is_slip", "is_slip", defArgs sIsSlip, defBody sIsSlip, defScope sIsSlip, [], []⟩
def dCheckedSlip : He.DefD := ⟨("checked_slip", none), "checked_slip", "checked_slip", defArgs sCheckedSlip, defBody sCheckedSlip, defScope sCheckedSlip, [], []⟩
def dCheckedHeap : He.DefD := ⟨("checked_heap", none), "checked_heap", "checked_heap", defArgs sCheckedHeap, defBody sCheckedHeap, defScope sCheckedHeap, [], []⟩
def dRowOf : He.DefD := ⟨("row_of", none), "row_of", "row_of", defArgs sRowOf, defBody sRowOf, defScope sRowOf, [], []⟩
def dPutIn : He.DefD := ⟨("put_in", none), "put_in", "put_in", defArgs sPutIn, defBody sPutIn, defScope sPutIn, [], []⟩
def dClashBehind : He.DefD := ⟨("clash_behind", none), "clash_behind", "clash_behind", defArgs sClashBehind, defBody sClashBehind, defScope sClashBehind, [], []⟩
def dTrayOf : He.DefD := ⟨("tray_of", none), "tray_of", "tray_of", defArgs sTrayOf, defBody sTrayOf, defScope sTrayOf, [], []⟩
def dTray : He.DefD := ⟨("tray", none), "tray", "tray", defArgs sTray, defBody sTray, defScope sTray, [], []⟩
def dJoined : He.DefD := ⟨("joined", none), "joined", "joined", defArgs sJoined, defBody sJoined, defScope sJoined, [], []⟩
def dBeginnings : He.DefD := ⟨("beginnings", none), "beginnings", "beginnings", defArgs sBeginnings, defBody sBeginnings, defScope sBeginnings, [], []⟩
def dWaysBack : He.DefD := ⟨("ways_back", none), "ways_back", "ways_back", defArgs sWaysBack, defBody sWaysBack, defScope sWaysBack, [], []⟩
def dRedone : He.DefD := ⟨("redone", none), "redone", "redone", defArgs sRedone, defBody sRedone, defScope sRedone, [], [("by", .int 0)]⟩
def dReceive : He.DefD := ⟨("receive", none), "receive", "receive", defArgs sReceive, defBody sReceive, defScope sReceive, [], [("by", .int 0)]⟩
def dReceiveAll : He.DefD := ⟨("receive_all", none), "receive_all", "receive_all", defArgs sReceiveAll, defBody sReceiveAll, defScope sReceiveAll, [], [("by", .int 0)]⟩
def dLawDraw : He.DefD := ⟨("_law_draw", none), "_law_draw", "_law_draw", defArgs sLawDraw, defBody sLawDraw, defScope sLawDraw, [], []⟩
def dLawAny : He.DefD := ⟨("_law_any", none), "_law_any", "_law_any", defArgs sLawAny, defBody sLawAny, defScope sLawAny, [], []⟩
def dLawOf : He.DefD := ⟨("_law_of", none), "_law_of", "_law_of", defArgs sLawOf, defBody sLawOf, defScope sLawOf, [], []⟩
def dLawMixed : He.DefD := ⟨("_law_mixed", none), "_law_mixed", "_law_mixed", defArgs sLawMixed, defBody sLawMixed, defScope sLawMixed, [], []⟩
def dLawColumns : He.DefD := ⟨("_law_columns", none), "_law_columns", "_law_columns", defArgs sLawColumns, defBody sLawColumns, defScope sLawColumns, [], []⟩
def dLawColumn : He.DefD := ⟨("_law_column", none), "_law_column", "_law_column", defArgs sLawColumn, defBody sLawColumn, defScope sLawColumn, [], []⟩
def dLawMachine : He.DefD := ⟨("_law_machine", none), "_law_machine", "_law_machine", defArgs sLawMachine, defBody sLawMachine, defScope sLawMachine, [], []⟩
def dLawLed : He.DefD := ⟨("_law_led", none), "_law_led", "_law_led", defArgs sLawLed, defBody sLawLed, defScope sLawLed, [], []⟩
def dLawHeap : He.DefD := ⟨("_law_heap", none), "_law_heap", "_law_heap", defArgs sLawHeap, defBody sLawHeap, defScope sLawHeap, [], []⟩
def dLawStock : He.DefD := ⟨("_law_stock", none), "_law_stock", "_law_stock", defArgs sLawStock, defBody sLawStock, defScope sLawStock, [], []⟩
def dLawBeside : He.DefD := ⟨("_law_beside", none), "_law_beside", "_law_beside", defArgs sLawBeside, defBody sLawBeside, defScope sLawBeside, [], []⟩
def dLawGuarded : He.DefD := ⟨("_law_guarded", none), "_law_guarded", "_law_guarded", defArgs sLawGuarded, defBody sLawGuarded, defScope sLawGuarded, [], []⟩
def dLawFew : He.DefD := ⟨("_law_few", none), "_law_few", "_law_few", defArgs sLawFew, defBody sLawFew, defScope sLawFew, [], []⟩
def dLawBlind : He.DefD := ⟨("_law_blind", none), "_law_blind", "_law_blind", defArgs sLawBlind, defBody sLawBlind, defScope sLawBlind, [], []⟩
def dLawClash : He.DefD := ⟨("_law_clash", none), "_law_clash", "_law_clash", defArgs sLawClash, defBody sLawClash, defScope sLawClash, [], []⟩
def dLawHeavy : He.DefD := ⟨("_law_heavy", none), "_law_heavy", "_law_heavy", defArgs sLawHeavy, defBody sLawHeavy, defScope sLawHeavy, [], []⟩
def dLawCommands : He.DefD := ⟨("_law_commands", none), "_law_commands", "_law_commands", defArgs sLawCommands, defBody sLawCommands, defScope sLawCommands, [], []⟩
def dLawTray : He.DefD := ⟨("_law_tray", none), "_law_tray", "_law_tray", defArgs sLawTray, defBody sLawTray, defScope sLawTray, [], []⟩
def dLawOdd : He.DefD := ⟨("_law_odd", none), "_law_odd", "_law_odd", defArgs sLawOdd, defBody sLawOdd, defScope sLawOdd, [], []⟩
def dLawSlips : He.DefD := ⟨("_law_slips", none), "_law_slips", "_law_slips", defArgs sLawSlips, defBody sLawSlips, defScope sLawSlips, [], []⟩
def dLawOne : He.DefD := ⟨("_law_one", none), "_law_one", "_law_one", defArgs sLawOne, defBody sLawOne, defScope sLawOne, [], []⟩
def dLawAll : He.DefD := ⟨("_law_all", none), "_law_all", "_law_all", defArgs sLawAll, defBody sLawAll, defScope sLawAll, [], []⟩
def dLawAfter : He.DefD := ⟨("_law_after", none), "_law_after", "_law_after", defArgs sLawAfter, defBody sLawAfter, defScope sLawAfter, [], []⟩
def dLawRun : He.DefD := ⟨("_law_run", none), "_law_run", "_law_run", defArgs sLawRun, defBody sLawRun, defScope sLawRun, [], []⟩
def dLawErrors : He.DefD := ⟨("_law_errors", none), "_law_errors", "_law_errors", defArgs sLawErrors, defBody sLawErrors, defScope sLawErrors, [], []⟩
def dLaw : He.DefD := ⟨("law", none), "law", "law", defArgs sLaw, defBody sLaw, defScope sLaw, [], []⟩
def fnL : List He.DefD := [dIsInteger, dIsNumber, dIsIndex, dIsSequence, dFollowed, dIdle, dMachineInit, dMachineDoes, dLed, dIsSlip, dCheckedSlip, dCheckedHeap, dRowOf, dPutIn, dClashBehind, dTrayOf, dTray, dJoined, dBeginnings, dWaysBack, dRedone, dReceive, dReceiveAll, dLawDraw, dLawAny, dLawOf, dLawMixed, dLawColumns, dLawColumn, dLawMachine, dLawLed, dLawHeap, dLawStock, dLawBeside, dLawGuarded, dLawFew, dLawBlind, dLawClash, dLawHeavy, dLawCommands, dLawTray, dLawOdd, dLawSlips, dLawOne, dLawAll, dLawAfter, dLawRun, dLawErrors, dLaw]
def faL : List He.Fa := [.glo "SlipsError", .glo "InvalidMachine", .glo "InvalidSlip", .glo "Refused", .glo "is_integer", .glo "is_number", .glo "is_index", .glo "is_sequence", .glo "followed", .glo "idle", .glo "Machine", .glo "led", .glo "is_slip", .glo "checked_slip", .glo "checked_heap", .glo "row_of", .glo "put_in", .glo "clash_behind", .glo "tray_of", .glo "tray", .glo "joined", .glo "beginnings", .glo "ways_back", .glo "redone", .glo "receive", .glo "receive_all", .glo "_law_draw", .glo "_law_any", .glo "_law_of", .glo "_law_mixed", .glo "_law_columns", .glo "_law_column", .glo "_law_machine", .glo "_law_led", .glo "_law_heap", .glo "_law_stock", .glo "_law_beside", .glo "_law_guarded", .glo "_law_few", .glo "_law_blind", .glo "_law_clash", .glo "_law_heavy", .glo "_law_commands", .glo "_law_tray", .glo "_law_odd", .glo "_law_slips", .glo "_law_one", .glo "_law_all", .glo "_law_after", .glo "_law_run", .glo "_law_errors", .glo "law", .free "isinstance", .free "int", .free "bool", .free "list", .free "tuple", .free "len", .free "enumerate", .free "all", .free "any", .free "range", .free "sorted", .free "super", .free "abs", .free "repr", .free "str", .free "max", .free "min", .free "set", .cls "Machine", .mkr "Machine", .meth "Machine" "does", .noat "Machine" "commands", .noat "Machine" "states", .noat "Machine" "steps", .noat "Machine" "_found"]
def looseA : List PySem.Str := ["SlipsError", "InvalidMachine", "InvalidSlip", "Refused", "is_integer", "is_number", "is_index", "is_sequence", "followed", "idle", "Machine", "led", "is_slip", "checked_slip", "checked_heap", "row_of", "put_in", "clash_behind", "tray_of", "tray", "joined", "beginnings", "ways_back", "redone", "receive", "receive_all", "_law_draw", "_law_any", "_law_of", "_law_mixed"]
def looseB : List PySem.Str := ["_law_columns", "_law_column", "_law_machine", "_law_led", "_law_heap", "_law_stock", "_law_beside", "_law_guarded", "_law_few", "_law_blind", "_law_clash", "_law_heavy", "_law_commands", "_law_tray", "_law_odd", "_law_slips", "_law_one", "_law_all", "_law_after", "_law_run", "_law_errors"]
def looseL : List PySem.Str := looseA ++ looseB
end Lt
namespace Lt
open PySem PySem.Spec PyProof.Rows L2
/-! ### what the top tells of the two exceptions, by Bools -/
/-- a def within a class that holds __class__: all but where the cell stands -/
abbrev FnC : Type := Option (Str × Str × Arguments × FuncBody × Scope × Addr × List Str × Addr)
def fnC (K : PySem.W.Frag) (f : Addr) : FnC := match K.lookup f with
  | some ⟨_, _, .func fd, _⟩ => some (fd.name, fd.qualname, fd.params, fd.body, fd.scope, fd.globals, fd.closure.map (·.1), fd.builtins)
  | _ => none
structure IniD where
  cls : Str
  qual : Str
  stm : Stmt
def IniD.c (K : PySem.W.Frag) (d : IniD) : Addr := He.ga K d.cls
def IniD.f (K : PySem.W.Frag) (d : IniD) : Addr := He.ma K (d.c K) "__init__"
def IniD.val (d : IniD) : FnC := some ("__init__", d.qual, defArgs d.stm, .stmts (defBody d.stm), defScope d.stm, mainGlobals, ["__class__"], builtinsNs)
def cellB (K : PySem.W.Frag) (C : Addr) : List (Str × Addr) → Bool
  | [q] => (match K.lookup q.2 with
    | some ⟨_, _, .cell (some (.ref D)), _⟩ => decide (D = C)
    | _ => false)
  | _ => false
def fileB (K : PySem.W.Frag) (file : Str) : Value → Bool
  | .ref c => (match K.lookup c with
    | some ⟨_, _, .fields vs, _⟩ => (match (vs[2]? : Option Value) with
      | some (.str g _) => file == g
      | _ => false)
    | _ => false)
  | _ => false
def noneB : Value → Bool
  | .none => true
  | _ => false
def iniB (K : PySem.W.Frag) (file : Str) (d : IniD) : Bool := match K.lookup (d.f K) with
  | some ⟨_, _, .func fd, _⟩ => PySem.W.codeIn K fd.code d.qual && (fileB K file fd.code && (noneB fd.defaults && cellB K (d.c K) fd.closure))
  | _ => false
def ownB (K : PySem.W.Frag) (C : Addr) : Bool := match K.lookup C with
  | some ⟨.type t, _, .cls cd, sl⟩ => decide (t = "type") && (match cd.mro, sl.toList with
    | .ref D :: bm, [_, _, _, _, some (.builtin n), _] => decide (D = C) && (decide (n = "ValueError.__new__") && (PySem.HandSPX.refsVE bm && (cd.hasDict && !cd.hasDel)))
    | _, _ => false)
  | _ => false
def vB (a b : Option Value) : Bool := decide (a = b)
def tB (a b : Option Bool) : Bool := decide (a = b)
def excB (K : PySem.W.Frag) (file : Str) (d : IniD) : Bool :=
  PySem.W.keepIn K (.ref (d.c K)) && (ownB K (d.c K) && (He.eqO (PySem.W.findIn K (.ref (d.c K)) "__setattr__") (some (some (.builtin "object.__setattr__"))) && (tB (PySem.W.subIn K (.ref (d.c K)) (.type "BaseException")) (some true) && (vB (PySem.W.typeIn K (.ref (d.c K))) (some (.type "type")) &&
  (He.eqO (PySem.W.ks_superIn K (d.c K) (d.c K) "__init__") (some (some (.builtin "ValueError.__init__"))) && (tB (PySem.W.subIn K (.ref (d.c K)) (.type "ValueError")) (some true) && (tB (PySem.W.mroIn K (d.c K) (.ref (d.c K))) (some true) &&
  (He.eqO (PySem.W.findIn K (.ref (d.c K)) "at") (some none) && (He.eqO (PySem.W.findIn K (.ref (d.c K)) "__init__") (some (some (.ref (d.f K)))) && (vB (PySem.W.typeIn K (.ref (d.f K))) (some (.type "function")) && (xfB K (d.c K) && iniB K file d)))))))))))
def iniI : IniD := ⟨"InvalidSlip", "InvalidSlip.__init__", sInvalidSlipInit⟩
def iniR : IniD := ⟨"Refused", "Refused.__init__", sRefusedInit⟩
def exAll (file : Str) (K : PySem.W.Frag) : Bool :=
  He.eqO (PySem.W.nsIn K cStatics "thirdparty.any") (some none) && (excB K file iniI && (excB K file iniR && (tB (PySem.W.exmOne K (.ref (iniR.c K)) (.ref (iniR.c K))) (some true) && (tB (PySem.W.exmOne K (.ref (iniI.c K)) (.ref (iniR.c K))) (some false) && tB (PySem.W.exmOne K (.ref (iniI.c K)) (.ref (iniI.c K))) (some true)))))
/-! ### the Hook -/
abbrev AlY : Type := He.AlD × Bool × FnC × FnC
def obsK (fa : List He.Fa) (fn : List He.DefD) (file : Str) (K : PySem.W.Frag) : AlY := (He.obsD fa fn K, exAll file K, fnC K (iniI.f K), fnC K (iniR.f K))
def valY (fn : List He.DefD) : AlY := (He.valD fn, true, iniI.val, iniR.val)
structure SaysY (fa : List He.Fa) (fn : List He.DefD) (file : Str) (K : PySem.W.Frag) : Prop where
  d : He.SaysD fa fn K
  ex : exAll file K = true
  fi : fnC K (iniI.f K) = iniI.val
  fr : fnC K (iniR.f K) = iniR.val
def asY (g : Addr → Option Obj) (n : Nat) : List Addr := cStatics :: He.asD g n
def obsYG (n : Nat) (fa : List He.Fa) (fn : List He.DefD) (file : Str) (g : Addr → Option Obj) : AlY := obsK fa fn file (He.frG g (asY g n))
theorem saysY_of {fa : List He.Fa} {fn : List He.DefD} {file : Str} {K : PySem.W.Frag} (e : obsK fa fn file K = valY fn) : SaysY fa fn file K :=
  ⟨congrArg (fun z : AlY => z.1) e, congrArg (fun z : AlY => z.2.1) e, congrArg (fun z : AlY => z.2.2.1) e, congrArg (fun z : AlY => z.2.2.2) e⟩
def hookY (n : Nat) (fa : List He.Fa) (fn : List He.DefD) (file : Str) : PySem.W.Hook where
  α := AlY
  obs := fun s => obsYG n fa fn file s.heap.get?
  val := fun _ => valY fn
  says := fun _ h => ∃ K : PySem.W.Frag, K.In h ∧ SaysY fa fn file K
  of := fun _ _ e => ⟨_, He.frG_in, saysY_of e⟩
  keeps := fun _ _ _ ⟨K, hK, c⟩ k => ⟨K, PySem.W.Frag.In.keeps hK k, c⟩
theorem obsYG_eq {n : Nat} {fa : List He.Fa} {fn : List He.DefD} {file : Str} {g : Addr → Option Obj} {s : Shared} (h : ∀ a, g a = s.heap.get? a) : obsYG n fa fn file g = (hookY n fa fn file).obs s := by
  have e : g = s.heap.get? := funext h
  subst e
  rfl
abbrev RR : PySem.W.OpenRow := PySem.W.OpenLaw.row PySem.Challenge.rw_lateslips_k24_whole_in_any_order
abbrev fileL : Str := PySem.Challenge.pw_lateslips_k24_whole_in_any_order.main.file
abbrev hkL : PySem.W.Hook := hookY 5 faL fnL fileL
def obL (s : PySem.W.SharedT) : AlY := obsYG 5 faL fnL fileL (HandSHeadRun.getT s)
theorem obL_eq (s : PySem.W.SharedT) : obL s = hkL.obs s.abs := obsYG_eq (HandSHeadRun.getT_eq s)
end Lt
namespace Lt
open PySem PySem.Spec PyProof.Rows L2
theorem runL (w : World) : HandSHeadRun.RunEq RR (PySem.W.view RR.prog [60]) hkL obL 3000 looseL w := by
  intro os
  kernel_rfl
end Lt
set_option maxHeartbeats 4000000
/-! # The frame of the walk: what an expression tells, by data -/
namespace Lt
open PySem PySem.Spec PyProof.Rows L2
/-! ### heaps: a part of them hidden, a part that may change -/
def hid (S : List Addr) (H : Hp) : Hp := fun a => if a ∈ S then none else H a
def Live (S : List Addr) (H : Hp) : Prop := ∀ a, a ∈ S → H a ≠ none
structure Exm (M : List Addr) (H H' : Hp) : Prop where
  keep : ∀ a o, ¬ a ∈ M → H a = some o → H' a = some o
  there : ∀ a, H a ≠ none → H' a ≠ none
theorem Exm.rfl' {M : List Addr} {H : Hp} : Exm M H H := ⟨fun _ _ _ h => h, fun _ h => h⟩
theorem Exm.trans {M : List Addr} {H H1 H2 : Hp} (a : Exm M H H1) (b : Exm M H1 H2) : Exm M H H2 :=
  ⟨fun x o n h => b.keep x o n (a.keep x o n h), fun x h => b.there x (a.there x h)⟩
theorem Exm.mono {M M' : List Addr} {H H1 : Hp} (a : Exm M H H1) (s : ∀ x, x ∈ M → x ∈ M') : Exm M' H H1 :=
  ⟨fun x o n h => a.keep x o (fun z => n (s x z)) h, a.there⟩
theorem Exm.same {M : List Addr} {H H1 : Hp} (a : Same H H1) : Exm M H H1 :=
  ⟨fun x o _ h => a x o h, fun x h => by
    cases e : H x with
    | none => exact absurd e h
    | some o => rw [a x o e]; intro z; cases z⟩
theorem Exm.toSame {H H1 : Hp} (a : Exm [] H H1) : Same H H1 := fun x o h => a.keep x o (by simp) h
theorem Exm.upd {M : List Addr} {H : Hp} {a : Addr} {o : HO} (m : a ∈ M ∨ H a = none) : Exm M H (upd H a o) :=
  ⟨fun x u n h => by
    have ne : x ≠ a := fun z => by
      rcases m with m | m
      · exact n (z ▸ m)
      · rw [z, m] at h; cases h
    rw [upd_ne ne]; exact h, fun x h => by
    by_cases e : x = a
    · rw [e, upd_same]; intro z; cases z
    · rw [upd_ne e]; exact h⟩
theorem Live.move {S M : List Addr} {H H' : Hp} (l : Live S H) (e : Exm M H H') : Live S H' := fun a m => e.there a (l a m)
theorem hid_ne {S : List Addr} {H : Hp} {a : Addr} (h : ¬ a ∈ S) : hid S H a = H a := if_neg h
theorem hid_in {S : List Addr} {H : Hp} {a : Addr} (h : a ∈ S) : hid S H a = none := if_pos h
theorem hid_sub (S : List Addr) (H : Hp) : Same (hid S H) H := fun a o e => by
  by_cases h : a ∈ S
  · rw [hid_in h] at e; cases e
  · rw [hid_ne h] at e; exact e
theorem hid_move {S : List Addr} {H H' : Hp} (e : Exm S H H') : Same (hid S H) (hid S H') := fun a o h => by
  by_cases m : a ∈ S
  · rw [hid_in m] at h; cases h
  · rw [hid_ne m] at h ⊢; exact e.keep a o m h
theorem hid_less {S S' : List Addr} {H : Hp} (s : ∀ x, x ∈ S → x ∈ S') : Same (hid S' H) (hid S H) := fun a o h => by
  by_cases m : a ∈ S'
  · rw [hid_in m] at h; cases h
  · rw [hid_ne m] at h; rw [hid_ne fun z => m (s a z)]; exact h
/-- one more hidden place, which is new -/
theorem hid_more {S : List Addr} {H H' : Hp} {p : Addr} (n : H p = none) (e : Same H H') : Same (hid S H) (hid (p :: S) H') := fun a o h => by
  by_cases m : a ∈ S
  · rw [hid_in m] at h; cases h
  · rw [hid_ne m] at h
    have np : a ≠ p := fun z => by rw [z, n] at h; cases h
    rw [hid_ne (by simp [np, m])]; exact e a o h
/-! ### data stays -/
theorem sql_same {K : PySem.W.Frag} {G G' : Hp} {a : Addr} {xs : List V} (e : Same G G') (h : SqL K G a xs) : SqL K G' a xs := e.seq h
theorem sqt_same {K : PySem.W.Frag} {G G' : Hp} {a : Addr} {xs : List V} (e : Same G G') (h : SqT K G a xs) : SqT K G' a xs := by
  rcases h with (h | ⟨o, h⟩) | h
  · exact .inl (.inl (e _ _ h))
  · exact .inl (.inr ⟨o, e _ _ h⟩)
  · exact .inr h
mutual
theorem dp_same {K : PySem.W.Frag} {G G' : Hp} (e : Same G G') : ∀ (d : PyData) (v : V), Dp K G v d → Dp K G' v d
  | .none, _, h => by cases h; exact .non
  | .bool b, _, h => by cases h; exact .bl b
  | .int i, _, h => by cases h; exact .int i
  | .str x, _, h => by cases h; exact .str x
  | .list ds, _, h => by
    cases h with
    | lst hs ha => exact .lst (sql_same e hs) (dpa_same e ds _ ha)
  | .tuple ds, _, h => by
    cases h with
    | tup hs ha => exact .tup (sqt_same e hs) (dpa_same e ds _ ha)
  | .dict _, _, h => by cases h
theorem dpa_same {K : PySem.W.Frag} {G G' : Hp} (e : Same G G') : ∀ (ds : List PyData) (vs : List V), DpAll K G vs ds → DpAll K G' vs ds
  | [], _, h => by cases h; exact .nil
  | d :: ds, _, h => by
    cases h with
    | cons h1 h2 => exact .cons (dp_same e d _ h1) (dpa_same e ds _ h2)
end
theorem dpa_len {K : PySem.W.Frag} {G : Hp} : ∀ {ds : List PyData} {vs : List V}, DpAll K G vs ds → vs.length = ds.length
  | [], _, h => by cases h; rfl
  | _ :: _, _, h => by
    cases h with
    | cons _ h2 => simp [dpa_len h2]
theorem dpa_get {K : PySem.W.Frag} {G : Hp} : ∀ {ds : List PyData} {vs : List V} {i : Nat} {d : PyData}, DpAll K G vs ds → ds[i]? = some d → ∃ v, vs[i]? = some v ∧ Dp K G v d
  | [], _, _, _, _, e => by simp at e
  | d :: ds, _, 0, _, h, e => by
    cases h with
    | cons h1 _ => simp at e; subst e; exact ⟨_, rfl, h1⟩
  | d :: ds, _, i + 1, _, h, e => by
    cases h with
    | cons _ h2 =>
      obtain ⟨v, e1, e2⟩ := dpa_get (i := i) h2 (by simpa using e)
      exact ⟨v, by simpa using e1, e2⟩
theorem dpa_app {K : PySem.W.Frag} {G : Hp} : ∀ {ds es : List PyData} {vs ws : List V}, DpAll K G vs ds → DpAll K G ws es → DpAll K G (vs ++ ws) (ds ++ es)
  | [], _, _, _, h, k => by cases h; exact k
  | _ :: _, _, _, _, h, k => by
    cases h with
    | cons h1 h2 => exact .cons h1 (dpa_app h2 k)
theorem dpa_take {K : PySem.W.Frag} {G : Hp} : ∀ {ds : List PyData} {vs : List V} (n : Nat), DpAll K G vs ds → DpAll K G (vs.take n) (ds.take n)
  | _, _, 0, _ => .nil
  | [], _, _ + 1, h => by cases h; exact .nil
  | _ :: _, _, n + 1, h => by
    cases h with
    | cons h1 h2 => exact .cons h1 (dpa_take n h2)
theorem dpa_drop {K : PySem.W.Frag} {G : Hp} : ∀ {ds : List PyData} {vs : List V} (n : Nat), DpAll K G vs ds → DpAll K G (vs.drop n) (ds.drop n)
  | _, _, 0, h => h
  | [], _, _ + 1, h => by cases h; exact .nil
  | _ :: _, _, n + 1, h => by
    cases h with
    | cons _ h2 => exact dpa_drop n h2
theorem dpa_rev {K : PySem.W.Frag} {G : Hp} : ∀ {ds : List PyData} {vs : List V}, DpAll K G vs ds → DpAll K G vs.reverse ds.reverse
  | [], _, h => by cases h; exact .nil
  | d :: ds, _, h => by
    cases h with
    | cons h1 h2 => rw [List.reverse_cons, List.reverse_cons]; exact dpa_app (dpa_rev h2) (.cons h1 .nil)
theorem dpa_set {K : PySem.W.Frag} {G : Hp} {v : V} {d : PyData} (h : Dp K G v d) : ∀ {ds : List PyData} {vs : List V} (i : Nat), DpAll K G vs ds → DpAll K G (vs.set i v) (ds.set i d)
  | [], _, _, k => by cases k; exact .nil
  | _ :: _, _, 0, k => by
    cases k with
    | cons _ h2 => exact .cons h h2
  | _ :: _, _, i + 1, k => by
    cases k with
    | cons h1 h2 => exact .cons h1 (dpa_set h i h2)
theorem dpa_rep {K : PySem.W.Frag} {G : Hp} {v : V} {d : PyData} (h : Dp K G v d) : ∀ n : Nat, DpAll K G (List.replicate n v) (List.replicate n d)
  | 0 => .nil
  | n + 1 => .cons h (dpa_rep h n)
theorem dpa_ints {K : PySem.W.Frag} {G : Hp} : ∀ ns : List Int, DpAll K G (ns.map V.int) (ns.map PyData.int)
  | [] => .nil
  | n :: r => .cons (.int n) (dpa_ints r)
theorem dpa_ints_inv {K : PySem.W.Frag} {G : Hp} : ∀ {ns : List Int} {vs : List V}, DpAll K G vs (ns.map PyData.int) → vs = ns.map V.int
  | [], _, h => by cases h; rfl
  | n :: r, _, h => by
    cases h with
    | cons h1 h2 => cases h1; rw [dpa_ints_inv h2]; rfl
/-! ### what a slot holds -/
structure Pd where
  p : V → Hp → Prop
  st : ∀ {v : V} {G G' : Hp}, Same G G' → p v G → p v G'
def dat (K : PySem.W.Frag) (d : PyData) : Pd := ⟨fun v G => Dp K G v d, fun e h => dp_same e d _ h⟩
def is (v0 : V) : Pd := ⟨fun v _ => v = v0, fun _ h => h⟩
abbrev Ty := List (Option Pd)
/-- what stands at a place of one's own, which may be written -/
structure Ct where
  p : HO → Hp → Prop
  st : ∀ {o : HO} {G G' : Hp}, Same G G' → p o G → p o G'
def Ct.lst (K : PySem.W.Frag) (ds : List PyData) : Ct := ⟨fun o G => ∃ vs, o = .lst vs ∧ DpAll K G vs ds, fun e ⟨vs, a, b⟩ => ⟨vs, a, dpa_same e _ _ b⟩⟩
def Ct.eq (o0 : HO) : Ct := ⟨fun o _ => o = o0, fun _ h => h⟩
/-- the view: what is hidden (S), what an expression may change (M), what holds of the heap since the entry (J), what of M's places (ok), the places of one's own -/
structure Vw where
  S : List Addr
  M : List Addr
  J : Hp → Prop
  ok : Hp → Prop
  own : List (Addr × Ct)
  sub : ∀ a, a ∈ M → a ∈ S
  jst : ∀ {H H' : Hp}, Same H H' → J H → J H'
  jok : ∀ {H : Hp}, J H → ok H
  jmv : ∀ {H H' : Hp}, Exm M H H' → ok H' → J H → J H'
  jnw : ∀ {H : Hp} {p : Addr}, J H → H p = none → ¬ p ∈ M ∧ ∀ {H' : Hp} {o : HO}, J H' → J (upd H' p o)
  ow : ∀ q, q ∈ own → q.1 ∈ S ∧ ¬ q.1 ∈ M ∧ ∀ {H : Hp} {o : HO}, J H → J (upd H q.1 o)
  nd : (own.map (·.1)).Nodup
def Vw.I (w : Vw) (H : Hp) : Prop := w.J H ∧ ∀ q, q ∈ w.own → ∃ o, H q.1 = some o ∧ q.2.p o (hid w.S H)
theorem Vw.move {w : Vw} {H H' : Hp} (e : Exm w.M H H') (j : w.J H') (i : w.I H) : w.I H' :=
  ⟨j, fun q m => let ⟨o, a, b⟩ := i.2 q m; ⟨o, e.keep _ _ (w.ow q m).2.1 a, q.2.st (hid_move (e.mono w.sub)) b⟩⟩
theorem Vw.st (w : Vw) {H H' : Hp} (e : Same H H') (i : w.I H) : w.I H' := Vw.move (Exm.same e) (w.jst e i.1) i
theorem Vw.mv (w : Vw) {H H' : Hp} (e : Exm w.M H H') (k : w.ok H') (i : w.I H) : w.I H' := Vw.move e (w.jmv e k i.1) i
/-- nothing may change -/
def Vw.pure (S : List Addr) (H0 : Hp) : Vw where
  S := S
  M := []
  J := fun H => Same H0 H
  ok := fun _ => True
  own := []
  sub := fun _ h => nomatch h
  jst := fun e h => h.trans e
  jok := fun _ => trivial
  jmv := fun e _ h => h.trans e.toSame
  jnw := fun h n => ⟨fun z => (nomatch z), fun h' b o e => by
    rw [upd_ne (fun z => by rw [z] at e; have := h _ _ e; rw [n] at this; cases this)]
    exact h' b o e⟩
  ow := fun _ h => nomatch h
  nd := List.nodup_nil
/-- one more place of one's own -/
def Vw.add (w : Vw) (p : Addr) (c : Ct) (n : ¬ p ∈ w.S) (h : ¬ p ∈ w.M ∧ ∀ {H : Hp} {o : HO}, w.J H → w.J (upd H p o)) : Vw where
  S := p :: w.S
  M := w.M
  J := w.J
  ok := w.ok
  own := (p, c) :: w.own
  sub := fun a m => List.mem_cons_of_mem _ (w.sub a m)
  jst := w.jst
  jok := w.jok
  jmv := w.jmv
  jnw := w.jnw
  ow := fun q m => by
    rcases List.mem_cons.mp m with rfl | m
    · exact ⟨List.mem_cons_self, h.1, h.2⟩
    · exact ⟨List.mem_cons_of_mem _ (w.ow q m).1, (w.ow q m).2⟩
  nd := by
    rw [List.map_cons]
    refine List.nodup_cons.mpr ⟨fun m => ?_, w.nd⟩
    obtain ⟨q, m, e⟩ := List.mem_map.mp m
    have z := (w.ow q m).1
    rw [show q.1 = p from e] at z
    exact n z
/-- the i-th place of one's own holds something else now -/
def Vw.put (w : Vw) (i : Nat) (p : Addr) (c : Ct) (h : ∃ c0, w.own[i]? = some (p, c0)) : Vw where
  S := w.S
  M := w.M
  J := w.J
  ok := w.ok
  own := w.own.set i (p, c)
  sub := w.sub
  jst := w.jst
  jok := w.jok
  jmv := w.jmv
  jnw := w.jnw
  ow := fun q m => by
    rcases List.mem_or_eq_of_mem_set m with m | rfl
    · exact w.ow q m
    · obtain ⟨c0, e⟩ := h
      exact w.ow (p, c0) (List.mem_of_getElem? e)
  nd := by
    obtain ⟨c0, e⟩ := h
    have : (w.own.set i (p, c)).map (·.1) = w.own.map (·.1) := by
      rw [List.map_set]
      apply List.ext_getElem?
      intro j
      by_cases hj : i = j
      · subst hj
        have hl := (List.getElem?_eq_some_iff.mp e).1
        rw [List.getElem?_set_self (by simpa using hl), List.getElem?_map, e]; rfl
      · rw [List.getElem?_set_ne hj]
    rw [this]; exact w.nd
structure Sv (w : Vw) (H : Hp) (σ : L2.St) (τ : Ty) : Prop where
  live : Live w.S H
  inv : w.I H
  len : σ.length = τ.length
  at_ : ∀ (i : Nat) (pd : Pd), τ[i]? = some (some pd) → ∃ v, σ[i]? = some (some v) ∧ pd.p v (hid w.S H)
theorem Exm.wide {w : Vw} {H H' : Hp} (e : Exm w.M H H') : Exm w.S H H' := e.mono w.sub
theorem Pd.move {w : Vw} {H H' : Hp} {v : V} (pd : Pd) (e : Exm w.M H H') (h : pd.p v (hid w.S H)) : pd.p v (hid w.S H') := pd.st (hid_move e.wide) h
theorem Sv.move {w : Vw} {H H' : Hp} {σ : L2.St} {τ : Ty} (s : Sv w H σ τ) (e : Exm w.M H H') (i : w.I H') : Sv w H' σ τ :=
  ⟨s.live.move e, i, s.len, fun j pd h => let ⟨v, a, b⟩ := s.at_ j pd h; ⟨v, a, pd.move e b⟩⟩
theorem Sv.set {w : Vw} {H : Hp} {σ : L2.St} {τ : Ty} (s : Sv w H σ τ) (j : Nat) {v : V} {pd : Pd} (h : pd.p v (hid w.S H)) : Sv w H (σ.set j (some v)) (τ.set j (some pd)) := by
  refine ⟨s.live, s.inv, by rw [List.length_set, List.length_set]; exact s.len, fun i q e => ?_⟩
  by_cases hij : j = i
  · subst hij
    by_cases hl : j < τ.length
    · rw [List.getElem?_set_self hl] at e
      cases e
      exact ⟨v, List.getElem?_set_self (by rw [s.len]; exact hl), h⟩
    · rw [List.getElem?_eq_none (by rw [List.length_set]; omega)] at e; cases e
  · rw [List.getElem?_set_ne hij] at e
    obtain ⟨u, a, b⟩ := s.at_ i q e
    exact ⟨u, by rw [List.getElem?_set_ne hij]; exact a, b⟩
/-- a slot that is forgotten on both sides -/
theorem Sv.none_ {w : Vw} {H : Hp} {σ : L2.St} {τ : Ty} (s : Sv w H σ τ) (j : Nat) : Sv w H (σ.set j none) (τ.set j none) := by
  refine ⟨s.live, s.inv, by rw [List.length_set, List.length_set]; exact s.len, fun i q e => ?_⟩
  by_cases hij : j = i
  · subst hij
    by_cases hl : j < τ.length
    · rw [List.getElem?_set_self hl] at e; cases e
    · rw [List.getElem?_eq_none (by rw [List.length_set]; omega)] at e; cases e
  · rw [List.getElem?_set_ne hij] at e
    obtain ⟨u, a, b⟩ := s.at_ i q e
    exact ⟨u, by rw [List.getElem?_set_ne hij]; exact a, b⟩
/-- less is known -/
theorem Sv.weak {w : Vw} {H : Hp} {σ : L2.St} {τ τ' : Ty} (s : Sv w H σ τ) (l : τ'.length = τ.length) (h : ∀ (i : Nat) (pd : Pd), τ'[i]? = some (some pd) → τ[i]? = some (some pd)) : Sv w H σ τ' :=
  ⟨s.live, s.inv, s.len.trans l.symm, fun i pd e => s.at_ i pd (h i pd e)⟩
theorem same_upd {H : Hp} {p : Addr} {o : HO} (n : H p = none) : Same H (upd H p o) := fun b u e => by rw [upd_ne (ne_of_none e n)]; exact e
/-- a new place of one's own -/
theorem Sv.add {w : Vw} {H : Hp} {σ : L2.St} {τ : Ty} (s : Sv w H σ τ) {p : Addr} {o : HO} {c : Ct} (n : H p = none) (hc : c.p o (hid (p :: w.S) (upd H p o))) (n1 : ¬ p ∈ w.S) (h : ¬ p ∈ w.M ∧ ∀ {H : Hp} {o : HO}, w.J H → w.J (upd H p o)) :
    Sv (w.add p c n1 h) (upd H p o) σ τ := by
  have sm : Same H (upd H p o) := same_upd n
  refine ⟨fun a m => ?_, ⟨w.jst sm s.inv.1, fun q m => ?_⟩, s.len, fun i pd e => ?_⟩
  · rcases List.mem_cons.mp m with rfl | m
    · rw [upd_same]; intro z; cases z
    · exact (s.live.move (Exm.same (M := []) sm)) a m
  · rcases List.mem_cons.mp m with rfl | m
    · exact ⟨o, upd_same, hc⟩
    · obtain ⟨u, a, b⟩ := s.inv.2 q m
      exact ⟨u, sm _ _ a, q.2.st (hid_more n sm) b⟩
  · obtain ⟨v, a, b⟩ := s.at_ i pd e
    exact ⟨v, a, pd.st (hid_more n sm) b⟩
theorem Sv.notin {w : Vw} {H : Hp} {σ : L2.St} {τ : Ty} (s : Sv w H σ τ) {p : Addr} (n : H p = none) : ¬ p ∈ w.S := fun m => s.live p m n
/-- it is written -/
theorem Sv.put {w : Vw} {H : Hp} {σ : L2.St} {τ : Ty} (s : Sv w H σ τ) {i : Nat} {p : Addr} {o : HO} {c : Ct} (h : ∃ c0, w.own[i]? = some (p, c0)) (hc : c.p o (hid w.S H)) : Sv (w.put i p c h) (upd H p o) σ τ := by
  obtain ⟨c0, e⟩ := id h
  have hw := w.ow (p, c0) (List.mem_of_getElem? e)
  obtain ⟨u0, hp, _⟩ := s.inv.2 (p, c0) (List.mem_of_getElem? e)
  have hh : hid w.S (upd H p o) = hid w.S H := by
    funext b
    by_cases hb : b ∈ w.S
    · rw [hid_in hb, hid_in hb]
    · rw [hid_ne hb, hid_ne hb, upd_ne fun z => hb (by rw [z]; exact hw.1)]
  refine ⟨fun a m => ?_, ⟨hw.2.2 s.inv.1, fun q m => ?_⟩, s.len, fun j pd ej => ?_⟩
  · by_cases ha : a = p
    · rw [ha, upd_same]; intro z; cases z
    · rw [upd_ne ha]; exact s.live a m
  · obtain ⟨j, ej⟩ := List.mem_iff_getElem?.mp m
    by_cases hij : i = j
    · subst hij
      have hl := (List.getElem?_eq_some_iff.mp e).1
      have ej' : (w.own.set i (p, c))[i]? = some q := ej
      rw [List.getElem?_set_self hl] at ej'
      cases ej'
      exact ⟨o, upd_same, by show c.p o (hid w.S (upd H p o)); rw [hh]; exact hc⟩
    · have ej' : (w.own.set i (p, c))[j]? = some q := ej
      rw [List.getElem?_set_ne hij] at ej'
      obtain ⟨u, a, b⟩ := s.inv.2 q (List.mem_of_getElem? ej')
      have ne : q.1 ≠ p := fun z => by
        have e1 : (w.own.map (·.1))[i]? = some p := by rw [List.getElem?_map, e]; rfl
        have e2 : (w.own.map (·.1))[j]? = some p := by rw [List.getElem?_map, ej', ← z]; rfl
        obtain ⟨l1, g1⟩ := List.getElem?_eq_some_iff.mp e1
        obtain ⟨l2, g2⟩ := List.getElem?_eq_some_iff.mp e2
        exact hij ((List.getElem_inj w.nd).mp (g1.trans g2.symm))
      exact ⟨u, by rw [upd_ne ne]; exact a, by show q.2.p u (hid w.S (upd H p o)); rw [hh]; exact b⟩
  · obtain ⟨v, a, b⟩ := s.at_ j pd ej
    exact ⟨v, a, by show pd.p v (hid w.S (upd H p o)); rw [hh]; exact b⟩
/-- the first place of one's own is no longer written: it is shown, as data that has been told -/
theorem Sv.show {w : Vw} {H : Hp} {σ : L2.St} {τ : Ty} {p : Addr} {c : Ct} {n1 : ¬ p ∈ w.S} {h : ¬ p ∈ w.M ∧ ∀ {H : Hp} {o : HO}, w.J H → w.J (upd H p o)} (s : Sv (w.add p c n1 h) H σ τ) :
    Sv w H σ τ ∧ ∃ o, hid w.S H p = some o ∧ c.p o (hid w.S H) := by
  have less : Same (hid (p :: w.S) H) (hid w.S H) := hid_less fun x m => List.mem_cons_of_mem _ m
  refine ⟨⟨fun a m => s.live a (List.mem_cons_of_mem _ m), ⟨s.inv.1, fun q m => ?_⟩, s.len, fun i pd e => let ⟨v, a, b⟩ := s.at_ i pd e; ⟨v, a, pd.st less b⟩⟩, ?_⟩
  · obtain ⟨o, a, b⟩ := s.inv.2 q (List.mem_cons_of_mem _ m)
    exact ⟨o, a, q.2.st less b⟩
  · obtain ⟨o, a, b⟩ := s.inv.2 (p, c) List.mem_cons_self
    exact ⟨o, by rw [hid_ne n1]; exact a, c.st less b⟩
/-! ### the meaning of a piece of syntax, as a reading -/
section
variable (X : Cx)
structure eSem (e : Expr) (σ : L2.St) (H : Hp) (Q : VK) : Prop where
  go : ∀ (pins : List (Addr × Obj)) (s : Shared), Inv X pins σ H s → wpAny (model X.prog X.w) X.A (eval e X.env) (EP X pins σ Q) X.xe s
structure tSem (e : Expr) (σ : L2.St) (H : Hp) (Q : Bool → Hp → Prop) : Prop where
  go : ∀ (pins : List (Addr × Obj)) (s : Shared), Inv X pins σ H s → wpAny (model X.prog X.w) X.A (isTrue e X.env (eval e X.env)) (TP X pins σ Q) X.xe s
structure pSem (e : Expr) (σ : L2.St) (H : Hp) (Q : Bool → Hp → Prop) : Prop where
  go : ∀ (whole : Sem Value) (pins : List (Addr × Obj)) (s : Shared), Inv X pins σ H s → wpAny (model X.prog X.w) X.A (isTrue e X.env whole) (TP X pins σ Q) X.xe s
structure aSem (es : List Expr) (σ : L2.St) (H : Hp) (Q : List V → Hp → Prop) : Prop where
  go : ∀ (pos : Pos) (pins : List (Addr × Obj)) (s : Shared), Inv X pins σ H s → wpAny (model X.prog X.w) X.A (spliced (backTo pos (starEach es X.env))) (AP X pins σ Q) X.xe s
structure sSem (st : Stmt) (D : Ends) (σ : L2.St) (H : Hp) : Prop where
  go : ∀ (pins : List (Addr × Obj)) (s : Shared), Inv X pins σ H s → wpAny (model X.prog X.w) X.A (exec st X.env) (SP X pins D) X.xe s
structure ssSem (sts : List Stmt) (D : Ends) (σ : L2.St) (H : Hp) : Prop where
  go : ∀ (pins : List (Addr × Obj)) (s : Shared), Inv X pins σ H s → wpAny (model X.prog X.w) X.A (execs sts X.env) (SP X pins D) X.xe s
end
section
variable {X : Cx} {e : Expr} {es : List Expr} {st : Stmt} {sts : List Stmt} {σ : L2.St} {H : Hp}
theorem pe_sem : PE X e (eSem X e) := ⟨fun pins s _ _ _ I h => h.go pins s I⟩
theorem pt_sem : PT X e (tSem X e) := ⟨fun pins s _ _ _ I h => h.go pins s I⟩
theorem pw_sem : PW X e (pSem X e) := ⟨fun wh pins s _ _ _ I h => h.go wh pins s I⟩
theorem pa_sem : PA X es (aSem X es) := ⟨fun pos pins s _ _ _ I h => h.go pos pins s I⟩
theorem ps_sem : PS X st (sSem X st) := ⟨fun pins s _ _ _ I h => h.go pins s I⟩
theorem pss_sem : PSs X sts (ssSem X sts) := ⟨fun pins s _ _ _ I h => h.go pins s I⟩
theorem eSem_of {t : TE} {Q : VK} (h : PE X e t) (q : t σ H Q) : eSem X e σ H Q := ⟨fun pins s I => h.run pins s σ H Q I q⟩
theorem tSem_of {t : TT} {Q : Bool → Hp → Prop} (h : PT X e t) (q : t σ H Q) : tSem X e σ H Q := ⟨fun pins s I => h.run pins s σ H Q I q⟩
theorem pSem_of {t : TT} {Q : Bool → Hp → Prop} (h : PW X e t) (q : t σ H Q) : pSem X e σ H Q := ⟨fun wh pins s I => h.run wh pins s σ H Q I q⟩
theorem aSem_of {t : TA} {Q : List V → Hp → Prop} (h : PA X es t) (q : t σ H Q) : aSem X es σ H Q := ⟨fun pos pins s I => h.run pos pins s σ H Q I q⟩
theorem sSem_of {t : TS} {D : Ends} (h : PS X st t) (q : t D σ H) : sSem X st D σ H := ⟨fun pins s I => h.run pins s σ H D I q⟩
theorem ssSem_of {t : TS} {D : Ends} (h : PSs X sts t) (q : t D σ H) : ssSem X sts D σ H := ⟨fun pins s I => h.run pins s σ H D I q⟩
end
/-! ### the judgements -/
/-- e tells something of which P holds -/
def Xe (X : Cx) (w : Vw) (e : Expr) (τ : Ty) (P : Pd → Prop) : Prop := ∀ (σ : L2.St) (H : Hp), Sv w H σ τ → ∀ Q : VK,
  (∀ v pd H', Exm w.M H H' → w.I H' → P pd → pd.p v (hid w.S H') → Q v H') → eSem X e σ H Q
def Xt (X : Cx) (w : Vw) (e : Expr) (τ : Ty) (P : Bool → Prop) : Prop := ∀ (σ : L2.St) (H : Hp), Sv w H σ τ → ∀ Q : Bool → Hp → Prop,
  (∀ b H', Exm w.M H H' → w.I H' → P b → Q b H') → tSem X e σ H Q
def Xp (X : Cx) (w : Vw) (e : Expr) (τ : Ty) (P : Bool → Prop) : Prop := ∀ (σ : L2.St) (H : Hp), Sv w H σ τ → ∀ Q : Bool → Hp → Prop,
  (∀ b H', Exm w.M H H' → w.I H' → P b → Q b H') → pSem X e σ H Q
def PdAll (G : Hp) (vs : List V) (pds : List Pd) : Prop := Paired (fun v (pd : Pd) => pd.p v G) vs pds
theorem pda_same {G G' : Hp} (e : Same G G') : ∀ {vs : List V} {pds : List Pd}, PdAll G vs pds → PdAll G' vs pds
  | _, _, .nil => .nil
  | _, _, .cons (b := pd) h t => .cons (pd.st e h) (pda_same e t)
def Xa (X : Cx) (w : Vw) (es : List Expr) (τ : Ty) (P : List Pd → Prop) : Prop := ∀ (σ : L2.St) (H : Hp), Sv w H σ τ → ∀ Q : List V → Hp → Prop,
  (∀ vs pds H', Exm w.M H H' → w.I H' → P pds → PdAll (hid w.S H') vs pds → Q vs H') → aSem X es σ H Q
/-- what an operation on values tells -/
def Ot (w : Vw) (H : Hp) (t : VK → Prop) (P : Pd → Prop) : Prop := ∀ Q : VK, (∀ v pd H', Exm w.M H H' → w.I H' → P pd → pd.p v (hid w.S H') → Q v H') → t Q
section
variable {X : Cx} {w : Vw} {e a b c : Expr} {es : List Expr} {τ : Ty} {P A B : Pd → Prop} {pos : Pos} {H : Hp}
theorem Xe.imp {P' : Pd → Prop} (h : Xe X w e τ P) (i : ∀ pd, P pd → P' pd) : Xe X w e τ P' := fun σ H s Q q => h σ H s Q fun v pd H' x y z u => q v pd H' x y (i pd z) u
theorem Xt.imp {P P' : Bool → Prop} (h : Xt X w e τ P) (i : ∀ b, P b → P' b) : Xt X w e τ P' := fun σ H s Q q => h σ H s Q fun b H' x y z => q b H' x y (i b z)
theorem Ot.val {t : VK → Prop} {v : V} {pd : Pd} (s : w.I H) (h : ∀ Q : VK, Q v H → t Q) (hp : P pd) (hv : pd.p v (hid w.S H)) : Ot w H t P := fun Q q => h Q (q v pd H .rfl' s hp hv)
/-- a new object, untold so far -/
theorem Ot.new {t : VK → Prop} {o : HO} {pd : Pd} (l : Live w.S H) (s : w.I H) (h : ∀ Q : VK, (∀ p, H p = none → Q (.ref p) (upd H p o)) → t Q) (hp : P pd)
    (hv : ∀ p, H p = none → ¬ p ∈ w.S → Same (hid w.S H) (hid w.S (upd H p o)) → hid w.S (upd H p o) p = some o → pd.p (.ref p) (hid w.S (upd H p o))) : Ot w H t P := fun Q q =>
  h Q fun p n => by
    have sm : Same H (upd H p o) := fun b u e => by rw [upd_ne (ne_of_none e n)]; exact e
    have np : ¬ p ∈ w.S := fun m => l p m n
    exact q _ _ _ (Exm.same sm) (w.st sm s) hp (hv p n np (hid_move (Exm.same sm)) (by rw [hid_ne np, upd_same]))
theorem x_1 {t : TE → TE} (mk : PE X a (eSem X a) → PE X e (t (eSem X a))) {r : V → Hp → VK → Prop} (ht : ∀ ta σ H Q, (ta σ H fun x H1 => r x H1 Q) → t ta σ H Q) (ha : Xe X w a τ A)
    (hr : ∀ va pa H, Live w.S H → w.I H → A pa → pa.p va (hid w.S H) → Ot w H (r va H) P) : Xe X w e τ P := fun σ H s Q q => by
  refine eSem_of (mk pe_sem) (ht _ _ _ _ (ha σ H s _ fun va pa H1 e1 i1 p1 h1 => ?_))
  exact hr va pa H1 (s.live.move e1) i1 p1 h1 Q fun v pd H2 e2 i2 p2 h2 => q v pd H2 (e1.trans e2) i2 p2 h2
theorem x_2 {t : TE → TE → TE} (mk : PE X a (eSem X a) → PE X b (eSem X b) → PE X e (t (eSem X a) (eSem X b))) {r : V → V → Hp → VK → Prop} (ht : ∀ ta tb σ H Q, (ta σ H fun x H1 => tb σ H1 fun y H2 => r x y H2 Q) → t ta tb σ H Q)
    (ha : Xe X w a τ A) (hb : Xe X w b τ B) (hr : ∀ va vb pa pb H, Live w.S H → w.I H → A pa → B pb → pa.p va (hid w.S H) → pb.p vb (hid w.S H) → Ot w H (r va vb H) P) : Xe X w e τ P := fun σ H s Q q => by
  refine eSem_of (mk pe_sem pe_sem) (ht _ _ _ _ _ (ha σ H s _ fun va pa H1 e1 i1 p1 h1 => hb σ H1 (s.move e1 i1) _ fun vb pb H2 e2 i2 p2 h2 => ?_))
  exact hr va vb pa pb H2 ((s.live.move e1).move e2) i2 p1 p2 (pa.move e2 h1) h2 Q fun v pd H3 e3 i3 p3 h3 => q v pd H3 ((e1.trans e2).trans e3) i3 p3 h3
/-! names and constants -/
theorem x_name {i : Nat} {x : Str} {pd : Pd} (ht : τ[i]? = some (some pd)) (hN : X.N[i]? = some x) (hv : Vis X.env.scope x) (hp : P pd) (hd : (x == ("__debug__" : Str)) = false := by decide) (hcd : (x == ("__classdict__" : Str)) = false := by decide) :
    Xe X w (.Name x pos) τ P := fun σ H s Q q => by
  obtain ⟨v, e1, e2⟩ := s.at_ i pd ht
  exact eSem_of (pe_var (i := i) hN hv hd hcd) ⟨v, e1, q v pd H .rfl' s.inv hp e2⟩
theorem x_const {v : V} {pd : Pd} (h : PE X e (tC v)) (hp : P pd) (hv : ∀ G, pd.p v G) : Xe X w e τ P := fun σ H s Q q => eSem_of h (q v pd H .rfl' s.inv hp (hv _))
theorem x_int {i : Int} {j} (hp : P (dat X.K (.int i))) : Xe X w (.Constant (.int i) j pos) τ P := x_const pe_int hp fun _ => .int i
theorem x_bl {i : Bool} {j} (hp : P (dat X.K (.bool i))) : Xe X w (.Constant (.bool i) j pos) τ P := x_const pe_bl hp fun _ => .bl i
theorem x_non {j} (hp : P (dat X.K .none)) : Xe X w (.Constant .none j pos) τ P := x_const pe_non hp fun _ => .non
theorem x_str {i : Str} {j} (hp : P (dat X.K (.str i))) : Xe X w (.Constant (.str i) j pos) τ P := x_const pe_str hp fun _ => .str i
/-! operations on two ints -/
theorem dat_int {v : V} {G : Hp} {K : PySem.W.Frag} {i : Int} (h : (dat K (.int i)).p v G) : v = .int i := by
  have h' : Dp K G v (.int i) := h
  cases h'; rfl
theorem dat_bl {v : V} {G : Hp} {K : PySem.W.Frag} {i : Bool} (h : (dat K (.bool i)).p v G) : v = .bl i := by
  have h' : Dp K G v (.bool i) := h
  cases h'; rfl
theorem dat_str {v : V} {G : Hp} {K : PySem.W.Frag} {i : Str} (h : (dat K (.str i)).p v G) : v = .str i := by
  have h' : Dp K G v (.str i) := h
  cases h'; rfl
theorem dat_non {v : V} {G : Hp} {K : PySem.W.Frag} (h : (dat K .none).p v G) : v = .non := by
  have h' : Dp K G v .none := h
  cases h'; rfl
theorem dat_tup {v : V} {G : Hp} {K : PySem.W.Frag} {ds : List PyData} (h : (dat K (.tuple ds)).p v G) : ∃ p vs, v = .ref p ∧ SqT K G p vs ∧ DpAll K G vs ds := by
  have h' : Dp K G v (.tuple ds) := h
  cases h' with
  | tup a b => exact ⟨_, _, rfl, a, b⟩
theorem dat_lst {v : V} {G : Hp} {K : PySem.W.Frag} {ds : List PyData} (h : (dat K (.list ds)).p v G) : ∃ p vs, v = .ref p ∧ SqL K G p vs ∧ DpAll K G vs ds := by
  have h' : Dp K G v (.list ds) := h
  cases h' with
  | lst a b => exact ⟨_, _, rfl, a, b⟩
/-- an int that is told -/
def isI (K : PySem.W.Frag) (C : Int → Prop) (pd : Pd) : Prop := ∃ i, pd = dat K (.int i) ∧ C i
theorem x_opI {op : Operator} {C : Int → Int → Prop} {g : Int → Int → V} (ho : OpR X (binaryOp op) (rI C g)) {A B : Int → Prop} (ha : Xe X w a τ (isI X.K A)) (hb : Xe X w b τ (isI X.K B))
    (hc : ∀ i j, A i → B j → C i j) (hg : ∀ i j, A i → B j → ∃ pd, P pd ∧ ∀ G, pd.p (g i j) G) : Xe X w (.BinOp a op b pos) τ P :=
  x_2 (t := fun ta tb => tOp (rI C g) ta tb) (fun h1 h2 => pe_op ho h1 h2) (r := rI C g) (fun _ _ _ _ _ h => h) ha hb fun va vb pa pb H _ i0 ⟨i, e1, c1⟩ ⟨j, e2, c2⟩ h1 h2 => by
    subst e1; subst e2
    obtain ⟨pd, hp, hv⟩ := hg i j c1 c2
    rw [dat_int h1, dat_int h2]
    exact Ot.val i0 (fun Q q => ⟨i, j, rfl, rfl, hc i j c1 c2, q⟩) hp (hv _)
theorem x_opI0 {op : Operator} {g : Int → Int → V} (ho : OpR X (binaryOp op) (rI0 g)) {A B : Int → Prop} (ha : Xe X w a τ (isI X.K A)) (hb : Xe X w b τ (isI X.K B))
    (hg : ∀ i j, A i → B j → ∃ pd, P pd ∧ ∀ G, pd.p (g i j) G) : Xe X w (.BinOp a op b pos) τ P :=
  x_2 (t := fun ta tb => tOp (rI0 g) ta tb) (fun h1 h2 => pe_op ho h1 h2) (r := rI0 g) (fun _ _ _ _ _ h => h) ha hb fun va vb pa pb H _ i0 ⟨i, e1, c1⟩ ⟨j, e2, c2⟩ h1 h2 => by
    subst e1; subst e2
    obtain ⟨pd, hp, hv⟩ := hg i j c1 c2
    rw [dat_int h1, dat_int h2]
    exact Ot.val i0 (fun Q q => ⟨i, j, rfl, rfl, q⟩) hp (hv _)
theorem x_add {A B C : Int → Prop} (ha : Xe X w a τ (isI X.K A)) (hb : Xe X w b τ (isI X.K B)) (h : ∀ i j, A i → B j → C (i + j)) : Xe X w (.BinOp a .Add b pos) τ (isI X.K C) :=
  x_opI0 op_add ha hb fun i j p q => ⟨_, ⟨_, rfl, h i j p q⟩, fun _ => .int _⟩
theorem x_sub {A B C : Int → Prop} (ha : Xe X w a τ (isI X.K A)) (hb : Xe X w b τ (isI X.K B)) (h : ∀ i j, A i → B j → C (i - j)) : Xe X w (.BinOp a .Sub b pos) τ (isI X.K C) :=
  x_opI0 op_sub ha hb fun i j p q => ⟨_, ⟨_, rfl, h i j p q⟩, fun _ => .int _⟩
theorem x_mul {A B C : Int → Prop} (ha : Xe X w a τ (isI X.K A)) (hb : Xe X w b τ (isI X.K B)) (hm : ∀ i j, A i → B j → CMul i j) (h : ∀ i j, A i → B j → C (i * j)) : Xe X w (.BinOp a .Mult b pos) τ (isI X.K C) :=
  x_opI op_mul ha hb hm fun i j p q => ⟨_, ⟨_, rfl, h i j p q⟩, fun _ => .int _⟩
theorem x_fdiv {A B C : Int → Prop} (ha : Xe X w a τ (isI X.K A)) (hb : Xe X w b τ (isI X.K B)) (hm : ∀ i j, A i → B j → CDiv i j) (h : ∀ i j, A i → B j → C (i / j)) : Xe X w (.BinOp a .FloorDiv b pos) τ (isI X.K C) :=
  x_opI op_fdiv ha hb hm fun i j p q => ⟨_, ⟨_, rfl, h i j p q⟩, fun _ => .int _⟩
theorem x_mod {A B C : Int → Prop} (ha : Xe X w a τ (isI X.K A)) (hb : Xe X w b τ (isI X.K B)) (hm : ∀ i j, A i → B j → 0 < j) (h : ∀ i j, A i → B j → C (i % j)) : Xe X w (.BinOp a .Mod b pos) τ (isI X.K C) :=
  x_opI op_mod ha hb hm fun i j p q => ⟨_, ⟨_, rfl, h i j p q⟩, fun _ => .int _⟩
theorem x_pow {A B C : Int → Prop} (ha : Xe X w a τ (isI X.K A)) (hb : Xe X w b τ (isI X.K B)) (hm : ∀ i j, A i → B j → CPow i j) (h : ∀ i j, A i → B j → C (i ^ j.toNat)) : Xe X w (.BinOp a .Pow b pos) τ (isI X.K C) :=
  x_opI op_pow ha hb hm fun i j p q => ⟨_, ⟨_, rfl, h i j p q⟩, fun _ => .int _⟩
theorem x_neg {A C : Int → Prop} (ha : Xe X w a τ (isI X.K A)) (h : ∀ i, A i → C (-i)) : Xe X w (.UnaryOp .USub a pos) τ (isI X.K C) :=
  x_1 (t := fun ta => tUn (rU fun i => .int (-i)) ta) (fun h1 => pe_un un_neg h1) (r := rU fun i => .int (-i)) (fun _ _ _ _ h => h) ha fun va pa H _ i0 ⟨i, e1, c1⟩ h1 => by
    subst e1
    rw [dat_int h1]
    exact Ot.val i0 (fun Q q => ⟨i, rfl, q⟩) ⟨_, rfl, h i c1⟩ (.int _)
end
end Lt
namespace Lt
open PySem PySem.Spec PyProof.Rows L2
/-! ### data that is told -/
def isD (K : PySem.W.Frag) (C : PyData → Prop) (pd : Pd) : Prop := ∃ d, pd = dat K d ∧ C d
def isB (K : PySem.W.Frag) (C : Bool → Prop) (pd : Pd) : Prop := ∃ b, pd = dat K (.bool b) ∧ C b
def isDs (K : PySem.W.Frag) (C : List PyData → Prop) (pds : List Pd) : Prop := ∃ ds, pds = ds.map (dat K) ∧ C ds
theorem pda_dpa {K : PySem.W.Frag} {G : Hp} : ∀ {ds : List PyData} {vs : List V}, PdAll G vs (ds.map (dat K)) → DpAll K G vs ds
  | [], _, h => by cases h; exact .nil
  | _ :: _, _, h => by
    cases h with
    | cons h1 h2 => exact .cons h1 (pda_dpa h2)
theorem dpa_pda {K : PySem.W.Frag} {G : Hp} : ∀ {ds : List PyData} {vs : List V}, DpAll K G vs ds → PdAll G vs (ds.map (dat K))
  | [], _, h => by cases h; exact .nil
  | _ :: _, _, h => by
    cases h with
    | cons h1 h2 => exact .cons h1 (dpa_pda h2)
theorem dpa_atI {K : PySem.W.Frag} {G : Hp} {ds : List PyData} {vs : List V} {i : Int} {d : PyData} (h : DpAll K G vs ds) (e : atI ds i = some d) : ∃ v, atI vs i = some v ∧ Dp K G v d := by
  unfold atI at e ⊢
  rw [dpa_len h]
  cases q : ixN ds.length i with
  | none => rw [q] at e; cases e
  | some j => rw [q] at e; exact dpa_get h e
def noneD : PyData → Bool
  | .none => true
  | _ => false
theorem dp_none {K : PySem.W.Frag} {G : Hp} {v : V} {d : PyData} (h : Dp K G v d) : decide (v = .non) = noneD d := by
  cases h <;> rfl
section
variable {X : Cx} {w : Vw} {e a b c : Expr} {es : List Expr} {τ : Ty} {P : Pd → Prop} {A B C : PyData → Prop} {pos : Pos} {H : Hp}
theorem Xe.i2d {A : Int → Prop} (h : Xe X w e τ (isI X.K A)) : Xe X w e τ (isD X.K fun d => ∃ i, d = .int i ∧ A i) := h.imp fun _ ⟨i, e, c⟩ => ⟨_, e, i, rfl, c⟩
theorem Xe.d2i {A : PyData → Prop} {B : Int → Prop} (h : Xe X w e τ (isD X.K A)) (f : ∀ d, A d → ∃ i, d = .int i ∧ B i) : Xe X w e τ (isI X.K B) := h.imp fun _ ⟨d, e, c⟩ => by
  obtain ⟨i, rfl, q⟩ := f d c
  exact ⟨i, e, q⟩
theorem Xe.b2d {A : Bool → Prop} (h : Xe X w e τ (isB X.K A)) : Xe X w e τ (isD X.K fun d => ∃ i, d = .bool i ∧ A i) := h.imp fun _ ⟨i, e, c⟩ => ⟨_, e, i, rfl, c⟩
theorem Xe.d2b {A : PyData → Prop} {B : Bool → Prop} (h : Xe X w e τ (isD X.K A)) (f : ∀ d, A d → ∃ i, d = .bool i ∧ B i) : Xe X w e τ (isB X.K B) := h.imp fun _ ⟨d, e, c⟩ => by
  obtain ⟨i, rfl, q⟩ := f d c
  exact ⟨i, e, q⟩
theorem Xe.dimp {A' : PyData → Prop} (h : Xe X w e τ (isD X.K A)) (f : ∀ d, A d → A' d) : Xe X w e τ (isD X.K A') := h.imp fun _ ⟨d, e, c⟩ => ⟨d, e, f d c⟩
/-! ### arguments, displays -/
theorem xa_nil (h : ([] : List Pd) = [] → True) {P : List Pd → Prop} (hp : P []) : Xa X w [] τ P := fun σ H s Q q => aSem_of pa_nil (q [] [] H .rfl' s.inv hp .nil)
theorem xa_cons {P PB : List Pd → Prop} {PA' : Pd → Prop} (ha : Xe X w e τ PA') (hr : Xa X w es τ PB) (h : ∀ p ps, PA' p → PB ps → P (p :: ps)) (hs : starEach (e :: es) X.env = (false, eval e X.env) :: starEach es X.env := by rfl) : Xa X w (e :: es) τ P := fun σ H s Q q => by
  refine aSem_of (pa_cons pe_sem pa_sem hs) (ha σ H s _ fun va pa H1 e1 i1 p1 h1 => hr σ H1 (s.move e1 i1) _ fun vs ps H2 e2 i2 p2 h2 => ?_)
  exact q _ _ H2 (e1.trans e2) i2 (h pa ps p1 p2) (.cons (pa.move e2 h1) h2)
theorem xd_nil {C : List PyData → Prop} (h : C []) : Xa X w [] τ (isDs X.K C) := xa_nil (fun _ => trivial) ⟨[], rfl, h⟩
theorem xd_cons {C D : List PyData → Prop} (ha : Xe X w e τ (isD X.K A)) (hr : Xa X w es τ (isDs X.K D)) (h : ∀ d ds, A d → D ds → C (d :: ds)) (hs : starEach (e :: es) X.env = (false, eval e X.env) :: starEach es X.env := by rfl) : Xa X w (e :: es) τ (isDs X.K C) :=
  xa_cons ha hr (fun p ps ⟨d, e1, c1⟩ ⟨ds, e2, c2⟩ => ⟨d :: ds, by rw [e1, e2]; rfl, h d ds c1 c2⟩) hs
theorem x_tup {C : List PyData → Prop} {A : PyData → Prop} {k} (h : Xa X w es τ (isDs X.K C)) (hl : ∀ ds, C ds → ds.length ≤ sizeLine) (hc : ∀ ds, C ds → A (.tuple ds)) : Xe X w (.Tuple es k pos) τ (isD X.K A) := fun σ H s Q q => by
  refine eSem_of (pe_tup pa_sem) (h σ H s _ fun vs pds H1 e1 i1 ⟨ds, ed, c⟩ h1 => ?_)
  subst ed
  have da := pda_dpa h1
  refine ⟨by rw [dpa_len da]; exact hl ds c, ?_⟩
  have z := Ot.new (w := w) (H := H1) (o := .tup vs) (P := isD X.K A) (pd := dat X.K (.tuple ds)) (t := fun Q => ∀ p, H1 p = none → Q (.ref p) (upd H1 p (.tup vs))) (s.live.move e1) i1 (fun Q h => h) ⟨_, rfl, hc ds c⟩
    fun p n np sm hp => .tup (.inl (.inl hp)) (dpa_same sm ds vs da)
  exact z Q fun v pd H2 e2 i2 p2 h2 => q v pd H2 (e1.trans e2) i2 p2 h2
theorem x_lst {C : List PyData → Prop} {A : PyData → Prop} (h : Xa X w es τ (isDs X.K C)) (hl : ∀ ds, C ds → ds.length ≤ sizeLine) (hc : ∀ ds, C ds → A (.list ds)) : Xe X w (.List es pos) τ (isD X.K A) := fun σ H s Q q => by
  refine eSem_of (pe_lst pa_sem) (h σ H s _ fun vs pds H1 e1 i1 ⟨ds, ed, c⟩ h1 => ?_)
  subst ed
  have da := pda_dpa h1
  refine ⟨by rw [dpa_len da]; exact hl ds c, ?_⟩
  have z := Ot.new (w := w) (H := H1) (o := .lst vs) (P := isD X.K A) (pd := dat X.K (.list ds)) (t := fun Q => ∀ p, H1 p = none → Q (.ref p) (upd H1 p (.lst vs))) (s.live.move e1) i1 (fun Q h => h) ⟨_, rfl, hc ds c⟩
    fun p n np sm hp => .lst (.inl (.inl hp)) (dpa_same sm ds vs da)
  exact z Q fun v pd H2 e2 i2 p2 h2 => q v pd H2 (e1.trans e2) i2 p2 h2
/-- a list, a tuple of data as a new object -/
theorem ot_lst {t : VK → Prop} {vs : List V} {ds : List PyData} {A : PyData → Prop} (l : Live w.S H) (i : w.I H) (da : DpAll X.K (hid w.S H) vs ds) (hc : A (.list ds)) (h : ∀ Q : VK, (∀ p, H p = none → Q (.ref p) (upd H p (.lst vs))) → t Q) : Ot w H t (isD X.K A) :=
  Ot.new l i h ⟨_, rfl, hc⟩ fun p n np sm hp => .lst (.inl (.inl hp)) (dpa_same sm ds vs da)
theorem ot_tup {t : VK → Prop} {vs : List V} {ds : List PyData} {A : PyData → Prop} (l : Live w.S H) (i : w.I H) (da : DpAll X.K (hid w.S H) vs ds) (hc : A (.tuple ds)) (h : ∀ Q : VK, (∀ p, H p = none → Q (.ref p) (upd H p (.tup vs))) → t Q) : Ot w H t (isD X.K A) :=
  Ot.new l i h ⟨_, rfl, hc⟩ fun p n np sm hp => .tup (.inl (.inl hp)) (dpa_same sm ds vs da)
/-! ### comparisons, tests -/
theorem x_cmp {op : CmpOp} {r : R2} {PA' PB : Pd → Prop} (ho : OpR X (compareOp op) r) (hm : behindInMarks op b = false) (ha : Xe X w a τ PA') (hb : Xe X w b τ PB)
    (hr : ∀ va vb pa pb H, Live w.S H → w.I H → PA' pa → PB pb → pa.p va (hid w.S H) → pb.p vb (hid w.S H) → Ot w H (r va vb H) P) : Xe X w (.Compare a [op] [b] pos) τ P :=
  x_2 (t := fun ta tb => tOp r ta tb) (fun h1 h2 => pe_cmpR ho h1 h2 hm) (r := r) (fun _ _ _ _ _ h => h) ha hb hr
/-- a bool's expression that is tested as it lies -/
theorem xt_cmp {op : CmpOp} {T : Bool → Prop} (h : ∀ τ', Xe X w (.Compare a [op] [b] pos) τ' (isB X.K T) → True) : True := trivial
theorem xt_of {r : R2} {op : CmpOp} {T : Bool → Prop} {PA' PB : Pd → Prop} (ho : OpR X (compareOp op) r) (hm : behindInMarks op b = false) (ha : Xe X w a τ PA') (hb : Xe X w b τ PB)
    (hr : ∀ va vb pa pb H, Live w.S H → w.I H → PA' pa → PB pb → pa.p va (hid w.S H) → pb.p vb (hid w.S H) → Ot w H (r va vb H) (isB X.K T)) : Xt X w (.Compare a [op] [b] pos) τ T := fun σ H s Q q => by
  refine tSem_of (pt_cmpR ho pe_sem pe_sem hm) (ha σ H s _ fun va pa H1 e1 i1 p1 h1 => hb σ H1 (s.move e1 i1) _ fun vb pb H2 e2 i2 p2 h2 => ?_)
  refine hr va vb pa pb H2 ((s.live.move e1).move e2) i2 p1 p2 (pa.move e2 h1) h2 _ fun v pd H3 e3 i3 ⟨k, ek, ck⟩ h3 => ?_
  subst ek
  exact ⟨k, dat_bl h3, q k H3 ((e1.trans e2).trans e3) i3 ck⟩
/-- a name, a call that tells a bool -/
theorem xt_val {T : Bool → Prop} (h : Xe X w e τ (isB X.K T)) (he : ∀ whole, isTrue e X.env whole = (do let v ← whole; standAt e.pos; holding [v] (truthy v)) := by intro _; rfl) : Xt X w e τ T := fun σ H s Q q =>
  tSem_of (pt_val pe_sem he) (h σ H s _ fun v pd H1 e1 i1 ⟨k, ek, ck⟩ h1 => by
    subst ek
    exact ⟨k, dat_bl h1, q k H1 e1 i1 ck⟩)
theorem ob {g : Bool} {T : Bool → Prop} {t : VK → Prop} (i : w.I H) (h : ∀ Q : VK, Q (.bl g) H → t Q) (ht : T g) : Ot w H t (isB X.K T) := Ot.val i h ⟨g, rfl, ht⟩ (.bl g)
theorem xt_cmpI {op : CmpOp} {g : Int → Int → Bool} {T : Bool → Prop} {A B : Int → Prop} (ho : OpR X (compareOp op) (rI0 fun i j => .bl (g i j))) (hm : behindInMarks op b = false) (ha : Xe X w a τ (isI X.K A)) (hb : Xe X w b τ (isI X.K B)) (hT : ∀ i j, A i → B j → T (g i j)) :
    Xt X w (.Compare a [op] [b] pos) τ T := xt_of ho hm ha hb fun va vb pa pb H l i0 ⟨i, e1, c1⟩ ⟨j, e2, c2⟩ h1 h2 => by
    subst e1; subst e2
    rw [dat_int h1, dat_int h2]
    exact ob i0 (fun Q q => ⟨i, j, rfl, rfl, q⟩) (hT i j c1 c2)
theorem x_cmpI {op : CmpOp} {g : Int → Int → Bool} {T : Bool → Prop} {A B : Int → Prop} (ho : OpR X (compareOp op) (rI0 fun i j => .bl (g i j))) (hm : behindInMarks op b = false) (ha : Xe X w a τ (isI X.K A)) (hb : Xe X w b τ (isI X.K B)) (hT : ∀ i j, A i → B j → T (g i j)) :
    Xe X w (.Compare a [op] [b] pos) τ (isB X.K T) := x_cmp ho hm ha hb fun va vb pa pb H l i0 ⟨i, e1, c1⟩ ⟨j, e2, c2⟩ h1 h2 => by
    subst e1; subst e2
    rw [dat_int h1, dat_int h2]
    exact ob i0 (fun Q q => ⟨i, j, rfl, rfl, q⟩) (hT i j c1 c2)
/-- == and != of scalars -/
def scalD : PyData → PyData → Bool
  | .int _, .int _ => true
  | .str _, .str _ => true
  | .bool _, .bool _ => true
  | .none, _ => false
  | _, _ => false
def eqSc : PyData → PyData → Bool
  | .int i, .int j => decide (i = j)
  | .str x, .str y => decide (x = y)
  | .bool x, .bool y => decide (x = y)
  | _, _ => false
theorem dp_scal {K : PySem.W.Frag} {G : Hp} {v u : V} {d f : PyData} (h : Dp K G v d) (k : Dp K G u f) (hs : scalD d f = true) : scal v u = true ∧ decide (v = u) = eqSc d f := by
  cases h <;> cases k <;> first | (exfalso; cases hs; done) | skip
  · exact ⟨rfl, by simp [eqSc]⟩
  · exact ⟨rfl, by simp [eqSc]⟩
  · exact ⟨rfl, by simp [eqSc]⟩
theorem xt_eqS {T : Bool → Prop} (ha : Xe X w a τ (isD X.K A)) (hb : Xe X w b τ (isD X.K B)) (hs : ∀ d f, A d → B f → scalD d f = true) (hT : ∀ d f, A d → B f → T (eqSc d f)) : Xt X w (.Compare a [.Eq] [b] pos) τ T :=
  xt_of op_eq (nobehind _ (by decide) (by decide)) ha hb fun va vb pa pb H l i0 ⟨d, e1, c1⟩ ⟨f, e2, c2⟩ h1 h2 => by
    subst e1; subst e2
    obtain ⟨s1, s2⟩ := dp_scal h1 h2 (hs d f c1 c2)
    exact ob i0 (fun Q q => ⟨s1, by rw [s2]; exact q⟩) (hT d f c1 c2)
theorem xt_neS {T : Bool → Prop} (ha : Xe X w a τ (isD X.K A)) (hb : Xe X w b τ (isD X.K B)) (hs : ∀ d f, A d → B f → scalD d f = true) (hT : ∀ d f, A d → B f → T (!eqSc d f)) : Xt X w (.Compare a [.NotEq] [b] pos) τ T :=
  xt_of op_ne (nobehind _ (by decide) (by decide)) ha hb fun va vb pa pb H l i0 ⟨d, e1, c1⟩ ⟨f, e2, c2⟩ h1 h2 => by
    subst e1; subst e2
    obtain ⟨s1, s2⟩ := dp_scal h1 h2 (hs d f c1 c2)
    exact ob i0 (fun Q q => ⟨s1, by rw [s2]; exact q⟩) (hT d f c1 c2)
theorem x_eqS {T : Bool → Prop} (ha : Xe X w a τ (isD X.K A)) (hb : Xe X w b τ (isD X.K B)) (hs : ∀ d f, A d → B f → scalD d f = true) (hT : ∀ d f, A d → B f → T (eqSc d f)) : Xe X w (.Compare a [.Eq] [b] pos) τ (isB X.K T) :=
  x_cmp op_eq (nobehind _ (by decide) (by decide)) ha hb fun va vb pa pb H l i0 ⟨d, e1, c1⟩ ⟨f, e2, c2⟩ h1 h2 => by
    subst e1; subst e2
    obtain ⟨s1, s2⟩ := dp_scal h1 h2 (hs d f c1 c2)
    exact ob i0 (fun Q q => ⟨s1, by rw [s2]; exact q⟩) (hT d f c1 c2)
theorem xt_eqI {T : Bool → Prop} {A B : Int → Prop} (ha : Xe X w a τ (isI X.K A)) (hb : Xe X w b τ (isI X.K B)) (hT : ∀ i j, A i → B j → T (decide (i = j))) : Xt X w (.Compare a [.Eq] [b] pos) τ T :=
  xt_eqS ha.i2d hb.i2d (fun _ _ ⟨_, e1, _⟩ ⟨_, e2, _⟩ => by rw [e1, e2]; rfl) fun _ _ ⟨i, e1, c1⟩ ⟨j, e2, c2⟩ => by rw [e1, e2]; exact hT i j c1 c2
theorem xt_neI {T : Bool → Prop} {A B : Int → Prop} (ha : Xe X w a τ (isI X.K A)) (hb : Xe X w b τ (isI X.K B)) (hT : ∀ i j, A i → B j → T (!decide (i = j))) : Xt X w (.Compare a [.NotEq] [b] pos) τ T :=
  xt_neS ha.i2d hb.i2d (fun _ _ ⟨_, e1, _⟩ ⟨_, e2, _⟩ => by rw [e1, e2]; rfl) fun _ _ ⟨i, e1, c1⟩ ⟨j, e2, c2⟩ => by rw [e1, e2]; exact hT i j c1 c2
theorem x_eqI {T : Bool → Prop} {A B : Int → Prop} (ha : Xe X w a τ (isI X.K A)) (hb : Xe X w b τ (isI X.K B)) (hT : ∀ i j, A i → B j → T (decide (i = j))) : Xe X w (.Compare a [.Eq] [b] pos) τ (isB X.K T) :=
  x_eqS ha.i2d hb.i2d (fun _ _ ⟨_, e1, _⟩ ⟨_, e2, _⟩ => by rw [e1, e2]; rfl) fun _ _ ⟨i, e1, c1⟩ ⟨j, e2, c2⟩ => by rw [e1, e2]; exact hT i j c1 c2
/-- == and != of data of any depth -/
theorem xt_eqD {T : Bool → Prop} (hu : X.A.units + 64 < cLine) (ha : Xe X w a τ (isD X.K A)) (hb : Xe X w b τ (isD X.K B)) (hs : ∀ d f, A d → B f → SeqAt.shaped d = true ∧ SeqAt.shaped f = true) (hT : ∀ d f, A d → B f → T (PyData.eqv d f)) : Xt X w (.Compare a [.Eq] [b] pos) τ T :=
  xt_of (op_eqD hu) (nobehind _ (by decide) (by decide)) ha hb fun va vb pa pb H l i0 ⟨d, e1, c1⟩ ⟨f, e2, c2⟩ h1 h2 => by
    subst e1; subst e2
    exact ob i0 (fun Q q => ⟨d, f, dp_same (hid_sub _ _) d _ h1, dp_same (hid_sub _ _) f _ h2, (hs d f c1 c2).1, (hs d f c1 c2).2, q⟩) (hT d f c1 c2)
theorem xt_neD {T : Bool → Prop} (hu : X.A.units + 64 < cLine) (ha : Xe X w a τ (isD X.K A)) (hb : Xe X w b τ (isD X.K B)) (hs : ∀ d f, A d → B f → SeqAt.shaped d = true ∧ SeqAt.shaped f = true) (hT : ∀ d f, A d → B f → T (!PyData.eqv d f)) : Xt X w (.Compare a [.NotEq] [b] pos) τ T :=
  xt_of (op_neD hu) (nobehind _ (by decide) (by decide)) ha hb fun va vb pa pb H l i0 ⟨d, e1, c1⟩ ⟨f, e2, c2⟩ h1 h2 => by
    subst e1; subst e2
    exact ob i0 (fun Q q => ⟨d, f, dp_same (hid_sub _ _) d _ h1, dp_same (hid_sub _ _) f _ h2, (hs d f c1 c2).1, (hs d f c1 c2).2, q⟩) (hT d f c1 c2)
/-- is None, is not None -/
theorem xt_isN {T : Bool → Prop} {j pos'} (ha : Xe X w a τ (isD X.K A)) (hT : ∀ d, A d → T (noneD d)) : Xt X w (.Compare a [.Is] [.Constant .none j pos'] pos) τ T := fun σ H s Q q =>
  tSem_of (pt_cmp (pc_isN pe_sem)) (ha σ H s _ fun va pa H1 e1 i1 ⟨d, ed, cd⟩ h1 => by
    subst ed
    exact ⟨_, rfl, by rw [dp_none h1]; exact q _ H1 e1 i1 (hT d cd)⟩)
theorem xt_notN {T : Bool → Prop} {j pos'} (ha : Xe X w a τ (isD X.K A)) (hT : ∀ d, A d → T (!noneD d)) : Xt X w (.Compare a [.IsNot] [.Constant .none j pos'] pos) τ T := fun σ H s Q q =>
  tSem_of (pt_cmp (pc_notN pe_sem)) (ha σ H s _ fun va pa H1 e1 i1 ⟨d, ed, cd⟩ h1 => by
    subst ed
    exact ⟨_, rfl, by rw [dp_none h1]; exact q _ H1 e1 i1 (hT d cd)⟩)
theorem x_isN {T : Bool → Prop} {j pos'} (ha : Xe X w a τ (isD X.K A)) (hT : ∀ d, A d → T (noneD d)) : Xe X w (.Compare a [.Is] [.Constant .none j pos'] pos) τ (isB X.K T) := fun σ H s Q q =>
  eSem_of (pe_cmp (pc_isN pe_sem)) (ha σ H s _ fun va pa H1 e1 i1 ⟨d, ed, cd⟩ h1 => by
    subst ed
    have z := q (.bl (noneD d)) (dat X.K (.bool (noneD d))) H1 e1 i1 ⟨_, rfl, hT d cd⟩ (.bl _)
    rw [← dp_none h1] at z
    exact z)
/-! ### and, or, not, if -/
variable {rest : List Expr}
theorem xt_not {T T' : Bool → Prop} (h : Xt X w e τ T) (f : ∀ k, T k → T' (!k)) : Xt X w (.UnaryOp .Not e pos) τ T' := fun σ H s Q q => tSem_of (pt_not pt_sem) (h σ H s _ fun k H1 e1 i1 t => q (!k) H1 e1 i1 (f k t))
theorem xt_p {T : Bool → Prop} (h : Xp X w e τ T) : Xt X w e τ T := fun σ H s Q q => tSem_of (PW.pt pw_sem) (h σ H s _ q)
theorem xp_and1 {T : Bool → Prop} (h : Xt X w e τ T) : Xp X w (.BoolOp .And [e] pos) τ T := fun σ H s Q q => pSem_of (pw_and1 pt_sem) (h σ H s _ q)
theorem xp_or1 {T : Bool → Prop} (h : Xt X w e τ T) : Xp X w (.BoolOp .Or [e] pos) τ T := fun σ H s Q q => pSem_of (pw_or1 pt_sem) (h σ H s _ q)
theorem xp_and {TA' TB T : Bool → Prop} (h1 : Xt X w a τ TA') (h2 : TA' true → Xp X w (.BoolOp .And (b :: rest) pos) τ TB) (f : TA' false → T false) (g : TA' true → ∀ k, TB k → T k) : Xp X w (.BoolOp .And (a :: b :: rest) pos) τ T := fun σ H s Q q =>
  pSem_of (pw_and pt_sem pw_sem) (h1 σ H s _ fun k H1 e1 i1 t => by
    cases k with
    | true => exact h2 t σ H1 (s.move e1 i1) _ fun k' H2 e2 i2 t2 => q k' H2 (e1.trans e2) i2 (g t k' t2)
    | false => exact q false H1 e1 i1 (f t))
theorem xp_or {TA' TB T : Bool → Prop} (h1 : Xt X w a τ TA') (h2 : TA' false → Xp X w (.BoolOp .Or (b :: rest) pos) τ TB) (f : TA' true → T true) (g : TA' false → ∀ k, TB k → T k) : Xp X w (.BoolOp .Or (a :: b :: rest) pos) τ T := fun σ H s Q q =>
  pSem_of (pw_or pt_sem pw_sem) (h1 σ H s _ fun k H1 e1 i1 t => by
    cases k with
    | false => exact h2 t σ H1 (s.move e1 i1) _ fun k' H2 e2 i2 t2 => q k' H2 (e1.trans e2) i2 (g t k' t2)
    | true => exact q true H1 e1 i1 (f t))
theorem x_one {op} (h : Xe X w e τ P) : Xe X w (.BoolOp op [e] pos) τ P := fun σ H s Q q => eSem_of (pe_one pe_sem) (h σ H s _ q)
theorem x_and {TA' TB T : Bool → Prop} (h1 : Xe X w a τ (isB X.K TA')) (h2 : TA' true → Xe X w (.BoolOp .And (b :: rest) pos) τ (isB X.K TB)) (f : TA' false → T false) (g : TA' true → ∀ k, TB k → T k) : Xe X w (.BoolOp .And (a :: b :: rest) pos) τ (isB X.K T) := fun σ H s Q q =>
  eSem_of (pe_and pe_sem pe_sem) (h1 σ H s _ fun va pa H1 e1 i1 ⟨k, ek, ck⟩ hv => by
    subst ek
    refine ⟨k, dat_bl hv, ?_⟩
    cases k with
    | true => exact h2 ck σ H1 (s.move e1 i1) _ fun vb pb H2 e2 i2 ⟨k', ek', ck'⟩ hb => q vb pb H2 (e1.trans e2) i2 ⟨k', ek', g ck k' ck'⟩ hb
    | false => exact q (.bl false) (dat X.K (.bool false)) H1 e1 i1 ⟨false, rfl, f ck⟩ (.bl _))
theorem x_or {TA' TB T : Bool → Prop} (h1 : Xe X w a τ (isB X.K TA')) (h2 : TA' false → Xe X w (.BoolOp .Or (b :: rest) pos) τ (isB X.K TB)) (f : TA' true → T true) (g : TA' false → ∀ k, TB k → T k) : Xe X w (.BoolOp .Or (a :: b :: rest) pos) τ (isB X.K T) := fun σ H s Q q =>
  eSem_of (pe_or pe_sem pe_sem) (h1 σ H s _ fun va pa H1 e1 i1 ⟨k, ek, ck⟩ hv => by
    subst ek
    refine ⟨k, dat_bl hv, ?_⟩
    cases k with
    | false => exact h2 ck σ H1 (s.move e1 i1) _ fun vb pb H2 e2 i2 ⟨k', ek', ck'⟩ hb => q vb pb H2 (e1.trans e2) i2 ⟨k', ek', g ck k' ck'⟩ hb
    | true => exact q (.bl true) (dat X.K (.bool true)) H1 e1 i1 ⟨true, rfl, f ck⟩ (.bl _))
theorem x_not {T T' : Bool → Prop} (h : Xe X w e τ (isB X.K T)) (f : ∀ k, T k → T' (!k)) : Xe X w (.UnaryOp .Not e pos) τ (isB X.K T') := fun σ H s Q q => eSem_of (pe_not pe_sem) (h σ H s _ fun v pd H1 e1 i1 ⟨k, ek, ck⟩ hv => by
  subst ek
  exact ⟨k, dat_bl hv, q (.bl (!k)) (dat X.K (.bool (!k))) H1 e1 i1 ⟨_, rfl, f k ck⟩ (.bl _)⟩)
theorem x_if {T : Bool → Prop} (hc : Xt X w c τ T) (ha : T true → Xe X w a τ P) (hb : T false → Xe X w b τ P) : Xe X w (.IfExp c a b pos) τ P := fun σ H s Q q =>
  eSem_of (pe_ifExp pt_sem pe_sem pe_sem) (hc σ H s _ fun k H1 e1 i1 t => by
    cases k with
    | true => exact ha t σ H1 (s.move e1 i1) _ fun v pd H2 e2 i2 p2 h2 => q v pd H2 (e1.trans e2) i2 p2 h2
    | false => exact hb t σ H1 (s.move e1 i1) _ fun v pd H2 e2 i2 p2 h2 => q v pd H2 (e1.trans e2) i2 p2 h2)
/-! ### subscripts -/
theorem x_ix {B : Int → Prop} (ha : Xe X w a τ (isD X.K A)) (hb : Xe X w b τ (isI X.K B)) (h : ∀ d i, A d → B i → ∃ ds x, (d = .list ds ∨ d = .tuple ds) ∧ atI ds i = some x ∧ C x) (hs : PlainIx b := by exact fun _ _ => rfl) : Xe X w (.Subscript a b pos) τ (isD X.K C) :=
  x_2 (t := fun ta tb => tOp (rIx X.K) ta tb) (fun h1 h2 => pe_ix ix_seq h1 h2 hs) (r := rIx X.K) (fun _ _ _ _ _ h => h) ha hb fun va vb pa pb H l i0 ⟨d, e1, c1⟩ ⟨j, e2, c2⟩ h1 h2 => by
    subst e1; subst e2
    obtain ⟨ds, x, hd, hx, cx⟩ := h d j c1 c2
    rw [dat_int h2]
    rcases hd with rfl | rfl
    · obtain ⟨p, vs, rfl, hs, da⟩ := dat_lst h1
      obtain ⟨v, hv, dv⟩ := dpa_atI da hx
      exact Ot.val (pd := dat X.K x) i0 (fun Q q => .inl ⟨p, vs, j, v, rfl, rfl, sql_same (hid_sub _ _) hs, hv, q⟩) ⟨x, rfl, cx⟩ dv
    · obtain ⟨p, vs, rfl, hs, da⟩ := dat_tup h1
      obtain ⟨v, hv, dv⟩ := dpa_atI da hx
      exact Ot.val (pd := dat X.K x) i0 (fun Q q => .inr (.inl ⟨p, vs, j, v, rfl, rfl, sqt_same (hid_sub _ _) hs, hv, q⟩)) ⟨x, rfl, cx⟩ dv
end
end Lt
namespace Lt
open PySem PySem.Spec PyProof.Rows L2
section
variable {X : Cx} {w : Vw} {e a b c : Expr} {es : List Expr} {τ : Ty} {P : Pd → Prop} {A B C : PyData → Prop} {pos : Pos} {H : Hp}
/-! ### slices -/
def Xo (X : Cx) (w : Vw) (lo : Option Expr) (τ : Ty) (C : Option Int → Prop) : Prop := ∃ t, PO X lo t ∧ ∀ (σ : L2.St) (H : Hp), Sv w H σ τ → ∀ Q : Option Int → Hp → Prop,
  (∀ o H', Exm w.M H H' → w.I H' → C o → Q o H') → t σ H Q
theorem xo_no {C : Option Int → Prop} (h : C none) : Xo X w none τ C := ⟨_, po_none, fun σ H s Q q => q none H .rfl' s.inv h⟩
theorem xo_some {C : Option Int → Prop} {A : Int → Prop} (ha : Xe X w a τ (isI X.K A)) (h : ∀ i, A i → C (some i)) : Xo X w (some a) τ C := ⟨_, po_some pe_sem, fun σ H s Q q => ha σ H s _ fun v pd H1 e1 i1 ⟨i, ei, ci⟩ hv => by
  subst ei
  exact ⟨i, dat_int hv, q (some i) H1 e1 i1 (h i ci)⟩⟩
def cutD (ds : List PyData) (lo hi : Option Int) : List PyData := (ds.drop (HT.sIx ds.length 0 lo)).take (HT.sIx ds.length ds.length hi - HT.sIx ds.length 0 lo)
theorem dpa_cut {K : PySem.W.Frag} {G : Hp} {ds : List PyData} {vs : List V} (h : DpAll K G vs ds) (lo hi : Option Int) : DpAll K G (cutV vs lo hi) (cutD ds lo hi) := by
  unfold cutV cutD
  rw [dpa_len h]
  exact dpa_take _ (dpa_drop _ h)
theorem x_sl {r : V → Option Int → Option Int → Hp → VK → Prop} {lo hi : Option Expr} {p2 : Pos} {CL CH : Option Int → Prop} (hr : SlR X r) (ha : Xe X w a τ (isD X.K A)) (hl : Xo X w lo τ CL) (hh : Xo X w hi τ CH)
    (h : ∀ v d l u H, Live w.S H → w.I H → A d → CL l → CH u → Dp X.K (hid w.S H) v d → Ot w H (r v l u H) P) : Xe X w (.Subscript a (.Slice lo hi none p2) pos) τ P := fun σ H s Q q => by
  obtain ⟨tl, pl, ql⟩ := hl
  obtain ⟨th, ph, qh⟩ := hh
  refine eSem_of (pe_slice hr pe_sem pl ph) (ha σ H s _ fun v pd H1 e1 i1 ⟨d, ed, cd⟩ hv => ?_)
  subst ed
  refine ql σ H1 (s.move e1 i1) _ fun l H2 e2 i2 cl => ?_
  refine qh σ H2 ((s.move e1 i1).move e2 i2) _ fun u H3 e3 i3 cu => ?_
  exact h v d l u H3 (((s.live.move e1).move e2).move e3) i3 cd cl cu ((dat X.K d).move e3 ((dat X.K d).move e2 hv)) Q fun v pd H4 e4 i4 p4 h4 => q v pd H4 (((e1.trans e2).trans e3).trans e4) i4 p4 h4
theorem x_slL {lo hi : Option Expr} {p2 : Pos} {CL CH : Option Int → Prop} (ha : Xe X w a τ (isD X.K A)) (hl : Xo X w lo τ CL) (hh : Xo X w hi τ CH) (h : ∀ d l u, A d → CL l → CH u → ∃ ds, d = .list ds ∧ C (.list (cutD ds l u))) :
    Xe X w (.Subscript a (.Slice lo hi none p2) pos) τ (isD X.K C) := x_sl sl_list ha hl hh fun v d l u H lv i0 cd cl cu hv => by
  obtain ⟨ds, rfl, hc⟩ := h d l u cd cl cu
  obtain ⟨p, vs, rfl, hs, da⟩ := dat_lst hv
  exact ot_lst lv i0 (dpa_cut da l u) hc fun Q q => ⟨p, vs, rfl, sql_same (hid_sub _ _) hs, q⟩
theorem x_slT {lo hi : Option Expr} {p2 : Pos} {CL CH : Option Int → Prop} (ha : Xe X w a τ (isD X.K A)) (hl : Xo X w lo τ CL) (hh : Xo X w hi τ CH) (h : ∀ d l u, A d → CL l → CH u → ∃ ds, d = .tuple ds ∧ C (.tuple (cutD ds l u))) :
    Xe X w (.Subscript a (.Slice lo hi none p2) pos) τ (isD X.K C) := x_sl sl_tupA ha hl hh fun v d l u H lv i0 cd cl cu hv => by
  obtain ⟨ds, rfl, hc⟩ := h d l u cd cl cu
  obtain ⟨p, vs, rfl, hs, da⟩ := dat_tup hv
  by_cases hw : HT.sIx vs.length 0 l = 0 ∧ HT.sIx vs.length vs.length u = vs.length
  · have e : cutD ds l u = ds := by
      unfold cutD
      rw [← dpa_len da, hw.1, hw.2, List.drop_zero, Nat.sub_zero, dpa_len da, List.take_length]
    exact Ot.val (pd := dat X.K (.tuple ds)) i0 (fun Q q => ⟨p, vs, rfl, sqt_same (hid_sub _ _) hs, fun _ => q, fun z => absurd hw z⟩) ⟨_, rfl, by rw [← e]; exact hc⟩ hv
  · exact ot_tup lv i0 (dpa_cut da l u) hc fun Q q => ⟨p, vs, rfl, sqt_same (hid_sub _ _) hs, fun z => absurd z hw, fun _ => q⟩
/-- xs[::-1] of a list -/
theorem x_revL {k : Nat} {p1 p2 p3 : Pos} (ha : Xe X w a τ (isD X.K A)) (h : ∀ d, A d → ∃ ds, d = .list ds ∧ C (.list ds.reverse)) : Xe X w (.Subscript a (.Slice none none (some (.UnaryOp .USub (.Constant (.int 1) k p1) p2)) p3) pos) τ (isD X.K C) := fun σ H s Q q =>
  eSem_of (pe_revL pe_sem) (ha σ H s _ fun v pd H1 e1 i1 ⟨d, ed, cd⟩ hv => by
    subst ed
    obtain ⟨ds, rfl, hc⟩ := h d cd
    obtain ⟨p, vs, rfl, hs, da⟩ := dat_lst hv
    refine ⟨p, vs, rfl, sql_same (hid_sub _ _) hs, ?_⟩
    have z := ot_lst (X := X) (w := w) (H := H1) (t := fun Q => ∀ p, H1 p = none → Q (.ref p) (upd H1 p (.lst vs.reverse))) (A := C) (s.live.move e1) i1 (dpa_rev da) hc fun Q h => h
    exact z Q fun v pd H2 e2 i2 p2 h2 => q v pd H2 (e1.trans e2) i2 p2 h2)
/-! ### built-in functions and types -/
theorem x_cB {x : Str} {p : Pos} {id : String} {r : List V → Hp → VK → Prop} {PA' : List Pd → Prop} (hc : CallR X (.builtin id) r) (hg : Gl X x) (hm : X.mg x = none) (hv : bootBuiltins x = some (.builtin id)) (ha : Xa X w (e :: es) τ PA')
    (h : ∀ vs pds H, Live w.S H → w.I H → PA' pds → PdAll (hid w.S H) vs pds → Ot w H (r vs H) P) (hn : x ≠ "__name__" := by decide) (hdb : (x == ("__debug__" : Str)) = false := by decide)
    (he : starEach (e :: es) X.env = (false, eval e X.env) :: starEach es X.env := by rfl) (hpl : (backTo pos (starEach es X.env)).any (·.1) = false := by rfl) : Xe X w (.Call (.Name x p) (e :: es) [] pos) τ P := fun σ H s Q q =>
  eSem_of (pe_callB hc hg hm hv pa_sem hn hdb he hpl) (ha σ H s _ fun vs pds H1 e1 i1 p1 h1 => h vs pds H1 (s.live.move e1) i1 p1 h1 Q fun v pd H2 e2 i2 p2 h2 => q v pd H2 (e1.trans e2) i2 p2 h2)
theorem x_cT {x : Str} {p : Pos} {T : String} {r : List V → Hp → VK → Prop} {PA' : List Pd → Prop} (hc : CallR X (.type T) r) (hg : Gl X x) (hm : X.mg x = none) (hv : bootBuiltins x = some (.type T)) (ha : Xa X w (e :: es) τ PA')
    (h : ∀ vs pds H, Live w.S H → w.I H → PA' pds → PdAll (hid w.S H) vs pds → Ot w H (r vs H) P) (hn : x ≠ "__name__" := by decide) (hdb : (x == ("__debug__" : Str)) = false := by decide)
    (he : starEach (e :: es) X.env = (false, eval e X.env) :: starEach es X.env := by rfl) (hpl : (backTo pos (starEach es X.env)).any (·.1) = false := by rfl) : Xe X w (.Call (.Name x p) (e :: es) [] pos) τ P := fun σ H s Q q =>
  eSem_of (pe_callTy hc hg hm hv pa_sem hn hdb he hpl) (ha σ H s _ fun vs pds H1 e1 i1 p1 h1 => h vs pds H1 (s.live.move e1) i1 p1 h1 Q fun v pd H2 e2 i2 p2 h2 => q v pd H2 (e1.trans e2) i2 p2 h2)
/-- one argument, of data -/
theorem xa_1 (ha : Xe X w e τ (isD X.K A)) (hs : starEach [e] X.env = [(false, eval e X.env)] := by rfl) : Xa X w [e] τ (isDs X.K fun ds => ∃ d, ds = [d] ∧ A d) := xd_cons (D := fun ds => ds = []) ha (xd_nil rfl) (fun d ds h e => ⟨d, by rw [e], h⟩) hs
theorem one_of {K : PySem.W.Frag} {G : Hp} {vs : List V} {pds : List Pd} (h : isDs K (fun ds => ∃ d, ds = [d] ∧ A d) pds) (hv : PdAll G vs pds) : ∃ v d, vs = [v] ∧ A d ∧ Dp K G v d := by
  obtain ⟨ds, rfl, d, rfl, hd⟩ := h
  have z := pda_dpa hv
  cases z with
  | cons h1 h2 => cases h2; exact ⟨_, d, rfl, hd, h1⟩
theorem boot_len' : bootBuiltins "len" = some (.builtin "len") := by decide +kernel
theorem boot_list' : bootBuiltins "list" = some (.type "list") := by decide +kernel
theorem boot_tuple' : bootBuiltins "tuple" = some (.type "tuple") := by decide +kernel
theorem boot_int' : bootBuiltins "int" = some (.type "int") := by decide +kernel
theorem boot_abs' : bootBuiltins "abs" = some (.builtin "abs") := by decide +kernel
theorem boot_max' : bootBuiltins "max" = some (.builtin "max") := by decide +kernel
theorem boot_min' : bootBuiltins "min" = some (.builtin "min") := by decide +kernel
theorem boot_all' : bootBuiltins "all" = some (.builtin "all") := by decide +kernel
theorem boot_any' : bootBuiltins "any" = some (.builtin "any") := by decide +kernel
variable {p : Pos}
/-- len of a list, a tuple -/
theorem x_len {N : Int → Prop} (hm : X.mg "len" = none) (ha : Xe X w e τ (isD X.K A)) (h : ∀ d, A d → ∃ ds, (d = .list ds ∨ d = .tuple ds) ∧ N ds.length) (hg : Gl X "len" := by rfl) (hs : starEach [e] X.env = [(false, eval e X.env)] := by rfl) : Xe X w (.Call (.Name "len" p) [e] [] pos) τ (isI X.K N) :=
  x_cB call_len_seq hg hm boot_len' (xa_1 ha hs) (fun vs pds H lv i0 hp hv => by
    obtain ⟨v, d, rfl, hd, hv⟩ := one_of hp hv
    obtain ⟨ds, hd | hd, hn⟩ := h d hd
    · subst hd
      obtain ⟨q, ws, rfl, hs, da⟩ := dat_lst hv
      exact Ot.val (pd := dat X.K (.int ws.length)) i0 (fun Q k => ⟨q, ws, rfl, .inl (sql_same (hid_sub _ _) hs), k⟩) ⟨_, rfl, by rw [dpa_len da]; exact hn⟩ (.int _)
    · subst hd
      obtain ⟨q, ws, rfl, hs, da⟩ := dat_tup hv
      exact Ot.val (pd := dat X.K (.int ws.length)) i0 (fun Q k => ⟨q, ws, rfl, .inr (sqt_same (hid_sub _ _) hs), k⟩) ⟨_, rfl, by rw [dpa_len da]; exact hn⟩ (.int _)) (by decide) (by decide) hs rfl
/-- list(..), tuple(..) of a list, a tuple -/
theorem x_listOf (hm : X.mg "list" = none) (ha : Xe X w e τ (isD X.K A)) (h : ∀ d, A d → ∃ ds, (d = .list ds ∨ d = .tuple ds) ∧ C (.list ds)) (hg : Gl X "list" := by rfl) (hs : starEach [e] X.env = [(false, eval e X.env)] := by rfl) : Xe X w (.Call (.Name "list" p) [e] [] pos) τ (isD X.K C) :=
  x_cT call_list_of hg hm boot_list' (xa_1 ha hs) (fun vs pds H lv i0 hp hv => by
    obtain ⟨v, d, rfl, hd, hv⟩ := one_of hp hv
    obtain ⟨ds, hd | hd, hn⟩ := h d hd
    · subst hd
      obtain ⟨q, ws, rfl, hs, da⟩ := dat_lst hv
      exact ot_lst lv i0 da hn fun Q k => ⟨q, ws, rfl, .inl (sql_same (hid_sub _ _) hs), k⟩
    · subst hd
      obtain ⟨q, ws, rfl, hs, da⟩ := dat_tup hv
      exact ot_lst lv i0 da hn fun Q k => ⟨q, ws, rfl, .inr (sqt_same (hid_sub _ _) hs), k⟩) (by decide) (by decide) hs rfl
theorem x_tupleOf (hm : X.mg "tuple" = none) (ha : Xe X w e τ (isD X.K A)) (h : ∀ d, A d → ∃ ds, (d = .list ds ∨ d = .tuple ds) ∧ C (.tuple ds)) (hg : Gl X "tuple" := by rfl) (hs : starEach [e] X.env = [(false, eval e X.env)] := by rfl) : Xe X w (.Call (.Name "tuple" p) [e] [] pos) τ (isD X.K C) :=
  x_cT call_tuple_of hg hm boot_tuple' (xa_1 ha hs) (fun vs pds H lv i0 hp hv => by
    obtain ⟨v, d, rfl, hd, hv⟩ := one_of hp hv
    obtain ⟨ds, hd | hd, hn⟩ := h d hd
    · subst hd
      obtain ⟨q, ws, rfl, hs, da⟩ := dat_lst hv
      exact ot_tup lv i0 da hn fun Q k => ⟨q, ws, rfl, .inl ⟨sql_same (hid_sub _ _) hs, k⟩⟩
    · subst hd
      obtain ⟨q, ws, rfl, hs, da⟩ := dat_tup hv
      exact Ot.val (pd := dat X.K (.tuple ds)) i0 (fun Q k => ⟨q, ws, rfl, .inr ⟨sqt_same (hid_sub _ _) hs, k⟩⟩) ⟨_, rfl, hn⟩ (.tup hs da)) (by decide) (by decide) hs rfl
/-- int(n), abs(n) -/
theorem x_intOf {N M : Int → Prop} (hm : X.mg "int" = none) (ha : Xe X w e τ (isI X.K N)) (h : ∀ i, N i → M i) (hg : Gl X "int" := by rfl) (hs : starEach [e] X.env = [(false, eval e X.env)] := by rfl) : Xe X w (.Call (.Name "int" p) [e] [] pos) τ (isI X.K M) :=
  x_cT call_int1 hg hm boot_int' (xa_1 ha.i2d hs) (fun vs pds H lv i0 hp hv => by
    obtain ⟨v, d, rfl, ⟨i, rfl, hi⟩, hv⟩ := one_of hp hv
    have ev : v = .int i := dat_int hv
    subst ev
    exact Ot.val (pd := dat X.K (.int i)) i0 (fun Q k => .inl ⟨i, rfl, k⟩) ⟨_, rfl, h i hi⟩ (.int _)) (by decide) (by decide) hs rfl
theorem x_absOf {N M : Int → Prop} (hm : X.mg "abs" = none) (ha : Xe X w e τ (isI X.K N)) (h : ∀ i, N i → M (if i < 0 then -i else i)) (hg : Gl X "abs" := by rfl) (hs : starEach [e] X.env = [(false, eval e X.env)] := by rfl) : Xe X w (.Call (.Name "abs" p) [e] [] pos) τ (isI X.K M) :=
  x_cB call_abs hg hm boot_abs' (xa_1 ha.i2d hs) (fun vs pds H lv i0 hp hv => by
    obtain ⟨v, d, rfl, ⟨i, rfl, hi⟩, hv⟩ := one_of hp hv
    have ev : v = .int i := dat_int hv
    subst ev
    exact Ot.val (pd := dat X.K (.int (if i < 0 then -i else i))) i0 (fun Q k => ⟨i, rfl, k⟩) ⟨_, rfl, h i hi⟩ (.int _)) (by decide) (by decide) hs rfl
/-- max, min of two ints -/
theorem x_max2 {N M R : Int → Prop} (hc : X.calm = true) (hm : X.mg "max" = none) (ha : Xe X w a τ (isI X.K N)) (hb : Xe X w b τ (isI X.K M)) (h : ∀ i j, N i → M j → R (if j > i then j else i)) (hg : Gl X "max" := by rfl)
    (hs : starEach [b] X.env = [(false, eval b X.env)] := by rfl) (hs2 : starEach [a, b] X.env = (false, eval a X.env) :: starEach [b] X.env := by rfl) (hpl : (backTo pos (starEach [b] X.env)).any (·.1) = false := by rfl) : Xe X w (.Call (.Name "max" p) [a, b] [] pos) τ (isI X.K R) :=
  x_cB (call_max2 hc) hg hm boot_max' (xd_cons (C := fun ds => ∃ i j, ds = [.int i, .int j] ∧ N i ∧ M j) ha.i2d (xa_1 hb.i2d hs) (fun d ds ⟨i, e1, c1⟩ ⟨f, e2, j, e3, c2⟩ => ⟨i, j, by rw [e1, e2, e3], c1, c2⟩) hs2) (fun vs pds H lv i0 ⟨ds, hp, i, j, e1, c1, c2⟩ hv => by
    subst hp; subst e1
    have z := pda_dpa hv
    obtain ⟨⟩ := z
    rename_i h1 h2
    obtain ⟨⟩ := h2
    rename_i h2 h3
    cases h3
    have e1 := dat_int h1
    have e2 := dat_int h2
    subst e1; subst e2
    exact Ot.val (pd := dat X.K (.int (if j > i then j else i))) i0 (fun Q k => ⟨i, j, rfl, k⟩) ⟨_, rfl, h i j c1 c2⟩ (.int _)) (by decide) (by decide) hs2 hpl
theorem x_min2 {N M R : Int → Prop} (hc : X.calm = true) (hm : X.mg "min" = none) (ha : Xe X w a τ (isI X.K N)) (hb : Xe X w b τ (isI X.K M)) (h : ∀ i j, N i → M j → R (if j < i then j else i)) (hg : Gl X "min" := by rfl)
    (hs : starEach [b] X.env = [(false, eval b X.env)] := by rfl) (hs2 : starEach [a, b] X.env = (false, eval a X.env) :: starEach [b] X.env := by rfl) (hpl : (backTo pos (starEach [b] X.env)).any (·.1) = false := by rfl) : Xe X w (.Call (.Name "min" p) [a, b] [] pos) τ (isI X.K R) :=
  x_cB (call_min2 hc) hg hm boot_min' (xd_cons (C := fun ds => ∃ i j, ds = [.int i, .int j] ∧ N i ∧ M j) ha.i2d (xa_1 hb.i2d hs) (fun d ds ⟨i, e1, c1⟩ ⟨f, e2, j, e3, c2⟩ => ⟨i, j, by rw [e1, e2, e3], c1, c2⟩) hs2) (fun vs pds H lv i0 ⟨ds, hp, i, j, e1, c1, c2⟩ hv => by
    subst hp; subst e1
    have z := pda_dpa hv
    obtain ⟨⟩ := z
    rename_i h1 h2
    obtain ⟨⟩ := h2
    rename_i h2 h3
    cases h3
    have e1 := dat_int h1
    have e2 := dat_int h2
    subst e1; subst e2
    exact Ot.val (pd := dat X.K (.int (if j < i then j else i))) i0 (fun Q k => ⟨i, j, rfl, k⟩) ⟨_, rfl, h i j c1 c2⟩ (.int _)) (by decide) (by decide) hs2 hpl
/-! ### a def of the text -/
/-- a call, by what the promise tells -/
theorem x_call {CX : CXT} {k : Nat} {f : Addr} {fd : FuncData} {ps : List Str} {sp : Sp} {ds : List Value} {dvs : List V} {x : Str} {E : XK} {PA' : List Pd → Prop} (F : FnOk X.prog X.w X.K X.mg X.base CX k f fd ps sp) (hr : Room k X.A) (hm : X.mg x = some (.ref f)) (hk : PySem.W.keepIn X.K (.ref f) = true)
    (hb : Binds X.K fd ps ds) (hd : Vals dvs ds) (hx : Passes CX X E) (ha : Xa X w (e :: es) τ PA') (h : ∀ vs pds H, Live w.S H → w.I H → PA' pds → PdAll (hid w.S H) vs pds → Ot w H (fun Q => sp (vs ++ dvs) H Q E) P) (hg : Gl X x := by rfl)
    (hdb : (x == ("__debug__" : Str)) = false := by decide) (he : starEach (e :: es) X.env = (false, eval e X.env) :: starEach es X.env := by rfl) (hpl : (backTo pos (starEach es X.env)).any (·.1) = false := by rfl) : Xe X w (.Call (.Name x p) (e :: es) [] pos) τ P := fun σ H s Q q =>
  eSem_of (pe_call F hr hg hm hk hb hd hx pa_sem hdb he hpl) (ha σ H s _ fun vs pds H1 e1 i1 p1 h1 => h vs pds H1 (s.live.move e1) i1 p1 h1 Q fun v pd H2 e2 i2 p2 h2 => q v pd H2 (e1.trans e2) i2 p2 h2)
end
/-- a promise: from arguments of which F holds the answer r -/
def spP (F : List Pd → Pd → Prop) : Sp := fun vs H Q _ => ∃ (S : List Addr) (pds : List Pd) (r : Pd), Live S H ∧ PdAll (hid S H) vs pds ∧ F pds r ∧ ∀ v H', Same H H' → r.p v (hid S H') → Q v H'
theorem ot_spP {w : Vw} {H : Hp} {F : List Pd → Pd → Prop} {vs : List V} {pds : List Pd} {r : Pd} {P : Pd → Prop} {E : XK} (l : Live w.S H) (i : w.I H) (hv : PdAll (hid w.S H) vs pds) (hf : F pds r) (hp : P r) : Ot w H (fun Q => spP F vs H Q E) P := fun Q q =>
  ⟨w.S, pds, r, l, hv, hf, fun v H' sm hr => q v r H' (Exm.same sm) (w.st sm i) hp hr⟩
theorem spP_imp {F F' : List Pd → Pd → Prop} (h : ∀ a b, F' a b → F a b) : ∀ vs H Q E, spP F' vs H Q E → spP F vs H Q E := fun vs H Q E ⟨S, pds, r, l, a, f, k⟩ => ⟨S, pds, r, l, a, h _ _ f, k⟩
theorem spP_len {F : List Pd → Pd → Prop} {n : Nat} (h : ∀ pds r, F pds r → pds.length = n) : ∀ vs H Q E, spP F vs H Q E → vs.length = n := fun vs H Q E ⟨S, pds, r, l, a, f, k⟩ => (Paired.length a).trans (h pds r f)
end Lt
namespace Lt
open PySem PySem.Spec PyProof.Rows L2
/-! ### what is walked, as data -/
structure Wk (K : PySem.W.Frag) (w : Vw) (J : It) (ds : List PyData) (H0 : Hp) : Prop where
  goes : ∀ i H, i < ds.length → Exm w.S H0 H → J.go i H
  stops : ∀ H, Exm w.S H0 H → J.stop ds.length H
  yields : ∀ i H x H' d (S : List Addr), ds[i]? = some d → (∀ a, a ∈ S → a ∈ w.S ∨ H0 a = none) → Exm w.S H0 H → Exm S H0 H → Live S H → J.yld i H x H' → Same H H' ∧ Dp K (hid S H') x d
theorem hid_other {S S' : List Addr} {H H' : Hp} (h : ∀ a, a ∈ S' → a ∈ S ∨ H a = none) (e : Exm S' H H') : Same (hid S H) (hid S' H') := fun a o q => by
  by_cases m : a ∈ S
  · rw [hid_in m] at q; cases q
  · rw [hid_ne m] at q
    have m' : ¬ a ∈ S' := fun z => (h a z).elim m fun n => by rw [n] at q; cases q
    rw [hid_ne m']; exact e.keep a o m' q
theorem Exm.upd_new {M : List Addr} {H H1 : Hp} {p : Addr} {o : HO} (e : Exm M H H1) (n : H p = none) : Exm M H (L2.upd H1 p o) :=
  ⟨fun a u na ha => by rw [upd_ne (fun z => by rw [z, n] at ha; cases ha)]; exact e.keep a u na ha, fun a ha => by rw [upd_ne (fun z => ha (by rw [z]; exact n))]; exact e.there a ha⟩
def Xi (X : Cx) (w : Vw) (tg iter : Expr) (τ : Ty) (C : List PyData → Prop) : Prop := ∃ wi, PI X tg iter wi ∧ ∀ (σ : L2.St) (H : Hp), Sv w H σ τ → ∀ R : It → Hp → Prop,
  (∀ J H' ds, C ds → Exm w.M H H' → w.I H' → Wk X.K w J ds H' → R J H') → wi σ H R
section
variable {X : Cx} {w : Vw} {tg e a : Expr} {τ : Ty} {A : PyData → Prop} {C : List PyData → Prop} {p pos : Pos}
theorem sqt_wide {K : PySem.W.Frag} {S : List Addr} {H H' : Hp} {q : Addr} {vs : List V} (h : SqT K (hid S H) q vs) (e : Exm S H H') : SqT K H' q vs := sqt_same (hid_sub _ _) (sqt_same (hid_move e) h)
theorem sql_wide {K : PySem.W.Frag} {S : List Addr} {H H' : Hp} {q : Addr} {vs : List V} (h : SqL K (hid S H) q vs) (e : Exm S H H') : SqL K H' q vs := sql_same (hid_sub _ _) (sql_same (hid_move e) h)
theorem xi_list (ha : Xe X w e τ (isD X.K A)) (h : ∀ d, A d → ∃ ds, d = .list ds ∧ C ds) : Xi X w tg e τ C := ⟨_, pi_list pe_sem, fun σ H s R q => ha σ H s _ fun v pd H1 e1 i1 ⟨d, ed, cd⟩ hv => by
  subst ed
  obtain ⟨ds, rfl, hc⟩ := h d cd
  obtain ⟨p, vs, rfl, hs, da⟩ := dat_lst hv
  refine ⟨p, rfl, ⟨vs, sql_same (hid_sub _ _) hs⟩, q _ H1 ds hc e1 i1 ⟨fun i H2 hi m => ?_, fun H2 m => ?_, fun i H2 x H3 d S hd hS m mS l y => ?_⟩⟩
  · exact walk_list.goes i H2 (by rw [dpa_len da]; exact hi) (sql_wide hs m)
  · have z := (walk_list (K := X.K) (a := p) (xs := vs)).stops H2 (sql_wide hs m)
    rw [dpa_len da] at z; exact z
  · obtain ⟨v, hv, dv⟩ := dpa_get da hd
    have hl : i < vs.length := (List.getElem?_eq_some_iff.mp hv).1
    obtain ⟨rfl, e2⟩ := (walk_list (K := X.K) (a := p) (xs := vs)).yields i H2 x H3 hl (sql_wide hs m) y
    rw [hv] at e2; cases e2
    exact ⟨fun _ _ z => z, dp_same (hid_other hS mS) _ _ dv⟩⟩
theorem xi_tup (ha : Xe X w e τ (isD X.K A)) (h : ∀ d, A d → ∃ ds, d = .tuple ds ∧ C ds) : Xi X w tg e τ C := ⟨_, pi_tup pe_sem, fun σ H s R q => ha σ H s _ fun v pd H1 e1 i1 ⟨d, ed, cd⟩ hv => by
  subst ed
  obtain ⟨ds, rfl, hc⟩ := h d cd
  obtain ⟨p, vs, rfl, hs, da⟩ := dat_tup hv
  refine ⟨p, rfl, ⟨vs, sqt_same (hid_sub _ _) hs⟩, q _ H1 ds hc e1 i1 ⟨fun i H2 hi m => ?_, fun H2 m => ?_, fun i H2 x H3 d S hd hS m mS l y => ?_⟩⟩
  · exact walk_tup.goes i H2 (by rw [dpa_len da]; exact hi) (sqt_wide hs m)
  · have z := (walk_tup (K := X.K) (a := p) (xs := vs)).stops H2 (sqt_wide hs m)
    rw [dpa_len da] at z; exact z
  · obtain ⟨v, hv, dv⟩ := dpa_get da hd
    have hl : i < vs.length := (List.getElem?_eq_some_iff.mp hv).1
    obtain ⟨rfl, e2⟩ := (walk_tup (K := X.K) (a := p) (xs := vs)).yields i H2 x H3 hl (sqt_wide hs m) y
    rw [hv] at e2; cases e2
    exact ⟨fun _ _ z => z, dp_same (hid_other hS mS) _ _ dv⟩⟩
/-- range(n) as data -/
def rangeD (n : Nat) : List PyData := (List.range n).map fun (i : Nat) => PyData.int i
theorem xi_range {N : Int → Prop} (hm : X.mg "range" = none) (ha : Xe X w a τ (isI X.K N)) (h : ∀ i, N i → ∃ n : Nat, i = n ∧ n < 1000000 ∧ C (rangeD n)) (hg : Gl X "range" := by rfl) (hs : starEach [a] X.env = [(false, eval a X.env)] := by rfl) :
    Xi X w tg (.Call (.Name "range" p) [a] [] pos) τ C := ⟨_, pi_range1 hg hm pa_sem hs, fun σ H s R q => (xa_1 ha.i2d hs) σ H s _ fun vs pds H1 e1 i1 hp hv => by
  obtain ⟨v, d, rfl, ⟨i, rfl, hi⟩, hv⟩ := one_of hp hv
  have ev : v = .int i := dat_int hv
  subst ev
  obtain ⟨n, rfl, hn, hc⟩ := h i hi
  have big : ((1000000 : Nat) : Int) ≤ 2 ^ 62 := by decide
  refine ⟨(n : Int), rfl, by omega, by omega, q _ H1 (rangeD n) hc e1 i1 ?_⟩
  have e0 : ((n : Int)).toNat = n := by omega
  have ln : (rangeD n).length = n := by simp [rangeD]
  rw [e0]
  refine ⟨fun i H2 hi m => ?_, fun H2 m => ?_, fun i H2 x H3 d S hd hS m mS l y => ?_⟩
  · rw [ln] at hi; exact hi
  · rw [ln]; exact Nat.le_refl _
  · obtain ⟨rfl, e2⟩ := y
    have hi : i < n := by
      have := (List.getElem?_eq_some_iff.mp hd).1
      rw [ln] at this; exact this
    have ed : d = .int (i : Nat) := by
      unfold rangeD at hd
      rw [List.getElem?_map, List.getElem?_range hi] at hd
      exact (Option.some.inj hd).symm
    subst ed
    rw [e2]
    refine ⟨fun _ _ z => z, ?_⟩
    have : ((0 : Int) + (i : Nat)) = (i : Nat) := by omega
    rw [this]
    exact .int _⟩
end
/-! ### targets -/
/-- what a target stores: from the slots σ to slots of which f x τ tells -/
structure TgR (K : PySem.W.Frag) (g : TG) (vs : List Nat) (D : PyData → Prop) (f : PyData → Ty → Ty) : Prop where
  run : ∀ (w : Vw) (σ : L2.St) (τ : Ty) (H : Hp) (x : PyData) (v : V), D x → Sv w H σ τ → Dp K (hid w.S H) v x → ∀ Q : L2.St → Hp → Prop, (∀ σ2, wipe σ2 vs = wipe σ vs → Sv w H σ2 (f x τ) → Q σ2 H) → g v σ H Q
theorem tgr_name {K : PySem.W.Frag} (j : Nat) : TgR K (gName j) [j] (fun _ => True) (fun x τ => τ.set j (some (dat K x))) :=
  ⟨fun w σ τ H x v _ s h Q q => q _ (by show (σ.set j (some v)).set j none = σ.set j none; rw [List.set_set]) (s.set j (pd := dat K x) h)⟩
theorem tgr_pair {K : PySem.W.Frag} {i j : Nat} (ne : i ≠ j) : TgR K (gTup K 2 (gCons (gName i) (gCons (gName j) gNil))) [i, j] (fun x => ∃ a b, x = .tuple [a, b])
    (fun x τ => match x with | .tuple [a, b] => (τ.set i (some (dat K a))).set j (some (dat K b)) | _ => τ) :=
  ⟨fun w σ τ H x v ⟨a, b, ex⟩ s h Q q => by
    subst ex
    have h0 : (dat K (.tuple [a, b])).p v (hid w.S H) := h
    obtain ⟨p, vs, rfl, hs, da⟩ := dat_tup h0
    cases da with
    | cons h1 h2 =>
      cases h2 with
      | cons h2 h3 =>
        cases h3
        refine ⟨p, _, rfl, sqt_same (hid_sub _ _) hs, rfl, _, _, rfl, _, _, rfl, rfl, ?_⟩
        refine q _ ?_ ((s.set i (pd := dat K a) h1).set j (pd := dat K b) h2)
        rename_i va vb
        show (((σ.set i (some va)).set j (some vb)).set j none).set i none = (σ.set j none).set i none
        rw [List.set_set, List.set_comm _ _ ne, List.set_set]⟩
/-! ### blocks of comprehensions -/
def Xeb (X : Cx) (scope : Scope) (w : Vw) (e : Expr) (τ : Ty) (P : Pd → Prop) : Prop := ∀ (s : Shared) (H : Hp) (C : Addr) (cl : List (Str × Addr)) (fp : List Addr), Xe (X.blk s H scope (compEnvC scope cl C X.env) fp) w e τ P
def Xtb (X : Cx) (scope : Scope) (w : Vw) (e : Expr) (τ : Ty) (P : Bool → Prop) : Prop := ∀ (s : Shared) (H : Hp) (C : Addr) (cl : List (Str × Addr)) (fp : List Addr), Xt (X.blk s H scope (compEnvC scope cl C X.env) fp) w e τ P
/-- the tests of a comprehension -/
def Xis (X : Cx) (scope : Scope) (w : Vw) : List Expr → Ty → (Bool → Prop) → Prop
  | [], _, T => T true
  | [c], τ, T => Xtb X scope w c τ T
  | _, _, _ => False
def isSem (X : Cx) (scope : Scope) : List Expr → TT
  | [] => tYes
  | [c] => fun σ H Q => ∀ (s : Shared) (H0 : Hp) (C : Addr) (cl : List (Str × Addr)) (fp : List Addr), tSem (X.blk s H0 scope (compEnvC scope cl C X.env) fp) c σ H Q
  | _ => fun _ _ _ => False
theorem pts_sem {X : Cx} {scope : Scope} : ∀ {ifs : List Expr}, ifs.length ≤ 1 → ∀ (s : Shared) (H : Hp) (C : Addr) (cl : List (Str × Addr)) (fp : List Addr), PTs (X.blk s H scope (compEnvC scope cl C X.env) fp) ifs (isSem X scope ifs)
  | [], _, _, _, _, _, _ => pts_nil
  | [c], _, s, H, C, cl, fp => pts_one ⟨fun pins s' σ H' Q I h => (h s H C cl fp).go pins s' I⟩
  | _ :: _ :: _, h, _, _, _, _, _ => absurd h (by simp)
theorem is_run {X : Cx} {scope : Scope} {w : Vw} {T : Bool → Prop} : ∀ {ifs : List Expr} {τ : Ty}, Xis X scope w ifs τ T → ∀ (σ : L2.St) (H : Hp), Sv w H σ τ → ∀ Q : Bool → Hp → Prop, (∀ b H', Exm w.M H H' → w.I H' → T b → Q b H') → isSem X scope ifs σ H Q
  | [], _, t, σ, H, s, Q, q => q true H .rfl' s.inv t
  | [c], _, t, σ, H, s, Q, q => fun s0 H0 C cl fp => t s0 H0 C cl fp σ H s Q q
  | _ :: _ :: _, _, t, _, _, _, _, _ => t.elim
def wipeT (τ : Ty) : List Nat → Ty
  | [] => τ
  | v :: vs => (wipeT τ vs).set v none
theorem Sv.wipe {w : Vw} {H : Hp} {σ : L2.St} {τ : Ty} (s : Sv w H σ τ) : ∀ vs : List Nat, Sv w H (L2.wipe σ vs) (wipeT τ vs)
  | [] => s
  | v :: vs => (Sv.wipe s vs).none_ v
theorem wipe_comm (σ : L2.St) (j : Nat) : ∀ vs : List Nat, L2.wipe (σ.set j none) vs = (L2.wipe σ vs).set j none
  | [] => rfl
  | v :: vs => by
    show (L2.wipe (σ.set j none) vs).set v none = ((L2.wipe σ vs).set v none).set j none
    rw [wipe_comm σ j vs]
    by_cases e : j = v
    · rw [e]
    · rw [List.set_comm _ _ e]
theorem wipe_wipe (σ : L2.St) : ∀ vs : List Nat, L2.wipe (L2.wipe σ vs) vs = L2.wipe σ vs
  | [] => rfl
  | v :: vs => by
    show (L2.wipe ((L2.wipe σ vs).set v none) vs).set v none = (L2.wipe σ vs).set v none
    rw [wipe_comm, wipe_wipe σ vs, List.set_set]
/-- a list comprehension; inv: what has been made so far -/
theorem x_lc {X : Cx} {w : Vw} {elt tg iter : Expr} {ifs : List Expr} {scope : Scope} {own : List (Str × Nat)} {pos : Pos} {τ : Ty} {A : List PyData → Prop} {g : TG} {D : PyData → Prop} {f : PyData → Ty → Ty} {C : PyData → Prop} (hc : X.calm = true) (hN : X.N.Nodup)
    (hi : Xi X w tg iter τ A) (ok : BlkOk X.N X.env.scope scope own) (hg : ∀ (s : Shared) (H : Hp) (C : Addr) (cl : List (Str × Addr)) (fp : List Addr), PG (X.blk s H scope (compEnvC scope cl C X.env) fp) tg g) (ht : TgR X.K g (own.map (·.2)) D f) (hl : ifs.length ≤ 1)
    (inv : List PyData → Nat → List PyData → Prop) (T : List PyData → Nat → List PyData → Bool → Prop) (h0 : ∀ ds, A ds → inv ds 0 []) (hz : ∀ ds i acc, inv ds i acc → acc.length < sizeLine) (hD : ∀ (ds : List PyData) (i : Nat) (x : PyData), A ds → ds[i]? = some x → D x)
    (hT : ∀ (ds : List PyData) (i : Nat) (acc : List PyData) (x : PyData), A ds → inv ds i acc → ds[i]? = some x → ∀ w' : Vw, w'.M = w.M → w'.ok = w.ok → Xis X scope w' ifs (f x (wipeT τ (own.map (·.2)))) (T ds i acc))
    (he : ∀ (ds : List PyData) (i : Nat) (acc : List PyData) (x : PyData), A ds → inv ds i acc → ds[i]? = some x → T ds i acc true → ∀ w' : Vw, w'.M = w.M → w'.ok = w.ok → Xeb X scope w' elt (f x (wipeT τ (own.map (·.2)))) (isD X.K fun r => inv ds (i + 1) (acc ++ [r])))
    (hno : ∀ (ds : List PyData) (i : Nat) (acc : List PyData) (x : PyData), A ds → inv ds i acc → ds[i]? = some x → T ds i acc false → inv ds (i + 1) acc) (hC : ∀ ds acc, A ds → inv ds ds.length acc → C (.list acc)) (hs : ∀ x, foldedSetIterable iter X.env x = pure x := by intro _; rfl) :
    Xe X w (.ListComp elt [⟨tg, iter, ifs, 0⟩] scope pos) τ (isD X.K C) := fun σ H s Q q => by
  obtain ⟨wi, hpi, hsrc⟩ := hi
  refine eSem_of (pe_lc (te := fun σ H Q => ∀ (s : Shared) (H0 : Hp) (C : Addr) (cl : List (Str × Addr)) (fp : List Addr), eSem (X.blk s H0 scope (compEnvC scope cl C X.env) fp) elt σ H Q) hc hN hpi ok hg (pts_sem hl)
    (fun s0 H0 C0 cl fp => ⟨fun pins s' σ' H' Q' I h => (h s0 H0 C0 cl fp).go pins s' I⟩) hs) ?_
  refine hsrc σ H s _ fun J H1 ds hA e1 i1 wk => ?_
  intro Dl hDl
  have s1 := s.move e1 i1
  have n1 := s1.notin hDl
  have nw := w.jnw s1.inv.1 hDl
  have n2 : ¬ Dl ∈ w.M ∧ ∀ {H : Hp} {o : HO}, w.J H → w.J (upd H Dl o) := nw
  have wide : ∀ {H2 : Hp}, Exm w.M H1 H2 → Exm w.S H1 H2 := fun m => m.mono w.sub
  let Pv : Nat → Hp → Prop := fun i H2 => ∃ acc, inv ds i acc ∧ Exm w.M H1 H2 ∧ Sv (w.add Dl (Ct.lst X.K acc) n1 n2) H2 (L2.wipe σ (own.map (·.2))) (wipeT τ (own.map (·.2)))
  have hS : ∀ a, a ∈ Dl :: w.S → a ∈ w.S ∨ H1 a = none := fun a m => (List.mem_cons.mp m).elim (fun e => .inr (e ▸ hDl)) .inl
  have wideD : ∀ {H2 : Hp}, Exm w.M H1 H2 → Exm (Dl :: w.S) H1 H2 := fun m => m.mono fun a h => List.mem_cons_of_mem _ (w.sub a h)
  have wkk : Walk J ds.length (fun H2 => Exm w.M H1 H2 ∧ Live (Dl :: w.S) H2) (fun i H2 x H3 => ∃ d, ds[i]? = some d ∧ Same H2 H3 ∧ Dp X.K (hid (Dl :: w.S) H3) x d) :=
    ⟨fun i H2 hi m => wk.goes i H2 hi (wide m.1), fun H2 m => wk.stops H2 (wide m.1), fun i H2 x H3 hi m y => by
      have hd : ds[i]? = some ds[i] := by simp [hi]
      exact ⟨_, hd, wk.yields i H2 x H3 _ (Dl :: w.S) hd hS (wide m.1) (wideD m.1) m.2 y⟩⟩
  refine lc_it wkk (g := g) (tt := isSem X scope ifs) (te := fun σ H Q => ∀ (s : Shared) (H0 : Hp) (C : Addr) (cl : List (Str × Addr)) (fp : List Addr), eSem (X.blk s H0 scope (compEnvC scope cl C X.env) fp) elt σ H Q)
    (vs := own.map (·.2)) (σ := σ) (H1 := H1) (D := Dl) (Qd := fun H2 => Q (.ref Dl) H2) Pv ?_ ?_ ?_ ?_
  · refine ⟨[], h0 ds hA, Exm.upd (.inr hDl), ?_⟩
    exact (s1.wipe _).add (o := .lst []) (c := Ct.lst X.K []) hDl ⟨[], rfl, .nil⟩ n1 n2
  · rintro i H2 _ ⟨acc, _, m, sv⟩
    exact ⟨m, sv.live⟩
  · rintro i x H2 H3 hi ⟨acc, hinv, m, sv⟩ ⟨d, hd, sm, dv⟩
    have m3 : Exm (w.add Dl (Ct.lst X.K acc) n1 n2).M H2 H3 := Exm.same sm
    have sv3 := sv.move m3 (Vw.st _ sm sv.inv)
    refine ht.run _ _ _ H3 d x (hD ds i d hA hd) sv3 dv _ fun σ2 hw2 s2 => ?_
    refine ⟨by rw [hw2, wipe_wipe], ?_⟩
    refine is_run (hT ds i acc d hA hinv hd (w.add Dl (Ct.lst X.K acc) n1 n2) rfl rfl) σ2 H3 s2 _ fun b H4 e4 i4 tb => ?_
    have s4 := s2.move e4 i4
    have sv4 := sv3.move e4 i4
    cases b with
    | true =>
      rw [if_pos rfl]
      intro s0 H0 C0 cl fp
      refine he ds i acc d hA hinv hd tb (w.add Dl (Ct.lst X.K acc) n1 n2) rfl rfl s0 H0 C0 cl fp σ2 H4 s4 _ fun v pd H5 e5 i5 ⟨r, er, hr⟩ hv => ?_
      subst er
      have sv5 := sv4.move e5 i5
      obtain ⟨o, ho, vs, rfl, da⟩ := i5.2 (Dl, Ct.lst X.K acc) List.mem_cons_self
      refine ⟨vs, ho, by rw [dpa_len da]; exact hz ds i acc hinv, acc ++ [r], hr, ?_, ?_⟩
      · exact (((m.trans (Exm.same sm)).trans e4).trans e5).upd_new hDl
      · exact sv5.put (i := 0) (p := Dl) (c := Ct.lst X.K (acc ++ [r])) ⟨_, rfl⟩ ⟨_, rfl, dpa_app da (.cons hv .nil)⟩
    | false =>
      rw [if_neg Bool.false_ne_true]
      exact ⟨acc, hno ds i acc d hA hinv hd tb, (m.trans (Exm.same sm)).trans e4, sv4⟩
  · rintro H2 ⟨acc, hinv, m, sv⟩
    obtain ⟨s5, o, ho, vs, rfl, da⟩ := sv.show
    exact q (.ref Dl) (dat X.K (.list acc)) H2 (e1.trans m) s5.inv ⟨_, rfl, hC ds acc hA hinv⟩ (.lst (.inl (.inl ho)) da)
end Lt
namespace Lt
open PySem PySem.Spec PyProof.Rows L2
/-! ### statements -/
/-- a block runs to the ends D -/
def Rn (X : Cx) (w : Vw) (sts : List Stmt) (τ : Ty) (D : Ends) : Prop := ∀ (σ : L2.St) (H : Hp), Sv w H σ τ → ssSem X sts D σ H
/-- what follows: rest, then D -/
abbrev aft (X : Cx) (rest : List Stmt) (D : Ends) : Ends := { D with nx := ssSem X rest D }
section
variable {X : Cx} {w : Vw} {st : Stmt} {rest a b body : List Stmt} {e c tg iter : Expr} {τ : Ty} {D : Ends} {P : Pd → Prop} {x : Str} {pos pos' : Pos} {i : Nat}
theorem cons_of {t : TS} {σ : L2.St} {H : Hp} (h : PS X st t) (q : t (aft X rest D) σ H) : ssSem X (st :: rest) D σ H := ssSem_of (pss_cons h pss_sem) q
theorem rn_nil (h : ∀ σ H, Sv w H σ τ → D.nx σ H) : Rn X w [] τ D := fun σ H s => ssSem_of pss_nil (h σ H s)
theorem rn_asg (he : Xe X w e τ P) (k : ∀ pd, P pd → Rn X w rest (τ.set i (some pd)) D) (hN : X.N.Nodup) (hi : X.N[i]? = some x) (hx : Loc X.env.scope x) (hs : swapsWith e (some (.Name x pos')) pos.line X.env = pure false := by rfl)
    (hf : X.fn x = true ∨ X.env.scope.names.lookup x = some .local := by first | exact .inl rfl | exact .inr rfl | assumption) : Rn X w (.Assign [.Name x pos'] e pos :: rest) τ D := fun σ H s =>
  cons_of (ps_set hN hi hx pe_sem hs hf) (he σ H s _ fun v pd H1 e1 i1 p1 h1 => k pd p1 _ H1 ((s.move e1 i1).set i h1))
theorem rn_ret (he : Xe X w e τ P) (k : ∀ v pd H, Live w.S H → w.I H → P pd → pd.p v (hid w.S H) → D.rt v H) : Rn X w (.Return (some e) pos :: rest) τ D := fun σ H s =>
  cons_of (ps_ret pe_sem) (he σ H s _ fun v pd H1 e1 i1 p1 h1 => k v pd H1 (s.live.move e1) i1 p1 h1)
theorem rn_expr (he : Xe X w e τ P) (k : Rn X w rest τ D) (hs : swapsWith e none pos.line X.env = pure false := by rfl) : Rn X w (.Expr e pos :: rest) τ D := fun σ H s =>
  cons_of (ps_expr pe_sem hs) (he σ H s _ fun v pd H1 e1 i1 p1 h1 => k _ H1 (s.move e1 i1))
theorem rn_if {T : Bool → Prop} (hc : Xt X w c τ T) (h1 : T true → Rn X w a τ (aft X rest D)) (h2 : T false → Rn X w b τ (aft X rest D)) : Rn X w (.If c a b pos :: rest) τ D := fun σ H s =>
  cons_of (ps_if pt_sem pss_sem pss_sem) (hc σ H s _ fun k H1 e1 i1 t => by
    cases k with
    | true => exact h1 t _ H1 (s.move e1 i1)
    | false => exact h2 t _ H1 (s.move e1 i1))
/-- behind an if whose way runs out: the rest -/
theorem rn_out (h : Rn X w rest τ D) : Rn X w [] τ (aft X rest D) := rn_nil fun σ H s => h σ H s
/-- another view -/
theorem rn_view {w' : Vw} {τ' : Ty} (h : Rn X w' rest τ' D) (f : ∀ σ H, Sv w H σ τ → Sv w' H σ τ') : Rn X w rest τ D := fun σ H s => h σ H (f σ H s)
/-! ### loops -/
/-- a view with the same places, of which more holds -/
structure Lk (w wb : Vw) : Prop where
  S : wb.S = w.S
  M : wb.M = w.M
  ok : wb.ok = w.ok
  own : wb.own = w.own
  J : ∀ {H : Hp}, wb.J H → w.J H
def Vw.since (w : Vw) (H1 : Hp) : Vw where
  S := w.S
  M := w.M
  J := fun H => w.J H ∧ Exm w.S H1 H
  ok := w.ok
  own := w.own
  sub := w.sub
  jst := fun e h => ⟨w.jst e h.1, h.2.trans (Exm.same e)⟩
  jok := fun h => w.jok h.1
  jmv := fun e k h => ⟨w.jmv e k h.1, h.2.trans (e.mono w.sub)⟩
  jnw := fun h n => ⟨(w.jnw h.1 n).1, fun h' => ⟨(w.jnw h.1 n).2 h'.1, h'.2.upd_new (by
    cases q : H1 _ with
    | none => rfl
    | some o => exact absurd n (h.2.there _ (by rw [q]; intro z; cases z)))⟩⟩
  ow := fun q m => ⟨(w.ow q m).1, (w.ow q m).2.1, fun h => ⟨(w.ow q m).2.2 h.1, h.2.trans (Exm.upd (.inl (w.ow q m).1))⟩⟩
  nd := w.nd
theorem Lk.since {H1 : Hp} : Lk w (w.since H1) := ⟨rfl, rfl, rfl, rfl, fun h => h.1⟩
/-- a for -/
theorem rn_for {A : List PyData → Prop} {g : TG} {vs : List Nat} {Dt : PyData → Prop} {f : PyData → Ty → Ty} (hp : PassesOwn (model X.prog X.w) X.A X.env X.xe) (hc : X.calm = true) (hi : Xi X w tg iter τ A) (hg : PG X tg g) (ht : TgR X.K g vs Dt f)
    (hD : ∀ (ds : List PyData) (i : Nat) (x : PyData), A ds → ds[i]? = some x → Dt x) (inv : Vw → List PyData → Nat → Vw → Ty → Prop)
    (h0 : ∀ wb ds, Lk w wb → A ds → inv wb ds 0 wb τ) (hI : ∀ wb ds i w' τ', Lk w wb → inv wb ds i w' τ' → w'.S = w.S ∧ ∀ H, w'.J H → wb.J H)
    (hb : ∀ wb ds i (x : PyData) w' τ', Lk w wb → A ds → inv wb ds i w' τ' → ds[i]? = some x →
      Rn X w' body (f x τ') { D with nx := fun σ H => ∃ w2 τ2, inv wb ds (i + 1) w2 τ2 ∧ Sv w2 H σ τ2, ct := fun σ H => ∃ w2 τ2, inv wb ds (i + 1) w2 τ2 ∧ Sv w2 H σ τ2, bk := ssSem X rest D })
    (he : ∀ wb ds w' τ', Lk w wb → A ds → inv wb ds ds.length w' τ' → Rn X w' rest τ' D) (hs : ∀ x, foldedSetIterable iter X.env x = pure x := by intro _; rfl) : Rn X w (.For tg iter body [] pos :: rest) τ D := fun σ H s => by
  obtain ⟨wi, hpi, hsrc⟩ := hi
  refine cons_of (ps_for hp hc hpi hg pss_sem hs) (hsrc σ H s _ fun J H1 ds hA e1 i1 wk => ?_)
  have s1 := s.move e1 i1
  have sb : Sv (w.since H1) H1 σ τ := ⟨s1.live, ⟨⟨i1.1, .rfl'⟩, i1.2⟩, s1.len, s1.at_⟩
  let Pv : Nat → L2.St → Hp → Prop := fun i σ H2 => ∃ w' τ', inv (w.since H1) ds i w' τ' ∧ Sv w' H2 σ τ'
  have since : ∀ {i : Nat} {w' : Vw} {τ' : Ty} {H2 : Hp} {σ : L2.St}, inv (w.since H1) ds i w' τ' → Sv w' H2 σ τ' → Exm w.S H1 H2 ∧ Live w.S H2 := fun q s2 => by
    obtain ⟨eS, hJ⟩ := hI _ _ _ _ _ Lk.since q
    exact ⟨(hJ _ s2.inv.1).2, by rw [← eS]; exact s2.live⟩
  have wkk : Walk J ds.length (fun H2 => Exm w.S H1 H2 ∧ Live w.S H2) (fun i H2 x H3 => ∃ d, ds[i]? = some d ∧ Same H2 H3 ∧ Dp X.K (hid w.S H3) x d) :=
    ⟨fun i H2 hi m => wk.goes i H2 hi m.1, fun H2 m => wk.stops H2 m.1, fun i H2 x H3 hi m y => by
      have hd : ds[i]? = some ds[i] := by simp [hi]
      exact ⟨_, hd, wk.yields i H2 x H3 _ w.S hd (fun a m => .inl m) m.1 m.1 m.2 y⟩⟩
  refine for_it wkk (g := g) (tb := ssSem X body) (D := aft X rest D) (σ := σ) (H := H1) Pv ⟨_, _, h0 _ ds Lk.since hA, sb⟩ ?_ ?_ ?_
  · rintro i σ2 H2 _ ⟨w', τ', q, s2⟩
    exact since q s2
  · rintro i x σ2 H2 H3 hi ⟨w', τ', q, s2⟩ ⟨d, hd, sm, dv⟩
    have s3 := s2.move (Exm.same sm) (Vw.st _ sm s2.inv)
    refine ht.run w' σ2 τ' H3 d x (hD ds i d hA hd) s3 (by rw [(hI _ _ _ _ _ Lk.since q).1]; exact dv) _ fun σ3 _ s4 => ?_
    exact hb _ ds i d w' τ' Lk.since hA q hd σ3 H3 s4
  · rintro σ2 H2 ⟨w', τ', q, s2⟩
    exact he _ ds w' τ' Lk.since hA q σ2 H2 s2
/-- a while; m: what falls -/
theorem rn_while (hp : PassesOwn (model X.prog X.w) X.A X.env X.xe) (inv : Nat → Vw → Ty → Prop) (h0 : ∃ m, inv m w τ)
    (hs : ∀ m w' τ', inv m w' τ' → ∃ T : Bool → Prop, Xt X w' c τ' T ∧ (T true → Rn X w' body τ' { D with nx := fun σ H => ∃ m' w2 τ2, m' < m ∧ inv m' w2 τ2 ∧ Sv w2 H σ τ2, ct := fun σ H => ∃ m' w2 τ2, m' < m ∧ inv m' w2 τ2 ∧ Sv w2 H σ τ2, bk := ssSem X rest D }) ∧
      (T false → Rn X w' rest τ' D)) : Rn X w (.While c body [] pos :: rest) τ D := fun σ H s => by
  refine cons_of (ps_while hp pt_sem pss_sem) ?_
  obtain ⟨m0, q0⟩ := h0
  refine ⟨fun m σ H => ∃ w' τ', inv m w' τ' ∧ Sv w' H σ τ', ⟨m0, w, τ, q0, s⟩, ?_⟩
  rintro m σ1 H1 ⟨w', τ', q, s1⟩
  obtain ⟨T, hT, h1, h2⟩ := hs m w' τ' q
  refine hT σ1 H1 s1 _ fun b H2 e2 i2 t => ?_
  cases b with
  | true =>
    refine ⟨fun σ H => ∃ m' w2 τ2, m' < m ∧ inv m' w2 τ2 ∧ Sv w2 H σ τ2, ?_, h1 t _ H2 (s1.move e2 i2)⟩
    rintro σ3 H3 ⟨m', w2, τ2, l, q2, s3⟩
    exact ⟨m', l, w2, τ2, q2, s3⟩
  | false => exact h2 t _ H2 (s1.move e2 i2)
/-! ### new lists of one's own -/
/-- e makes something new, at a place that nobody knows -/
def Xf (X : Cx) (w : Vw) (e : Expr) (τ : Ty) (C : Ct → Prop) : Prop := ∀ (σ : L2.St) (H : Hp), Sv w H σ τ → ∀ Q : VK, (∀ p o c H', Exm w.M H H' → w.I H' → H' p = none → C c → c.p o (hid w.S H') → Q (.ref p) (upd H' p o)) → eSem X e σ H Q
theorem xf_lst {es : List Expr} {C : List PyData → Prop} {A : Ct → Prop} (h : Xa X w es τ (isDs X.K C)) (hl : ∀ ds, C ds → ds.length ≤ sizeLine) (hc : ∀ ds, C ds → A (Ct.lst X.K ds)) : Xf X w (.List es pos) τ A := fun σ H s Q q => by
  refine eSem_of (pe_lst pa_sem) (h σ H s _ fun vs pds H1 e1 i1 ⟨ds, ed, c⟩ h1 => ?_)
  subst ed
  have da := pda_dpa h1
  exact ⟨by rw [dpa_len da]; exact hl ds c, fun p n => q p _ (Ct.lst X.K ds) H1 e1 i1 n (hc ds c) ⟨vs, rfl, da⟩⟩
theorem xf_nil {A : Ct → Prop} (hc : A (Ct.lst X.K [])) : Xf X w (.List [] pos) τ A := xf_lst (C := fun ds => ds = []) (xd_nil rfl) (fun ds e => by rw [e]; exact Nat.zero_le _) fun ds e => by rw [e]; exact hc
theorem xf_listOf {p : Pos} {A : PyData → Prop} {C : Ct → Prop} (hm : X.mg "list" = none) (ha : Xe X w e τ (isD X.K A)) (h : ∀ d, A d → ∃ ds, (d = .list ds ∨ d = .tuple ds) ∧ C (Ct.lst X.K ds)) (hg : Gl X "list" := by rfl) (hs : starEach [e] X.env = [(false, eval e X.env)] := by rfl) :
    Xf X w (.Call (.Name "list" p) [e] [] pos) τ C := fun σ H s Q q =>
  eSem_of (pe_callTy call_list_of hg hm boot_list' pa_sem (by decide) (by decide) hs rfl) ((xa_1 ha hs) σ H s _ fun vs pds H1 e1 i1 hp hv => by
    obtain ⟨v, d, rfl, hd, hv⟩ := one_of hp hv
    obtain ⟨ds, hd | hd, hn⟩ := h d hd
    · subst hd
      obtain ⟨r, ws, rfl, hs, da⟩ := dat_lst hv
      exact ⟨r, ws, rfl, .inl (sql_same (hid_sub _ _) hs), fun l hl => q l _ (Ct.lst X.K ds) H1 e1 i1 hl hn ⟨ws, rfl, da⟩⟩
    · subst hd
      obtain ⟨r, ws, rfl, hs, da⟩ := dat_tup hv
      exact ⟨r, ws, rfl, .inr (sqt_same (hid_sub _ _) hs), fun l hl => q l _ (Ct.lst X.K ds) H1 e1 i1 hl hn ⟨ws, rfl, da⟩⟩)
/-- x = (something new) -/
theorem rn_new {C : Ct → Prop} (he : Xf X w e τ C) (k : ∀ p c (n1 : ¬ p ∈ w.S) (n2 : ¬ p ∈ w.M ∧ ∀ {H : Hp} {o : HO}, w.J H → w.J (upd H p o)), C c → Rn X (w.add p c n1 n2) rest (τ.set i (some (is (.ref p)))) D) (hN : X.N.Nodup) (hi : X.N[i]? = some x) (hx : Loc X.env.scope x)
    (hs : swapsWith e (some (.Name x pos')) pos.line X.env = pure false := by rfl) (hf : X.fn x = true ∨ X.env.scope.names.lookup x = some .local := by first | exact .inl rfl | exact .inr rfl | assumption) : Rn X w (.Assign [.Name x pos'] e pos :: rest) τ D := fun σ H s =>
  cons_of (ps_set hN hi hx pe_sem hs hf) (he σ H s _ fun p o c H1 e1 i1 n hc hco => by
    have s1 := s.move e1 i1
    have n1 := s1.notin n
    have n2 : ¬ p ∈ w.M ∧ ∀ {H : Hp} {o : HO}, w.J H → w.J (upd H p o) := w.jnw i1.1 n
    exact k p c n1 n2 hc _ _ ((s1.add n (c.st (hid_more n (same_upd n)) hco) n1 n2).set i rfl))
/-- x, y = e1, e2 with plain local names -/
theorem rn_par {j : Nat} {x y : Str} {e1 e2 : Expr} {px py pt : Pos} {kt k2 pt2} {PA' PB : Pd → Prop} (hc : X.calm = true) (h1 : Xe X w e1 τ PA') (h2 : Xe X w e2 τ PB) (k : ∀ p q, PA' p → PB q → Rn X w rest ((τ.set i (some p)).set j (some q)) D)
    (hN : X.N.Nodup) (hi : X.N[i]? = some x) (hj : X.N[j]? = some y) (hij : i ≠ j) (hx : X.env.scope.names.lookup x = some .local) (hy : X.env.scope.names.lookup y = some .local)
    (hw : swappedStores [.Tuple [.Name x px, .Name y py] kt pt] (.Tuple [e1, e2] k2 pt2) X.env = pure (some [x, y])) (hs : swapsWithSole [.Tuple [.Name x px, .Name y py] kt pt] (.Tuple [e1, e2] k2 pt2) pos.line X.env = pure false := by rfl)
    (hs1 : starEach [e1, e2] X.env = (false, eval e1 X.env) :: starEach [e2] X.env := by rfl) (hs2 : starEach [e2] X.env = (false, eval e2 X.env) :: starEach [] X.env := by rfl) :
    Rn X w (.Assign [.Tuple [.Name x px, .Name y py] kt pt] (.Tuple [e1, e2] k2 pt2) pos :: rest) τ D := fun σ H s =>
  cons_of (ps_par hc hN hi hj hij hx hy (pa_cons pe_sem (pa_cons pe_sem pa_nil hs2) hs1) hw hs) (h1 σ H s _ fun v p H1 m1 i1 p1 hv => h2 σ H1 (s.move m1 i1) _ fun u q H2 m2 i2 p2 hu =>
    ⟨v, u, rfl, k p q p1 p2 _ H2 ((((s.move m1 i1).move m2 i2).set i (p.move m2 hv)).set j hu)⟩)
/-- .. the second something new -/
theorem rn_parF {j : Nat} {x y : Str} {e1 e2 : Expr} {px py pt : Pos} {kt k2 pt2} {PA' : Pd → Prop} {C : Ct → Prop} (hc : X.calm = true) (h1 : Xe X w e1 τ PA') (h2 : Xf X w e2 τ C)
    (k : ∀ p q c (n1 : ¬ q ∈ w.S) (n2 : ¬ q ∈ w.M ∧ ∀ {H : Hp} {o : HO}, w.J H → w.J (upd H q o)), PA' p → C c → Rn X (w.add q c n1 n2) rest ((τ.set i (some p)).set j (some (is (.ref q)))) D)
    (hN : X.N.Nodup) (hi : X.N[i]? = some x) (hj : X.N[j]? = some y) (hij : i ≠ j) (hx : X.env.scope.names.lookup x = some .local) (hy : X.env.scope.names.lookup y = some .local)
    (hw : swappedStores [.Tuple [.Name x px, .Name y py] kt pt] (.Tuple [e1, e2] k2 pt2) X.env = pure (some [x, y])) (hs : swapsWithSole [.Tuple [.Name x px, .Name y py] kt pt] (.Tuple [e1, e2] k2 pt2) pos.line X.env = pure false := by rfl)
    (hs1 : starEach [e1, e2] X.env = (false, eval e1 X.env) :: starEach [e2] X.env := by rfl) (hs2 : starEach [e2] X.env = (false, eval e2 X.env) :: starEach [] X.env := by rfl) :
    Rn X w (.Assign [.Tuple [.Name x px, .Name y py] kt pt] (.Tuple [e1, e2] k2 pt2) pos :: rest) τ D := fun σ H s =>
  cons_of (ps_par hc hN hi hj hij hx hy (pa_cons pe_sem (pa_cons pe_sem pa_nil hs2) hs1) hw hs) (h1 σ H s _ fun v p H1 m1 i1 p1 hv => h2 σ H1 (s.move m1 i1) _ fun q o c H2 m2 i2 n hcc hco => by
    have s2 := (s.move m1 i1).move m2 i2
    have n1 := s2.notin n
    have n2 : ¬ q ∈ w.M ∧ ∀ {H : Hp} {o : HO}, w.J H → w.J (upd H q o) := w.jnw i2.1 n
    exact ⟨v, .ref q, rfl, k p q c n1 n2 p1 hcc _ _ (((s2.set i (p.move m2 hv)).add n (c.st (hid_more n (same_upd n)) hco) n1 n2).set j rfl)⟩)
/-- x.append(e) on a list of one's own -/
theorem rn_app {n : Expr} {apos : Pos} {p : Addr} {ds : List PyData} {C : PyData → Prop} {j : Nat} (hn : Xe X w n τ (fun pd => pd = is (.ref p))) (hw : w.own[j]? = some (p, Ct.lst X.K ds)) (hz : ds.length < sizeLine) (he : Xe X w e τ (isD X.K C))
    (k : ∀ d, C d → Rn X (w.put j p (Ct.lst X.K (ds ++ [d])) ⟨_, hw⟩) rest τ D) (t : PE X (.Call (.Attribute n "append" apos) [e] [] pos') (tBM X.K "list" (fun x vs H Q => ∃ l xs y, x = .ref l ∧ vs = [y] ∧ H l = some (.lst xs) ∧ xs.length < sizeLine ∧ Q .non (upd H l (.lst (xs ++ [y])))) (eSem X n) (tCons (eSem X e) tNil))) :
    Rn X w (.Expr (.Call (.Attribute n "append" apos) [e] [] pos') pos :: rest) τ D := fun σ H s =>
  cons_of (ps_expr t) (hn σ H s _ fun v pd H1 m1 i1 e1 hv => by
    subst e1
    have hv : v = .ref p := hv
    subst hv
    have s1 := s.move m1 i1
    obtain ⟨o, ho, vs, rfl, da⟩ := i1.2 (p, Ct.lst X.K ds) (List.mem_of_getElem? hw)
    refine ⟨.inl ⟨rfl, _, .inl (.inl ho)⟩, he σ H1 s1 _ fun u pd H2 m2 i2 ⟨d, ed, cd⟩ hu => ?_⟩
    subst ed
    have s2 := s1.move m2 i2
    obtain ⟨o, ho, vs, rfl, da⟩ := i2.2 (p, Ct.lst X.K ds) (List.mem_of_getElem? hw)
    exact ⟨p, vs, u, rfl, rfl, ho, by rw [dpa_len da]; exact hz, k d cd _ _ (s2.put (o := .lst (vs ++ [u])) ⟨_, hw⟩ ⟨_, rfl, dpa_app da (.cons hu .nil)⟩)⟩)
end
end Lt
namespace Lt
open PySem PySem.Spec PyProof.Rows L2
/-! ### names -/
section
variable {X : Cx} {w : Vw} {e a : Expr} {τ : Ty} {A : PyData → Prop} {pos p : Pos}
/-- the name in slot i, which holds pd -/
theorem x_nm (i : Nat) {x : Str} {pd : Pd} {P : Pd → Prop} (ht : τ[i]? = some (some pd)) (hp : P pd) (hN : X.N[i]? = some x := by rfl) (hv : Vis X.env.scope x := by first | exact Or.inl rfl | exact Or.inr (Or.inl rfl) | exact Or.inr (Or.inr rfl))
    (hd : (x == ("__debug__" : Str)) = false := by decide) (hcd : (x == ("__classdict__" : Str)) = false := by decide) : Xe X w (.Name x pos) τ P := x_name ht hN hv hp hd hcd
/-- .. of data -/
theorem nD (i : Nat) {x : Str} {d : PyData} (ht : τ[i]? = some (some (dat X.K d)) := by rfl) (hN : X.N[i]? = some x := by rfl) (hv : Vis X.env.scope x := by first | exact Or.inl rfl | exact Or.inr (Or.inl rfl) | exact Or.inr (Or.inr rfl))
    (hd : (x == ("__debug__" : Str)) = false := by decide) (hcd : (x == ("__classdict__" : Str)) = false := by decide) : Xe X w (.Name x pos) τ (isD X.K fun y => y = d) := x_name ht hN hv ⟨d, rfl, rfl⟩ hd hcd
theorem nI (i : Nat) {x : Str} {d : Int} (ht : τ[i]? = some (some (dat X.K (.int d))) := by rfl) (hN : X.N[i]? = some x := by rfl) (hv : Vis X.env.scope x := by first | exact Or.inl rfl | exact Or.inr (Or.inl rfl) | exact Or.inr (Or.inr rfl))
    (hd : (x == ("__debug__" : Str)) = false := by decide) (hcd : (x == ("__classdict__" : Str)) = false := by decide) : Xe X w (.Name x pos) τ (isI X.K fun y => y = d) := x_name ht hN hv ⟨d, rfl, rfl⟩ hd hcd
theorem nO (i : Nat) {x : Str} {v : V} (ht : τ[i]? = some (some (is v)) := by rfl) (hN : X.N[i]? = some x := by rfl) (hv : Vis X.env.scope x := by first | exact Or.inl rfl | exact Or.inr (Or.inl rfl) | exact Or.inr (Or.inr rfl))
    (hd : (x == ("__debug__" : Str)) = false := by decide) (hcd : (x == ("__classdict__" : Str)) = false := by decide) : Xe X w (.Name x pos) τ (fun pd => pd = is v) := x_name ht hN hv rfl hd hcd
/-- a pd that is held by a slot -/
theorem nP (i : Nat) {x : Str} {pd : Pd} (ht : τ[i]? = some (some pd) := by rfl) (hN : X.N[i]? = some x := by rfl) (hv : Vis X.env.scope x := by first | exact Or.inl rfl | exact Or.inr (Or.inl rfl) | exact Or.inr (Or.inr rfl))
    (hd : (x == ("__debug__" : Str)) = false := by decide) (hcd : (x == ("__classdict__" : Str)) = false := by decide) : Xe X w (.Name x pos) τ (fun y => y = pd) := x_name ht hN hv rfl hd hcd
theorem cI (i : Int) {j} : Xe X w (.Constant (.int i) j pos) τ (isI X.K fun y => y = i) := x_int ⟨i, rfl, rfl⟩
/-- a built-in type's name -/
theorem x_ty {x : Str} {n : String} (hm : X.mg x = none) (hv : bootBuiltins x = some (.type n)) (hg : Gl X x := by rfl) (hn : x ≠ "__name__" := by decide) (hd : (x == ("__debug__" : Str)) = false := by decide) : Xe X w (.Name x pos) τ (fun pd => pd = is (.ty n)) :=
  x_const (pe_bltn (v := .ty n) hg hm hv rfl hn hd) rfl fun _ => rfl
/-! ### isinstance of data -/
def tyD : PyData → String
  | .none => "NoneType"
  | .bool _ => "bool"
  | .int _ => "int"
  | .str _ => "str"
  | .list _ => "list"
  | .tuple _ => "tuple"
  | .dict _ => "dict"
theorem tyx_of {K : PySem.W.Frag} {H : Hp} {v : V} {d : PyData} (h : Dp K H v d) : TyX K H v (.type (tyD d)) := by
  cases h with
  | non => exact .base .non
  | bl b => exact .base (.bl b)
  | int i => exact .base (.int i)
  | str x => exact .base (.str x)
  | lst hs _ =>
    rcases hs with (hs | ⟨o, hs⟩) | ⟨o, its, n, h1, h2, _⟩
    · exact .base (.lst hs)
    · exact .base (.frz hs)
    · exact .kList h1 h2
  | tup hs _ =>
    rcases hs with (hs | ⟨o, hs⟩) | ⟨o, its, n, h1, h2, _⟩
    · exact .base (.tup hs)
    · exact .fTuple hs
    · exact .kTuple h1 h2
theorem boot_isi : bootBuiltins "isinstance" = some (.builtin "isinstance") := by decide +kernel
theorem x_isi {T : String} {t : Expr} {C : Bool → Prop} (hm : X.mg "isinstance" = none) (ha : Xe X w e τ (isD X.K A)) (ht : Xe X w t τ (fun pd => pd = is (.ty T))) (hk : ∀ d, A d → ∃ b, kitB (tyD d) T = some b ∧ C b) (hg : Gl X "isinstance" := by rfl)
    (h1 : starEach [e, t] X.env = (false, eval e X.env) :: starEach [t] X.env := by rfl) (h2 : starEach [t] X.env = (false, eval t X.env) :: starEach [] X.env := by rfl) (hpl : (backTo pos (starEach [t] X.env)).any (·.1) = false := by rfl) :
    Xe X w (.Call (.Name "isinstance" p) [e, t] [] pos) τ (isB X.K C) :=
  x_cB (PA' := fun pds => ∃ d, pds = [dat X.K d, is (.ty T)] ∧ A d) call_isi hg hm boot_isi (xa_cons ha (xa_cons (P := fun pds => pds = [is (.ty T)]) ht (xa_nil (P := fun pds => pds = []) (fun _ => trivial) rfl) (fun p ps h k => by rw [h, k]) h2) (fun p ps ⟨d, ed, cd⟩ k => ⟨d, by rw [ed, k], cd⟩) h1)
    (fun vs pds H lv i0 ⟨d, ep, cd⟩ hv => by
      subst ep
      cases hv with
      | cons v1 r =>
        cases r with
        | cons v2 r =>
          cases r
          have v2' := (show _ = V.ty T from v2)
          subst v2'
          obtain ⟨b, hb, cb⟩ := hk d cd
          exact ob i0 (fun Q q => ⟨_, _, _, _, b, rfl, .ty T, tyx_of (dp_same (hid_sub _ _) d _ v1), kit_ty hb, q⟩) cb) (by decide) (by decide) h1 hpl
/-- isinstance(e, (T1, T2)) -/
theorem x_isi2 {T1 T2 : String} {t1 t2 : Expr} {k : Nat} {tpos : Pos} {C : Bool → Prop} (hm : X.mg "isinstance" = none) (ha : Xe X w e τ (isD X.K A)) (ht1 : Xe X w t1 τ (fun pd => pd = is (.ty T1))) (ht2 : Xe X w t2 τ (fun pd => pd = is (.ty T2)))
    (hk : ∀ d, A d → ∃ b1 b2, kitB (tyD d) T1 = some b1 ∧ kitB (tyD d) T2 = some b2 ∧ C (b1 || b2)) (hg : Gl X "isinstance" := by rfl)
    (h1 : starEach [e, .Tuple [t1, t2] k tpos] X.env = (false, eval e X.env) :: starEach [.Tuple [t1, t2] k tpos] X.env := by rfl) (h2 : starEach [.Tuple [t1, t2] k tpos] X.env = (false, eval (.Tuple [t1, t2] k tpos) X.env) :: starEach [] X.env := by rfl)
    (h3 : starEach [t1, t2] X.env = (false, eval t1 X.env) :: starEach [t2] X.env := by rfl) (h4 : starEach [t2] X.env = (false, eval t2 X.env) :: starEach [] X.env := by rfl)
    (hpl : (backTo pos (starEach [.Tuple [t1, t2] k tpos] X.env)).any (·.1) = false := by rfl) :
    Xe X w (.Call (.Name "isinstance" p) [e, .Tuple [t1, t2] k tpos] [] pos) τ (isB X.K C) := fun σ H s Q q => by
  refine eSem_of (pe_callB call_isiT hg hm boot_isi (pa_cons pe_sem (pa_cons (pe_tup (pa_cons pe_sem (pa_cons pe_sem pa_nil h4) h3)) pa_nil h2) h1) (by decide) (by decide) h1 hpl) ?_
  refine ha σ H s _ fun v pd H1 m1 i1 ⟨d, ed, cd⟩ hv => ?_
  subst ed
  have s1 := s.move m1 i1
  refine ht1 σ H1 s1 _ fun u1 q1 H2 m2 i2 e2 hu1 => ?_
  subst e2
  obtain rfl : u1 = V.ty T1 := hu1
  refine ht2 σ H2 (s1.move m2 i2) _ fun u2 q2 H3 m3 i3 e3 hu2 => ?_
  subst e3
  obtain rfl : u2 = V.ty T2 := hu2
  refine ⟨by show 2 ≤ sizeLine; decide, fun tp n => ?_⟩
  obtain ⟨b1, b2, k1, k2, cb⟩ := hk d cd
  have sm : Same H3 (upd H3 tp (.tup [.ty T1, .ty T2])) := same_upd n
  have dv := (dat X.K d).move m3 ((dat X.K d).move m2 hv)
  refine ⟨v, tp, _, _, [.type T1, .type T2], b1 || b2, rfl, upd_same, .cons (.ty T1) (.cons (.ty T2) .nil), tyx_of (dp_same sm d _ (dp_same (hid_sub _ _) d _ dv)), ?_, ?_⟩
  · refine kitAny_cons (kit_ty k1) (fun e => ?_) (fun e => by rw [e]; rfl)
    refine kitAny_cons (kit_ty k2) (fun e' => ?_) (fun e' => by rw [e']; cases b1 <;> rfl)
    rw [kitAny_nil, e, e']; rfl
  · exact q _ _ _ (((m1.trans m2).trans m3).trans (Exm.same sm)) (Vw.st w sm i3) ⟨_, rfl, cb⟩ (.bl _)
end
/-! ### a def's entry -/
theorem pda_at {G : Hp} : ∀ {vs : List V} {pds : List Pd} {i : Nat} {pd : Pd}, PdAll G vs pds → pds[i]? = some pd → ∃ v, vs[i]? = some v ∧ pd.p v G
  | _, _, _, _, .nil, e => by simp at e
  | _, _, 0, _, .cons h _, e => by simp at e; subst e; exact ⟨_, rfl, h⟩
  | _, _, i + 1, _, .cons _ t, e => by
    obtain ⟨v, a, b⟩ := pda_at (i := i) t (by simpa using e)
    exact ⟨v, by simpa using a, b⟩
def startT (n : Nat) (pds : List Pd) : Ty := pds.map some ++ List.replicate (n - pds.length) none
theorem sv_start {w : Vw} {N : List Str} {vs : List V} {pds : List Pd} {H : Hp} (lv : Live w.S H) (i : w.I H) (hv : PdAll (hid w.S H) vs pds) : Sv w H (L2.start N vs) (startT N.length pds) := by
  have l := Paired.length hv
  refine ⟨lv, i, by simp [L2.start, startT, l], fun i pd e => ?_⟩
  unfold startT at e
  unfold L2.start
  by_cases h : i < pds.length
  · rw [List.getElem?_append_left (by simpa using h), List.getElem?_map] at e
    have e2 : pds[i]? = some pd := by
      cases q : pds[i]? with
      | none => rw [q] at e; cases e
      | some z => rw [q] at e; cases e; rfl
    obtain ⟨v, a, b⟩ := pda_at hv e2
    exact ⟨v, by rw [List.getElem?_append_left (by simp [l, h]), List.getElem?_map, a]; rfl, b⟩
  · rw [List.getElem?_append_right (by simpa using Nat.le_of_not_lt h), List.getElem?_replicate] at e
    split at e <;> cases e
theorem i_pure {S : List Addr} {H : Hp} : (Vw.pure S H).I H := ⟨Same.refl H, fun _ m => nomatch m⟩
/-- from the ends of a body that tells r to what the promise wants -/
def fin (Q : VK) : Ends := { nx := fun _ H' => Q .non H', rt := Q }
/-- a view grown from another one -/
structure Up (w0 w : Vw) : Prop where
  J : ∀ {H : Hp}, w.J H → w0.J H
  S : ∀ a, a ∈ w0.S → a ∈ w.S
theorem Up.rfl' {w : Vw} : Up w w := ⟨fun h => h, fun _ h => h⟩
theorem Up.add {w0 w : Vw} {p : Addr} {c : Ct} {n1 : ¬ p ∈ w.S} {n2 : ¬ p ∈ w.M ∧ ∀ {H : Hp} {o : HO}, w.J H → w.J (upd H p o)} (u : Up w0 w) : Up w0 (w.add p c n1 n2) := ⟨u.J, fun a m => List.mem_cons_of_mem _ (u.S a m)⟩
theorem Up.put {w0 w : Vw} {p : Addr} {c : Ct} {i : Nat} {h : ∃ c0, w.own[i]? = some (p, c0)} (u : Up w0 w) : Up w0 (w.put i p c h) := ⟨u.J, u.S⟩
theorem Up.lk {w0 w wb : Vw} (u : Up w0 w) (l : Lk w wb) : Up w0 wb := ⟨fun h => u.J (l.J h), fun a m => by rw [l.S]; exact u.S a m⟩
/-- the way out of a def that changes nothing -/
theorem pure_rt {S : List Addr} {H0 : Hp} {w : Vw} {r : Pd} {Q : VK} (q : ∀ v H', Same H0 H' → r.p v (hid S H') → Q v H') (u : Up (Vw.pure S H0) w) {v : V} {H : Hp} (i : w.I H) (h : r.p v (hid w.S H)) : Q v H :=
  q v H (u.J i.1) (r.st (hid_less u.S) h)
/-- THE RULE for a def that only tells -/
theorem fn_pure {P : Program} {w : World} {K : PySem.W.Frag} {mg : Str → Option Value} {base : Heap} {x qual : Str} {params : Arguments} {body : List Stmt} {scope : Scope} {dvs : List V} {kws : List (Str × V)} {f : Addr} {fd : FuncData} {CX : CXT} {N ps : List Str} {k : Nat} {F' : List Pd → Pd → Prop}
    (F : FunD K x qual params body scope dvs kws f fd) (S : FnScope N ps scope) (hl : ∀ pds r, F' pds r → pds.length = ps.length)
    (hb : ∀ (cdv : Value) (A : Around) (outer : List Env) (s : Shared) (H : Hp) (E : XK), Room k (A.deeper (envOfC qual scope s.heap.objs.size f cdv)) → ∀ (S : List Addr) (H0 : Hp) (pds : List Pd) (r : Pd) (Q : VK), F' pds r → (∀ v H', Same H0 H' → r.p v (hid S H') → Q v H') →
      Rn (cxOf CX P w K mg base N qual scope f cdv A outer s H E) (Vw.pure S H0) body (startT N.length pds) (fin Q)) : FnOk P w K mg base CX (k + 1) f fd ps (spP F') := by
  refine F.ok S (spP_len hl) (fun cdv A outer s H vs Q E hr h => ⟨_, pss_sem, ?_⟩)
  obtain ⟨Sd, pds, r, lv, hv, hf, q⟩ := h
  exact hb cdv A outer s H E hr Sd H pds r Q hf q _ H (sv_start lv i_pure hv)
/-- return e, of a def that only tells -/
theorem rn_retP {X : Cx} {S : List Addr} {H0 : Hp} {w : Vw} {e : Expr} {rest : List Stmt} {pos : Pos} {τ : Ty} {D : Ends} {r : Pd} {Q : VK} (q : ∀ v H', Same H0 H' → r.p v (hid S H') → Q v H') (u : Up (Vw.pure S H0) w) (hD : D.rt = Q) (he : Xe X w e τ (fun pd => pd = r)) : Rn X w (.Return (some e) pos :: rest) τ D :=
  rn_ret he fun v pd H lv i p h => by
    subst p
    rw [hD]
    exact pure_rt q u i h
end Lt
namespace Lt
open PySem PySem.Spec PyProof.Rows L2
/-! ### where all is determined -/
abbrev eD (K : PySem.W.Frag) (d : PyData) : Pd → Prop := isD K fun y => y = d
abbrev eI (K : PySem.W.Frag) (i : Int) : Pd → Prop := isI K fun y => y = i
abbrev eB (K : PySem.W.Frag) (b : Bool) : Pd → Prop := isB K fun y => y = b
abbrev eT (b : Bool) : Bool → Prop := fun y => y = b
section
variable {X : Cx} {w : Vw} {e a b c tg iter : Expr} {es rest : List Expr} {τ : Ty} {P : Pd → Prop} {pos p : Pos} {i j : Int} {d f : PyData} {u v t : Bool} {r : Pd}
theorem Xe.ret {K : PySem.W.Frag} (h : Xe X w e τ (eD X.K d)) (hr : r = dat K d) (hk : X.K = K := by rfl) : Xe X w e τ (fun pd => pd = r) := h.imp fun pd ⟨y, e1, e2⟩ => by rw [e1, e2, hr, hk]
theorem Xe.retB {K : PySem.W.Frag} (h : Xe X w e τ (eB X.K u)) (hr : r = dat K (.bool u)) (hk : X.K = K := by rfl) : Xe X w e τ (fun pd => pd = r) := h.imp fun pd ⟨y, e1, e2⟩ => by rw [e1, e2, hr, hk]
theorem Xe.retI {K : PySem.W.Frag} (h : Xe X w e τ (eI X.K i)) (hr : r = dat K (.int i)) (hk : X.K = K := by rfl) : Xe X w e τ (fun pd => pd = r) := h.imp fun pd ⟨y, e1, e2⟩ => by rw [e1, e2, hr, hk]
theorem Xe.ofP (h : Xe X w e τ (fun pd => pd = dat X.K d)) : Xe X w e τ (eD X.K d) := h.imp fun pd e => ⟨d, e, rfl⟩
theorem Xe.toI (h : Xe X w e τ (eD X.K (.int i))) : Xe X w e τ (eI X.K i) := h.imp fun pd ⟨y, e1, e2⟩ => ⟨i, by rw [e1, e2], rfl⟩
theorem Xe.toD (h : Xe X w e τ (eI X.K i)) : Xe X w e τ (eD X.K (.int i)) := h.imp fun pd ⟨y, e1, e2⟩ => ⟨.int i, by rw [e1, e2], rfl⟩
theorem Xe.toB (h : Xe X w e τ (eD X.K (.bool u))) : Xe X w e τ (eB X.K u) := h.imp fun pd ⟨y, e1, e2⟩ => ⟨u, by rw [e1, e2], rfl⟩
theorem Xe.ofB (h : Xe X w e τ (eB X.K u)) : Xe X w e τ (eD X.K (.bool u)) := h.imp fun pd ⟨y, e1, e2⟩ => ⟨.bool u, by rw [e1, e2], rfl⟩
theorem Xe.isd (h : Xe X w e τ (eI X.K i)) : Xe X w e τ (isD X.K fun y => y = .int i) := h.toD
theorem v_and (h1 : Xe X w a τ (eB X.K u)) (h2 : u = true → Xe X w (.BoolOp .And (b :: rest) pos) τ (eB X.K v)) : Xe X w (.BoolOp .And (a :: b :: rest) pos) τ (eB X.K (u && v)) :=
  x_and h1 (fun e => h2 e.symm) (fun e => by rw [← e]; rfl) fun e k hk => by rw [hk, ← e]; rfl
theorem v_or (h1 : Xe X w a τ (eB X.K u)) (h2 : u = false → Xe X w (.BoolOp .Or (b :: rest) pos) τ (eB X.K v)) : Xe X w (.BoolOp .Or (a :: b :: rest) pos) τ (eB X.K (u || v)) :=
  x_or h1 (fun e => h2 e.symm) (fun e => by rw [← e]; rfl) fun e k hk => by rw [hk, ← e]; rfl
theorem v_not (h : Xe X w e τ (eB X.K u)) : Xe X w (.UnaryOp .Not e pos) τ (eB X.K (!u)) := x_not h fun k hk => by rw [hk]
theorem t_not (h : Xt X w e τ (eT u)) : Xt X w (.UnaryOp .Not e pos) τ (eT (!u)) := xt_not h fun k hk => by rw [hk]
theorem t_and (h1 : Xt X w a τ (eT u)) (h2 : u = true → Xp X w (.BoolOp .And (b :: rest) pos) τ (eT v)) : Xp X w (.BoolOp .And (a :: b :: rest) pos) τ (eT (u && v)) :=
  xp_and h1 (fun e => h2 e.symm) (fun e => by rw [← e]; rfl) fun e k hk => by rw [hk, ← e]; rfl
theorem t_or (h1 : Xt X w a τ (eT u)) (h2 : u = false → Xp X w (.BoolOp .Or (b :: rest) pos) τ (eT v)) : Xp X w (.BoolOp .Or (a :: b :: rest) pos) τ (eT (u || v)) :=
  xp_or h1 (fun e => h2 e.symm) (fun e => by rw [← e]; rfl) fun e k hk => by rw [hk, ← e]; rfl
theorem t_val (h : Xe X w e τ (eB X.K u)) (he : ∀ whole, isTrue e X.env whole = (do let v ← whole; standAt e.pos; holding [v] (truthy v)) := by intro _; rfl) : Xt X w e τ (eT u) := xt_val h he
theorem v_lt (ha : Xe X w a τ (eI X.K i)) (hb : Xe X w b τ (eI X.K j)) : Xe X w (.Compare a [.Lt] [b] pos) τ (eB X.K (decide (i < j))) := x_cmpI op_lt (nobehind _ (by decide) (by decide)) ha hb fun x y h1 h2 => by rw [h1, h2]
theorem v_ge (ha : Xe X w a τ (eI X.K i)) (hb : Xe X w b τ (eI X.K j)) : Xe X w (.Compare a [.GtE] [b] pos) τ (eB X.K (decide (j ≤ i))) := x_cmpI op_ge (nobehind _ (by decide) (by decide)) ha hb fun x y h1 h2 => by rw [h1, h2]
theorem v_eq (ha : Xe X w a τ (eI X.K i)) (hb : Xe X w b τ (eI X.K j)) : Xe X w (.Compare a [.Eq] [b] pos) τ (eB X.K (decide (i = j))) := x_eqI ha hb fun x y h1 h2 => by rw [h1, h2]
theorem t_lt (ha : Xe X w a τ (eI X.K i)) (hb : Xe X w b τ (eI X.K j)) : Xt X w (.Compare a [.Lt] [b] pos) τ (eT (decide (i < j))) := xt_cmpI op_lt (nobehind _ (by decide) (by decide)) ha hb fun x y h1 h2 => by rw [h1, h2]
theorem t_le (ha : Xe X w a τ (eI X.K i)) (hb : Xe X w b τ (eI X.K j)) : Xt X w (.Compare a [.LtE] [b] pos) τ (eT (decide (i ≤ j))) := xt_cmpI op_le (nobehind _ (by decide) (by decide)) ha hb fun x y h1 h2 => by rw [h1, h2]
theorem t_gt (ha : Xe X w a τ (eI X.K i)) (hb : Xe X w b τ (eI X.K j)) : Xt X w (.Compare a [.Gt] [b] pos) τ (eT (decide (j < i))) := xt_cmpI op_gt (nobehind _ (by decide) (by decide)) ha hb fun x y h1 h2 => by rw [h1, h2]
theorem t_ge (ha : Xe X w a τ (eI X.K i)) (hb : Xe X w b τ (eI X.K j)) : Xt X w (.Compare a [.GtE] [b] pos) τ (eT (decide (j ≤ i))) := xt_cmpI op_ge (nobehind _ (by decide) (by decide)) ha hb fun x y h1 h2 => by rw [h1, h2]
theorem t_eq (ha : Xe X w a τ (eI X.K i)) (hb : Xe X w b τ (eI X.K j)) : Xt X w (.Compare a [.Eq] [b] pos) τ (eT (decide (i = j))) := xt_eqI ha hb fun x y h1 h2 => by rw [h1, h2]
theorem t_ne (ha : Xe X w a τ (eI X.K i)) (hb : Xe X w b τ (eI X.K j)) : Xt X w (.Compare a [.NotEq] [b] pos) τ (eT (!decide (i = j))) := xt_neI ha hb fun x y h1 h2 => by rw [h1, h2]
theorem t_isN {k pos'} (ha : Xe X w a τ (eD X.K d)) : Xt X w (.Compare a [.Is] [.Constant .none k pos'] pos) τ (eT (noneD d)) := xt_isN ha fun y h => by rw [h]
theorem t_notN {k pos'} (ha : Xe X w a τ (eD X.K d)) : Xt X w (.Compare a [.IsNot] [.Constant .none k pos'] pos) τ (eT (!noneD d)) := xt_notN ha fun y h => by rw [h]
theorem v_add (ha : Xe X w a τ (eI X.K i)) (hb : Xe X w b τ (eI X.K j)) : Xe X w (.BinOp a .Add b pos) τ (eI X.K (i + j)) := x_add ha hb fun x y h1 h2 => by rw [h1, h2]
theorem v_sub (ha : Xe X w a τ (eI X.K i)) (hb : Xe X w b τ (eI X.K j)) : Xe X w (.BinOp a .Sub b pos) τ (eI X.K (i - j)) := x_sub ha hb fun x y h1 h2 => by rw [h1, h2]
theorem v_neg (ha : Xe X w a τ (eI X.K i)) : Xe X w (.UnaryOp .USub a pos) τ (eI X.K (-i)) := x_neg ha fun x h1 => by rw [h1]
theorem v_if (hc : Xt X w c τ (eT u)) (ha : u = true → Xe X w a τ P) (hb : u = false → Xe X w b τ P) : Xe X w (.IfExp c a b pos) τ P := x_if hc (fun e => ha e.symm) fun e => hb e.symm
/-- an item at a place that is known -/
theorem v_ix {ds : List PyData} {n : Nat} (ha : Xe X w a τ (eD X.K d)) (hb : Xe X w b τ (eI X.K n)) (hd : d = .list ds ∨ d = .tuple ds) (hx : ds[n]? = some f) (hs : PlainIx b := by exact fun _ _ => rfl) : Xe X w (.Subscript a b pos) τ (eD X.K f) :=
  x_ix ha hb (fun y k h1 h2 => ⟨ds, f, by rw [h1]; exact hd, by rw [h2]; exact atI_nat hx, rfl⟩) hs
theorem v_len {ds : List PyData} (hm : X.mg "len" = none) (ha : Xe X w e τ (eD X.K d)) (hd : d = .list ds ∨ d = .tuple ds) (hg : Gl X "len" := by rfl) (hs : starEach [e] X.env = [(false, eval e X.env)] := by rfl) : Xe X w (.Call (.Name "len" p) [e] [] pos) τ (eI X.K ds.length) :=
  x_len hm ha (fun y h => ⟨ds, by rw [h]; exact hd, rfl⟩) hg hs
theorem v_tuple {ds : List PyData} (hm : X.mg "tuple" = none) (ha : Xe X w e τ (eD X.K d)) (hd : d = .list ds ∨ d = .tuple ds) (hg : Gl X "tuple" := by rfl) (hs : starEach [e] X.env = [(false, eval e X.env)] := by rfl) : Xe X w (.Call (.Name "tuple" p) [e] [] pos) τ (eD X.K (.tuple ds)) :=
  x_tupleOf hm ha (fun y h => ⟨ds, by rw [h]; exact hd, rfl⟩) hg hs
theorem v_list {ds : List PyData} (hm : X.mg "list" = none) (ha : Xe X w e τ (eD X.K d)) (hd : d = .list ds ∨ d = .tuple ds) (hg : Gl X "list" := by rfl) (hs : starEach [e] X.env = [(false, eval e X.env)] := by rfl) : Xe X w (.Call (.Name "list" p) [e] [] pos) τ (eD X.K (.list ds)) :=
  x_listOf hm ha (fun y h => ⟨ds, by rw [h]; exact hd, rfl⟩) hg hs
theorem v_int (hm : X.mg "int" = none) (ha : Xe X w e τ (eI X.K i)) (hg : Gl X "int" := by rfl) (hs : starEach [e] X.env = [(false, eval e X.env)] := by rfl) : Xe X w (.Call (.Name "int" p) [e] [] pos) τ (eI X.K i) := x_intOf hm ha (fun y h => h) hg hs
/-- arguments that are known -/
abbrev eDs (K : PySem.W.Frag) (ds : List PyData) : List Pd → Prop := isDs K fun y => y = ds
theorem a_nil : Xa X w [] τ (eDs X.K []) := xd_nil rfl
theorem a_cons {ds : List PyData} (ha : Xe X w e τ (eD X.K d)) (hr : Xa X w es τ (eDs X.K ds)) (hs : starEach (e :: es) X.env = (false, eval e X.env) :: starEach es X.env := by rfl) : Xa X w (e :: es) τ (eDs X.K (d :: ds)) :=
  xd_cons ha hr (fun y ys h1 h2 => by rw [h1, h2]) hs
theorem v_tup {ds : List PyData} {k} (h : Xa X w es τ (eDs X.K ds)) (hl : ds.length ≤ 1000 := by simp) : Xe X w (.Tuple es k pos) τ (eD X.K (.tuple ds)) := x_tup h (fun y e => by rw [e]; exact Nat.le_of_lt (small1000 hl)) fun y e => by rw [e]
theorem v_lst {ds : List PyData} (h : Xa X w es τ (eDs X.K ds)) (hl : ds.length ≤ 1000 := by simp) : Xe X w (.List es pos) τ (eD X.K (.list ds)) := x_lst h (fun y e => by rw [e]; exact Nat.le_of_lt (small1000 hl)) fun y e => by rw [e]
/-- pds in a row -/
theorem ap_nil : Xa X w [] τ (fun pds => pds = []) := xa_nil (fun _ => trivial) rfl
theorem ap_cons {q : Pd} {qs : List Pd} (ha : Xe X w e τ (fun pd => pd = q)) (hr : Xa X w es τ (fun pds => pds = qs)) (hs : starEach (e :: es) X.env = (false, eval e X.env) :: starEach es X.env := by rfl) : Xa X w (e :: es) τ (fun pds => pds = q :: qs) :=
  xa_cons ha hr (fun p ps h k => by rw [h, k]) hs
theorem Xe.eq (h : Xe X w e τ (eD X.K d)) : Xe X w e τ (fun pd => pd = dat X.K d) := h.imp fun pd ⟨y, e1, e2⟩ => by rw [e1, e2]
theorem Xe.eqI (h : Xe X w e τ (eI X.K i)) : Xe X w e τ (fun pd => pd = dat X.K (.int i)) := h.imp fun pd ⟨y, e1, e2⟩ => by rw [e1, e2]
/-- what is walked, known -/
theorem wi_list {ds : List PyData} (ha : Xe X w e τ (eD X.K (.list ds))) : Xi X w tg e τ (fun y => y = ds) := xi_list ha fun y h => ⟨ds, h, rfl⟩
theorem wi_tup {ds : List PyData} (ha : Xe X w e τ (eD X.K (.tuple ds))) : Xi X w tg e τ (fun y => y = ds) := xi_tup ha fun y h => ⟨ds, h, rfl⟩
theorem wi_range {n : Nat} (hm : X.mg "range" = none) (ha : Xe X w a τ (eI X.K n)) (hn : n < 1000000) (hg : Gl X "range" := by rfl) (hs : starEach [a] X.env = [(false, eval a X.env)] := by rfl) : Xi X w tg (.Call (.Name "range" p) [a] [] pos) τ (fun y => y = rangeD n) :=
  xi_range hm ha (fun k h => ⟨n, h, hn, rfl⟩) hg hs
end
theorem rangeD_get {n i : Nat} {x : PyData} (h : (rangeD n)[i]? = some x) : i < n ∧ x = .int (i : Nat) := by
  have l := (List.getElem?_eq_some_iff.mp h).1
  have hi : i < n := by simpa [rangeD] using l
  unfold rangeD at h
  rw [List.getElem?_map, List.getElem?_range hi] at h
  exact ⟨hi, (Option.some.inj h).symm⟩
theorem rangeD_len (n : Nat) : (rangeD n).length = n := by simp [rangeD]
section
variable {X : Cx} {w : Vw} {elt tg iter : Expr} {scope : Scope} {own : List (Str × Nat)} {pos : Pos} {τ : Ty} {g : TG} {Dt : PyData → Prop} {f : PyData → Ty → Ty}
/-- [e for x in xs], each item known: ws -/
theorem v_lc {ds ws : List PyData} (hc : X.calm = true) (hN : X.N.Nodup) (hi : Xi X w tg iter τ (fun y => y = ds)) (ok : BlkOk X.N X.env.scope scope own) (hg : ∀ (s : Shared) (H : Hp) (C : Addr) (cl : List (Str × Addr)) (fp : List Addr), PG (X.blk s H scope (compEnvC scope cl C X.env) fp) tg g)
    (ht : TgR X.K g (own.map (·.2)) Dt f) (hD : ∀ (i : Nat) (x : PyData), ds[i]? = some x → Dt x) (hl : ws.length = ds.length) (hz : ds.length ≤ 100000)
    (he : ∀ (i : Nat) (x r : PyData), ds[i]? = some x → ws[i]? = some r → ∀ w' : Vw, w'.M = w.M → w'.ok = w.ok → Xeb X scope w' elt (f x (wipeT τ (own.map (·.2)))) (eD X.K r)) (hs : ∀ x, foldedSetIterable iter X.env x = pure x := by intro _; rfl) :
    Xe X w (.ListComp elt [⟨tg, iter, [], 0⟩] scope pos) τ (eD X.K (.list ws)) :=
  x_lc hc hN hi ok hg ht (by simp) (fun _ i acc => acc = ws.take i ∧ i ≤ ds.length) (fun _ _ _ b => b = true) (fun _ _ => ⟨rfl, Nat.zero_le _⟩) (fun _ i acc ⟨e, h⟩ => by
    rw [e]
    exact Nat.lt_of_le_of_lt (Nat.le_trans (List.length_take_le _ _) (Nat.le_trans h hz)) (by decide)) (fun d i x e h => hD i x (by rw [← e]; exact h)) (fun _ _ _ _ _ _ _ w' _ _ => rfl)
    (fun d i acc x e ⟨ea, hi⟩ hx _ w' h1 h2 => by
      subst e
      have l := (List.getElem?_eq_some_iff.mp hx).1
      have hr : ws[i]? = some (ws[i]'(by omega)) := by simp [hl, l]
      intro s H C cl fp
      refine (he i x _ hx hr w' h1 h2 s H C cl fp).imp fun pd ⟨y, e1, e2⟩ => ⟨y, e1, ?_, by omega⟩
      rw [e2, ea, List.take_add_one, hr]; rfl) (fun _ _ _ _ _ _ _ h => by cases h)
    (fun d acc e ⟨ea, _⟩ => by rw [ea, e, ← hl, List.take_length]) hs
end
end Lt
namespace Lt
/-- steps of a machine: for each state the next states by command -/
abbrev Tb := List (List Nat)
def stp (T : Tb) (s c : Nat) : Nat := (T.getD s []).getD c 0
def led (T : Tb) (s : Nat) (row : List Nat) : Nat := row.foldl (stp T) s
structure Ok (T : Tb) (C : Nat) : Prop where
  c0 : 0 < C
  n0 : 0 < T.length
  row : ∀ r ∈ T, r.length = C ∧ ∀ x ∈ r, x < T.length
def Cmds (C : Nat) (row : List Nat) : Prop := ∀ c ∈ row, c < C
theorem led_nil (T : Tb) (s : Nat) : led T s [] = s := rfl
theorem led_cons (T : Tb) (s c : Nat) (r : List Nat) : led T s (c :: r) = led T (stp T s c) r := rfl
theorem led_append (T : Tb) (s : Nat) (a b : List Nat) : led T s (a ++ b) = led T (led T s a) b := List.foldl_append
variable {T : Tb} {C : Nat}
theorem Ok.stp_lt (h : Ok T C) {s c : Nat} (hs : s < T.length) (hc : c < C) : stp T s c < T.length := by
  unfold stp
  have e1 : T.getD s [] = T[s] := by simp [List.getD, hs]
  rw [e1]
  have hr := h.row T[s] (List.getElem_mem hs)
  have hc' : c < (T[s]).length := by rw [hr.1]; exact hc
  have e2 : (T[s]).getD c 0 = (T[s])[c] := by simp [List.getD, hc']
  rw [e2]
  exact hr.2 _ (List.getElem_mem hc')
theorem Ok.led_lt (h : Ok T C) : ∀ {row : List Nat} {s : Nat}, s < T.length → Cmds C row → led T s row < T.length
  | [], _, hs, _ => hs
  | c :: r, s, hs, hr => by
    rw [led_cons]
    exact h.led_lt (h.stp_lt hs (hr c List.mem_cons_self)) fun x hx => hr x (List.mem_cons_of_mem _ hx)
/-! ### kernels -/
def canon (l : List Nat) : List Nat := l.map fun x => l.idxOf x
def eff (T : Tb) (row : List Nat) : List Nat := (List.range T.length).map fun s => led T s row
def kern (T : Tb) (row : List Nat) : List Nat := canon (eff T row)
def ahead (T : Tb) (c : Nat) (k : List Nat) : List Nat := canon (T.map fun r => k.getD (r.getD c 0) 0)
theorem canon_len (l : List Nat) : (canon l).length = l.length := by simp [canon]
theorem eff_len (T : Tb) (row : List Nat) : (eff T row).length = T.length := by simp [eff]
theorem kern_len (T : Tb) (row : List Nat) : (kern T row).length = T.length := by simp [kern, canon_len, eff_len]
theorem eff_at {row : List Nat} {s : Nat} (hs : s < T.length) : (eff T row).getD s 0 = led T s row := by
  simp [eff, List.getD, hs]
/-- where the list's equal entries stand: the least place of each -/
theorem idx_eq {l : List Nat} {i j : Nat} (hi : i < l.length) (hj : j < l.length) : l.idxOf l[i] = l.idxOf l[j] ↔ l[i] = l[j] := by
  constructor
  · intro e
    have a : l.idxOf l[i] < l.length := List.idxOf_lt_length_of_mem (List.getElem_mem hi)
    have b : l.idxOf l[j] < l.length := List.idxOf_lt_length_of_mem (List.getElem_mem hj)
    have h1 : l[l.idxOf l[i]] = l[i] := List.getElem_idxOf a
    have h2 : l[l.idxOf l[j]] = l[j] := List.getElem_idxOf b
    rw [← h1, ← h2]
    simp only [e]
  · intro e; rw [e]
theorem idx_le {l : List Nat} {i : Nat} (hi : i < l.length) : l.idxOf l[i] ≤ i := by
  rcases Nat.lt_or_ge i (l.idxOf l[i]) with h | h
  · have z : (l[i] == l[i]) = false := List.not_of_lt_findIdx (p := (· == l[i])) h
    simp at z
  · exact h
/-- equal patterns, equal canons -/
theorem canon_congr {l l' : List Nat} (hl : l.length = l'.length) (h : ∀ i j (hi : i < l.length) (hj : j < l.length), l[i] = l[j] ↔ l'[i] = l'[j]) : canon l = canon l' := by
  apply List.ext_getElem
  · simp [canon_len, hl]
  intro i h1 h2
  have hi : i < l.length := by simpa [canon_len] using h1
  have hi' : i < l'.length := by omega
  have q1 : (canon l)[i] = l.idxOf l[i] := by simp only [canon, List.getElem_map]
  have q2 : (canon l')[i] = l'.idxOf l'[i] := by simp only [canon, List.getElem_map]
  rw [q1, q2]
  have a : l.idxOf l[i] < l.length := List.idxOf_lt_length_of_mem (List.getElem_mem hi)
  have b : l'.idxOf l'[i] < l'.length := List.idxOf_lt_length_of_mem (List.getElem_mem hi')
  have h1 : l[l.idxOf l[i]] = l[i] := List.getElem_idxOf a
  have h2 : l'[l'.idxOf l'[i]] = l'[i] := List.getElem_idxOf b
  apply Nat.le_antisymm
  · have e : l[l'.idxOf l'[i]]'(by omega) = l[i] := (h _ _ (by omega) hi).mpr h2
    have := idx_le (l := l) (i := l'.idxOf l'[i]) (by omega)
    rw [e] at this; exact this
  · have e : l'[l.idxOf l[i]]'(by omega) = l'[i] := (h _ _ a hi).mp h1
    have := idx_le (l := l') (i := l.idxOf l[i]) (by omega)
    rw [e] at this; exact this
theorem canon_at {l : List Nat} {s : Nat} (hs : s < l.length) : (canon l).getD s 0 = l.idxOf l[s] := by
  simp [canon, List.getD, hs]
/-- the kernel brings together what the row does -/
theorem kern_iff {row : List Nat} {s t : Nat} (hs : s < T.length) (ht : t < T.length) : (kern T row).getD s 0 = (kern T row).getD t 0 ↔ led T s row = led T t row := by
  have h1 : s < (eff T row).length := by rw [eff_len]; exact hs
  have h2 : t < (eff T row).length := by rw [eff_len]; exact ht
  unfold kern
  rw [canon_at h1, canon_at h2, idx_eq h1 h2]
  simp [eff]
theorem kern_le {row : List Nat} {s : Nat} (hs : s < T.length) : (kern T row).getD s 0 ≤ s := by
  have h1 : s < (eff T row).length := by rw [eff_len]; exact hs
  unfold kern
  rw [canon_at h1]
  exact idx_le h1
theorem kern_led {row : List Nat} {s : Nat} (hs : s < T.length) : led T ((kern T row).getD s 0) row = led T s row := by
  have h1 : s < (eff T row).length := by rw [eff_len]; exact hs
  have a : (eff T row).idxOf (eff T row)[s] < (eff T row).length := List.idxOf_lt_length_of_mem (List.getElem_mem h1)
  have h2 : (eff T row)[(eff T row).idxOf (eff T row)[s]] = (eff T row)[s] := List.getElem_idxOf a
  unfold kern
  rw [canon_at h1]
  have a' : (eff T row).idxOf (eff T row)[s] < T.length := by rw [eff_len] at a; exact a
  have e1 := eff_at (row := row) a'
  have e2 := eff_at (row := row) hs
  rw [← e1, ← e2]
  simp only [List.getD, List.getElem?_eq_getElem a, List.getElem?_eq_getElem h1, Option.getD_some]
  exact h2
theorem kern_nil (T : Tb) : kern T [] = List.range T.length := by
  apply List.ext_getElem
  · simp [kern_len]
  intro i h1 h2
  have hi : i < T.length := by simpa [kern_len] using h1
  have a := kern_led (T := T) (row := []) hi
  rw [led_nil, led_nil] at a
  have : (kern T []).getD i 0 = (kern T [])[i] := by simp [List.getD, h1]
  rw [this] at a
  simp [a]
theorem ahead_kern (h : Ok T C) {c : Nat} (hc : c < C) {row : List Nat} (hr : Cmds C row) : ahead T c (kern T row) = kern T (c :: row) := by
  unfold ahead
  show canon _ = canon (eff T (c :: row))
  have g : ∀ i (hi : i < T.length), (T[i]).getD c 0 = stp T i c := fun i hi => by unfold stp; simp [List.getD, hi]
  refine canon_congr (by simp [eff_len]) fun i j hi hj => ?_
  have hi' : i < T.length := by simpa using hi
  have hj' : j < T.length := by simpa using hj
  rw [List.getElem_map, List.getElem_map, g i hi', g j hj', kern_iff (h.stp_lt hi' hc) (h.stp_lt hj' hc)]
  simp only [eff, List.getElem_map, List.getElem_range, led_cons]
/-! ### not blind: what a row brings together stays so when any commands are put in -/
def NonBlind (T : Tb) (C : Nat) : Prop := ∀ row, Cmds C row → ∀ s t c, s < T.length → t < T.length → c < C → led T s row = led T t row → led T (stp T s c) row = led T (stp T t c) row
/-- all kernels are among these -/
def Full (T : Tb) (C : Nat) (ks : List (List Nat)) : Prop := List.range T.length ∈ ks ∧ ∀ k ∈ ks, ∀ c, c < C → ahead T c k ∈ ks
theorem Full.kern (h : Ok T C) {ks : List (List Nat)} (f : Full T C ks) : ∀ {row : List Nat}, Cmds C row → kern T row ∈ ks
  | [], _ => by rw [kern_nil]; exact f.1
  | c :: r, hr => by
    have hc := hr c List.mem_cons_self
    have hr' : Cmds C r := fun x hx => hr x (List.mem_cons_of_mem _ hx)
    rw [← ahead_kern h hc hr']
    exact f.2 _ (f.kern h hr') c hc
/-- the law's look -/
def blind (T : Tb) (C : Nat) (ks : List (List Nat)) : Bool :=
  ks.any fun k => (List.range T.length).any fun s => (List.range C).any fun c => !decide (k.getD (stp T s c) 0 = k.getD (stp T (k.getD s 0) c) 0)
theorem nonblind_of (h : Ok T C) {ks : List (List Nat)} (f : Full T C ks) (b : blind T C ks = false) : NonBlind T C := by
  have b' : ∀ k ∈ ks, ∀ s, s < T.length → ∀ c, c < C → k.getD (stp T s c) 0 = k.getD (stp T (k.getD s 0) c) 0 := by
    intro k hk s hs c hc
    have h1 := List.any_eq_false.mp b k hk
    have h2 := List.any_eq_false.mp (Bool.eq_false_iff.mpr h1) s (List.mem_range.mpr hs)
    have h3 := List.any_eq_false.mp (Bool.eq_false_iff.mpr h2) c (List.mem_range.mpr hc)
    exact Decidable.not_not.mp fun z => h3 (by rw [decide_eq_false z]; rfl)
  intro row hr s t c hs ht hc e
  have hk := f.kern h hr
  have e1 := b' _ hk s hs c hc
  have e2 := b' _ hk t ht c hc
  have e3 : (kern T row).getD s 0 = (kern T row).getD t 0 := (kern_iff hs ht).mpr e
  rw [e3] at e1
  exact (kern_iff (h.stp_lt hs hc) (h.stp_lt ht hc)).mp (e1.trans e2.symm)
theorem Cmds.append {a b : List Nat} (ha : Cmds C a) (hb : Cmds C b) : Cmds C (a ++ b) := fun c hc => (List.mem_append.mp hc).elim (ha c) (hb c)
theorem Cmds.cons {c : Nat} {b : List Nat} (hc : c < C) (hb : Cmds C b) : Cmds C (c :: b) := fun x hx => (List.mem_cons.mp hx).elim (fun e => e ▸ hc) (hb x)
theorem Cmds.left {a b : List Nat} (h : Cmds C (a ++ b)) : Cmds C a := fun c hc => h c (List.mem_append_left _ hc)
theorem Cmds.right {a b : List Nat} (h : Cmds C (a ++ b)) : Cmds C b := fun c hc => h c (List.mem_append_right _ hc)
theorem Cmds.tail {c : Nat} {b : List Nat} (h : Cmds C (c :: b)) : Cmds C b := fun x hx => h x (List.mem_cons_of_mem _ hx)
theorem Cmds.head {c : Nat} {b : List Nat} (h : Cmds C (c :: b)) : c < C := h c List.mem_cons_self
/-- any row put in ahead -/
theorem NonBlind.ahead (h : Ok T C) (nb : NonBlind T C) {row : List Nat} (hr : Cmds C row) : ∀ {u : List Nat} {s t : Nat}, Cmds C u → s < T.length → t < T.length → led T s row = led T t row → led T (led T s u) row = led T (led T t u) row
  | [], _, _, _, _, _, e => e
  | c :: u, s, t, hu, hs, ht, e => by
    rw [led_cons, led_cons]
    exact NonBlind.ahead h nb hr hu.tail (h.stp_lt hs hu.head) (h.stp_lt ht hu.head) (nb row hr s t c hs ht hu.head e)
/-- commands put in at any places: sub is what is left of row -/
theorem NonBlind.put (h : Ok T C) (nb : NonBlind T C) : ∀ {sub row : List Nat}, sub.Sublist row → Cmds C row → ∀ {s t : Nat}, s < T.length → t < T.length → led T s sub = led T t sub → led T s row = led T t row
  | _, _, .slnil, _, s, t, _, _, e => e
  | sub, _, .cons (l₂ := row) c hsub, hr, s, t, hs, ht, e => by
    rw [led_cons, led_cons]
    have hsb : Cmds C sub := fun x hx => hr.tail x (hsub.subset hx)
    exact NonBlind.put h nb hsub hr.tail (h.stp_lt hs hr.head) (h.stp_lt ht hr.head) (nb sub hsb s t c hs ht hr.head e)
  | _, _, .cons₂ c hsub, hr, s, t, hs, ht, e => by
    rw [led_cons, led_cons] at e ⊢
    exact NonBlind.put h nb hsub hr.tail (h.stp_lt hs hr.head) (h.stp_lt ht hr.head) e
/-! ### free commands -/
def Free (T : Tb) (C : Nat) (c : Nat) (row : List Nat) : Prop := ∀ s x, s < T.length → x < C → led T (stp T (stp T s c) x) row = led T (stp T (stp T s x) c) row
theorem Free.more (h : Ok T C) (nb : NonBlind T C) {c : Nat} (hc : c < C) {sub row : List Nat} (hsub : sub.Sublist row) (hr : Cmds C row) (f : Free T C c sub) : Free T C c row := fun s x hs hx =>
  nb.put h hsub hr (h.stp_lt (h.stp_lt hs hc) hx) (h.stp_lt (h.stp_lt hs hx) hc) (f s x hs hx)
/-- a command that is free behind v goes ahead of u -/
theorem Free.front (h : Ok T C) (nb : NonBlind T C) {a : Nat} (ha : a < C) {v : List Nat} (hv : Cmds C v) (f : Free T C a v) : ∀ {u : List Nat}, Cmds C u → ∀ {s : Nat}, s < T.length → led T s (u ++ a :: v) = led T s (a :: (u ++ v))
  | [], _, _, _ => rfl
  | x :: u, hu, s, hs => by
    have ih := Free.front h nb ha hv f hu.tail (s := stp T s x) (h.stp_lt hs hu.head)
    rw [List.cons_append, led_cons, ih, led_cons, led_cons, List.cons_append, led_cons]
    have f2 : Free T C a (u ++ v) := f.more h nb ha (List.sublist_append_right u v) (hu.tail.append hv)
    exact (f2 s x hs hu.head).symm
end Lt
namespace Lt
variable {T : Tb} {C : Nat}
abbrev Slip := Nat × Nat
def cmds (h : List Slip) : List Nat := h.map (·.2)
def Asc (h : List Slip) : Prop := h.Pairwise fun a b => a.1 < b.1
/-- no clash behind the effect f -/
def freeB (T : Tb) (C : Nat) (c : Nat) (f : List Nat) : Bool :=
  (List.range T.length).all fun s => (List.range C).all fun x => decide (f.getD (stp T (stp T s c) x) 0 = f.getD (stp T (stp T s x) c) 0)
theorem freeB_iff {c : Nat} {f : List Nat} : freeB T C c f = true ↔ ∀ s x, s < T.length → x < C → f.getD (stp T (stp T s c) x) 0 = f.getD (stp T (stp T s x) c) 0 := by
  unfold freeB
  constructor
  · intro h s x hs hx
    have h1 := List.all_eq_true.mp h s (List.mem_range.mpr hs)
    have h2 := List.all_eq_true.mp h1 x (List.mem_range.mpr hx)
    exact of_decide_eq_true h2
  · intro h
    exact List.all_eq_true.mpr fun s hs => List.all_eq_true.mpr fun x hx => decide_eq_true (h s x (List.mem_range.mp hs) (List.mem_range.mp hx))
theorem free_eff (h : Ok T C) {c : Nat} (hc : c < C) {row : List Nat} : freeB T C c (eff T row) = true ↔ Free T C c row := by
  rw [freeB_iff]
  refine ⟨fun q s x hs hx => ?_, fun q s x hs hx => ?_⟩
  · have := q s x hs hx
    rwa [eff_at (h.stp_lt (h.stp_lt hs hc) hx), eff_at (h.stp_lt (h.stp_lt hs hx) hc)] at this
  · rw [eff_at (h.stp_lt (h.stp_lt hs hc) hx), eff_at (h.stp_lt (h.stp_lt hs hx) hc)]
    exact q s x hs hx
theorem free_kern (h : Ok T C) {c : Nat} (hc : c < C) {row : List Nat} : freeB T C c (kern T row) = true ↔ Free T C c row := by
  rw [freeB_iff]
  refine ⟨fun q s x hs hx => ?_, fun q s x hs hx => ?_⟩
  · exact (kern_iff (h.stp_lt (h.stp_lt hs hc) hx) (h.stp_lt (h.stp_lt hs hx) hc)).mp (q s x hs hx)
  · exact (kern_iff (h.stp_lt (h.stp_lt hs hc) hx) (h.stp_lt (h.stp_lt hs hx) hc)).mpr (q s x hs hx)
/-- the tray -/
def tray (T : Tb) (C : Nat) : List Slip → List Slip
  | [] => []
  | x :: r => if freeB T C x.2 (eff T (cmds r)) = true then tray T C r else x :: tray T C r
theorem tray_sub (T : Tb) (C : Nat) : ∀ h : List Slip, (tray T C h).Sublist h
  | [] => .slnil
  | x :: r => by
    unfold tray
    split
    · exact .cons _ (tray_sub T C r)
    · exact .cons₂ _ (tray_sub T C r)
theorem cmds_sub {a b : List Slip} (h : a.Sublist b) : (cmds a).Sublist (cmds b) := h.map _
/-- kept k is enough for h; d: the commands that aren't kept -/
inductive En (T : Tb) (C : Nat) : List Nat → List Slip → List Slip → Prop
  | nil : En T C [] [] []
  | keep {d k h} (x : Slip) : En T C d k h → En T C d (x :: k) (x :: h)
  | drop {d k h} (x : Slip) : Free T C x.2 (cmds h) → En T C d k h → En T C (x.2 :: d) k (x :: h)
theorem En.sub {d : List Nat} {k h : List Slip} (e : En T C d k h) : k.Sublist h := by
  induction e with
  | nil => exact .slnil
  | keep x _ ih => exact .cons₂ _ ih
  | drop x _ _ ih => exact .cons _ ih
theorem En.dc {d : List Nat} {k h : List Slip} (e : En T C d k h) (hc : Cmds C (cmds h)) : Cmds C d := by
  induction e with
  | nil => exact hc
  | keep x _ ih => exact ih hc.tail
  | drop x _ _ ih => exact Cmds.cons hc.head (ih hc.tail)
theorem cmds_of_sub {a b : List Slip} (h : a.Sublist b) (hc : Cmds C (cmds b)) : Cmds C (cmds a) := fun c q => hc c ((cmds_sub h).subset q)
theorem En.led (ok : Ok T C) (nb : NonBlind T C) {d : List Nat} {k h : List Slip} (e : En T C d k h) (hc : Cmds C (cmds h)) : ∀ {u : List Nat} {s : Nat}, Cmds C u → s < T.length → led T s (u ++ cmds h) = led T s (d ++ (u ++ cmds k)) := by
  induction e with
  | nil => intro u s _ _; rfl
  | @keep d k h x e ih =>
    intro u s hu hs
    have := ih hc.tail (u := u ++ [x.2]) (s := s) (hu.append (Cmds.cons hc.head fun _ z => nomatch z)) hs
    rw [List.append_assoc, List.append_assoc] at this
    exact this
  | @drop d k h x f e ih =>
    intro u s hu hs
    have hx : x.2 < C := hc.head
    have hct : Cmds C (cmds h) := hc.tail
    have h1 := f.front ok nb hx hct hu hs
    have h2 := ih hc.tail hu (ok.stp_lt hs hx)
    show Lt.led T s (u ++ x.2 :: cmds h) = Lt.led T s (x.2 :: (d ++ (u ++ cmds k)))
    rw [h1, led_cons, h2, led_cons]
/-- a slip put in by its time -/
def ins (x : Slip) : List Slip → List Slip
  | [] => [x]
  | y :: r => if x.1 < y.1 then x :: y :: r else y :: ins x r
theorem ins_front {x : Slip} : ∀ {k : List Slip}, (∀ y ∈ k, x.1 < y.1) → ins x k = x :: k
  | [], _ => rfl
  | y :: r, h => by unfold ins; rw [if_pos (h y List.mem_cons_self)]
theorem ins_perm (x : Slip) : ∀ k : List Slip, (ins x k).Perm (x :: k)
  | [] => .refl _
  | y :: r => by
    unfold ins
    split
    · exact .refl _
    · exact ((ins_perm x r).cons y).trans (.swap _ _ _)
theorem mem_ins {x y : Slip} {k : List Slip} : y ∈ ins x k ↔ y = x ∨ y ∈ k := by
  rw [(ins_perm x k).mem_iff, List.mem_cons]
theorem ins_asc {x : Slip} : ∀ {k : List Slip}, Asc k → (∀ y ∈ k, y.1 ≠ x.1) → Asc (ins x k)
  | [], _, _ => List.pairwise_singleton _ _
  | y :: r, h, n => by
    have h1 := List.pairwise_cons.mp h
    unfold ins
    split
    · rename_i hxy
      refine List.pairwise_cons.mpr ⟨fun z hz => ?_, h⟩
      rcases List.mem_cons.mp hz with rfl | hz
      · exact hxy
      · exact Nat.lt_trans hxy (h1.1 z hz)
    · rename_i hxy
      have hyx : y.1 < x.1 := by have := n y List.mem_cons_self; omega
      refine List.pairwise_cons.mpr ⟨fun z hz => ?_, ins_asc h1.2 fun z hz => n z (List.mem_cons_of_mem _ hz)⟩
      rcases mem_ins.mp hz with rfl | hz
      · exact hyx
      · exact h1.1 z hz
theorem sub_ins (x : Slip) : ∀ k : List Slip, k.Sublist (ins x k)
  | [] => .cons _ .slnil
  | y :: r => by
    unfold ins
    split
    · exact .cons _ (List.Sublist.refl _)
    · exact .cons₂ _ (sub_ins x r)
theorem ins_cmds {x : Slip} {k : List Slip} (hx : x.2 < C) (hk : Cmds C (cmds k)) : Cmds C (cmds (ins x k)) := by
  intro c hc
  obtain ⟨y, hy, rfl⟩ := List.mem_map.mp hc
  rcases mem_ins.mp hy with rfl | hy
  · exact hx
  · exact hk _ (List.mem_map.mpr ⟨y, hy, rfl⟩)
theorem En.ins (ok : Ok T C) (nb : NonBlind T C) {d : List Nat} {k h : List Slip} {x : Slip} (hx : x.2 < C) (e : En T C d k h) (hc : Cmds C (cmds h)) (ha : Asc h) (hn : ∀ y ∈ h, y.1 ≠ x.1) : En T C d (ins x k) (ins x h) := by
  induction e with
  | nil => exact .keep _ .nil
  | @keep d k h y e ih =>
    have ha' := List.pairwise_cons.mp ha
    have i := ih hc.tail ha'.2 fun z hz => hn z (List.mem_cons_of_mem _ hz)
    unfold Lt.ins
    by_cases q : x.1 < y.1
    · rw [if_pos q, if_pos q]; exact .keep _ (.keep _ e)
    · rw [if_neg q, if_neg q]; exact .keep _ i
  | @drop d k h y f e ih =>
    have ha' := List.pairwise_cons.mp ha
    have i := ih hc.tail ha'.2 fun z hz => hn z (List.mem_cons_of_mem _ hz)
    by_cases q : x.1 < y.1
    · have fr : Lt.ins x k = x :: k := ins_front fun z hz => Nat.lt_trans q (ha'.1 z (e.sub.subset hz))
      rw [fr]
      unfold Lt.ins
      rw [if_pos q]
      exact .keep _ (.drop _ f e)
    · have e2 : Lt.ins x (y :: h) = y :: Lt.ins x h := by
        show (if x.1 < y.1 then _ else _) = _
        rw [if_neg q]
      rw [e2]
      refine .drop _ (f.more ok nb hc.head (cmds_sub (sub_ins x h)) (ins_cmds hx hc.tail)) i
theorem En.tray (ok : Ok T C) : ∀ {k : List Slip}, Cmds C (cmds k) → ∃ d, En T C d (tray T C k) k
  | [], _ => ⟨[], .nil⟩
  | x :: r, hc => by
    obtain ⟨d, e⟩ := En.tray ok (k := r) hc.tail
    by_cases q : freeB T C x.2 (eff T (cmds r)) = true
    · exact ⟨x.2 :: d, by unfold Lt.tray; rw [if_pos q]; exact .drop _ ((free_eff ok hc.head).mp q) e⟩
    · exact ⟨d, by unfold Lt.tray; rw [if_neg q]; exact .keep _ e⟩
theorem En.trans (ok : Ok T C) (nb : NonBlind T C) {d2 : List Nat} {b c : List Slip} (e2 : En T C d2 b c) (hc : Cmds C (cmds c)) : ∀ {a : List Slip} {d1 : List Nat}, En T C d1 a b → ∃ d, En T C d a c := by
  induction e2 with
  | nil => intro a d1 e; exact ⟨_, e⟩
  | @keep d2 b c x e ih =>
    intro a d1 e1
    cases e1 with
    | keep _ e1 =>
      obtain ⟨d, q⟩ := ih hc.tail e1
      exact ⟨d, .keep _ q⟩
    | drop _ f e1 =>
      obtain ⟨d, q⟩ := ih hc.tail e1
      exact ⟨_, .drop _ (f.more ok nb hc.head (cmds_sub e.sub) hc.tail) q⟩
  | @drop d2 b c x f e ih =>
    intro a d1 e1
    obtain ⟨d, q⟩ := ih hc.tail e1
    exact ⟨_, .drop _ f q⟩
theorem En.least (ok : Ok T C) {d : List Nat} {k h : List Slip} (e : En T C d k h) (hc : Cmds C (cmds h)) : ∀ x ∈ Lt.tray T C h, x ∈ k := by
  induction e with
  | nil => intro x hx; exact hx
  | @keep d k h y e ih =>
    intro x hx
    have i := ih hc.tail
    unfold Lt.tray at hx
    split at hx
    · exact List.mem_cons_of_mem _ (i x hx)
    · rcases List.mem_cons.mp hx with rfl | hx
      · exact List.mem_cons_self
      · exact List.mem_cons_of_mem _ (i x hx)
  | @drop d k h y f e ih =>
    intro x hx
    have q : freeB T C y.2 (eff T (cmds h)) = true := (free_eff ok hc.head).mpr f
    unfold Lt.tray at hx
    rw [if_pos q] at hx
    exact ih hc.tail x hx
/-! ### receiving -/
def waysB (T : Tb) (now : Nat) (k : List Slip) : List Nat := (List.range T.length).filter fun s => decide (led T s (cmds k) = now)
/-- behind a slip, or none -/
def after (T : Tb) (C : Nat) (now : Nat) (k : List Slip) (x : Slip) (by_ : Nat) : Option (Nat × List Slip) :=
  if waysB T now k = [] then none
  else some (led T ((waysB T now k).getD (by_ % (waysB T now k).length) 0) (cmds (ins x k)), tray T C (ins x k))
theorem mem_ways {now : Nat} {k : List Slip} {s : Nat} : s ∈ waysB T now k ↔ s < T.length ∧ led T s (cmds k) = now := by
  unfold waysB
  rw [List.mem_filter, List.mem_range, decide_eq_true_iff]
/-- what a pair must be: h came, kept is enough, now is true -/
structure Good (T : Tb) (C : Nat) (s0 : Nat) (h : List Slip) (p : Nat × List Slip) : Prop where
  now : p.1 = led T s0 (cmds h)
  en : ∃ d, En T C d p.2 h
theorem good_after (ok : Ok T C) (nb : NonBlind T C) {s0 : Nat} (hs0 : s0 < T.length) {h : List Slip} (hc : Cmds C (cmds h)) (ha : Asc h) {p : Nat × List Slip} (g : Good T C s0 h p) {x : Slip} (hx : x.2 < C) (hn : ∀ y ∈ h, y.1 ≠ x.1) (by_ : Nat) :
    ∃ p', after T C p.1 p.2 x by_ = some p' ∧ Good T C s0 (ins x h) p' := by
  obtain ⟨d, e⟩ := g.en
  have hd := e.dc hc
  have b0 : led T s0 d < T.length := ok.led_lt hs0 hd
  have hk : Cmds C (cmds p.2) := cmds_of_sub e.sub hc
  have w0 : led T s0 d ∈ waysB T p.1 p.2 := by
    refine mem_ways.mpr ⟨b0, ?_⟩
    have q := e.led ok nb hc (u := []) (fun _ z => nomatch z) hs0
    rw [List.nil_append, List.nil_append, led_append] at q
    rw [← q, g.now]
  have ne : waysB T p.1 p.2 ≠ [] := fun z => by rw [z] at w0; cases w0
  have e' := e.ins ok nb hx hc ha hn
  have hc' := ins_cmds hx hc
  have hkx := ins_cmds hx hk
  refine ⟨_, if_neg ne, ?_, ?_⟩
  · have hl : 0 < (waysB T p.1 p.2).length := List.length_pos_iff.mpr ne
    have hi : by_ % (waysB T p.1 p.2).length < (waysB T p.1 p.2).length := Nat.mod_lt _ hl
    have hm : (waysB T p.1 p.2).getD (by_ % (waysB T p.1 p.2).length) 0 ∈ waysB T p.1 p.2 := by
      rw [List.getD, List.getElem?_eq_getElem hi]
      exact List.getElem_mem hi
    generalize (waysB T p.1 p.2).getD (by_ % (waysB T p.1 p.2).length) 0 = b at hm
    obtain ⟨hb, hbe⟩ := mem_ways.mp hm
    have h0e := (mem_ways.mp w0).2
    show led T b (cmds (ins x p.2)) = _
    rw [nb.put ok (cmds_sub (sub_ins x p.2)) hkx hb b0 (hbe.trans h0e.symm)]
    have q := e'.led ok nb hc' (u := []) (fun _ z => nomatch z) hs0
    rw [List.nil_append, List.nil_append, led_append] at q
    exact q.symm
  · obtain ⟨d2, t⟩ := En.tray ok hkx
    exact e'.trans ok nb hc' t
/-! ### how few -/
def fixed (k : List Nat) : List Nat := (List.range k.length).filter fun s => decide (k.getD s 0 = s)
def heavy (T : Tb) (C : Nat) (ks : List (List Nat)) : Bool := ks.any fun k => (List.range C).any fun c => decide (ahead T c k = k) && !freeB T C c k
theorem not_heavy {ks : List (List Nat)} (b : heavy T C ks = false) : ∀ k ∈ ks, ∀ c, c < C → ahead T c k = k → freeB T C c k = true := by
  intro k hk c hc e
  have h1 := List.any_eq_false.mp b k hk
  have h2 := List.any_eq_false.mp (Bool.eq_false_iff.mpr h1) c (List.mem_range.mpr hc)
  rw [decide_eq_true e, Bool.true_and] at h2
  cases q : freeB T C c k with
  | true => rfl
  | false => rw [q] at h2; exact absurd rfl h2
theorem fixed_kern {row : List Nat} {s : Nat} : s ∈ fixed (kern T row) ↔ s < T.length ∧ (kern T row).getD s 0 = s := by
  unfold fixed
  rw [List.mem_filter, List.mem_range, decide_eq_true_iff, kern_len]
theorem kern_fix {row : List Nat} {s : Nat} (hs : s < T.length) : (kern T row).getD ((kern T row).getD s 0) 0 = (kern T row).getD s 0 := by
  have h := kern_le (T := T) (row := row) hs
  exact (kern_iff (by omega) hs).mpr (kern_led hs)
/-- one more command ahead: no more classes -/
theorem fixed_sub (ok : Ok T C) (nb : NonBlind T C) {c : Nat} (hc : c < C) {v : List Nat} (hv : Cmds C v) {s : Nat} (h : s ∈ fixed (kern T (c :: v))) : s ∈ fixed (kern T v) := by
  obtain ⟨hs, e⟩ := fixed_kern.mp h
  refine fixed_kern.mpr ⟨hs, ?_⟩
  have l := kern_le (T := T) (row := v) hs
  have q := kern_led (T := T) (row := v) hs
  have q2 := nb v hv _ _ c (show (kern T v).getD s 0 < T.length by omega) hs hc q
  have q3 : (kern T (c :: v)).getD ((kern T v).getD s 0) 0 = (kern T (c :: v)).getD s 0 := (kern_iff (by omega) hs).mpr (by rw [led_cons, led_cons]; exact q2)
  rw [e] at q3
  have l2 := kern_le (T := T) (row := c :: v) (s := (kern T v).getD s 0) (by omega)
  omega
theorem kern_eq (ok : Ok T C) (nb : NonBlind T C) {c : Nat} (hc : c < C) {v : List Nat} (hv : Cmds C v) (h : ∀ s, s ∈ fixed (kern T v) → s ∈ fixed (kern T (c :: v))) : kern T (c :: v) = kern T v := by
  apply List.ext_getElem
  · rw [kern_len, kern_len]
  intro i h1 h2
  have hi : i < T.length := by rw [kern_len] at h1; exact h1
  have g1 : (kern T (c :: v)).getD i 0 = (kern T (c :: v))[i] := by simp [List.getD, h1]
  have g2 : (kern T v).getD i 0 = (kern T v)[i] := by simp [List.getD, h2]
  rw [← g1, ← g2]
  have l := kern_le (T := T) (row := v) hi
  have f1 : (kern T v).getD i 0 ∈ fixed (kern T v) := fixed_kern.mpr ⟨by omega, kern_fix hi⟩
  have f2 := (fixed_kern.mp (h _ f1)).2
  have q := nb v hv _ _ c (show (kern T v).getD i 0 < T.length by omega) hi hc (kern_led (T := T) (row := v) hi)
  have q3 : (kern T (c :: v)).getD ((kern T v).getD i 0) 0 = (kern T (c :: v)).getD i 0 := (kern_iff (by omega) hi).mpr (by rw [led_cons, led_cons]; exact q)
  rw [← q3, f2]
theorem filter_len_le {α : Type} {p q : α → Bool} : ∀ {l : List α}, (∀ x ∈ l, p x = true → q x = true) → (l.filter p).length ≤ (l.filter q).length
  | [], _ => Nat.le_refl _
  | a :: l, h => by
    have ih := filter_len_le (p := p) (q := q) (l := l) fun x hx => h x (List.mem_cons_of_mem _ hx)
    rw [List.filter_cons, List.filter_cons]
    by_cases hp : p a = true
    · rw [if_pos hp, if_pos (h a List.mem_cons_self hp)]; simpa using ih
    · rw [if_neg hp]
      split
      · simp only [List.length_cons]; omega
      · exact ih
theorem filter_len_lt {α : Type} {p q : α → Bool} : ∀ {l : List α}, (∀ x ∈ l, p x = true → q x = true) → (∃ x ∈ l, q x = true ∧ p x = false) → (l.filter p).length < (l.filter q).length
  | [], _, ⟨_, hx, _⟩ => nomatch hx
  | a :: l, h, ⟨x, hx, e1, e2⟩ => by
    have hl : ∀ x ∈ l, p x = true → q x = true := fun x hx => h x (List.mem_cons_of_mem _ hx)
    rw [List.filter_cons, List.filter_cons]
    rcases List.mem_cons.mp hx with rfl | hx
    · rw [if_pos e1, if_neg (by rw [e2]; exact Bool.false_ne_true)]
      have := filter_len_le hl
      simp only [List.length_cons]; omega
    · have ih := filter_len_lt hl ⟨x, hx, e1, e2⟩
      by_cases hp : p a = true
      · rw [if_pos hp, if_pos (h a List.mem_cons_self hp)]; simpa using ih
      · rw [if_neg hp]
        split
        · simp only [List.length_cons]; omega
        · exact ih
theorem fixed_pred {s : Nat} {row : List Nat} : (decide ((kern T row).getD s 0 = s) = true) ↔ (kern T row).getD s 0 = s := decide_eq_true_iff
theorem fixed_le (ok : Ok T C) (nb : NonBlind T C) {c : Nat} (hc : c < C) {v : List Nat} (hv : Cmds C v) : (fixed (kern T (c :: v))).length ≤ (fixed (kern T v)).length := by
  unfold fixed
  rw [kern_len, kern_len]
  refine filter_len_le fun s hs e => ?_
  have hs' := List.mem_range.mp hs
  exact decide_eq_true (fixed_kern.mp (fixed_sub ok nb hc hv (fixed_kern.mpr ⟨hs', of_decide_eq_true e⟩))).2
theorem fixed_lt (ok : Ok T C) (nb : NonBlind T C) {c : Nat} (hc : c < C) {v : List Nat} (hv : Cmds C v) (ne : kern T (c :: v) ≠ kern T v) : (fixed (kern T (c :: v))).length < (fixed (kern T v)).length := by
  have ex : ∃ s, s ∈ fixed (kern T v) ∧ ¬ s ∈ fixed (kern T (c :: v)) := by
    apply Classical.byContradiction
    intro z
    refine ne (kern_eq ok nb hc hv fun s hs => ?_)
    apply Classical.byContradiction
    intro z2
    exact z ⟨s, hs, z2⟩
  obtain ⟨s, h1, h2⟩ := ex
  obtain ⟨hs, e1⟩ := fixed_kern.mp h1
  unfold fixed
  rw [kern_len, kern_len]
  refine filter_len_lt (fun s hs e => ?_) ⟨s, List.mem_range.mpr hs, decide_eq_true e1, decide_eq_false fun z => h2 (fixed_kern.mpr ⟨hs, z⟩)⟩
  have hs' := List.mem_range.mp hs
  exact decide_eq_true (fixed_kern.mp (fixed_sub ok nb hc hv (fixed_kern.mpr ⟨hs', of_decide_eq_true e⟩))).2
theorem tray_few (ok : Ok T C) (nb : NonBlind T C) {ks : List (List Nat)} (f : Full T C ks) (nh : heavy T C ks = false) : ∀ {h : List Slip}, Cmds C (cmds h) → (tray T C h).length + (fixed (kern T (cmds h))).length ≤ T.length
  | [], _ => by
    have : (fixed (kern T (cmds []))).length ≤ (List.range T.length).length := by
      unfold fixed
      rw [kern_len]
      exact List.length_filter_le _ _
    simpa [tray] using this
  | x :: r, hc => by
    have ih := tray_few ok nb f nh (h := r) hc.tail
    have hx : x.2 < C := hc.head
    have le := fixed_le ok nb hx (v := cmds r) hc.tail
    unfold tray
    show _ + (fixed (kern T (x.2 :: cmds r))).length ≤ _
    split
    · omega
    · rename_i q
      have ne : kern T (x.2 :: cmds r) ≠ kern T (cmds r) := fun z => by
        have a : ahead T x.2 (kern T (cmds r)) = kern T (cmds r) := (ahead_kern ok hx hc.tail).trans z
        have b := not_heavy nh _ (f.kern ok hc.tail) _ hx a
        exact q ((free_eff ok hx).mpr ((free_kern ok hx).mp b))
      have lt := fixed_lt ok nb hx (v := cmds r) hc.tail ne
      simp only [List.length_cons]; omega
end Lt
namespace Lt
open PySem PySem.Spec PyProof.Rows L2
/-- a list, a tuple of numbers; of such -/
def nats (xs : List Nat) : List PyData := xs.map fun (n : Nat) => PyData.int n
def natsT (xs : List Nat) : PyData := .tuple (nats xs)
def natsL (xs : List Nat) : PyData := .list (nats xs)
theorem nats_len (xs : List Nat) : (nats xs).length = xs.length := by simp [nats]
theorem nats_get {xs : List Nat} {i n : Nat} (h : xs[i]? = some n) : (nats xs)[i]? = some (.int n) := by simp [nats, h]
theorem nats_inv {xs : List Nat} {i : Nat} {x : PyData} (h : (nats xs)[i]? = some x) : ∃ n, xs[i]? = some n ∧ x = .int n := by
  unfold nats at h
  rw [List.getElem?_map] at h
  cases q : xs[i]? with
  | none => rw [q] at h; cases h
  | some n => rw [q] at h; exact ⟨n, rfl, (Option.some.inj h).symm⟩
theorem nats_range (n : Nat) : rangeD n = nats (List.range n) := rfl
def rowsT (T : Tb) : PyData := .tuple (T.map natsT)
def rowsL (T : Tb) : PyData := .list (T.map natsL)
theorem rows_inv {T : Tb} {g : List Nat → PyData} {i : Nat} {x : PyData} (h : (T.map g)[i]? = some x) : ∃ r, T[i]? = some r ∧ x = g r := by
  rw [List.getElem?_map] at h
  cases q : T[i]? with
  | none => rw [q] at h; cases h
  | some n => rw [q] at h; exact ⟨n, rfl, (Option.some.inj h).symm⟩
theorem rows_get {T : Tb} {g : List Nat → PyData} {i : Nat} {r : List Nat} (h : T[i]? = some r) : (T.map g)[i]? = some (g r) := by rw [List.getElem?_map, h]; rfl
theorem getD_some {α : Type} {xs : List α} {i : Nat} {d : α} (h : i < xs.length) : xs[i]? = some (xs.getD i d) := by simp [List.getD, h]
theorem Ok.row_len {T : Tb} {C s : Nat} (h : Ok T C) (hs : s < T.length) : (T.getD s []).length = C := by
  have e : T.getD s [] = T[s] := by simp [List.getD, hs]
  rw [e]; exact (h.row _ (List.getElem_mem hs)).1
theorem Ok.at {T : Tb} {C s c : Nat} (h : Ok T C) (hs : s < T.length) (hc : c < C) : (T.getD s [])[c]? = some (stp T s c) := by
  have l := h.row_len hs
  exact getD_some (by omega)
/-- a machine -/
def mach (K : PySem.W.Frag) (C : Addr) (T : Tb) (c : Nat) : Pd where
  p v G := ∃ x dx fs sv, v = .ref x ∧ G x = some (.ins C dx fs) ∧ fs.lookup ("commands" : Str) = some (V.int c) ∧ fs.lookup ("states" : Str) = some (V.int T.length) ∧ fs.lookup ("steps" : Str) = some sv ∧ fs.lookup ("does" : Str) = none ∧ Dp K G sv (rowsT T)
  st := fun e ⟨x, dx, fs, sv, a, b, c, d, f, g, h⟩ => ⟨x, dx, fs, sv, a, e _ _ b, c, d, f, g, dp_same e _ _ h⟩
section
variable {X : Cx} {w : Vw} {e a : Expr} {τ : Ty} {pos p : Pos} {C : Addr} {T : Tb} {c : Nat}
theorem v_commands (cl : Cls X.K C) (na : NoAttr X.K C "commands") (he : Xe X w e τ (fun pd => pd = mach X.K C T c)) (hb : attributeBase e "commands" X.env (eval e X.env) = eval e X.env := by rfl) : Xe X w (.Attribute e "commands" pos) τ (eI X.K c) := fun σ H s Q q =>
  eSem_of (pe_fld pe_sem hb) (he σ H s _ fun v pd H1 m i e1 h => by
    subst e1
    obtain ⟨x, dx, fs, sv, a, b, f1, f2, f3, f4, f5⟩ := h
    exact ⟨x, C, dx, fs, _, a, hid_sub _ _ _ _ b, cl, na, f1, q _ (dat X.K (.int c)) H1 m i ⟨_, rfl, rfl⟩ (.int _)⟩)
theorem v_states (cl : Cls X.K C) (na : NoAttr X.K C "states") (he : Xe X w e τ (fun pd => pd = mach X.K C T c)) (hb : attributeBase e "states" X.env (eval e X.env) = eval e X.env := by rfl) : Xe X w (.Attribute e "states" pos) τ (eI X.K T.length) := fun σ H s Q q =>
  eSem_of (pe_fld pe_sem hb) (he σ H s _ fun v pd H1 m i e1 h => by
    subst e1
    obtain ⟨x, dx, fs, sv, a, b, f1, f2, f3, f4, f5⟩ := h
    exact ⟨x, C, dx, fs, _, a, hid_sub _ _ _ _ b, cl, na, f2, q _ (dat X.K (.int T.length)) H1 m i ⟨_, rfl, rfl⟩ (.int _)⟩)
theorem v_steps (cl : Cls X.K C) (na : NoAttr X.K C "steps") (he : Xe X w e τ (fun pd => pd = mach X.K C T c)) (hb : attributeBase e "steps" X.env (eval e X.env) = eval e X.env := by rfl) : Xe X w (.Attribute e "steps" pos) τ (eD X.K (rowsT T)) := fun σ H s Q q =>
  eSem_of (pe_fld pe_sem hb) (he σ H s _ fun v pd H1 m i e1 h => by
    subst e1
    obtain ⟨x, dx, fs, sv, a, b, f1, f2, f3, f4, f5⟩ := h
    exact ⟨x, C, dx, fs, _, a, hid_sub _ _ _ _ b, cl, na, f3, q _ (dat X.K (rowsT T)) H1 m i ⟨_, rfl, rfl⟩ f5⟩)
/-- tuple(range(n)), list(range(n)) -/
theorem v_tupRange {n : Nat} (hc : X.calm = true) (hm : X.mg "tuple" = none) (hm2 : X.mg "range" = none) (ha : Xe X w a τ (eI X.K n)) (hn : n < 100000) {p2 pos2 : Pos} (hg : Gl X "tuple" := by rfl) (hg2 : Gl X "range" := by rfl)
    (na : starEach [.Call (.Name "range" p2) [a] [] pos2] X.env = (false, eval (.Call (.Name "range" p2) [a] [] pos2) X.env) :: starEach [] X.env := by rfl) (na2 : starEach [a] X.env = (false, eval a X.env) :: starEach [] X.env := by rfl) :
    Xe X w (.Call (.Name "tuple" p) [.Call (.Name "range" p2) [a] [] pos2] [] pos) τ (eD X.K (natsT (List.range n))) := fun σ H s Q q =>
  eSem_of (pe_tupRg hc hg hm (prg_1 hg2 hm2 pe_sem na2) na) (ha σ H s _ fun v pd H1 m i ⟨k, e1, e2⟩ h => by
    subst e1; subst e2
    refine ⟨_, dat_int h, RgOk.of_le (by omega) (by omega) (by omega) (by omega), ?_⟩
    have da : DpAll X.K (hid w.S H1) (rgV 0 (n : Int)) (nats (List.range n)) := by
      have e : rgV 0 (n : Int) = ((List.range n).map fun (i : Nat) => (i : Int)).map V.int := by
        unfold rgV
        rw [List.map_map]
        have : ((n : Int) - 0).toNat = n := by omega
        rw [this]
        refine List.map_congr_left fun i _ => ?_
        show V.int (0 + (i : Int)) = V.int i
        rw [Int.zero_add]
      rw [e]
      have e2 : nats (List.range n) = ((List.range n).map fun (i : Nat) => (i : Int)).map PyData.int := by simp [nats, List.map_map, Function.comp_def]
      rw [e2]
      exact dpa_ints _
    exact ot_tup (X := X) (w := w) (t := fun Q => ∀ q, H1 q = none → Q (.ref q) (upd H1 q (.tup (rgV 0 (n : Int))))) (A := fun y => y = natsT (List.range n)) (s.live.move m) i da rfl (fun Q h => h) Q fun v pd H2 m2 i2 p2 h2 => q v pd H2 (m.trans m2) i2 p2 h2)
theorem v_listRange {n : Nat} (hc : X.calm = true) (hm : X.mg "list" = none) (hm2 : X.mg "range" = none) (ha : Xe X w a τ (eI X.K n)) (hn : n < 100000) {p2 pos2 : Pos} (hg : Gl X "list" := by rfl) (hg2 : Gl X "range" := by rfl)
    (na : starEach [.Call (.Name "range" p2) [a] [] pos2] X.env = (false, eval (.Call (.Name "range" p2) [a] [] pos2) X.env) :: starEach [] X.env := by rfl) (na2 : starEach [a] X.env = (false, eval a X.env) :: starEach [] X.env := by rfl) :
    Xe X w (.Call (.Name "list" p) [.Call (.Name "range" p2) [a] [] pos2] [] pos) τ (eD X.K (natsL (List.range n))) := fun σ H s Q q =>
  eSem_of (pe_listRg hc hg hm (prg_1 hg2 hm2 pe_sem na2) na) (ha σ H s _ fun v pd H1 m i ⟨k, e1, e2⟩ h => by
    subst e1; subst e2
    refine ⟨_, dat_int h, RgOk.of_le (by omega) (by omega) (by omega) (by omega), ?_⟩
    have da : DpAll X.K (hid w.S H1) (rgV 0 (n : Int)) (nats (List.range n)) := by
      have e : rgV 0 (n : Int) = ((List.range n).map fun (i : Nat) => (i : Int)).map V.int := by
        unfold rgV
        rw [List.map_map]
        have : ((n : Int) - 0).toNat = n := by omega
        rw [this]
        refine List.map_congr_left fun i _ => ?_
        show V.int (0 + (i : Int)) = V.int i
        rw [Int.zero_add]
      rw [e]
      have e2 : nats (List.range n) = ((List.range n).map fun (i : Nat) => (i : Int)).map PyData.int := by simp [nats, List.map_map, Function.comp_def]
      rw [e2]
      exact dpa_ints _
    exact ot_lst (X := X) (w := w) (t := fun Q => ∀ q, H1 q = none → Q (.ref q) (upd H1 q (.lst (rgV 0 (n : Int))))) (A := fun y => y = natsL (List.range n)) (s.live.move m) i da rfl (fun Q h => h) Q fun v pd H2 m2 i2 p2 h2 => q v pd H2 (m.trans m2) i2 p2 h2)
end
end Lt
namespace Lt
open PySem PySem.Spec PyProof.Rows L2
/-! ### t[::-1] of a tuple -/
section
open HT
variable {prog : Program} {w : World} {A : Around} {E : Value → Shared → Prop} {s : Shared}
theorem applied_back {sl : Addr} {v1 v2 v3 : Value} {n : Nat} {Q : Int × Int × Nat → Shared → Prop} (hs : s.heap.IsSliceOf sl v1 v2 v3) (p1 : IsPart v1 none) (p2 : IsPart v2 none) (p3 : IsPart v3 (some (-1))) (h : Q ((n : Int) - 1, -1, n) s) :
    wpAny (model prog w) A (Builtin.Slice.sliceApplied (.ref sl) (pure (n : Int))) Q E s := by
  obtain ⟨o, ho, _, hd⟩ := id hs
  unfold Builtin.Slice.sliceApplied Builtin.Slice.sliceFields
  refine wpAny_bind (wpAny_bind (wpAny_field ho hd (x := v1) rfl (wpAny_bind (wpAny_field ho hd (x := v2) rfl (wpAny_bind (wpAny_field ho hd (x := v3) rfl (wpAny_pure ?_)))))))
  refine wpAny_bind (slicePart_ p3 ?_)
  show wpAny _ _ (if ((-1 : Int) == 0) = true then _ else _) _ _ s
  rw [if_neg (by decide)]
  refine wpAny_bind (slicePart_ p1 (wpAny_bind (slicePart_ p2 (wpAny_bind (wpAny_pure ?_)))))
  have e1 : Builtin.Slice.sliceAdjust none none (-1) (n : Int) = ((n : Int) - 1, -1) := by
    unfold Builtin.Slice.sliceAdjust
    simp
  have e2 : Builtin.Slice.slicePlaces ((n : Int) - 1) (-1) (-1) = n := by
    unfold Builtin.Slice.slicePlaces
    simp
    omega
  show wpAny _ _ (match Builtin.Slice.sliceAdjust none none (-1) (n : Int) with | (lo, hi) => pure (lo, (-1 : Int), Builtin.Slice.slicePlaces lo hi (-1))) _ _ s
  rw [e1]
  show wpAny _ _ (pure ((n : Int) - 1, (-1 : Int), Builtin.Slice.slicePlaces ((n : Int) - 1) (-1) (-1))) _ _ s
  rw [e2]
  exact wpAny_pure h
theorem pick_back (xs : Array Value) : ((List.range xs.size).filterMap fun (k : Nat) => xs[((xs.size : Int) - 1 + (k : Int) * -1).toNat]?).toArray = xs.toList.reverse.toArray := by
  have e : (List.range xs.size).filterMap (fun (k : Nat) => xs[((xs.size : Int) - 1 + (k : Int) * -1).toNat]?) = (List.range xs.size).filterMap ((fun i => xs[i]?) ∘ fun k => xs.size - 1 - k) := by
    have g : ∀ l : List Nat, (∀ k ∈ l, k < xs.size) → l.filterMap (fun (k : Nat) => xs[((xs.size : Int) - 1 + (k : Int) * -1).toNat]?) = l.filterMap ((fun i => xs[i]?) ∘ fun k => xs.size - 1 - k) := by
      intro l
      induction l with
      | nil => intro _; rfl
      | cons k l ih =>
        intro hk
        have : ((xs.size : Int) - 1 + (k : Int) * -1).toNat = xs.size - 1 - k := by have := hk k List.mem_cons_self; omega
        rw [List.filterMap_cons, List.filterMap_cons, this, ih fun j hj => hk j (List.mem_cons_of_mem _ hj)]
        rfl
    exact g _ fun k hk => List.mem_range.mp hk
  rw [e, ← List.filterMap_map, PySem.W.krv_range, List.filterMap_reverse, PySem.W.krv_all]
theorem item_back {t sl : Addr} {its : Array Value} {v1 v2 v3 : Value} {Q : Value → Shared → Prop} (tp : IsTup s.heap t its) (hs : s.heap.IsSliceOf sl v1 v2 v3) (p1 : IsPart v1 none) (p2 : IsPart v2 none) (p3 : IsPart v3 (some (-1)))
    (h : Q (.ref s.heap.objs.size) { s with heap := s.heap.push { cls := .type "tuple", data := .seq its.toList.reverse.toArray } }) (z : its.size ≤ sizeLine) : wpAny (model prog w) A (getItem (.ref t) (.ref sl)) Q E s := by
  have hz : sizeOk (.seq its.toList.reverse.toArray) := by
    show its.toList.reverse.toArray.size ≤ sizeLine
    rw [List.size_toArray, List.length_reverse, Array.length_toList]
    exact z
  obtain ⟨o, ho, hc, hd⟩ := id hs
  have hT : s.TypeIs (.ref sl) "slice" := ⟨o, ho, hc⟩
  unfold getItem
  try with_reducible refine wpAny_holding ?_
  first | refine wpAny_bind (wpAny_pure ?_) | skip
  refine wpAny_bind (wpAny_sequenceKey tp.typeIs (by decide) ?_)
  refine wpAny_bind (wpAny_callSpecial?_slot (name := Str.ofString "__getitem__") tp.typeIs PyProof.Rows.slot_tuple_getitem (wpAny_call_entry PyProof.Rows.slot_tuple_getitem tp.typeIs entry_tuple_getitem ?_ (args_tuple_getitem _ _)))
  show wpAny _ _ (Builtin.Tuple.tupleItemsOf (.ref t) >>= _) _ _ s
  refine wpAny_bind (tupleItemsOf_ tp ?_)
  refine wpAny_bind (wpAny_typeOf hT ?_)
  rw [if_pos (by decide)]
  refine wpAny_bind (applied_back hs p1 p2 p3 ?_)
  show wpAny _ _ (if (((its.size : Int) - 1) == 0 && (-1 : Int) == 1 && its.size == its.size) = true then _ else _) _ _ s
  have hno : ¬ ((((its.size : Int) - 1) == 0 && (-1 : Int) == 1 && its.size == its.size) = true) := by
    have e : ((-1 : Int) == 1) = false := by decide
    rw [e, Bool.and_false, Bool.false_and]
    exact Bool.false_ne_true
  rw [if_neg hno, pick_back]
  first
    | exact wpAny_bind (m := Builtin.Tuple.tupleExact _) (wpAny_newObj_type (wpAny_pure ⟨_, rfl, wpAny_pure h⟩) hz)
    | exact wpAny_bind (m := Builtin.Tuple.tupleExact _) (wpAny_newObj_type (wpAny_bind (wpAny_pure (wpAny_pure ⟨_, rfl, wpAny_pure h⟩))) hz)
    | exact wpAny_bind (wpAny_bind (m := Builtin.Tuple.tupleExact _) (wpAny_newObj_type (wpAny_pure (wpAny_pure ⟨_, rfl, wpAny_pure h⟩)) hz))
    | exact wpAny_bind (wpAny_bind (m := Builtin.Tuple.tupleExact _) (wpAny_newObj_type (wpAny_pure ⟨_, rfl, wpAny_pure h⟩) hz))
end
section
variable {X : Cx} {w : Vw} {e a : Expr} {τ : Ty} {A C : PyData → Prop} {pos : Pos}
def tRevT (K : PySem.W.Frag) (te : TE) : TE := fun σ H Q => te σ H fun x H1 => ∃ b xs, x = .ref b ∧ SqT K H1 b xs ∧ ∀ p, H1 p = none → Q (.ref p) (upd H1 p (.tup xs.reverse))
theorem pe_revT {te : TE} {k : Nat} {p1 p2 p3 : Pos} (he : PE X e te) : PE X (.Subscript e (.Slice none none (some (.UnaryOp .USub (.Constant (.int 1) k p1) p2)) p3) pos) (tRevT X.K te) := by
  refine ⟨fun pins s σ H Q I h => Subscript_ (thn (he.run pins s σ H _ I h) fun v s1 ⟨x, H1, I1, r1, b, xs, ex, hx, q⟩ => ?_)⟩
  subst ex
  cases r1
  have minus : PO X (some (.UnaryOp .USub (.Constant (.int 1) k p1) p2)) (tPart (tUn (rU fun i => .int (-i)) (tC (.int 1)))) := po_some (pe_un un_neg pe_int)
  refine wpAny_Slice (thn (po_none.run pins s1 σ H1 (fun o G => o = none ∧ G = H1) I1 ⟨rfl, rfl⟩) fun y1 s2 ⟨l, H2, I2, q1, el, e2⟩ => ?_)
  subst el e2
  refine thn (po_none.run pins s2 σ H2 (fun o G => o = none ∧ G = H2) I2 ⟨rfl, rfl⟩) fun y2 s3 ⟨u, H3, I3, q2, eu, e3⟩ => ?_
  subst eu e3
  refine thn (minus.run pins s3 σ H3 (fun o G => o = some (-1) ∧ G = H3) I3 ⟨1, rfl, -1, rfl, rfl, rfl⟩) fun y3 s4 ⟨o, H4, I4, q3, eo, e4⟩ => ?_
  subst eo e4
  have I5 : Inv X pins σ H4 { s4 with heap := s4.heap.push { cls := .type "slice", data := .fields #[y1, y2, y3] } } := I4.kept (t' := s4.toks) fun _ _ z => Heap.get?_push_of_some _ z
  obtain ⟨its, r, tp, hz⟩ := I5.tuple hx
  have hlen := r.length
  show wpAny (model X.prog X.w) X.A (subscriptTail e (.Slice none none (some (.UnaryOp .USub (.Constant (.int 1) k p1) p2)) p3) (.ref b) (.ref s4.heap.objs.size)) (EP X pins σ Q) X.xe { s4 with heap := s4.heap.push { cls := .type "slice", data := .fields #[y1, y2, y3] } }
  refine tail_any (ops := [.ref b, .ref s4.heap.objs.size]) tp.typeIs (PyProof.Rows.slot_tuple_getitem.lookup) ?_ (by with_unfolding_all rfl)
  refine item_back tp (Heap.IsSliceOf.new _ y1 y2 y3) q1 q2 q3 ?_ (by rw [List.size_toArray]; omega)
  refine ⟨.ref _, _, I5.laid (t' := s4.toks) (o := .tup xs.reverse) (fun _ _ z => Heap.get?_push_of_some _ z) (Nat.le_refl _) ?_, rfl, q _ (I5.hok.fresh (Nat.le_refl _))⟩
  exact ⟨by rw [List.length_reverse]; exact hz, _, r.reverse, IsTup.new _ _⟩
theorem v_revT {ds : List PyData} {k : Nat} {p1 p2 p3 : Pos} (ha : Xe X w a τ (eD X.K (.tuple ds))) : Xe X w (.Subscript a (.Slice none none (some (.UnaryOp .USub (.Constant (.int 1) k p1) p2)) p3) pos) τ (eD X.K (.tuple ds.reverse)) := fun σ H s Q q =>
  eSem_of (pe_revT pe_sem) (ha σ H s _ fun v pd H1 e1 i1 ⟨d, ed, cd⟩ hv => by
    subst ed; subst cd
    obtain ⟨p, vs, rfl, hs, da⟩ := dat_tup hv
    refine ⟨p, vs, rfl, sqt_same (hid_sub _ _) hs, ?_⟩
    have z := ot_tup (X := X) (w := w) (H := H1) (t := fun Q => ∀ p, H1 p = none → Q (.ref p) (upd H1 p (.tup vs.reverse))) (A := fun y => y = .tuple ds.reverse) (s.live.move e1) i1 (dpa_rev da) rfl fun Q h => h
    exact z Q fun v pd H2 e2 i2 p2 h2 => q v pd H2 (e1.trans e2) i2 p2 h2)
theorem v_revL {ds : List PyData} {k : Nat} {p1 p2 p3 : Pos} (ha : Xe X w a τ (eD X.K (.list ds))) : Xe X w (.Subscript a (.Slice none none (some (.UnaryOp .USub (.Constant (.int 1) k p1) p2)) p3) pos) τ (eD X.K (.list ds.reverse)) := x_revL ha fun y e => ⟨ds, e, rfl⟩
end
end Lt
namespace Lt
open PySem PySem.Spec PyProof.Rows L2
/-! ### sorted of a list, a tuple of slips -/
def slipD (x : Slip) : PyData := .tuple [.int x.1, .int x.2]
def slips (h : List Slip) : List PyData := h.map slipD
def slipsT (h : List Slip) : PyData := .tuple (slips h)
def slipsL (h : List Slip) : PyData := .list (slips h)
/-- by the time, then by the command -/
def lexS (x y : Slip) : Bool := SrtO.lexB ((x.1 : Int), (x.2 : Int)) ((y.1 : Int), (y.2 : Int))
section
open SrtO HT
variable {prog : Program} {w : World} {A : Around} {E : Value → Shared → Prop} {s : Shared}
theorem collect_both {q : Addr} {us : List Value} {T : String} {ob : Obj} {m : Nat} {R : List Value → Shared → Prop} (hT : T = "list" ∨ T = "tuple") (hob : s.heap.get? q = some ob) (hcl : ob.cls = .type T) (hda : ob.data = .seq us.toArray m) (hz : us.length ≤ sizeLine)
    (k : R us { s with heap := (s.heap.push (seqObj "list" #[] 0)).update s.heap.objs.size (Obj.mapSeq (· ++ us.toArray)) }) : wpAny (model prog w) A (collect (.ref q)) R E s := by
  unfold collect
  refine wpAny_bind (wpAny_runValue (codeAny_builtin entry_proto_collect' ?_))
  show wpAny _ _ (do again (.builtin "list.__iadd__" ⟨[← newList [], .ref q], []⟩)) _ _ s
  refine wpAny_bind (wpAny_newList (wpAny_pure ⟨plainId_quiet F.plain_list_iadd _, codeAny_builtin entry_list_iadd' ?_⟩))
  show wpAny _ _ (Builtin.List.listExtendWith (.ref s.heap.objs.size) (.ref q) (.ref s.heap.objs.size)) _ _ { s with heap := s.heap.push (seqObj "list" #[] 0) }
  unfold Builtin.List.listExtendWith
  have hob' : (s.heap.push (seqObj "list" #[] 0)).get? q = some ob := Heap.get?_push_of_some _ hob
  have at0 : (s.heap.push (seqObj "list" #[] 0)).get? s.heap.objs.size = some (seqObj "list" #[] 0) := Heap.get?_push_size _ rfl
  refine wpAny_bind (wpAny_typeOf (T := T) ⟨ob, hob', hcl⟩ ?_)
  have yes : (Builtin.List.listSameRef (.ref s.heap.objs.size) (.ref q) || Value.type T == Value.type "list" || Value.type T == Value.type "tuple") = true := by
    rcases hT with rfl | rfl <;> simp
  rw [if_pos yes]
  refine wpAny_bind (listItems_at hob' hda ?_)
  refine wpAny_bind (listItems_at (xs := #[]) (n := 0) at0 rfl ?_)
  rw [if_neg (by simp)]
  have fits : (#[] ++ us.toArray).size ≤ sizeLine + 1 := by
    rw [Array.size_append, List.size_toArray]
    show 0 + us.length ≤ _
    omega
  refine wpAny_bind (listUpdate_at (xs := #[]) (n := 0) at0 rfl ?_ (Nat.zero_le _) fits)
  refine wpAny_pure ?_
  show wpAny (model prog w) A (load s.heap.objs.size >>= _) R E { s with heap := (s.heap.push (seqObj "list" #[] 0)).update s.heap.objs.size (Obj.mapSeq (· ++ us.toArray)) }
  refine wpAny_bind (wpAny_load (get?_update_seq at0 _) ?_)
  show wpAny _ _ (pure ((#[] : Array Value) ++ us.toArray).toList) R E _
  have eq0 : ((#[] : Array Value) ++ us.toArray).toList = us := by simp
  rw [eq0]
  exact wpAny_pure k
theorem sorted_seqO {l : Addr} {vs : List Value} {kf : Value → Int × Int} {T : String} {ob : Obj} {m : Nat} {Q : Value → Shared → Prop} (hT : T = "list" ∨ T = "tuple") (hob : s.heap.get? l = some ob) (hcl : ob.cls = .type T) (hda : ob.data = .seq vs.toArray m) (hz : vs.length ≤ sizeLine)
    (hp : ∀ v ∈ vs, Srt.IsPair s.heap v (kf v).1 (kf v).2)
    (h : ∀ (h' : Heap) (d : Addr) (out : List Value), Srtd (fun v u => lexB (kf v) (kf u)) out → Stb (fun v u => lexB (kf v) (kf u)) out vs → (∀ b o, s.heap.get? b = some o → h'.get? b = some o) → s.heap.objs.size ≤ d → (∃ n, h'.get? d = some (seqObj "list" out.toArray n)) → Q (.ref d) { s with heap := h' }) :
    wpAny (model prog w) A (call (.builtin "sorted") [.ref l]) Q E s := by
  refine Calls.call_function_entry kind_sorted plain_sorted entry_sorted (args_sorted1 _) ?_
  unfold Builtin.«sorted»
  refine wpAny_bind (m := checkCount "sorted" 1 1 _) (wpAny_pure ?_)
  refine wpAny_bind (collect_both hT hob hcl hda hz ?_)
  refine wpAny_bind (wpAny_newList ?_ hz)
  have sz1 : ((s.heap.push (seqObj "list" #[] 0)).update s.heap.objs.size (Obj.mapSeq (· ++ vs.toArray))).objs.size = s.heap.objs.size + 1 := by
    rw [Heap.size_update, size_push']
  have lst : (((s.heap.push (seqObj "list" #[] 0)).update s.heap.objs.size (Obj.mapSeq (· ++ vs.toArray))).push (seqObj "list" vs.toArray 0)).get? (s.heap.objs.size + 1) = some (seqObj "list" vs.toArray 0) := by
    rw [← sz1]; exact Heap.get?_push_size _ rfl
  have keep2 : ∀ b o, s.heap.get? b = some o → (((s.heap.push (seqObj "list" #[] 0)).update s.heap.objs.size (Obj.mapSeq (· ++ vs.toArray))).push (seqObj "list" vs.toArray 0)).get? b = some o := fun b o q => by
    have lt := Heap.lt_size q
    refine Heap.get?_push_of_some _ ?_
    rw [Heap.get?_update_ne _ _ _ _ (Nat.ne_of_lt lt)]
    exact Heap.get?_push_of_some _ q
  show wpAny _ _ _ _ _ { s with heap := ((s.heap.push (seqObj "list" #[] 0)).update s.heap.objs.size (Obj.mapSeq (· ++ vs.toArray))).push (seqObj "list" vs.toArray 0) }
  rw [sz1]
  refine wpAny_bind (wpAny_holding (wpAny_call_entry slot_list_sort ⟨_, lst, rfl⟩ entry_list_sort (list_sort_ord (swo_lex kf) lst hz (fun h2 => ?_) fun out hs hb => ⟨_, rfl, ?_⟩) (args_list_sort _)))
  · refine pairs_sortableO (s := { s with heap := ((s.heap.push (seqObj "list" #[] 0)).update s.heap.objs.size (Obj.mapSeq (· ++ vs.toArray))).push (seqObj "list" vs.toArray 0) }) (by omega) (fun v hm => (hp v hm).keeps fun b o e _ => keep2 b o e) fun o e => ?_
    have e' : some o = some (seqObj "list" vs.toArray 0) := e.symm.trans lst
    cases e'
    intro c
    exact absurd (Value.type.inj c) (by decide)
  · exact wpAny_pure ⟨_, rfl, h _ _ out hs hb (fun b o e => sortedAll_old e) (Nat.le_succ _) (sortedAll_at s.heap vs out.toArray)⟩
end
theorem pair_inj {h : Heap} {v : Value} {x y x' y' : Int} (a : Srt.IsPair h v x y) (b : Srt.IsPair h v x' y') : x = x' ∧ y = y' := by
  obtain ⟨p, o, t, u, n, rfl, ho, hc, hd⟩ := a
  obtain ⟨p', o', t', u', n', e, ho', hc', hd'⟩ := b
  cases e
  rw [ho] at ho'
  cases ho'
  rw [hd] at hd'
  have z := Data.seq.inj hd'
  have z1 := z.1
  simp at z1
  exact ⟨z1.1.1, z1.2.1⟩
open Classical in
/-- the slip that a value stands for -/
noncomputable def slipAt (h : Heap) (v : Value) : Slip := if q : ∃ p : Slip, Srt.IsPair h v p.1 p.2 then choose q else (0, 0)
theorem slipAt_eq {h : Heap} {v : Value} {p : Slip} (a : Srt.IsPair h v p.1 p.2) : slipAt h v = p := by
  have q : ∃ p : Slip, Srt.IsPair h v p.1 p.2 := ⟨p, a⟩
  unfold slipAt
  rw [dif_pos q]
  have z := pair_inj (Classical.choose_spec q) a
  exact Prod.ext (by omega) (by omega)
def rSortS (K : PySem.W.Frag) : List V → Hp → VK → Prop := fun vs H Q => ∃ (a : Addr) (xs : List V) (l : List Slip), vs = [V.ref a] ∧ (SqL K H a xs ∨ SqT K H a xs) ∧ ∃ G : Hp, Same G H ∧ DpAll K G xs (slips l) ∧
  ∀ ys l' p, DpAll K G ys (slips l') → l'.Perm l → l'.Pairwise (fun x y => lexS y x = false) → H p = none → Q (.ref p) (upd H p (.lst ys))
theorem dpa_mem {K : PySem.W.Frag} {G : Hp} {kf : Value → Slip} : ∀ {us : List Value}, (∀ u ∈ us, Dp K G (backV u) (slipD (kf u))) → DpAll K G (us.map backV) (slips (us.map kf))
  | [], _ => .nil
  | u :: us, h => .cons (h u List.mem_cons_self) (dpa_mem fun y hy => h y (List.mem_cons_of_mem _ hy))
theorem sorted_facts {X : Cx} {pins : List (Addr × Obj)} {σ : L2.St} {H G : Hp} {s : Shared} (I : Inv X pins σ H s) (sm : Same G H) : ∀ {l : List Slip} {xs : List V} {its : List Value}, DpAll X.K G xs (slips l) → Vals xs its →
    (∀ x ∈ xs, ∃ a, x = V.ref a) ∧ its.map (slipAt s.heap) = l ∧ ∀ u ∈ its, Srt.IsPair s.heap u (slipAt s.heap u).1 (slipAt s.heap u).2 ∧ Dp X.K G (backV u) (slipD (slipAt s.heap u))
  | [], _, _, h, r => by
    cases h
    cases r
    exact ⟨fun _ z => (nomatch z), rfl, fun _ z => (nomatch z)⟩
  | p :: l, _, _, h, r => by
    cases h with
    | cons h1 h2 =>
      cases r with
      | cons r1 r2 =>
        rename_i v vs u us
        obtain ⟨a1, a2, a3⟩ := sorted_facts I sm h2 r2
        have h0 : (dat X.K (.tuple [.int p.1, .int p.2])).p v G := h1
        obtain ⟨q, ws, rfl, hs, da⟩ := dat_tup h0
        obtain ⟨t2, rv, ⟨o, ho, hc, n, hd⟩, _⟩ := I.tuple (sqt_same sm hs)
        have ew : ws = [.int p.1, .int p.2] := dpa_ints_inv (ns := [(p.1 : Int), (p.2 : Int)]) da
        subst ew
        obtain ⟨u1, u2, rfl, ⟨t1, rfl⟩, ⟨t3, rfl⟩⟩ := vals2 rv
        have ip : Srt.IsPair s.heap (.ref q) (p.1 : Int) (p.2 : Int) := ⟨q, o, t1, t3, n, rfl, ho, hc, hd⟩
        have eu : u = Value.ref q := r1
        subst eu
        have es := slipAt_eq ip
        refine ⟨fun x hx => ?_, by rw [List.map_cons, es, a2], fun y hy => ?_⟩
        · rcases List.mem_cons.mp hx with rfl | hx
          · exact ⟨q, rfl⟩
          · exact a1 x hx
        · rcases List.mem_cons.mp hy with rfl | hy
          · rw [es]; exact ⟨ip, h1⟩
          · exact a3 y hy
theorem cr_sortS {X : Cx} : CallR X (.builtin "sorted") (rSortS X.K) := by
  intro pins s σ H vs us Q I r h
  obtain ⟨a, xs, l, rfl, hs, G, sm, da, q⟩ := h
  obtain ⟨u, rfl, ru⟩ := vals1 r
  obtain rfl : u = Value.ref a := ru
  obtain ⟨T, its, ob, m, hT, rv, hob, hcl, hda, hz⟩ : ∃ T its ob m, (T = "list" ∨ T = "tuple") ∧ Vals xs its ∧ s.heap.get? a = some ob ∧ ob.cls = .type T ∧ ob.data = .seq its.toArray m ∧ xs.length ≤ sizeLine := by
    rcases hs with hs | hs
    · obtain ⟨its, rv, hl, hz⟩ := I.list hs
      obtain ⟨o, ho, hc, n, hd⟩ := hl.isList
      exact ⟨"list", its, o, n, .inl rfl, rv, ho, hc, hd, hz⟩
    · obtain ⟨its, rv, ⟨o, ho, hc, n, hd⟩, hz⟩ := I.tuple hs
      exact ⟨"tuple", its, o, n, .inr rfl, rv, ho, hc, hd, hz⟩
  obtain ⟨f1, f2, f3⟩ := sorted_facts I sm da rv
  obtain ⟨e1, e2⟩ := refs_back rv f1
  refine sorted_seqO (kf := fun v => (((slipAt s.heap v).1 : Int), ((slipAt s.heap v).2 : Int))) hT hob hcl hda (by rw [← rv.length]; exact hz) (fun v hv => (f3 v hv).1) fun h' d out h1 h2 kp hd hn => ?_
  have mem : ∀ u ∈ out, u ∈ its := fun u hu => h2.perm.mem_iff.mp hu
  have h3 : ∀ u ∈ out, ∃ a, u = Value.ref a := fun u hu => e2 u (mem u hu)
  obtain ⟨n, hn⟩ := hn
  refine ⟨.ref d, upd H d (.lst (out.map backV)), I.laid (t' := s.toks) kp hd ⟨?_, out, n, vals_back h3, hn⟩, rfl, q _ (out.map (slipAt s.heap)) d (dpa_mem fun u hu => (f3 u (mem u hu)).2) (by rw [← f2]; exact h2.perm.map _) (List.pairwise_map.mpr h1) (I.hok.fresh hd)⟩
  rw [List.length_map, h2.perm.length_eq, ← rv.length]
  exact hz
/-- two that are in order are one -/
theorem asc_uniq {l m : List Slip} (hl : l.Pairwise fun x y => lexS y x = false) (hm : Asc m) (p : l.Perm m) : l = m := by
  refine List.Perm.eq_of_pairwise (le := fun x y => lexS y x = false) (fun a b ha hb h1 h2 => ?_) hl (hm.imp fun {a b} h => ?_) p
  · have a1 := SrtO.lexB_no.mp h1
    have a2 := SrtO.lexB_no.mp h2
    dsimp only at a1 a2
    exact Prod.ext (by omega) (by omega)
  · refine SrtO.lexB_no.mpr ?_
    dsimp only
    omega
theorem boot_sorted' : bootBuiltins "sorted" = some (.builtin "sorted") := by decide +kernel
section
variable {X : Cx} {w : Vw} {e : Expr} {τ : Ty} {pos p : Pos} {d : PyData}
/-- sorted(xs), xs slips with times that differ -/
theorem v_sorted {l l' : List Slip} (hm : X.mg "sorted" = none) (ha : Xe X w e τ (eD X.K d)) (hd : d = slipsL l ∨ d = slipsT l) (hp : l'.Perm l) (hs : Asc l') (hg : Gl X "sorted" := by rfl) (hst : starEach [e] X.env = [(false, eval e X.env)] := by rfl) :
    Xe X w (.Call (.Name "sorted" p) [e] [] pos) τ (eD X.K (slipsL l')) :=
  x_cB cr_sortS hg hm boot_sorted' (xa_1 ha hst) (fun vs pds H lv i0 hpp hv => by
    obtain ⟨v, y, rfl, hy, hv⟩ := one_of hpp hv
    subst hy
    have fin : ∀ (q : Addr) (ws : List V), v = .ref q → (SqL X.K H q ws ∨ SqT X.K H q ws) → DpAll X.K (hid w.S H) ws (slips l) → Ot w H (rSortS X.K [v] H) (eD X.K (slipsL l')) := by
      intro q ws ev hs' da Q k
      subst ev
      refine ⟨q, ws, l, rfl, hs', _, hid_sub w.S H, da, fun ys m r dy pm pw n => ?_⟩
      have em : m = l' := asc_uniq pw hs (pm.trans hp.symm)
      subst em
      exact ot_lst (X := X) (w := w) (t := fun Q => ∀ q, H q = none → Q (.ref q) (upd H q (.lst ys))) (A := fun y => y = slipsL m) lv i0 dy rfl (fun Q h => h) Q k r n
    rcases hd with rfl | rfl
    · obtain ⟨q, ws, rfl, hs', da⟩ := dat_lst hv
      exact fin q ws rfl (.inl (sql_same (hid_sub _ _) hs')) da
    · obtain ⟨q, ws, rfl, hs', da⟩ := dat_tup hv
      exact fin q ws rfl (.inr (sqt_same (hid_sub _ _) hs')) da) (by decide) (by decide) hst rfl
end
end Lt
namespace Lt
open PySem PySem.Spec PyProof.Rows L2
/-! ### enumerate of a tuple, of a list -/
theorem meets_enumT (t : Addr) (its : Array Value) :
    Meets (Builtin.«enumerate.__new__» ⟨[.type "enumerate", .ref t], []⟩) (fun _ R s => s.heap.IsTuple t its ∧
      R (.ok (.ret (.ref (s.heap.push { cls := .type "tuple_iterator", data := .fields #[.ref t, .int 0 0] }).objs.size)))
        { s with heap := (s.heap.push { cls := .type "tuple_iterator", data := .fields #[.ref t, .int 0 0] }).push { cls := .type "enumerate", data := .fields #[.none, .bool false, .ref s.heap.objs.size, rawInt 0, .none, .none] } }) :=
  .of_wp fun prog w A R s h => by
    obtain ⟨hp, g, d, tk, os⟩ := s
    obtain ⟨ht, k⟩ := h
    have hsub := sub_enumerate
    have first_ : ∀ {A' : Around} {E' : Value → Shared → Prop} {Q : Value → Shared → Prop}, Q (.ref hp.objs.size) ⟨hp.push { cls := .type "tuple_iterator", data := .fields #[.ref t, .int 0 0] }, g, d, tk, os⟩ → wpAny (model prog w) A' (pyIter (.ref t)) Q E' ⟨hp, g, d, tk, os⟩ :=
      fun q => (begins_tuple t its).iter prog w _ _ ⟨hp, g, d, tk, os⟩ _ ht q
    wp_walk using first_
    refine wpAny_stack_any fun st => wpAny_pure ?_
    split
    · rename_i c _ _ _ _ _
      cases (c == Value.type "enumerate")
      · wp_walk using first_
        exact ⟨_, rfl, k⟩
      · wp_walk using first_
        exact ⟨_, rfl, k⟩
    · wp_walk using first_
      exact ⟨_, rfl, k⟩
section
variable {prog : Program} {w : World} {A : Around} {E : Value → Shared → Prop} {s : Shared}
theorem enumerateT {t : Addr} {its : Array Value} {Q : Value → Shared → Prop} (ht : s.heap.IsTuple t its)
    (k : ∀ g, IsEnum g (s.heap.objs.size + 1) s.heap.objs.size 0 .none → g.IsTupleIter s.heap.objs.size t 0 → g.objs.size = s.heap.objs.size + 2 →
      (∀ b o, s.heap.get? b = some o → g.get? b = some o) → Q (.ref (s.heap.objs.size + 1)) { s with heap := g }) :
    wpAny (model prog w) A (call (.type "enumerate") [.ref t]) Q E s := by
  refine callType_new F.called_enumerate (by decide) (F.typeCall_enumerate_1 _) (F.newCall_enumerate_1 _) (fun obj => F.args_object_init_2 obj _) F.entry_enumerate_new
    (meets_enumT t its) ⟨ht, ?_⟩
  have sz : (s.heap.push { cls := .type "tuple_iterator", data := .fields #[.ref t, .int 0 0] }).objs.size = s.heap.objs.size + 1 := Heap.size_push ..
  show _ ∧ _
  rw [sz]
  have en : IsEnum ((s.heap.push { cls := .type "tuple_iterator", data := .fields #[.ref t, .int 0 0] }).push
      { cls := .type "enumerate", data := .fields #[.none, .bool false, .ref s.heap.objs.size, rawInt 0, .none, .none] }) (s.heap.objs.size + 1) s.heap.objs.size 0 .none := by
    have z := Heap.get?_push_size (s.heap.push { cls := .type "tuple_iterator", data := .fields #[.ref t, .int 0 0] })
      (o := { cls := .type "enumerate", data := .fields #[.none, .bool false, .ref s.heap.objs.size, rawInt 0, .none, .none] }) rfl
    rw [sz] at z; exact z
  exact ⟨⟨_, en, rfl⟩, k _ en ⟨_, Heap.get?_push_of_some _ (Heap.get?_push_size _ rfl), rfl, rfl⟩ (by rw [Heap.size_push, sz]) fun b o x => Heap.get?_push_of_some _ (Heap.get?_push_of_some _ x)⟩
end
/-- the tuple at a, each item in a new pair with its place -/
def ItT (K : PySem.W.Frag) (a : Addr) : It :=
  ⟨fun i H => ∃ (xs : List V) (x : V), SqT K H a xs ∧ xs[i]? = some x, fun i H v H' => ∃ T x, v = .ref T ∧ H T = none ∧ H' = upd H T (.tup [.int (i : Nat), x]) ∧ ∀ xs, SqT K H a xs → xs[i]? = some x, fun i H => ∃ xs : List V, SqT K H a xs ∧ xs.length ≤ i⟩
theorem turn_T {P : Program} {w : World} {K : PySem.W.Frag} {elts : List Expr} {kk : Nat} {tpos : Pos} (a e it : Addr) :
    Turn P w K (.Tuple elts kk tpos) (ItT K a) [e, it] e (fun i h => (∃ old, IsEnum h e it ((i : Nat) : Int) old) ∧ h.IsTupleIter it a i ∧ e ≠ it) where
  mem := by simp
  obj := fun i h st b hb => by
    obtain ⟨⟨old, he⟩, ⟨o, ho, _, hd⟩, _⟩ := st
    have z : b = e ∨ b = it := by simpa using hb
    rcases z with rfl | rfl
    · exact ⟨_, he, fun v q => nomatch q⟩
    · exact ⟨o, ho, fun v q => by rw [hd] at q; cases q⟩
  keep := fun i h h' st k => let ⟨⟨old, he⟩, hi, ne⟩ := st; ⟨⟨old, k e (by simp) _ he⟩, hi.at fun o q => k it (by simp) o q, ne⟩
  item := by
    intro X hP hw hK hc i pins s σ H E I hf st hg
    subst hP hw hK
    obtain ⟨⟨old, he⟩, hit, ne⟩ := st
    obtain ⟨xs, x, hq, hx⟩ := hg
    obtain ⟨its, rv, p, hz⟩ := I.tuple hq
    obtain ⟨u, hu, ru⟩ := rv.get hx
    have lt1 : e < s.heap.objs.size := Heap.lt_size he
    have lt2 : it < s.heap.objs.size := by obtain ⟨_, q, _⟩ := hit; exact Heap.lt_size q
    have ta : a ≠ it := fun z => by
      obtain ⟨o1, a1, c1, _⟩ := hit
      obtain ⟨o2, a2, c2, _⟩ := p
      rw [z, a1] at a2
      cases a2
      rw [c1] at c2
      exact absurd (Value.type.inj c2) (by decide)
    have ea : ¬ e ∈ [it, a] := fun m => by
      rcases List.mem_cons.mp m with z | m
      · exact ne z
      · have z : e = a := by simpa using m
        obtain ⟨o2, a2, c2, _⟩ := p
        rw [← z] at a2
        have he' : s.heap.get? e = some _ := he
        rw [he'] at a2
        cases a2
        exact absurd (Value.type.inj c2) (by decide)
    have hl : i < its.toArray.size := by
      have := (List.getElem?_eq_some_iff.mp hu).1
      simpa using this
    refine wpAny_pyNext_enum_itemD (Draws.tuple (A := X.A.in1) (I.ok.hd hc) it a ta its.toArray) he ⟨hit, p⟩ hl ne ea fun x' h' tk hP' ho st' hT hsz hk => ?_
    have ex : x' = u := by
      have z : its.toArray[i]? = some u := by simpa using hu
      rw [z] at hP'
      exact (Option.some.inj hP').symm
    subst ex
    refine ⟨_, rfl, wpAny_letOwnedTupleGo_enum (s := { s with heap := h', toks := tk + 1 }) ho fun g he' sb => ?_⟩
    have hT2 : g.get? s.heap.objs.size = some { cls := .type "tuple", data := .seq #[.int i tk, x'] } := (sb.2 _ (Nat.ne_of_gt lt1)).trans hT
    have new : ObjOk X.prog X.w (upd H s.heap.objs.size (.tup [.int (i : Nat), x])) g s.heap.objs.size (.tup [.int (i : Nat), x]) :=
      ⟨by show 2 ≤ sizeLine; decide, [.int i tk, x'], .cons ⟨_, rfl⟩ (.cons ru .nil), ⟨_, hT2, rfl, _, rfl⟩⟩
    have I1 : Inv X pins σ (upd H s.heap.objs.size (.tup [.int (i : Nat), x])) { s with heap := g, toks := tk + 1 } :=
      I.turnedNew (ch := [e, it]) (fun b ob hb q => (sb.2 b (fun z => hb (by simp [z]))).trans (hk b ob (fun z => hb (by simp [z])) (fun z => hb (by simp [z])) q)) hf (Nat.le_refl _) new
    refine ⟨.ref s.heap.objs.size, _, I1, rfl, ⟨_, x, rfl, I.hok.fresh (Nat.le_refl _), rfl, fun ys hy => by rw [I.tuple_inj hy hq]; exact hx⟩, ⟨⟨x', ?_⟩, st'.1.at fun o q => (sb.2 it (Ne.symm ne)).trans q, ne⟩, fun b hb => ?_⟩
    · have e1 : ((i + 1 : Nat) : Int) = (i : Int) + 1 := by omega
      rw [e1]; exact he'
    · have hb' : b < s.heap.objs.size := by
        have z : b = e ∨ b = it := by simpa using hb
        rcases z with rfl | rfl
        · exact lt1
        · exact lt2
      rw [upd_ne (Nat.ne_of_lt hb')]
      exact (hf b hb).1
  done := by
    intro X hP hw hK hc i pins s σ H E I hf st hg
    subst hP hw hK
    obtain ⟨⟨old, he⟩, hit, ne⟩ := st
    obtain ⟨xs, hq, hx⟩ := hg
    obtain ⟨its, rv, p, hz⟩ := I.tuple hq
    obtain ⟨f0, f1, f2, f3, f4, f5⟩ := hf it (by simp)
    have hl := rv.length
    have hT : s.TypeIs (.ref e) "enumerate" := ⟨_, he, rfl⟩
    unfold pyNext
    refine wpAny_bind (wpAny_attempt (wpAny_callSpecial?_slot (name := Str.ofString "__next__") hT F.slot_enumerate_next
      (wpAny_call_entry F.slot_enumerate_next hT F.entry_enumerate_next ?_ (F.args_enumerate_next_1 _))))
    show wpAny _ _ (field (.ref e) 2 >>= _) _ _ _
    refine wpAny_bind (wpAny_field he rfl (x := .ref it) rfl ?_)
    refine wpAny_bind (wpAny_nextOf_tuple_end (I.ok.hd hc) hit p (by simp; omega) fun h' x eb hx' => ?_)
    obtain ⟨o, ho, hcl⟩ := hx'
    refine wpAny_bind (wpAny_isInstance (T := "StopIteration") (b := true) ⟨o, ho, hcl⟩ isSubtype_stop ?_)
    exact wpAny_pure ⟨rfl, I.turned (t' := s.toks) (fun b o hb q => eb b o hb q) f0 f1 f3 f4 f5⟩
  self := fun A i s Q E st h => let ⟨⟨_, he⟩, _⟩ := st; wpAny_pyIter_enum he h
def iEnT (K : PySem.W.Frag) (ta : TA) : TI := fun σ H R => ta σ H fun vs H1 => ∃ a xs, vs = [.ref a] ∧ ((SqT K H1 a xs ∧ R (ItT K a) H1) ∨ (SqL K H1 a xs ∧ R (Ite K a) H1))
theorem pi_enT {X : Cx} {e : Expr} {ta : TA} {p pos tpos : Pos} {elts : List Expr} {kk : Nat} (hg : Gl X "enumerate") (hm : X.mg "enumerate" = none) (ha : PA X [e] ta) (hs : starEach [e] X.env = [(false, eval e X.env)] := by rfl) :
    PI X (.Tuple elts kk tpos) (.Call (.Name "enumerate" p) [e] [] pos) (iEnT X.K ta) := by
  refine ⟨fun pins s σ H R I h => ?_⟩
  refine Call_ (ld_blt I hg hm boot_enumerate (PyProof.Rows.callWith_type1 (thn (ha.run pos pins s σ H _ I h) fun us s1 ⟨vs, H1, I1, r1, q1⟩ => ?_) hs rfl))
  obtain ⟨a, xs, ex, q1⟩ := q1
  subst ex
  cases r1 with
  | cons r rr =>
    cases rr
    cases r
    have old : ∀ b, b ∈ [s1.heap.objs.size + 1, s1.heap.objs.size] → s1.heap.objs.size ≤ b := fun b hb => by
      have z : b = s1.heap.objs.size + 1 ∨ b = s1.heap.objs.size := by simpa using hb
      rcases z with rfl | rfl
      · exact Nat.le_add_right _ _
      · exact Nat.le_refl _
    rcases q1 with ⟨hq, q⟩ | ⟨hq, q⟩
    · obtain ⟨its, rv, p', hz⟩ := I1.tuple hq
      refine enumerateT (show s1.heap.IsTuple a its.toArray from p') fun g he hit hsz hk => wpAny_pyIter_enum he ?_
      have I2 : Inv X pins σ H1 { s1 with heap := g } := I1.kept (t' := s1.toks) hk
      exact ⟨s1.heap.objs.size + 1, [s1.heap.objs.size + 1, s1.heap.objs.size], _, _, H1, rfl, I2, turn_T a (s1.heap.objs.size + 1) s1.heap.objs.size, ⟨⟨.none, he⟩, hit, Nat.succ_ne_self _⟩, fun b hb => I1.fpOk (old b hb) (I1.hok.fresh (old b hb)), q⟩
    · obtain ⟨its, rv, p', hz⟩ := I1.list hq
      refine call_enumerate_list p'.isList fun g he hit hsz hk => wpAny_pyIter_enum he ?_
      have I2 : Inv X pins σ H1 { s1 with heap := g } := I1.kept (t' := s1.toks) hk
      exact ⟨s1.heap.objs.size + 1, [s1.heap.objs.size + 1, s1.heap.objs.size], _, _, H1, rfl, I2, turn_enum a (s1.heap.objs.size + 1) s1.heap.objs.size, ⟨⟨.none, he⟩, hit, Nat.succ_ne_self _⟩, fun b hb => I1.fpOk (old b hb) (I1.hok.fresh (old b hb)), q⟩
/-- the items with their places -/
def numD (ds : List PyData) : List PyData := ds.mapIdx fun i d => .tuple [.int i, d]
theorem numD_get {ds : List PyData} {i : Nat} {x : PyData} (h : (numD ds)[i]? = some x) : ∃ d, ds[i]? = some d ∧ x = .tuple [.int i, d] := by
  unfold numD at h
  rw [List.getElem?_mapIdx] at h
  cases q : ds[i]? with
  | none => rw [q] at h; cases h
  | some d => rw [q] at h; exact ⟨d, rfl, (Option.some.inj h).symm⟩
theorem numD_len (ds : List PyData) : (numD ds).length = ds.length := by simp [numD]
section
variable {X : Cx} {w : Vw} {e : Expr} {τ : Ty} {p pos tpos : Pos} {elts : List Expr} {kk : Nat} {d : PyData}
theorem wi_enum {ds : List PyData} (hm : X.mg "enumerate" = none) (ha : Xe X w e τ (eD X.K d)) (hd : d = .list ds ∨ d = .tuple ds) (hg : Gl X "enumerate" := by rfl) (hs : starEach [e] X.env = [(false, eval e X.env)] := by rfl) :
    Xi X w (.Tuple elts kk tpos) (.Call (.Name "enumerate" p) [e] [] pos) τ (fun y => y = numD ds) := ⟨_, pi_enT hg hm pa_sem hs, fun σ H s R q => (xa_1 ha hs) σ H s _ fun vs pds H1 e1 i1 hp hv => by
  obtain ⟨v, y, rfl, hy, hv⟩ := one_of hp hv
  subst hy
  have yl : ∀ (a : Addr) (xs : List V) (i : Nat) (H2 : Hp) (x : V) (H3 : Hp) (dd : PyData) (S : List Addr), DpAll X.K (hid w.S H1) xs ds → (numD ds)[i]? = some dd → (∀ a, a ∈ S → a ∈ w.S ∨ H1 a = none) → Exm S H1 H2 → Live S H2 →
      (∃ T z, x = .ref T ∧ H2 T = none ∧ H3 = upd H2 T (.tup [.int (i : Nat), z]) ∧ xs[i]? = some z) → Same H2 H3 ∧ Dp X.K (hid S H3) x dd := by
    rintro a xs i H2 x H3 dd S da hdd hS mS l ⟨T, z, rfl, hT, rfl, hz⟩
    obtain ⟨d0, h0, rfl⟩ := numD_get hdd
    obtain ⟨v0, hv0, dv0⟩ := dpa_get da h0
    rw [hz] at hv0
    cases hv0
    have sm : Same H2 (upd H2 T (.tup [.int (i : Nat), z])) := same_upd hT
    have nT : ¬ T ∈ S := fun m => l T m hT
    refine ⟨sm, .tup (.inl (.inl (by rw [hid_ne nT, upd_same]))) (.cons (.int _) (.cons ?_ .nil))⟩
    exact dp_same (hid_move (Exm.same (M := S) sm)) _ _ (dp_same (hid_other hS mS) _ _ dv0)
  rcases hd with rfl | rfl
  · obtain ⟨a, xs, rfl, hs', da⟩ := dat_lst hv
    refine ⟨a, xs, rfl, .inr ⟨sql_same (hid_sub _ _) hs', q _ H1 (numD ds) rfl e1 i1 ⟨fun i H2 hi m => ?_, fun H2 m => ?_, fun i H2 x H3 dd S hd hS m mS l y => ?_⟩⟩⟩
    · rw [numD_len, ← dpa_len da] at hi
      exact ⟨xs, xs[i], sql_wide hs' m, by simp [hi]⟩
    · exact ⟨xs, sql_wide hs' m, by rw [numD_len, dpa_len da]; exact Nat.le_refl _⟩
    · obtain ⟨T, z, e1', e2, e3, e4⟩ := y
      exact yl a xs i H2 x H3 dd S da hd hS mS l ⟨T, z, e1', e2, e3, e4 xs (sql_wide hs' m)⟩
  · obtain ⟨a, xs, rfl, hs', da⟩ := dat_tup hv
    refine ⟨a, xs, rfl, .inl ⟨sqt_same (hid_sub _ _) hs', q _ H1 (numD ds) rfl e1 i1 ⟨fun i H2 hi m => ?_, fun H2 m => ?_, fun i H2 x H3 dd S hd hS m mS l y => ?_⟩⟩⟩
    · rw [numD_len, ← dpa_len da] at hi
      exact ⟨xs, xs[i], sqt_wide hs' m, by simp [hi]⟩
    · exact ⟨xs, sqt_wide hs' m, by rw [numD_len, dpa_len da]; exact Nat.le_refl _⟩
    · obtain ⟨T, z, e1', e2, e3, e4⟩ := y
      exact yl a xs i H2 x H3 dd S da hd hS mS l ⟨T, z, e1', e2, e3, e4 xs (sqt_wide hs' m)⟩⟩
end
end Lt
namespace Lt
open PySem PySem.Spec PyProof.Rows L2
/-! ### an exception's __init__: super().__init__(text), self.at = at -/
/-- how it stands behind the top -/
structure ExI (P : Program) (K : PySem.W.Frag) (C f : Addr) (name qual : Str) (params : Arguments) (body : List Stmt) (scope : Scope) (fd : FuncData) : Prop where
  ex : ∃ (oc : Value) (od : Option Addr) (osl : Array (Option Value)) (dV kV doc pm : Value) (an : Option Addr) (cda : Addr) (ct : Value) (cc : Addr) (ocl : Value) (odl : Option Addr) (vs : Array Value) (osv : Array (Option Value)) (file : Str) (tf : Tok) (ccl : Value) (ccd : Option Addr) (ccs : Array (Option Value)),
    fd = PySem.W.ksFn name qual params body scope dV kV doc pm an (.ref cda) ct cc ∧ K.lookup f = some ⟨oc, od, .func fd, osl⟩ ∧ PySem.W.codeIn K (.ref cda) qual = true ∧
    K.lookup cda = some ⟨ocl, odl, .fields vs, osv⟩ ∧ vs[2]? = some (.str file tf) ∧ ((P.main.file : Str) == file) = true ∧ K.lookup cc = some ⟨ccl, ccd, .cell (some (.ref C)), ccs⟩
  su : PySem.W.ks_superIn K C C "__init__" = some (some (.builtin "ValueError.__init__"))
  ve : PySem.W.subIn K (.ref C) (.type "ValueError") = some true
  me : PySem.W.mroIn K C (.ref C) = some true
  op : PySem.W.nsIn K cStatics "thirdparty.any" = some none
  ox : OexC K C
  no : PySem.W.findIn K (.ref C) "at" = some none
/-- what it does: the exception at a holds the value -/
def spIni (C : Addr) : Sp := fun vs H Q _ => ∃ (a : Addr) (v : V), vs = [.ref a, v] ∧ H a = some (exo a C none) ∧ ∀ dx, H dx = none → dx ≠ a → Q .non (upd (upd H dx (exd dx [("at", v)])) a (exo a C (some dx)))
section
variable {prog : Program} {w : World} {A : Around} {E : Value → Shared → Prop} {h : Heap} {g : Array GenState} {d : Drawn} {t : Nat} {os : OsState}
variable {nm q : Str} {C N : Addr} {bs bm : List Value} {hdct : Bool} {sn : List Str} {sub : List Value} {ab : Bool} {col : Option Bool} {dd : Option Addr} {k0 k1 k2 k3 k5 : Option Value}
/-- the bound ValueError.__init__ called -/
theorem call_mw {u e t0 : Addr} {rest : List Value} {Q : Value → Shared → Prop}
    (hC : h.get? C = some (excClassObj nm q C N bs bm hdct sn sub ab col dd k0 k1 k2 k3 k5 "ValueError.__new__")) (he : h.get? e = some (HandSPX.excO C t0)) (hu : h.get? u = some (PySem.W.kxs_mw "ValueError.__init__" e)) (hz : rest.length ≤ sizeLine)
    (k : ∀ g' t1, (∀ b o, b ≠ e → h.get? b = some o → g'.get? b = some o) → g'.get? e = some (HandSPX.excO C t1) → Q .none ⟨g', g, d, t, os⟩) :
    wpAny (model prog w) A (call (.ref u) rest) Q E ⟨h, g, d, t, os⟩ := by
  refine wpAny_call (codeAny_of_tree ?_)
  show wpAny _ A.in1 (callAny (.ref u) ⟨rest, []⟩) _ _ _
  simp only [callAny]
  refine wpAny_bind (wpAny_load hu ?_)
  simp only [PySem.W.kxs_mw, show (Value.type "method-wrapper" == Value.type "method" || Value.type "method-wrapper" == Value.type "builtin_function_or_method" || Value.type "method-wrapper" == Value.type "method-wrapper") = true by decide, if_true]
  refine PySem.W.KFB.if_so (by decide) ?_
  refine wpAny_bind (PySem.W.check_bound_init F.excBase_ValueError.toExcCallFacts hC he rfl ?_)
  refine wpAny_bind (wpAny_pure (wpAny_pure ?_))
  refine ⟨plainId_quiet F.excBase_ValueError.init.plain _, codeAny_builtin F.excBase_ValueError.initEntry ?_⟩
  exact PySem.W.exc_init_tree (cls := .ref C) (t0 := t0) (dv := none) (c2 := .none) (c3 := .none) (b4 := .bool false) he hz fun g' k1 k2 k3 => k g' _ k1 k2
end
theorem ok_ini {P : Program} {w : World} {K : PySem.W.Frag} {mg : Str → Option Value} {base : Heap} {CX : CXT} {C f : Addr} {name qual : Str} {params : Arguments} {body : List Stmt} {scope : Scope} {fd : FuncData}
    (T : ExI P K C f name qual params body scope fd) (hsup : mg "super" = none) (S : NdefX.NScope ["self", "at", "__class__"] ["self", "at"] ["__class__"] scope) (hks : scope.names.lookup ("super" : Str) = some .globalImplicit) (htop : (P.main.scope.names.lookup ("super" : Str)).isSome = false)
    (hp : ∃ ar, (params.posonlyargs ++ params.args).head? = some ar ∧ ar.arg = "self")
    (hbody : ∃ (p0 p1 p2 p3 p4 p5 p6 p7 p8 p9 : Pos) (msg : Str) (kk : Nat), body = [.Expr (.Call (.Attribute (.Call (.Name "super" p0) [] [] p1) "__init__" p2) [.Constant (.str msg) kk p3] [] p4) p5, .Assign [.Attribute (.Name "self" p6) "at" p7] (.Name "at" p8) p9] ∧
      ∀ env : Env, ∃ pl : Sem Bool, eval (.Call (.Attribute (.Call (.Name "super" p0) [] [] p1) "__init__" p2) [.Constant (.str msg) kk p3] [] p4) env = (do
        let ov ← attributeBase (.Call (.Name "super" p0) [] [] p1) "__init__" env (eval (.Call (.Name "super" p0) [] [] p1) env)
        standAt p2.atName
        let (f, first) ← holding [ov] (getMethod ov "__init__" pl)
        callWith p4 f first (backTo p4 (starEach [.Constant (.str msg) kk p3] env)) [])) :
    FnOk P w K mg base CX 1 f fd ["self", "at"] (spIni C) := by
  obtain ⟨oc, od, osl, dV, kV, doc, pm, an, cda, ct, cc, ocl, odl, vs0, osv, file, tf, ccl, ccd, ccs, efd, lk, hcd, lcda, hvs, hfile, lcc⟩ := T.ex
  obtain ⟨nm, qn, N, bs, bm, sn, sub, ab, col, dd, k0, k1, k2, k3, k5, hC, hbm⟩ := T.ox.cls
  obtain ⟨ar, har, ears⟩ := hp
  obtain ⟨p0, p1, p2, p3, p4, p5, p6, p7, p8, p9, msg, kk, ebody, hev⟩ := hbody
  subst ebody
  refine ⟨fun vs H Q E ⟨a, v, e, _⟩ => by rw [e]; rfl, fun A outer s H args us vs Q E hr e0 hb r hsp => ?_⟩
  obtain ⟨a, v, rfl, ha, hq⟩ := hsp
  have KX : K.In s.heap := e0.mod.kin.keeps fun b o e => (e0.bs b o e).1
  have lim : s.heap.NoLimit := e0.mod.nolimit.keeps fun b o e => (e0.bs b o e).1
  have kH : ∀ {b : Addr} {o : Obj}, K.lookup b = some o → H b = none := fun {b o} e => (e0.bs b o (e0.mod.kin _ _ e)).2
  obtain ⟨ua, uv, rfl, ra, rv⟩ := vals2 r
  obtain rfl : ua = Value.ref a := ra
  let FF : NdefX.NF := ⟨name, qual, params, [.Expr (.Call (.Attribute (.Call (.Name "super" p0) [] [] p1) "__init__" p2) [.Constant (.str msg) kk p3] [] p4) p5, .Assign [.Attribute (.Name "self" p6) "at" p7] (.Name "at" p8) p9], scope, [("__class__", cc)], cda⟩
  have CA : NdefX.CellsAt FF.cl ["__class__"] [(none : Option V)] s.heap H := by
    have key : ∀ y c, FF.cl.lookup y = some c → c = cc ∧ y = "__class__" := fun y c e => by
      have e' : List.lookup y [(("__class__" : Str), cc)] = some c := e
      by_cases hy : y = "__class__"
      · subst hy
        have z : List.lookup ("__class__" : Str) [(("__class__" : Str), cc)] = some cc := rfl
        rw [z] at e'
        exact ⟨(Option.some.inj e').symm, rfl⟩
      · have hb : (y == ("__class__" : Str)) = false := by simpa using hy
        simp [List.lookup, hb] at e'
    refine ⟨rfl, fun y c e => ?_, fun x y c e1 e2 => (key x c e1).2.trans (key y c e2).2.symm, fun i y e => ?_⟩
    · obtain ⟨rfl, _⟩ := key y c e
      exact ⟨kH lcc, _, ⟨_, KX _ _ lcc, rfl⟩⟩
    · have ey : y = "__class__" := by
        cases i with
        | zero => simpa using e.symm
        | succ i => simp at e
      subst ey
      refine ⟨cc, rfl, fun v hv => ?_⟩
      cases i with
      | zero => simp at hv
      | succ i => simp at hv
  rw [efd] at lk hb
  refine ks_codeAny_call_defAt hr.depth (KX _ _ lk) rfl lim (PySem.W.codeRec_of KX hcd) rfl hb S.nocell (fun ⟨n, _⟩ hy => S.par n (List.of_mem_zip hy).1) (fun h₁ hns kp => ?_) S.co S.gen S.kind
  have I0 : Inv (NdefX.ncx CX P w K mg base ["self", "at", "__class__"] FF f A outer s H E) [] (NdefX.startF ["self", "at", "__class__"] [.ref a, v] [none]) H { s with heap := h₁, toks := s.toks + ([("self" : Str), "at"].zip [Value.ref a, uv]).length } :=
    NdefX.inv_startN S hr.hd e0 rfl r CA hns kp
  obtain ⟨hs, gs, ds, ts, os⟩ := s
  show PySem.wpAt _ (A.deeper (PySem.W.ksEnv qual scope hs.objs.size f (.ref cda) cc)) (.func FF.body (PySem.W.ksEnv qual scope hs.objs.size f (.ref cda) cc)) (execs FF.body (PySem.W.ksEnv qual scope hs.objs.size f (.ref cda) cc)) _ _ ⟨h₁, gs, ds, ts + ([("self" : Str), "at"].zip [Value.ref a, uv]).length, os⟩
  have I : Inv (NdefX.ncx CX P w K mg base ["self", "at", "__class__"] FF f A outer ⟨hs, gs, ds, ts, os⟩ H E) [] (NdefX.startF ["self", "at", "__class__"] [.ref a, v] [none]) H ⟨h₁, gs, ds, ts + ([("self" : Str), "at"].zip [Value.ref a, uv]).length, os⟩ := I0
  generalize htk : ts + ([("self" : Str), "at"].zip [Value.ref a, uv]).length = tk at I
  have KX1 : K.In h₁ := KX.keeps kp
  obtain ⟨t0, hae⟩ := exo_at I.hok ha
  obtain ⟨mb, hb1, hb2⟩ := I.mod.blt
  have hKC : h₁.get? C = some (excClassObj nm qn C N bs bm true sn sub ab col dd k0 k1 k2 k3 k5 "ValueError.__new__") := KX1 _ _ hC
  have hcl : PySem.W.clsIn K C = some { name := nm, bases := bs, mro := .ref C :: bm, ns := N, qualname := qn, hasDict := true, slotNames := sn, subclasses := sub, abstract := ab, collection := col, hasDel := false } := by unfold PySem.W.clsIn; rw [hC] <;> rfl
  obtain ⟨pl, hev⟩ := hev (PySem.W.ksEnv qual scope hs.objs.size f (.ref cda) cc)
  refine ks_wpAt_execs_cons (ks_wpAt_Expr_any (ks_wpAt_MethodCall (pl := pl) ?_ hev) (by show (scope.kind == ScopeKind.module && _) = false; rw [S.kind]; rfl) rfl)
  refine ks_wpAt_super_base (body := FF.body) (env := PySem.W.ksEnv qual scope hs.objs.size f (.ref cda) cc) hks (S.frk _ (by simp)) (by decide) rfl (KX1 _ _ lk) rfl har rfl (KX1 _ _ lcda) rfl hvs hfile htop ?_
  refine PySem.W.ks_loadName_global S.kind hks (Calls.loadGlobal_builtin (env := PySem.W.ksEnv qual scope hs.objs.size f (.ref cda) cc) (I.mod.glob.keeps I.bk) hsup (hb1.keeps I.bk) ((hb2 "super" (by decide)).trans (by decide +kernel)) ⟨rfl, ?_⟩)
  refine wpAny_loadName_free S.kind (S.frk _ (by simp)) rfl ⟨_, KX1 _ _ lcc, rfl⟩ ?_
  rw [ears]
  refine wpAny_loadName_local S.kind (S.par _ (by simp)) hns (v := .ref a) rfl ?_
  refine ks_wpAny_isType_cls hKC rfl ⟨rfl, ?_⟩
  refine ks_wpAny_call_super hKC rfl hae rfl (fun c z => by cases z) (PySem.W.looks_mroIn KX1 T.me) fun h2 e2 k2 => ?_
  have KX2 : K.In h2 := KX1.keeps k2
  have I2 : Inv (NdefX.ncx CX P w K mg base ["self", "at", "__class__"] FF f A outer ⟨hs, gs, ds, ts, os⟩ H E) [] (NdefX.startF ["self", "at", "__class__"] [.ref a, v] [none]) H ⟨h2, gs, ds, tk, os⟩ := I.kept (t' := tk) k2
  have hsu := T.su
  unfold PySem.W.ks_superIn at hsu
  rw [hcl] at hsu
  have LI : PySem.W.Looks (model P w) h2 (isInstance (.ref a) (.type "ValueError")) true := by
    have LT : PySem.W.Looks (model P w) h2 (typeOf (.ref a)) (.ref C) := fun A Q E s k q => wpAny_typeOf_ref (k _ _ (k2 _ _ hae)) q
    exact LT.andThen (PySem.W.looks_subIn KX2 T.ve)
  have naC : a ≠ C := fun z => by
    have y := kH hC
    rw [← z, ha] at y
    cases y
  refine PySem.W.kxs_getMethod PySem.W.kxs_ValueError e2 (PySem.W.looks_opaque KX2 T.op) (l₀ := .ref C :: bm) (fun A Q E s k q => wpAny_bind ((PySem.W.looks_clsIn KX2 hcl) A _ E s k (wpAny_pure q))) rfl KX2 hsu LI naC (by decide) ?_
  generalize hu : h2.objs.size = u
  have k3 : ∀ b o, h2.get? b = some o → (h2.push (PySem.W.kxs_mw "ValueError.__init__" a)).get? b = some o := fun b o e => Heap.get?_push_of_some _ e
  have hu3 : (h2.push (PySem.W.kxs_mw "ValueError.__init__" a)).get? u = some (PySem.W.kxs_mw "ValueError.__init__" a) := by rw [← hu]; exact Heap.get?_push_size _ rfl
  generalize h2.push (PySem.W.kxs_mw "ValueError.__init__" a) = h3 at k3 hu3
  have I3 : Inv (NdefX.ncx CX P w K mg base ["self", "at", "__class__"] FF f A outer ⟨hs, gs, ds, ts, os⟩ H E) [] (NdefX.startF ["self", "at", "__class__"] [.ref a, v] [none]) H ⟨h3, gs, ds, tk + 1, os⟩ := I2.kept (t' := tk + 1) k3
  refine PySem.W.kxs_callWith (i := "ValueError.__init__") (x := a) rfl ?_
  refine Calls.evalArgs_plain ?_
  refine Calls.spliced_cons (@Calls.Constant_str _ _ _ _ _ _ kk p3 _ (Calls.spliced_nil ?_))
  refine ⟨hu3, ?_⟩
  have I4 : Inv (NdefX.ncx CX P w K mg base ["self", "at", "__class__"] FF f A outer ⟨hs, gs, ds, ts, os⟩ H E) [] (NdefX.startF ["self", "at", "__class__"] [.ref a, v] [none]) H ⟨h3, gs, ds, tk + 1 + 1, os⟩ := I3.tok _
  obtain ⟨t4, h4⟩ := exo_at I4.hok ha
  refine call_mw (k3 _ _ (k2 _ _ hKC)) h4 hu3 (by simp [sizeLine_eq]) fun g' t1 kg hg => ?_
  have I5 : Inv (NdefX.ncx CX P w K mg base ["self", "at", "__class__"] FF f A outer ⟨hs, gs, ds, ts, os⟩ H E) [] (NdefX.startF ["self", "at", "__class__"] [.ref a, v] [none]) H ⟨g', gs, ds, tk + 1 + 1, os⟩ := by
    have J := I4.write (t' := tk + 1 + 1) (x := a) (e := a) (o := exo a C none) (by rw [ha]; exact True.intro) (.inl rfl) kg ⟨_, hg⟩ (exo_ok hg)
    have eu : upd H a (exo a C none) = H := by
      funext b
      by_cases hb : b = a
      · rw [hb, upd_same, ha]
      · rw [upd_ne hb]
    rw [eu] at J
    exact J
  show PySem.wpAt _ _ _ (execs [.Assign [.Attribute (.Name "self" p6) "at" p7] (.Name "at" p8) p9] (PySem.W.ksEnv qual scope hs.objs.size f (.ref cda) cc)) _ _ _
  have PB := pss_cons (ps_ost (X := NdefX.ncx CX P w K mg base ["self", "at", "__class__"] FF f A outer ⟨hs, gs, ds, ts, os⟩ H E) (o := .Name "self" p6) (f := "at") (e := .Name "at" p8) (p' := p7) (pos := p9) (pe_var (i := 0) (x := "self") rfl (.inl (S.par _ (by simp)))) (pe_var (i := 1) (x := "at") rfl (.inl (S.par _ (by simp))))) pss_nil
  have run := PB.run [] _ _ H { nx := fun _ H' => Q .non H', rt := Q } I5 ⟨v, rfl, .ref a, rfl, a, C, rfl, T.ox, T.no, .inl ⟨ha, fun dx n ne => hq dx n ne⟩⟩
  refine wpAt_of_wpAny (wpAny_mono run (fun fl s' hs' => ?_) fun e s' hs' => hs')
  have fin : ∀ {σ' : L2.St} {H' : Hp} {v : V} {u : Value}, Inv (NdefX.ncx CX P w K mg base ["self", "at", "__class__"] FF f A outer ⟨hs, gs, ds, ts, os⟩ H E) [] σ' H' s' → L2.RelV v u → Q v H' → CE outer P w H ⟨hs, gs, ds, ts, os⟩ Q u s' :=
    fun {σ' H' v u} J rv q => ⟨v, H', J.os, J.bare, J.base, J.hok, rv, q⟩
  cases fl with
  | ret u =>
    obtain ⟨v, σ', H', J, rv, q⟩ := hs'
    exact fin J rv q
  | next =>
    obtain ⟨σ', H', J, q⟩ := hs'
    exact fin (v := V.non) (u := Value.none) J rfl q
  | brk =>
    obtain ⟨_, _, _, q⟩ := hs'
    exact False.elim q
  | cont =>
    obtain ⟨_, _, _, q⟩ := hs'
    exact False.elim q
end Lt
namespace Lt
open PySem PySem.Spec PyProof.Rows L2
/-! ### what is called -/
/-- the name x stands for a def that keeps sp -/
structure Cl (P : Program) (w : World) (K : PySem.W.Frag) (mg : Str → Option Value) (base : Heap) (CX : CXT) (k : Nat) (x : Str) (ps : List Str) (sp : Sp) : Prop where
  ex : ∃ f fd, FnOk P w K mg base CX k f fd ps sp ∧ mg x = some (.ref f) ∧ PySem.W.keepIn K (.ref f) = true ∧ Binds K fd ps []
/-- where a def of the text stands -/
structure Df (K : PySem.W.Frag) (mg : Str → Option Value) (d : He.DefD) : Prop where
  ex : ∃ f fd, FunD K d.name d.qual d.params d.body d.scope [] [] f fd ∧ mg d.name = some (.ref f)
/-- where the classes stand: Machine, InvalidSlip, Refused -/
structure Ad where
  cm : Addr
  ci : Addr
  cr : Addr
/-- what the top has left: the defs, the class, the free names -/
structure Tx (K : PySem.W.Frag) (mg : Str → Option Value) (M : Ad) : Prop where
  mM : mg "Machine" = some (.ref M.cm)
  cls : Cls K M.cm
  na1 : NoAttr K M.cm "commands"
  na2 : NoAttr K M.cm "states"
  na3 : NoAttr K M.cm "steps"
  na4 : NoAttr K M.cm "_found"
  does : ∃ f fd, FunD K dMachineDoes.name dMachineDoes.qual dMachineDoes.params dMachineDoes.body dMachineDoes.scope [] [] f fd ∧ Meth K M.cm "does" f
  init : ∃ f fd, FunD K dMachineInit.name dMachineInit.qual dMachineInit.params dMachineInit.body dMachineInit.scope [] [] f fd ∧ Mk K M.cm f
  df : ∀ (i : Nat) (d : He.DefD), fnL[i]? = some d → d.at_.2 = none → d.kwd = [] → Df K mg d
  isi : mg "isinstance" = none
  int : mg "int" = none
  bool : mg "bool" = none
  list : mg "list" = none
  tuple : mg "tuple" = none
  len : mg "len" = none
  enum : mg "enumerate" = none
  all : mg "all" = none
  any : mg "any" = none
  range : mg "range" = none
  sorted : mg "sorted" = none
  super : mg "super" = none
  abs : mg "abs" = none
  repr : mg "repr" = none
  str : mg "str" = none
  max : mg "max" = none
  min : mg "min" = none
  set : mg "set" = none
section
variable {X : Cx} {w : Vw} {e : Expr} {es : List Expr} {τ : Ty} {P : Pd → Prop} {pos p : Pos}
theorem x_cl {CX : CXT} {k j : Nat} {x : Str} {ps : List Str} {sp : Sp} {E : XK} {PA' : List Pd → Prop} (c : Cl X.prog X.w X.K X.mg X.base CX k x ps sp) (hr : Room j X.A) (hk : k ≤ j) (hx : Passes CX X E) (ha : Xa X w (e :: es) τ PA')
    (h : ∀ vs pds H, Live w.S H → w.I H → PA' pds → PdAll (hid w.S H) vs pds → Ot w H (fun Q => sp vs H Q E) P) (hg : Gl X x := by rfl)
    (hdb : (x == ("__debug__" : Str)) = false := by decide) (he : starEach (e :: es) X.env = (false, eval e X.env) :: starEach es X.env := by rfl) (hpl : (backTo pos (starEach es X.env)).any (·.1) = false := by rfl) : Xe X w (.Call (.Name x p) (e :: es) [] pos) τ P := by
  obtain ⟨f, fd, F, hm, hkp, hb⟩ := c.ex
  exact x_call F (hr.mono hk) hm hkp hb .nil hx ha (fun vs pds H l i a b => by rw [List.append_nil]; exact h vs pds H l i a b) hg hdb he hpl
/-- a call of a def that only tells -/
theorem x_clP {CX : CXT} {k j : Nat} {x : Str} {ps : List Str} {F : List Pd → Pd → Prop} {PA' : List Pd → Prop} (c : Cl X.prog X.w X.K X.mg X.base CX k x ps (spP F)) (hr : Room j X.A) (hk : k ≤ j) (hx : Passes CX X E0) (ha : Xa X w (e :: es) τ PA')
    (h : ∀ pds, PA' pds → ∃ r, F pds r ∧ P r) (hg : Gl X x := by rfl) (hdb : (x == ("__debug__" : Str)) = false := by decide) (he : starEach (e :: es) X.env = (false, eval e X.env) :: starEach es X.env := by rfl)
    (hpl : (backTo pos (starEach es X.env)).any (·.1) = false := by rfl) : Xe X w (.Call (.Name x p) (e :: es) [] pos) τ P :=
  x_cl (E := E0) c hr hk hx ha (fun vs pds H l i a b => by
    obtain ⟨r, f, q⟩ := h pds a
    exact ot_spP l i b f q) hg hdb he hpl
end
theorem Cl.mk' {P : Program} {w : World} {K : PySem.W.Frag} {mg : Str → Option Value} {base : Heap} {CX : CXT} {k : Nat} {ps : List Str} {sp : Sp} {d : He.DefD} (h : Df K mg d) (hF : ∀ f fd, FunD K d.name d.qual d.params d.body d.scope [] [] f fd → FnOk P w K mg base CX k f fd ps sp)
    (hb : ∀ (kV doc pm : Value) (an : Option Addr) (cdv ct : Value) (us : List Value), us.length = ps.length → bindArgs (PySem.W.fnOf d.name d.qual d.params d.body d.scope .none kV doc pm an cdv ct) ⟨us, []⟩ = pure (ps.zip us)) : Cl P w K mg base CX k d.name ps sp := by
  obtain ⟨f, fd, F, hm⟩ := h.ex
  exact ⟨f, fd, hF f fd F, hm, F.kp, F.bindsN hb⟩
/-! ### numbers, sequences -/
def isIntD : PyData → Bool
  | .int _ => true
  | _ => false
def isNumD : PyData → Bool
  | .int i => decide (0 ≤ i)
  | _ => false
def isIdxD (d : PyData) (m : Int) : Bool := match d with
  | .int i => decide (0 ≤ i) && decide (i < m)
  | _ => false
def isSeqD : PyData → Bool
  | .list _ => true
  | .tuple _ => true
  | _ => false
theorem kit_int (d : PyData) : kitB (tyD d) "int" = some (match d with | .int _ => true | .bool _ => true | _ => false) := by
  cases d with
  | none => exact (by decide +kernel : kitB "NoneType" "int" = some false)
  | bool _ => exact (by decide +kernel : kitB "bool" "int" = some true)
  | int _ => exact (by decide +kernel : kitB "int" "int" = some true)
  | str _ => exact (by decide +kernel : kitB "str" "int" = some false)
  | list _ => exact (by decide +kernel : kitB "list" "int" = some false)
  | tuple _ => exact (by decide +kernel : kitB "tuple" "int" = some false)
  | dict _ => exact (by decide +kernel : kitB "dict" "int" = some false)
theorem kit_bool (d : PyData) : kitB (tyD d) "bool" = some (match d with | .bool _ => true | _ => false) := by
  cases d with
  | none => exact (by decide +kernel : kitB "NoneType" "bool" = some false)
  | bool _ => exact (by decide +kernel : kitB "bool" "bool" = some true)
  | int _ => exact (by decide +kernel : kitB "int" "bool" = some false)
  | str _ => exact (by decide +kernel : kitB "str" "bool" = some false)
  | list _ => exact (by decide +kernel : kitB "list" "bool" = some false)
  | tuple _ => exact (by decide +kernel : kitB "tuple" "bool" = some false)
  | dict _ => exact (by decide +kernel : kitB "dict" "bool" = some false)
theorem kit_list (d : PyData) : kitB (tyD d) "list" = some (match d with | .list _ => true | _ => false) := by
  cases d with
  | none => exact (by decide +kernel : kitB "NoneType" "list" = some false)
  | bool _ => exact (by decide +kernel : kitB "bool" "list" = some false)
  | int _ => exact (by decide +kernel : kitB "int" "list" = some false)
  | str _ => exact (by decide +kernel : kitB "str" "list" = some false)
  | list _ => exact (by decide +kernel : kitB "list" "list" = some true)
  | tuple _ => exact (by decide +kernel : kitB "tuple" "list" = some false)
  | dict _ => exact (by decide +kernel : kitB "dict" "list" = some false)
theorem kit_tuple (d : PyData) : kitB (tyD d) "tuple" = some (match d with | .tuple _ => true | _ => false) := by
  cases d with
  | none => exact (by decide +kernel : kitB "NoneType" "tuple" = some false)
  | bool _ => exact (by decide +kernel : kitB "bool" "tuple" = some false)
  | int _ => exact (by decide +kernel : kitB "int" "tuple" = some false)
  | str _ => exact (by decide +kernel : kitB "str" "tuple" = some false)
  | list _ => exact (by decide +kernel : kitB "list" "tuple" = some false)
  | tuple _ => exact (by decide +kernel : kitB "tuple" "tuple" = some true)
  | dict _ => exact (by decide +kernel : kitB "dict" "tuple" = some false)
theorem boot_bool' : bootBuiltins "bool" = some (.type "bool") := by decide +kernel
section
variable {P : Program} {w : World} {K : PySem.W.Frag} {mg : Str → Option Value} {base : Heap} {M : Ad}
def F_isInteger (K : PySem.W.Frag) : List Pd → Pd → Prop := fun pds r => ∃ d, pds = [dat K d] ∧ r = dat K (.bool (isIntD d))
theorem sc_isInteger : FnScope ["value"] ["value"] (defScope sIsInteger) := ⟨rfl, rfl, rfl, by decide +kernel, rfl, by decide +kernel, by decide +kernel⟩
theorem cl_isInteger (T : Tx K mg M) : Cl P w K mg base CX0 1 "is_integer" ["value"] (spP (F_isInteger K)) := by
  refine Cl.mk' (d := dIsInteger) (T.df 0 _ rfl rfl rfl) (fun f fd F => fn_pure F sc_isInteger (fun pds r ⟨d, h, _⟩ => by rw [h]; rfl) fun cdv A outer s H E hr S H0 pds r Q ⟨d, e1, e2⟩ q => ?_) (fun _ _ _ _ _ _ us hl => match us, hl with | [_], _ => rfl)
  subst e1
  refine rn_retP q .rfl' rfl (Xe.retB (v_and (x_isi T.isi (nD 0) (x_ty T.int boot_int') (fun y e => ⟨_, kit_int y, by rw [e]⟩))
    (fun _ => x_one (v_not (x_isi T.isi (nD 0) (x_ty T.bool boot_bool') (fun y e => ⟨_, kit_bool y, by rw [e]⟩))))) ?_)
  rw [e2]
  cases d <;> rfl
def F_isNumber (K : PySem.W.Frag) : List Pd → Pd → Prop := fun pds r => ∃ d, pds = [dat K d] ∧ r = dat K (.bool (isNumD d))
theorem sc_isNumber : FnScope ["value"] ["value"] (defScope sIsNumber) := ⟨rfl, rfl, rfl, by decide +kernel, rfl, by decide +kernel, by decide +kernel⟩
theorem cl_isNumber (T : Tx K mg M) : Cl P w K mg base CX0 2 "is_number" ["value"] (spP (F_isNumber K)) := by
  refine Cl.mk' (d := dIsNumber) (T.df 1 _ rfl rfl rfl) (fun f fd F => fn_pure F sc_isNumber (fun pds r ⟨d, h, _⟩ => by rw [h]; rfl) fun cdv A outer s H E hr S H0 pds r Q ⟨d, e1, e2⟩ q => ?_) (fun _ _ _ _ _ _ us hl => match us, hl with | [_], _ => rfl)
  subst e1
  refine rn_retP q .rfl' rfl (Xe.retB (v_and (v := isNumD d) (Xe.toB (Xe.ofP (x_clP (cl_isInteger T) hr (Nat.le_refl _) pass0 (ap_cons (nP 0) ap_nil) fun pds e => ⟨_, ⟨d, e, rfl⟩, rfl⟩))) (fun hd => x_one ?_)) ?_)
  · cases d with
    | int i => exact v_ge (nI 0) (cI 0)
    | _ => cases hd
  · rw [e2]
    cases d <;> first | rfl | (simp only [isIntD, isNumD, Bool.true_and]; rfl)
def F_isIndex (K : PySem.W.Frag) : List Pd → Pd → Prop := fun pds r => ∃ (d : PyData) (m : Int), pds = [dat K d, dat K (.int m)] ∧ r = dat K (.bool (isIdxD d m))
theorem sc_isIndex : FnScope ["value", "many"] ["value", "many"] (defScope sIsIndex) := ⟨rfl, rfl, rfl, by decide +kernel, rfl, by decide +kernel, by decide +kernel⟩
theorem cl_isIndex (T : Tx K mg M) : Cl P w K mg base CX0 3 "is_index" ["value", "many"] (spP (F_isIndex K)) := by
  refine Cl.mk' (d := dIsIndex) (T.df 2 _ rfl rfl rfl) (fun f fd F => fn_pure F sc_isIndex (fun pds r ⟨d, m, h, _⟩ => by rw [h]; rfl) fun cdv A outer s H E hr S H0 pds r Q ⟨d, m, e1, e2⟩ q => ?_) (fun _ _ _ _ _ _ us hl => match us, hl with | [_, _], _ => rfl)
  subst e1
  refine rn_retP q .rfl' rfl (Xe.retB (v_and (v := isIdxD d m) (Xe.toB (Xe.ofP (x_clP (cl_isNumber T) hr (Nat.le_refl _) pass0 (ap_cons (nP 0) ap_nil) fun pds e => ⟨_, ⟨d, e, rfl⟩, rfl⟩))) (fun hd => x_one ?_)) ?_)
  · cases d with
    | int i =>
      have e : isIdxD (.int i) m = decide (i < m) := by
        have z : (0 ≤ i) := of_decide_eq_true hd
        simp [isIdxD, z]
      rw [e]
      exact v_lt (nI 0) (nI 1)
    | _ => cases hd
  · rw [e2]
    cases d <;> first | rfl | (simp only [isNumD, isIdxD]; cases decide (0 ≤ _) <;> rfl) | (simp [isNumD, isIdxD]; rfl)
def F_isSequence (K : PySem.W.Frag) : List Pd → Pd → Prop := fun pds r => ∃ d, pds = [dat K d] ∧ r = dat K (.bool (isSeqD d))
theorem sc_isSequence : FnScope ["value"] ["value"] (defScope sIsSequence) := ⟨rfl, rfl, rfl, by decide +kernel, rfl, by decide +kernel, by decide +kernel⟩
theorem cl_isSequence (T : Tx K mg M) : Cl P w K mg base CX0 1 "is_sequence" ["value"] (spP (F_isSequence K)) := by
  refine Cl.mk' (d := dIsSequence) (T.df 3 _ rfl rfl rfl) (fun f fd F => fn_pure F sc_isSequence (fun pds r ⟨d, h, _⟩ => by rw [h]; rfl) fun cdv A outer s H E hr S H0 pds r Q ⟨d, e1, e2⟩ q => ?_) (fun _ _ _ _ _ _ us hl => match us, hl with | [_], _ => rfl)
  subst e1
  refine rn_retP q .rfl' rfl (Xe.retB (u := isSeqD d) (x_isi2 T.isi (nD 0) (x_ty T.list boot_list') (x_ty T.tuple boot_tuple') (fun y e => ⟨_, _, kit_list y, kit_tuple y, ?_⟩)) e2)
  subst e
  cases y <;> rfl
end
end Lt
namespace Lt
open PySem PySem.Spec PyProof.Rows L2
section
variable {P : Program} {w : World} {K : PySem.W.Frag} {mg : Str → Option Value} {base : Heap} {M : Ad}
def F_idle (K : PySem.W.Frag) : List Pd → Pd → Prop := fun pds r => ∃ n : Nat, pds = [dat K (.int n)] ∧ n < 1000 ∧ r = dat K (natsT (List.range n))
theorem sc_idle : FnScope ["many"] ["many"] (defScope sIdle) := ⟨rfl, rfl, rfl, by decide +kernel, rfl, by decide +kernel, by decide +kernel⟩
theorem cl_idle (T : Tx K mg M) : Cl P w K mg base CX0 1 "idle" ["many"] (spP (F_idle K)) := by
  refine Cl.mk' (d := dIdle) (T.df 5 _ rfl rfl rfl) (fun f fd F => fn_pure F sc_idle (fun pds r h => ?_) fun cdv A outer s H E hr S H0 pds r Q h q => ?_) (fun _ _ _ _ _ _ us hl => match us, hl with | [_], _ => rfl)
  · obtain ⟨n, e1, hn, e2⟩ := h
    subst e1; rfl
  obtain ⟨n, e1, hn, e2⟩ := h
  subst e1
  exact rn_retP q .rfl' rfl (Xe.ret (v_tupRange rfl T.tuple T.range (nI 0) (by omega)) e2)
/-- one map, then another one -/
def fol (xs ys : List Nat) : List Nat := xs.map fun s => ys.getD s 0
def F_followed (K : PySem.W.Frag) : List Pd → Pd → Prop := fun pds r => ∃ xs ys : List Nat, pds = [dat K (natsT xs), dat K (natsT ys)] ∧ (∀ x ∈ xs, x < ys.length) ∧ xs.length ≤ 1000 ∧ r = dat K (natsT (fol xs ys))
theorem sc_followed : FnScope ["one", "other", "state"] ["one", "other"] (defScope sFollowed) := ⟨rfl, rfl, rfl, by decide +kernel, rfl, by decide +kernel, by decide +kernel⟩
theorem cl_followed (T : Tx K mg M) : Cl P w K mg base CX0 1 "followed" ["one", "other"] (spP (F_followed K)) := by
  refine Cl.mk' (d := dFollowed) (T.df 4 _ rfl rfl rfl) (fun f fd F => fn_pure F sc_followed (fun pds r h => ?_) fun cdv A outer s H E hr S H0 pds r Q h q => ?_) (fun _ _ _ _ _ _ us hl => match us, hl with | [_, _], _ => rfl)
  · obtain ⟨xs, ys, e1, hx, hl, e2⟩ := h
    subst e1; rfl
  obtain ⟨xs, ys, e1, hx, hl, e2⟩ := h
  subst e1
  refine rn_retP q .rfl' rfl (Xe.ret (v_tuple T.tuple (v_lc (own := [("state", 2)]) (ws := nats (fol xs ys)) rfl sc_followed.nd (wi_tup (nD 0)) (blkOk_by (N := ["one", "other", "state"]) (sc := defScope sFollowed) (by decide +kernel)) (fun _ _ _ _ _ => pg_name (i := 2) sc_followed.nd rfl (Or.inl rfl)) (tgr_name 2)
    (fun _ _ _ => trivial) (by simp [nats_len, fol]) (by rw [nats_len]; omega) (fun i x r hx' hr' w' _ _ => ?_)) (.inl rfl)) e2)
  obtain ⟨n, h1, rfl⟩ := nats_inv hx'
  obtain ⟨m, h2, rfl⟩ := nats_inv hr'
  have e : m = ys.getD n 0 := by
    unfold fol at h2
    rw [List.getElem?_map, h1] at h2
    exact (Option.some.inj h2).symm
  have hn : n < ys.length := hx n (List.mem_of_getElem? h1)
  intro s H C cl fp
  exact v_ix (nD 1) (nI 2) (.inr rfl) (nats_get (by rw [e]; exact getD_some hn))
end
end Lt
namespace Lt
open PySem PySem.Spec PyProof.Rows L2
section
variable {X : Cx} {w : Vw} {e o : Expr} {es : List Expr} {τ : Ty} {P : Pd → Prop} {pos p apos : Pos} {C : Addr} {T : Tb} {c : Nat}
/-- machine.does(e) -/
theorem x_does {CX : CXT} {k j : Nat} {f : Addr} {fd : FuncData} {ps : List Str} {F : List Pd → Pd → Prop} {PA' : List Pd → Prop} {pl : Sem Bool} (cl : Cls X.K C) (hm : Meth X.K C "does" f) (F1 : FnOk X.prog X.w X.K X.mg X.base CX k f fd ps (spP F)) (hr : Room j X.A) (hk : k ≤ j) (hb : Binds X.K fd ps []) (hx : Passes CX X E0)
    (ho : Xe X w o τ (fun pd => pd = mach X.K C T c)) (ha : Xa X w (e :: es) τ PA') (h : ∀ pds, PA' pds → ∃ r, F (mach X.K C T c :: pds) r ∧ P r)
    (hst : starEach (e :: es) X.env = (false, eval e X.env) :: starEach es X.env := by rfl) (hpl : (backTo pos (starEach es X.env)).any (·.1) = false := by rfl)
    (ht : eval (.Call (.Attribute o "does" apos) (e :: es) [] pos) X.env = (do
      let ov ← eval o X.env
      standAt apos.atName
      let (f, first) ← holding [ov] (getMethod ov "does" pl)
      callWith pos f first (backTo pos (starEach (e :: es) X.env)) (backToKw pos (keywordEach [] X.env))) := by rfl) : Xe X w (.Call (.Attribute o "does" apos) (e :: es) [] pos) τ P := fun σ H s Q q =>
  eSem_of (pe_meth pe_sem cl hm F1 (hr.mono hk) hb .nil hx pa_sem hst hpl ht) (ho σ H s _ fun v pd H1 m1 i1 e1 h1 => by
    subst e1
    obtain ⟨x, dx, fs, sv, a, b, f1, f2, f3, f4, f5⟩ := id h1
    refine ⟨x, dx, fs, a, hid_sub _ _ _ _ b, f4, ha σ H1 (s.move m1 i1) _ fun vs pds H2 m2 i2 p2 h2 => ?_⟩
    obtain ⟨r, hF, hP⟩ := h pds p2
    refine ⟨w.S, _, r, (s.live.move m1).move m2, .cons ((mach X.K C T c).move m2 h1) (by rw [List.append_nil]; exact h2), hF, fun v H' sm hr => ?_⟩
    exact q v r H' ((m1.trans m2).trans (Exm.same sm)) (w.st sm i2) hP hr)
end
section
variable {P : Program} {w : World} {K : PySem.W.Frag} {mg : Str → Option Value} {base : Heap} {M : Ad}
/-- what a command does to all states -/
def col (T : Tb) (c : Nat) : List Nat := T.map fun r => r.getD c 0
def F_does (K : PySem.W.Frag) (M : Ad) : List Pd → Pd → Prop := fun pds r => ∃ (T : Tb) (C k : Nat), pds = [mach K M.cm T C, dat K (.int k)] ∧ Ok T C ∧ k < C ∧ T.length ≤ 1000 ∧ r = dat K (natsT (col T k))
theorem sc_machineDoes : FnScope ["self", "command", "row"] ["self", "command"] (defScope sMachineDoes) := ⟨rfl, rfl, rfl, by decide +kernel, rfl, by decide +kernel, by decide +kernel⟩
theorem ok_does (T : Tx K mg M) : ∃ f fd, FnOk P w K mg base CX0 1 f fd ["self", "command"] (spP (F_does K M)) ∧ Binds K fd ["self", "command"] [] ∧ Meth K M.cm "does" f := by
  obtain ⟨f, fd, F, hm⟩ := T.does
  refine ⟨f, fd, fn_pure F sc_machineDoes (fun pds r h => ?_) (fun cdv A outer s H E hr S H0 pds r Q h q => ?_), F.bindsN fun _ _ _ _ _ _ us hl => match us, hl with | [_, _], _ => rfl, hm⟩
  · obtain ⟨t, C, k, e1, _⟩ := h
    subst e1; rfl
  obtain ⟨t, C, k, e1, ok, hk, hl, e2⟩ := h
  subst e1
  refine rn_retP q .rfl' rfl (Xe.ret (v_tuple T.tuple (v_lc (own := [("row", 2)]) (ws := nats (col t k)) rfl sc_machineDoes.nd (wi_tup (v_steps T.cls T.na3 (nP 0))) (blkOk_by (N := ["self", "command", "row"]) (sc := defScope sMachineDoes) (by decide +kernel)) (fun _ _ _ _ _ => pg_name (i := 2) sc_machineDoes.nd rfl (Or.inl rfl)) (tgr_name 2)
    (fun _ _ _ => trivial) (by simp [nats_len, col]) (by simp; omega) (fun i x r hx' hr' w' _ _ => ?_)) (.inl rfl)) e2)
  obtain ⟨row, h1, rfl⟩ := rows_inv hx'
  obtain ⟨m, h2, rfl⟩ := nats_inv hr'
  have hrow := ok.row row (List.mem_of_getElem? h1)
  have e : m = row.getD k 0 := by
    unfold col at h2
    rw [List.getElem?_map, h1] at h2
    exact (Option.some.inj h2).symm
  intro s H C cl fp
  exact v_ix (nD 2) (nI 1) (.inr rfl) (nats_get (by rw [e]; exact getD_some (by omega)))
def F_led (K : PySem.W.Frag) (M : Ad) : List Pd → Pd → Prop := fun pds r => ∃ (T : Tb) (C s : Nat) (row : List Nat), pds = [mach K M.cm T C, dat K (.int s), dat K (natsT row)] ∧ Ok T C ∧ s < T.length ∧ Cmds C row ∧ r = dat K (.int (led T s row))
theorem led_take {T : Tb} {s i c : Nat} {row : List Nat} (h : row[i]? = some c) : led T s (row.take (i + 1)) = stp T (led T s (row.take i)) c := by
  rw [List.take_add_one, h, led_append]; rfl
theorem cmds_take {C : Nat} {row : List Nat} (h : Cmds C row) (i : Nat) : Cmds C (row.take i) := fun c hc => h c (List.mem_of_mem_take hc)
theorem sc_led : FnScope ["machine", "state", "row", "command"] ["machine", "state", "row"] (defScope sLed) := ⟨rfl, rfl, rfl, by decide +kernel, rfl, by decide +kernel, by decide +kernel⟩
theorem cl_led (T : Tx K mg M) : Cl P w K mg base CX0 1 "led" ["machine", "state", "row"] (spP (F_led K M)) := by
  refine Cl.mk' (d := dLed) (T.df 8 _ rfl rfl rfl) (fun f fd F => fn_pure F sc_led (fun pds r h => ?_) fun cdv A outer s H E hr S H0 pds r Q h q => ?_) (fun _ _ _ _ _ _ us hl => match us, hl with | [_, _, _], _ => rfl)
  · obtain ⟨t, C, s0, row, e1, ok, hs, hc, e2⟩ := h
    subst e1; rfl
  obtain ⟨t, C, s0, row, e1, ok, hs, hc, e2⟩ := h
  subst e1
  refine rn_for (passes_of rfl) rfl (wi_tup (nD 2)) (pg_name (i := 3) sc_led.nd rfl (Or.inl rfl)) (tgr_name 3) (fun _ _ _ _ _ => trivial)
    (fun wb ds i w' τ' => w' = wb ∧ ∃ o, τ' = [some (mach K M.cm t C), some (dat K (.int (led t s0 (row.take i)))), some (dat K (natsT row)), o])
    (fun wb ds l e => ⟨rfl, none, rfl⟩) (fun wb ds i w' τ' l h => ⟨by rw [h.1]; exact l.S, fun H h' => by rw [h.1] at h'; exact h'⟩)
    (fun wb ds i x w' τ' l e h hx => ?_) (fun wb ds w' τ' l e h => ?_)
  · obtain ⟨rfl, o, rfl⟩ := h
    subst e
    obtain ⟨c, h1, rfl⟩ := nats_inv hx
    have hcc : c < C := hc c (List.mem_of_getElem? h1)
    have hl := ok.led_lt hs (cmds_take hc i)
    refine rn_asg (i := 1) (v_ix (ds := nats (t.getD (led t s0 (row.take i)) [])) (v_ix (ds := t.map natsT) (f := natsT (t.getD (led t s0 (row.take i)) [])) (v_steps T.cls T.na3 (nP 0)) (nI 1) (.inr rfl) (rows_get (getD_some hl))) (nI 3) (.inr rfl) (nats_get (ok.at hl hcc))) (fun pd hp => ?_) sc_led.nd rfl (Or.inl rfl)
    obtain ⟨y, rfl, rfl⟩ := hp
    refine rn_nil fun σ H s => ⟨_, _, ⟨rfl, some (dat K (.int c)), ?_⟩, s⟩
    rw [led_take h1]; rfl
  · obtain ⟨rfl, o, rfl⟩ := h
    subst e
    refine rn_retP q (Up.rfl'.lk l) rfl (Xe.retI (nI 1) ?_)
    rw [nats_len, List.take_length]
    exact e2
end
end Lt
namespace Lt
open PySem PySem.Spec PyProof.Rows L2
/-! ### what a def may tell: a value, or an exception of the text -/
inductive Oc where
  | val (r : Pd)
  | exc (C : Addr) (n : Int)
/-- what the caller wishes of the outcome -/
def Tells (S : List Addr) (H0 : Hp) (Q : VK) (E : XK) : Oc → Prop
  | .val r => ∀ v H', Same H0 H' → r.p v (hid S H') → Q v H'
  | .exc C n => ∀ d H', Same H0 H' → H' d = some (.xd [("at", .int n)]) → E (.ref C) (some d) H'
/-- .. within an expression -/
def Wish (w : Vw) (P : Pd → Prop) (E : XK) : Oc → Prop
  | .val r => P r
  | .exc C n => ∀ d H', w.I H' → H' d = some (.xd [("at", .int n)]) → E (.ref C) (some d) H'
def spX (F : List Pd → Oc → Prop) : Sp := fun vs H Q E => ∃ (S : List Addr) (pds : List Pd) (o : Oc), Live S H ∧ PdAll (hid S H) vs pds ∧ F pds o ∧ Tells S H Q E o
theorem spX_len {F : List Pd → Oc → Prop} {n : Nat} (h : ∀ pds r, F pds r → pds.length = n) : ∀ vs H Q E, spX F vs H Q E → vs.length = n := fun vs H Q E ⟨S, pds, r, l, a, f, k⟩ => (Paired.length a).trans (h pds r f)
/-- a def that only tells or lets out -/
theorem fn_x {P : Program} {w : World} {K : PySem.W.Frag} {mg : Str → Option Value} {base : Heap} {x qual : Str} {params : Arguments} {body : List Stmt} {scope : Scope} {dvs : List V} {kws : List (Str × V)} {f : Addr} {fd : FuncData} {CX : CXT} {N ps : List Str} {k : Nat} {F' : List Pd → Oc → Prop}
    (F : FunD K x qual params body scope dvs kws f fd) (S : FnScope N ps scope) (hl : ∀ pds r, F' pds r → pds.length = ps.length)
    (hb : ∀ (cdv : Value) (A : Around) (outer : List Env) (s : Shared) (H : Hp) (E : XK), Room k (A.deeper (envOfC qual scope s.heap.objs.size f cdv)) → ∀ (S : List Addr) (H0 : Hp) (pds : List Pd) (o : Oc) (Q : VK), F' pds o → Tells S H0 Q E o →
      Rn (cxOf CX P w K mg base N qual scope f cdv A outer s H E) (Vw.pure S H0) body (startT N.length pds) (fin Q)) : FnOk P w K mg base CX (k + 1) f fd ps (spX F') := by
  refine F.ok S (spX_len hl) (fun cdv A outer s H vs Q E hr h => ⟨_, pss_sem, ?_⟩)
  obtain ⟨Sd, pds, r, lv, hv, hf, q⟩ := h
  exact hb cdv A outer s H E hr Sd H pds r Q hf q _ H (sv_start lv i_pure hv)
/-- what is let out is the caller's, too -/
theorem passX {P : Program} {w : World} {K : PySem.W.Frag} {mg : Str → Option Value} {base : Heap} {N : List Str} {qual : Str} {scope : Scope} {f : Addr} {cd : Value} {A : Around} {outer : List Env} {s : Shared} {H : Hp} {E : XK} :
    Passes (L2.CX P w) (cxOf (L2.CX P w) P w K mg base N qual scope f cd A outer s H E) E :=
  passes_call (takes_of (E := E) rfl rfl rfl rfl) fun _ _ _ _ h => h
section
variable {X : Cx} {w : Vw} {e : Expr} {es rest : List Expr} {τ : Ty} {P : Pd → Prop} {pos p : Pos}
/-- a call of such a def -/
theorem ot_spX {H : Hp} {F : List Pd → Oc → Prop} {vs : List V} {pds : List Pd} {o : Oc} {E : XK} (l : Live w.S H) (i : w.I H) (hv : PdAll (hid w.S H) vs pds) (hf : F pds o)
    (h : Wish w P E o) : Ot w H (fun Q => spX F vs H Q E) P := fun Q q =>
  ⟨w.S, pds, o, l, hv, hf, by
    cases o with
    | val r => exact fun v H' sm hr => q v r H' (Exm.same sm) (w.st sm i) h hr
    | exc C n => exact fun d H' sm hd => h d H' (w.st sm i) hd⟩
theorem x_clX {CX : CXT} {k j : Nat} {x : Str} {ps : List Str} {F : List Pd → Oc → Prop} {E : XK} {PA' : List Pd → Prop} (c : Cl X.prog X.w X.K X.mg X.base CX k x ps (spX F)) (hr : Room j X.A) (hk : k ≤ j) (hx : Passes CX X E) (ha : Xa X w (e :: es) τ PA')
    (h : ∀ pds, PA' pds → ∃ o, F pds o ∧ Wish w P E o) (hg : Gl X x := by rfl) (hdb : (x == ("__debug__" : Str)) = false := by decide)
    (he : starEach (e :: es) X.env = (false, eval e X.env) :: starEach es X.env := by rfl) (hpl : (backTo pos (starEach es X.env)).any (·.1) = false := by rfl) : Xe X w (.Call (.Name x p) (e :: es) [] pos) τ P :=
  x_cl (E := E) c hr hk hx ha (fun vs pds H l i a b => by
    obtain ⟨r, f, q⟩ := h pds a
    exact ot_spX l i b f q) hg hdb he hpl
end
/-! ### raise -/
/-- an exception class of the text -/
structure Ec (P : Program) (w : World) (K : PySem.W.Frag) (mg : Str → Option Value) (base : Heap) (x : Str) (C : Addr) : Prop where
  ex : ∃ fI fd, FnOk P w K mg base CX0 1 fI fd ["self", "at"] (spIni C) ∧ PySem.W.findIn K (.ref C) "__init__" = some (some (.ref fI)) ∧ PySem.W.typeIn K (.ref fI) = some (.type "function") ∧ Binds K fd ["self", "at"] []
  ox : OexC K C
  mg : mg x = some (.ref C)
section
variable {X : Cx} {w : Vw} {e : Expr} {τ : Ty} {pos p pos' : Pos} {D : Ends} {rest : List Stmt}
theorem rn_raise {x : Str} {C : Addr} {n : Int} {j : Nat} {W : WX} (ec : Ec X.prog X.w X.K X.mg X.base x C) (hr : Room j X.A) (hj : 2 ≤ j) (hc : X.calm = true) (tk : Takes X W) (ha : Xe X w e τ (eI X.K n))
    (k : ∀ d σ H', w.I H' → H' d = some (.xd [("at", .int n)]) → W (.ref C) (some d) σ H') (hg : Gl X x := by rfl) (hdb : (x == ("__debug__" : Str)) = false := by decide) (hs : starEach [e] X.env = (false, eval e X.env) :: starEach [] X.env := by rfl)
    (hpl : (backTo pos (starEach [] X.env)).any (·.1) = false := by rfl) : Rn X w (.Raise (some (.Call (.Name x p) [e] [] pos)) none pos' :: rest) τ D := fun σ H s => by
  obtain ⟨fI, fd, F1, iC, tI, hb⟩ := ec.ex
  have P0 : Passes CX0 X (fun _ _ _ => False) := fun _ _ _ _ _ _ _ z => z.elim
  refine cons_of (ps_raise hc tk (pmk_oex ec.ox iC tI F1 (hr.mono hj) hb .nil P0 hg ec.mg (pa_cons pe_sem pa_nil hs) hdb hs hpl)) ?_
  refine ha σ H s _ fun v pd H1 m1 i1 ⟨i, ei, ci⟩ hv => ?_
  subst ei; subst ci
  have ev : v = .int i := dat_int hv
  subst ev
  refine ⟨by simp, fun a na => ⟨a, .int i, rfl, upd_same, fun dx nd ne => ⟨rfl, dx, [("at", .int i)], upd_same, ?_, ?_, ?_⟩⟩⟩
  · rw [upd_ne ne, upd_same]
  · rw [upd_ne ne] at nd; exact nd
  · rw [upd_ne ne] at nd
    have sm : Same H1 (upd (L2.del (upd (upd (upd H1 a (exo a C none)) dx (exd dx [("at", .int i)])) a (exo a C (some dx))) a) dx (.xd [("at", .int i)])) := fun b o hb => by
      have b1 : b ≠ dx := fun z => by rw [z, nd] at hb; cases hb
      have b2 : b ≠ a := fun z => by rw [z, na] at hb; cases hb
      rw [upd_ne b1, del_ne b2, upd_ne b2, upd_ne b1, upd_ne b2]
      exact hb
    exact k dx σ _ (w.st sm i1) upd_same
/-- out of a def -/
theorem rn_raiseX {S : List Addr} {H0 : Hp} {x : Str} {C : Addr} {n : Int} {j : Nat} {Q : VK} {E : XK} (ec : Ec X.prog X.w X.K X.mg X.base x C) (hr : Room j X.A) (hj : 2 ≤ j) (tk : Takes X (fun cls d _ H => E cls d H)) (q : Tells S H0 Q E (.exc C n)) (u : Up (Vw.pure S H0) w) (ha : Xe X w e τ (eI X.K n))
    (hc : X.calm = true := by rfl) (hg : Gl X x := by rfl) (hdb : (x == ("__debug__" : Str)) = false := by decide) (hs : starEach [e] X.env = (false, eval e X.env) :: starEach [] X.env := by rfl)
    (hpl : (backTo pos (starEach [] X.env)).any (·.1) = false := by rfl) : Rn X w (.Raise (some (.Call (.Name x p) [e] [] pos)) none pos' :: rest) τ D :=
  rn_raise ec hr hj hc tk ha (fun d σ H' i hd => q d H' (u.J i.1) hd) hg hdb hs hpl
end
theorem takesX {P : Program} {w : World} {K : PySem.W.Frag} {mg : Str → Option Value} {base : Heap} {N : List Str} {qual : Str} {scope : Scope} {f : Addr} {cd : Value} {A : Around} {outer : List Env} {s : Shared} {H : Hp} {E : XK} :
    Takes (cxOf (L2.CX P w) P w K mg base N qual scope f cd A outer s H E) (fun cls d _ H => E cls d H) := takes_of rfl rfl rfl rfl
end Lt
namespace Lt
open PySem PySem.Spec PyProof.Rows L2
section
variable {X : Cx} {w : Vw} {e a b o i value : Expr} {es : List Expr} {rest : List Stmt} {τ : Ty} {P : Pd → Prop} {pos p pos' sp_ : Pos} {D : Ends} {d : PyData}
/-! ### a dict of one's own with int keys -/
theorem xf_dK {A : Ct → Prop} (hc : A (Ct.eq (.dK []))) : Xf X w (.Dict [] [] pos) τ A := fun σ H s Q q =>
  eSem_of pe_dnewK fun p n => q p _ (Ct.eq (.dK [])) H .rfl' s.inv n hc rfl
theorem t_inK {q : Addr} {kvs : List (Key × V)} {j : Nat} {n : Int} (hu : X.A.units + 1 < cLine) (hi : Xe X w i τ (eI X.K n)) (ho : Xe X w o τ (fun pd => pd = is (.ref q))) (hw : w.own[j]? = some (q, Ct.eq (.dK kvs))) {u : Bool} (hr : (valV kvs (.inl n)).isSome = u) (hm : behindInMarks .In o = false := by rfl) : Xt X w (.Compare i [.In] [o] pos) τ (eT u) := fun σ H s Q k =>
  tSem_of (pt_cmp (pc_din hu pe_sem pe_sem) hm) (hi σ H s _ fun v pd H1 m1 i1 ⟨y, ey, cy⟩ hv => ho σ H1 (s.move m1 i1) _ fun u pd2 H2 m2 i2 e2 hu' => by
    subst ey; subst cy; subst e2
    have ev : v = .int y := dat_int hv
    subst ev
    have eu : u = V.ref q := hu'
    subst eu
    obtain ⟨ob, hob, hco⟩ := i2.2 (q, Ct.eq (.dK kvs)) (List.mem_of_getElem? hw)
    have hco' : ob = .dK kvs := hco
    subst hco'
    exact ⟨q, _, rfl, DGet.k (k := .inl y) hob, _, rfl, k _ H2 (m1.trans m2) i2 hr⟩)
theorem rn_dput {q : Addr} {kvs : List (Key × V)} {j : Nat} {n : Int} {v0 : V} {pd0 : Pd} (hu : X.A.units + 1 < cLine) (hv : Xe X w value τ (fun pd => pd = pd0)) (h0 : ∀ v G, pd0.p v G → v = v0) (ho : Xe X w o τ (fun pd => pd = is (.ref q))) (hi : Xe X w i τ (eI X.K n)) (hw : w.own[j]? = some (q, Ct.eq (.dK kvs))) (hz : kvs.length < sizeLine)
    (k : Rn X (w.put j q (Ct.eq (.dK (putK kvs (.inl n) v0))) ⟨_, hw⟩) rest τ D) (hs : swapsWith value (some (.Subscript o i pos')) pos.line X.env = pure false := by rfl) : Rn X w (.Assign [.Subscript o i pos'] value pos :: rest) τ D := fun σ H s =>
  cons_of (ps_dput hu pe_sem pe_sem pe_sem hs) (hv σ H s _ fun v pd H1 m1 i1 e1 hv1 => ho σ H1 (s.move m1 i1) _ fun u pd2 H2 m2 i2 e2 hu' => hi σ H2 ((s.move m1 i1).move m2 i2) _ fun y pd3 H3 m3 i3 ⟨z, ez, cz⟩ hy => by
    subst e1; subst e2; subst ez; subst cz
    have ev : v = v0 := h0 _ _ hv1
    subst ev
    have eu : u = V.ref q := hu'
    subst eu
    have ey : y = .int z := dat_int hy
    subst ey
    obtain ⟨ob, hob, hco⟩ := i3.2 (q, Ct.eq (.dK kvs)) (List.mem_of_getElem? hw)
    have hco' : ob = .dK kvs := hco
    subst hco'
    exact ⟨q, _, rfl, DPut.k (k := .inl z) hob hz, k σ _ ((((s.move m1 i1).move m2 i2).move m3 i3).put ⟨_, hw⟩ rfl)⟩)
/-! ### *e in a display -/
theorem a_star {ds rs : List PyData} (ha : Xe X w e τ (eD X.K d)) (hd : d = .list ds ∨ d = .tuple ds) (hr : Xa X w es τ (eDs X.K rs)) (hs : starEach (.Starred e sp_ :: es) X.env = (true, eval e X.env) :: starEach es X.env := by rfl) : Xa X w (.Starred e sp_ :: es) τ (eDs X.K (ds ++ rs)) := fun σ H s Q q =>
  aSem_of (StX.pa_star pe_sem pa_sem hs) (ha σ H s _ fun v pd H1 m1 i1 ⟨y, ey, cy⟩ hv => by
    subst ey; subst cy
    have go : ∀ (l : Addr) (vs : List V), (SqT X.K H1 l vs ∨ SqL X.K H1 l vs) → DpAll X.K (hid w.S H1) vs ds → v = .ref l → ∃ a xs, v = V.ref a ∧ (SqT X.K H1 a xs ∨ SqL X.K H1 a xs) ∧ aSem X es σ H1 fun ws H2 => Q (xs ++ ws) H2 := by
      intro l vs hs' da ev
      refine ⟨l, vs, ev, hs', hr σ H1 (s.move m1 i1) _ fun ws pds H2 m2 i2 ⟨rs', e2, c2⟩ hw2 => ?_⟩
      subst e2; subst c2
      have da2 : DpAll X.K (hid w.S H2) vs ds := dpa_same (hid_move m2.wide) _ _ da
      exact q (vs ++ ws) ((ds ++ rs').map (dat X.K)) H2 (m1.trans m2) i2 ⟨_, rfl, rfl⟩ (dpa_pda (dpa_app da2 (pda_dpa hw2)))
    rcases hd with rfl | rfl
    · obtain ⟨l, vs, rfl, hs', da⟩ := dat_lst hv
      exact go l vs (.inr (sql_same (hid_sub _ _) hs')) da rfl
    · obtain ⟨l, vs, rfl, hs', da⟩ := dat_tup hv
      exact go l vs (.inl (sqt_same (hid_sub _ _) hs')) da rfl)
/-! ### in -/
theorem inV_nats (n : Nat) : ∀ xs : List Nat, inV (.int n) ((xs.map fun (k : Nat) => (k : Int)).map V.int) = decide (n ∈ xs)
  | [] => rfl
  | x :: xs => by
    have ih := inV_nats n xs
    unfold inV at ih ⊢
    rw [List.map_cons, List.map_cons, List.any_cons, ih]
    have e1 : eqV (.int x) (.int n) = decide (n = x) := by
      show decide ((x : Int) = n) = _
      by_cases h : n = x
      · subst h; simp
      · have h' : ¬ (x : Int) = n := by omega
        simp [h, h']
    rw [e1, ← Bool.decide_or]
    simp only [List.mem_cons]
theorem nats_ints (xs : List Nat) : nats xs = (xs.map fun (k : Nat) => (k : Int)).map PyData.int := by simp [nats, List.map_map, Function.comp_def]
theorem flat_ints : ∀ xs : List Int, (xs.map V.int).all flatV = true
  | [] => rfl
  | _ :: xs => by rw [List.map_cons, List.all_cons, flat_ints xs]; rfl
theorem x_inN {n : Nat} {xs : List Nat} (ha : Xe X w a τ (eI X.K n)) (hb : Xe X w b τ (eD X.K d)) (hd : d = natsL xs ∨ d = natsT xs) (hm : behindInMarks .In b = false := by rfl) : Xe X w (.Compare a [.In] [b] pos) τ (eB X.K (decide (n ∈ xs))) :=
  x_cmp op_in_seq hm ha hb fun va vb pa pb H l i0 ⟨y, e1, c1⟩ ⟨f, e2, c2⟩ h1 h2 => by
    subst e1; subst e2; subst c1; subst c2
    have ev : va = .int n := dat_int h1
    subst ev
    rcases hd with rfl | rfl
    · obtain ⟨q, vs, rfl, hs, da⟩ := dat_lst h2
      rw [nats_ints] at da
      have ew := dpa_ints_inv da
      subst ew
      exact ob i0 (fun Q k => ⟨q, _, rfl, .inl (sql_same (hid_sub _ _) hs), rfl, flat_ints _, by rw [if_neg Bool.false_ne_true, inV_nats]; exact k⟩) rfl
    · obtain ⟨q, vs, rfl, hs, da⟩ := dat_tup h2
      rw [nats_ints] at da
      have ew := dpa_ints_inv da
      subst ew
      exact ob i0 (fun Q k => ⟨q, _, rfl, .inr (sqt_same (hid_sub _ _) hs), rfl, flat_ints _, by rw [if_neg Bool.false_ne_true, inV_nats]; exact k⟩) rfl
theorem t_inN {n : Nat} {xs : List Nat} (ha : Xe X w a τ (eI X.K n)) (hb : Xe X w b τ (eD X.K d)) (hd : d = natsL xs ∨ d = natsT xs) (hm : behindInMarks .In b = false := by rfl) : Xt X w (.Compare a [.In] [b] pos) τ (eT (decide (n ∈ xs))) :=
  xt_of op_in_seq hm ha hb fun va vb pa pb H l i0 ⟨y, e1, c1⟩ ⟨f, e2, c2⟩ h1 h2 => by
    subst e1; subst e2; subst c1; subst c2
    have ev : va = .int n := dat_int h1
    subst ev
    rcases hd with rfl | rfl
    · obtain ⟨q, vs, rfl, hs, da⟩ := dat_lst h2
      rw [nats_ints] at da
      have ew := dpa_ints_inv da
      subst ew
      exact ob i0 (fun Q k => ⟨q, _, rfl, .inl (sql_same (hid_sub _ _) hs), rfl, flat_ints _, by rw [if_neg Bool.false_ne_true, inV_nats]; exact k⟩) rfl
    · obtain ⟨q, vs, rfl, hs, da⟩ := dat_tup h2
      rw [nats_ints] at da
      have ew := dpa_ints_inv da
      subst ew
      exact ob i0 (fun Q k => ⟨q, _, rfl, .inr (sqt_same (hid_sub _ _) hs), rfl, flat_ints _, by rw [if_neg Bool.false_ne_true, inV_nats]; exact k⟩) rfl
end
/-- x not in a tuple of data -/
def rNotInT (K : PySem.W.Frag) : R2 := fun x y H Q => ∃ d ds, Dp K H x d ∧ Dp K H y (.tuple ds) ∧ SeqAt.shaped d = true ∧ SeqAt.shaped (.tuple ds) = true ∧ Q (.bl (!ds.any fun z => PyData.eqv z d)) H
theorem op_notInT {X : Cx} (hu : X.A.units + 65 < cLine) : OpR X (compareOp .NotIn) (rNotInT X.K) := by
  intro pins s σ H x y v u Q I rx ry h
  obtain ⟨d, ds, hd, he, sd, se, q⟩ := h
  obtain ⟨as, r1⟩ := Dp.reads I d x v hd rx
  obtain ⟨bs, r2⟩ := Dp.reads I (.tuple ds) y u he ry
  exact SeqAt.notIn_tuple_reads r2 r1 (SeqAt.canLay_of_shaped se) (SeqAt.canLay_of_shaped sd) (room_in_shaped sd hu) ⟨.bl _, H, I, rfl, q⟩
theorem t_notInT {X : Cx} {w : Vw} {a b : Expr} {τ : Ty} {pos : Pos} {d : PyData} {ds : List PyData} (hu : X.A.units + 65 < cLine) (ha : Xe X w a τ (eD X.K d)) (hb : Xe X w b τ (eD X.K (.tuple ds))) (sd : SeqAt.shaped d = true) (se : SeqAt.shaped (.tuple ds) = true) (hm : behindInMarks .NotIn b = false := by rfl) :
    Xt X w (.Compare a [.NotIn] [b] pos) τ (eT (!ds.any fun z => PyData.eqv z d)) :=
  xt_of (op_notInT hu) hm ha hb fun va vb pa pb H l i0 ⟨y, e1, c1⟩ ⟨f, e2, c2⟩ h1 h2 => by
    subst e1; subst e2; subst c1; subst c2
    exact ob i0 (fun Q k => ⟨_, _, dp_same (hid_sub _ _) _ _ h1, dp_same (hid_sub _ _) _ _ h2, sd, se, k⟩) rfl
end Lt
namespace Lt
variable {T : Tb} {C : Nat}
/-! ### sorted -/
def sortS (l : List Slip) : List Slip := l.foldr ins []
theorem sortS_perm : ∀ l : List Slip, (sortS l).Perm l
  | [] => .refl _
  | x :: r => (ins_perm x (sortS r)).trans ((sortS_perm r).cons x)
def Apart (l : List Slip) : Prop := (l.map (·.1)).Nodup
theorem Apart.ne {x : Slip} {l : List Slip} (h : Apart (x :: l)) : ∀ y ∈ l, y.1 ≠ x.1 := fun y hy e => by
  have z := (List.nodup_cons.mp h).1
  exact z (List.mem_map.mpr ⟨y, hy, e⟩)
theorem Apart.tail {x : Slip} {l : List Slip} (h : Apart (x :: l)) : Apart l := (List.nodup_cons.mp h).2
theorem sortS_asc : ∀ {l : List Slip}, Apart l → Asc (sortS l)
  | [], _ => List.Pairwise.nil
  | x :: r, h => ins_asc (sortS_asc h.tail) fun y hy => h.ne y ((sortS_perm r).mem_iff.mp hy)
theorem asc_apart {l : List Slip} (h : Asc l) : Apart l := by
  unfold Apart
  rw [List.nodup_iff_pairwise_ne]
  exact List.pairwise_map.mpr (h.imp fun {a b} q => Nat.ne_of_lt q)
theorem Apart.perm {l m : List Slip} (h : Apart l) (p : l.Perm m) : Apart m := (List.Perm.nodup_iff (p.map (fun x : Slip => x.1))).mp h
theorem asc_eq {l m : List Slip} (h1 : Asc l) (h2 : Asc m) (p : l.Perm m) : l = m := by
  refine List.Perm.eq_of_pairwise (le := fun a b : Slip => a.1 < b.1) (fun a b _ _ h k => ?_) h1 h2 p
  exact absurd h (Nat.lt_asymm k)
theorem sortS_eq {l h : List Slip} (ha : Asc h) (p : l.Perm h) : sortS l = h := asc_eq (sortS_asc ((asc_apart ha).perm p.symm)) ha ((sortS_perm l).trans p)
theorem sortS_asc_eq {h : List Slip} (ha : Asc h) : sortS h = h := sortS_eq ha (.refl _)
theorem sortS_len (l : List Slip) : (sortS l).length = l.length := (sortS_perm l).length_eq
theorem cmds_perm {l m : List Slip} (h : Cmds C (cmds l)) (p : l.Perm m) : Cmds C (cmds m) := fun c hc => h c ((p.map (·.2)).mem_iff.mpr hc)
theorem cmds_len (l : List Slip) : (cmds l).length = l.length := by simp [cmds]
theorem sortS_cmds {l : List Slip} (h : Cmds C (cmds l)) : Cmds C (cmds (sortS l)) := cmds_perm h (sortS_perm l).symm
/-- one more -/
theorem sortS_snoc {l : List Slip} {x : Slip} (h : Apart (l ++ [x])) : sortS (l ++ [x]) = ins x (sortS l) := by
  have hp : (l ++ [x]).Perm (x :: l) := List.perm_append_comm
  have h' : Apart (x :: l) := h.perm hp
  exact asc_eq (sortS_asc h) (ins_asc (sortS_asc h'.tail) fun y hy => h'.ne y ((sortS_perm l).mem_iff.mp hy)) ((sortS_perm _).trans (hp.trans (((sortS_perm l).symm.cons x).trans (ins_perm x _).symm)))
theorem apart_snoc {l : List Slip} {x : Slip} (h : Apart l) (n : ∀ y ∈ l, y.1 ≠ x.1) : Apart (l ++ [x]) := by
  have h' : Apart (x :: l) := List.nodup_cons.mpr ⟨fun m => by
    obtain ⟨y, hy, e⟩ := List.mem_map.mp m
    exact n y hy e, h⟩
  exact h'.perm (List.perm_append_comm (l₁ := [x]) (l₂ := l))
theorem apart_snoc_ne {l : List Slip} {x : Slip} (h : Apart (l ++ [x])) : ∀ y ∈ l, y.1 ≠ x.1 := (h.perm (List.perm_append_comm (l₁ := l) (l₂ := [x]))).ne
theorem apart_left {l m : List Slip} (h : Apart (l ++ m)) : Apart l := by
  unfold Apart at h ⊢
  rw [List.map_append] at h
  exact (List.nodup_append.mp h).1
/-! ### a turn -/
theorem tray_len (l : List Slip) : (tray T C l).length ≤ l.length := (tray_sub T C l).length_le
theorem ins_len (x : Slip) (k : List Slip) : (ins x k).length = k.length + 1 := by
  have := (ins_perm x k).length_eq
  simpa using this
/-- what stays true from turn to turn: a true state, kept slips in order, all of them among those that came -/
structure Stage (T : Tb) (C : Nat) (came : List Slip) (p : Nat × List Slip) : Prop where
  now : p.1 < T.length
  asc : Asc p.2
  cm : Cmds C (cmds p.2)
  sub : ∀ x ∈ p.2, x ∈ came
  len : p.2.length ≤ came.length
theorem Stage.start {s : Nat} (hs : s < T.length) : Stage T C [] (s, []) := ⟨hs, List.Pairwise.nil, fun _ z => (nomatch z), fun _ z => z, Nat.le_refl _⟩
theorem after_some {now by_ : Nat} {k : List Slip} {x : Slip} {p : Nat × List Slip} (h : after T C now k x by_ = some p) : waysB T now k ≠ [] ∧ p = (led T ((waysB T now k).getD (by_ % (waysB T now k).length) 0) (cmds (ins x k)), tray T C (ins x k)) := by
  unfold after at h
  split at h
  · cases h
  · rename_i q
    exact ⟨q, (Option.some.inj h).symm⟩
theorem ways_mem {now by_ : Nat} {k : List Slip} (h : waysB T now k ≠ []) : (waysB T now k).getD (by_ % (waysB T now k).length) 0 ∈ waysB T now k := by
  have hl : 0 < (waysB T now k).length := List.length_pos_iff.mpr h
  have hi : by_ % (waysB T now k).length < (waysB T now k).length := Nat.mod_lt _ hl
  rw [List.getD, List.getElem?_eq_getElem hi]
  exact List.getElem_mem hi
theorem ways_lt {now by_ : Nat} {k : List Slip} (h : waysB T now k ≠ []) : (waysB T now k).getD (by_ % (waysB T now k).length) 0 < T.length := (mem_ways.mp (ways_mem h)).1
theorem Stage.next (ok : Ok T C) {came : List Slip} {p p' : Nat × List Slip} {x : Slip} {by_ : Nat} (g : Stage T C came p) (hx : x.2 < C) (n : ∀ y ∈ came, y.1 ≠ x.1) (h : after T C p.1 p.2 x by_ = some p') : Stage T C (came ++ [x]) p' := by
  obtain ⟨hne, rfl⟩ := after_some h
  have hc := ins_cmds hx g.cm
  have ha := ins_asc g.asc fun y hy => n y (g.sub y hy)
  refine ⟨ok.led_lt (ways_lt hne) hc, ha.sublist (tray_sub T C _), cmds_of_sub (tray_sub T C _) hc, fun y hy => ?_, ?_⟩
  · rcases mem_ins.mp ((tray_sub T C _).subset hy) with rfl | hy
    · exact List.mem_append_right _ (by simp)
    · exact List.mem_append_left _ (g.sub y hy)
  · have l1 := tray_len (T := T) (C := C) (ins x p.2)
    have l2 := ins_len x p.2
    have l3 := g.len
    rw [List.length_append]
    show (tray T C (ins x p.2)).length ≤ _
    simp only [List.length_cons, List.length_nil]
    omega
/-- slip by slip -/
def runA (T : Tb) (C : Nat) (by_ : Nat) : Nat × List Slip → List Slip → Option (Nat × List Slip)
  | p, [] => some p
  | p, x :: r => match after T C p.1 p.2 x by_ with
    | none => none
    | some p' => runA T C by_ p' r
theorem runA_take {by_ : Nat} : ∀ {l : List Slip} {p : Nat × List Slip} {i : Nat} {x : Slip}, l[i]? = some x → runA T C by_ p (l.take (i + 1)) = (runA T C by_ p (l.take i)).bind fun q => after T C q.1 q.2 x by_
  | [], _, _, _, h => by simp at h
  | y :: r, p, 0, x, h => by
    simp at h
    subst h
    show (match after T C p.1 p.2 y by_ with | none => none | some p' => runA T C by_ p' (r.take 0)) = _
    rw [List.take_zero, List.take_zero]
    show _ = after T C p.1 p.2 y by_
    cases after T C p.1 p.2 y by_ <;> rfl
  | y :: r, p, i + 1, x, h => by
    have h' : r[i]? = some x := by simpa using h
    show (match after T C p.1 p.2 y by_ with | none => none | some p' => runA T C by_ p' (r.take (i + 1))) = Option.bind (match after T C p.1 p.2 y by_ with | none => none | some p' => runA T C by_ p' (r.take i)) _
    cases after T C p.1 p.2 y by_ with
    | none => rfl
    | some p' => exact runA_take h'
theorem runA_none {by_ : Nat} : ∀ {l : List Slip} {p : Nat × List Slip} {i : Nat}, runA T C by_ p (l.take i) = none → runA T C by_ p l = none
  | [], p, i, h => by simp at h; exact h
  | y :: r, p, 0, h => by
    have z : runA T C by_ p [] = none := h
    cases z
  | y :: r, p, i + 1, h => by
    have h' : (match after T C p.1 p.2 y by_ with | none => none | some p' => runA T C by_ p' (r.take i)) = none := h
    show (match after T C p.1 p.2 y by_ with | none => none | some p' => runA T C by_ p' r) = none
    cases q : after T C p.1 p.2 y by_ with
    | none => rfl
    | some p' =>
      rw [q] at h'
      exact runA_none h'
theorem Stage.run (ok : Ok T C) {by_ : Nat} : ∀ {l came : List Slip} {p p' : Nat × List Slip}, Stage T C came p → Cmds C (cmds l) → Apart (came ++ l) → runA T C by_ p l = some p' → Stage T C (came ++ l) p'
  | [], came, p, p', g, _, _, h => by
    have z : some p = some p' := h
    cases z
    rw [List.append_nil]; exact g
  | x :: r, came, p, p', g, hc, ha, h => by
    have h' : (match after T C p.1 p.2 x by_ with | none => none | some p' => runA T C by_ p' r) = some p' := h
    cases q : after T C p.1 p.2 x by_ with
    | none => rw [q] at h'; cases h'
    | some p1 =>
      rw [q] at h'
      have e : came ++ x :: r = (came ++ [x]) ++ r := by simp
      rw [e] at ha ⊢
      exact Stage.run ok (g.next ok hc.head (apart_snoc_ne (apart_left ha)) q) hc.tail ha h'
/-- in a machine that isn't blind: to the end, and true -/
theorem good_run (ok : Ok T C) (nb : NonBlind T C) {s0 by_ : Nat} (hs0 : s0 < T.length) : ∀ {l came : List Slip} {p : Nat × List Slip}, Cmds C (cmds came) → Good T C s0 (sortS came) p → Cmds C (cmds l) → Apart (came ++ l) → ∃ p', runA T C by_ p l = some p' ∧ Good T C s0 (sortS (came ++ l)) p'
  | [], came, p, _, g, _, _ => ⟨p, rfl, by rw [List.append_nil]; exact g⟩
  | x :: r, came, p, hcc, g, hc, ha => by
    have e : came ++ x :: r = (came ++ [x]) ++ r := by simp
    rw [e] at ha ⊢
    have ha1 := apart_left ha
    obtain ⟨p1, h1, g1⟩ := good_after ok nb hs0 (sortS_cmds hcc) (sortS_asc (apart_left ha1)) g hc.head (fun y hy => apart_snoc_ne ha1 y ((sortS_perm came).mem_iff.mp hy)) by_
    have hcc1 : Cmds C (cmds (came ++ [x])) := by
      unfold cmds at hcc ⊢
      rw [List.map_append]
      exact Cmds.append hcc (Cmds.cons hc.head fun _ z => (nomatch z))
    rw [← sortS_snoc ha1] at g1
    obtain ⟨p', h2, g2⟩ := good_run ok nb hs0 (by_ := by_) hcc1 g1 hc.tail ha
    refine ⟨p', ?_, g2⟩
    show (match after T C p.1 p.2 x by_ with | none => none | some p' => runA T C by_ p' r) = some p'
    rw [h1]
    exact h2
end Lt
namespace Lt
open PySem PySem.Spec PyProof.Rows L2
section
variable {P : Program} {w : World} {K : PySem.W.Frag} {mg : Str → Option Value} {base : Heap} {M : Ad}
def isSlipD (C : Nat) : PyData → Bool
  | .tuple [a, b] => isNumD a && isIdxD b C
  | _ => false
def isTupB : PyData → Bool
  | .tuple _ => true
  | _ => false
theorem isSlip_slip {C : Nat} {x : Slip} (h : x.2 < C) : isSlipD C (slipD x) = true := by
  simp [isSlipD, slipD, isNumD, isIdxD, h]
theorem isSlip_inv {C : Nat} {d : PyData} (h : isSlipD C d = true) : ∃ x : Slip, d = slipD x ∧ x.2 < C := by
  unfold isSlipD at h
  split at h
  · rename_i a b
    obtain ⟨h1, h2⟩ := Bool.and_eq_true_iff.mp h
    cases a with
    | int i =>
      cases b with
      | int j =>
        have a1 : 0 ≤ i := of_decide_eq_true h1
        obtain ⟨h3, h4⟩ := Bool.and_eq_true_iff.mp h2
        have a2 : 0 ≤ j := of_decide_eq_true h3
        have a3 : j < C := of_decide_eq_true h4
        refine ⟨(i.toNat, j.toNat), ?_, by show j.toNat < C; omega⟩
        have e1 : ((i.toNat : Nat) : Int) = i := by omega
        have e2 : ((j.toNat : Nat) : Int) = j := by omega
        simp only [slipD]
        rw [e1, e2]
      | _ => cases h2
    | _ => cases h1
  · cases h
def F_isSlip (K : PySem.W.Frag) (M : Ad) : List Pd → Pd → Prop := fun pds r => ∃ (T : Tb) (C : Nat) (d : PyData), pds = [mach K M.cm T C, dat K d] ∧ r = dat K (.bool (isSlipD C d))
theorem sc_isSlip : FnScope ["machine", "value"] ["machine", "value"] (defScope sIsSlip) := ⟨rfl, rfl, rfl, by decide +kernel, rfl, by decide +kernel, by decide +kernel⟩
theorem cl_isSlip (T : Tx K mg M) : Cl P w K mg base CX0 4 "is_slip" ["machine", "value"] (spP (F_isSlip K M)) := by
  refine Cl.mk' (d := dIsSlip) (T.df 9 _ rfl rfl rfl) (fun f fd F => fn_pure F sc_isSlip (fun pds r h => ?_) fun cdv A outer s H E hr S H0 pds r Q h q => ?_) (fun _ _ _ _ _ _ us hl => match us, hl with | [_, _], _ => rfl)
  · obtain ⟨t, C, d, e1, e2⟩ := h
    subst e1; rfl
  obtain ⟨t, C, d, e1, e2⟩ := h
  subst e1
  have no : isTupB d = false → Rn (cxOf CX0 P w K mg base ["machine", "value"] dIsSlip.qual (defScope sIsSlip) f cdv A outer s H E) (Vw.pure S H0) dIsSlip.body (startT 2 [mach K M.cm t C, dat K d]) (fin Q) := fun hd => by
    refine rn_if (T := eT true) (xt_p (t_or (u := true) (v := true) (t_not (u := false) (t_val (x_isi T.isi (nD 1) (x_ty T.tuple boot_tuple') (fun y e => ⟨_, kit_tuple y, by rw [e]; cases d <;> first | rfl | cases hd⟩)))) (fun z => by cases z))) (fun _ => ?_) (fun z => by cases z)
    refine rn_retP q .rfl' rfl (Xe.retB (u := false) (x_bl ⟨false, rfl, rfl⟩) ?_)
    rw [e2]
    cases d <;> first | rfl | cases hd
  cases d with
  | tuple ds =>
    refine rn_if (T := eT (!decide ((ds.length : Int) = 2))) (xt_p (t_or (u := false) (v := !decide ((ds.length : Int) = 2)) (t_not (u := true) (t_val (x_isi T.isi (nD 1) (x_ty T.tuple boot_tuple') (fun y e => ⟨_, kit_tuple y, by rw [e]⟩)))) (fun _ => xp_or1 (t_ne (v_len T.len (nD 1) (.inr rfl)) (cI 2))))) (fun h => ?_) (fun h => ?_)
    · have hl : ¬ ds.length = 2 := fun z => by
        have h' := h.symm
        rw [z] at h'
        cases h'
      refine rn_retP q .rfl' rfl (Xe.retB (u := false) (x_bl ⟨false, rfl, rfl⟩) ?_)
      rw [e2]
      match ds, hl with
      | [], _ => rfl
      | [_], _ => rfl
      | [_, _], z => exact absurd rfl z
      | _ :: _ :: _ :: _, _ => rfl
    · have hl : ds.length = 2 := by
        have h' := h.symm
        cases q2 : decide ((ds.length : Int) = 2) with
        | true => have := of_decide_eq_true q2; omega
        | false => rw [q2] at h'; cases h'
      match ds, hl with
      | [a, b], _ =>
        refine rn_out (rn_retP q .rfl' rfl (Xe.retB (v_and (u := isNumD a) (v := isIdxD b C) (Xe.toB (Xe.ofP (x_clP (cl_isNumber T) hr (by decide) pass0 (ap_cons (Xe.eq (v_ix (ds := [a, b]) (f := a) (nD 1) (cI 0) (.inr rfl) rfl)) ap_nil) fun pds e => ⟨_, ⟨a, e, rfl⟩, rfl⟩)))
          (fun _ => x_one (Xe.toB (Xe.ofP (x_clP (cl_isIndex T) hr (by decide) pass0 (ap_cons (Xe.eq (v_ix (ds := [a, b]) (f := b) (nD 1) (cI 1) (.inr rfl) rfl)) (ap_cons (Xe.eqI (v_commands T.cls T.na1 (nP 0))) ap_nil)) fun pds e => ⟨_, ⟨b, (C : Int), e, rfl⟩, rfl⟩))))) e2))
  | _ => exact no rfl
end
end Lt
namespace Lt
open PySem PySem.Spec PyProof.Rows L2
abbrev by0 : List (Str × V) := [("by", V.int 0)]
/-- where it stands -/
structure Dfk (K : PySem.W.Frag) (mg : Str → Option Value) (d : He.DefD) : Prop where
  ex : ∃ f fd, FunD K d.name d.qual d.params d.body d.scope [] by0 f fd ∧ mg d.name = some (.ref f)
/-- the text and its two exceptions -/
structure Tt (P : Program) (w : World) (K : PySem.W.Frag) (mg : Str → Option Value) (base : Heap) (M : Ad) : Prop where
  tx : Tx K mg M
  ecI : Ec P w K mg base "InvalidSlip" M.ci
  ecR : Ec P w K mg base "Refused" M.cr
  k1 : Dfk K mg dRedone
  k2 : Dfk K mg dReceive
  k3 : Dfk K mg dReceiveAll
/-! ### the times that came -/
def kvT (m : List Slip) : List (Key × V) := m.map fun x => ((.inl (x.1 : Int) : Key), V.bl true)
theorem valV_kvT (n : Nat) : ∀ m : List Slip, (valV (kvT m) (.inl (n : Int))).isSome = decide (n ∈ m.map (·.1))
  | [] => rfl
  | x :: m => by
    have ih := valV_kvT n m
    have e0 : kvT (x :: m) = ((.inl (x.1 : Int) : Key), V.bl true) :: kvT m := rfl
    rw [e0]
    by_cases h : x.1 = n
    · rw [valV_pos (by rw [h])]
      simp [h]
    · have h2 : ¬ ((.inl (x.1 : Int) : Key) = .inl (n : Int)) := fun z => h (by have := Sum.inl.inj z; omega)
      rw [valV_neg h2, ih]
      have h3 : ¬ n = x.1 := fun z => h z.symm
      simp [h3]
theorem kvT_put {m : List Slip} {x : Slip} (h : ¬ x.1 ∈ m.map (·.1)) : putK (kvT m) (.inl (x.1 : Int)) (V.bl true) = kvT (m ++ [x]) := by
  have e : valV (kvT m) (.inl (x.1 : Int)) = none := by
    have z := valV_kvT x.1 m
    rw [decide_eq_false h] at z
    cases q : valV (kvT m) (.inl (x.1 : Int)) with
    | none => rfl
    | some v => rw [q] at z; cases z
  rw [putK_new _ e]
  simp [kvT]
theorem kvT_len (m : List Slip) : (kvT m).length = m.length := by simp [kvT]
theorem slips_len (l : List Slip) : (slips l).length = l.length := by simp [slips]
theorem slips_get {l : List Slip} {i : Nat} {x : Slip} (h : l[i]? = some x) : (slips l)[i]? = some (slipD x) := by simp [slips, h]
theorem slips_inv {l : List Slip} {i : Nat} {d : PyData} (h : (slips l)[i]? = some d) : ∃ x, l[i]? = some x ∧ d = slipD x := by
  unfold slips at h
  rw [List.getElem?_map] at h
  cases q : l[i]? with
  | none => rw [q] at h; cases h
  | some n => rw [q] at h; exact ⟨n, rfl, (Option.some.inj h).symm⟩
theorem take_snoc {l : List Slip} {i : Nat} {x : Slip} (h : l[i]? = some x) : l.take (i + 1) = l.take i ++ [x] := by
  rw [List.take_add_one, h]; rfl
theorem apart_take {l : List Slip} {i : Nat} {x : Slip} (h : Apart l) (hx : l[i]? = some x) : ¬ x.1 ∈ (l.take i).map (·.1) := fun m => by
  have h1 : Apart (l.take i ++ [x]) := by
    rw [← take_snoc hx]
    exact apart_left (m := l.drop (i + 1)) (by rw [List.take_append_drop]; exact h)
  obtain ⟨y, hy, e⟩ := List.mem_map.mp m
  exact apart_snoc_ne h1 y hy e
/-- data of good slips -/
structure HeapD (C : Nat) (d : PyData) (l : List Slip) : Prop where
  seq : d = slipsL l ∨ d = slipsT l
  cm : Cmds C (cmds l)
  ap : Apart l
  len : l.length ≤ 500
/-- .. and then a bad one -/
structure BadD (C : Nat) (d : PyData) (l : List Slip) : Prop where
  ex : ∃ x r, (d = .list (slips l ++ x :: r) ∨ d = .tuple (slips l ++ x :: r)) ∧ (isSlipD C x = false ∨ ∃ y : Slip, x = slipD y ∧ y.2 < C ∧ y.1 ∈ l.map (·.1))
  cm : Cmds C (cmds l)
  ap : Apart l
  len : l.length ≤ 500
section
variable {P : Program} {w : World} {K : PySem.W.Frag} {mg : Str → Option Value} {base : Heap} {M : Ad}
def F_chSlip (K : PySem.W.Frag) (M : Ad) : List Pd → Oc → Prop := fun pds o => ∃ (T : Tb) (C : Nat) (d : PyData), pds = [mach K M.cm T C, dat K d] ∧ o = if isSlipD C d = true then .val (dat K d) else .exc M.ci 0
theorem sc_checkedSlip : FnScope ["machine", "value"] ["machine", "value"] (defScope sCheckedSlip) := ⟨rfl, rfl, rfl, by decide +kernel, rfl, by decide +kernel, by decide +kernel⟩
theorem cl_checkedSlip (T : Tt P w K mg base M) : Cl P w K mg base (L2.CX P w) 5 "checked_slip" ["machine", "value"] (spX (F_chSlip K M)) := by
  refine Cl.mk' (d := dCheckedSlip) (T.tx.df 10 _ rfl rfl rfl) (fun f fd F => fn_x F sc_checkedSlip (fun pds r h => ?_) fun cdv A outer s H E hr S H0 pds o Q h q => ?_) (fun _ _ _ _ _ _ us hl => match us, hl with | [_, _], _ => rfl)
  · obtain ⟨t, C, d, e1, e2⟩ := h
    subst e1; rfl
  obtain ⟨t, C, d, e1, e2⟩ := h
  subst e1
  refine rn_if (T := eT (!isSlipD C d)) (t_not (t_val (Xe.toB (Xe.ofP (x_clP (cl_isSlip T.tx) hr (by decide) pass0 (ap_cons (nP 0) (ap_cons (nP 1) ap_nil)) fun pds e => ⟨_, ⟨t, C, d, e, rfl⟩, rfl⟩))))) (fun h => ?_) (fun h => ?_)
  · have hs : isSlipD C d = false := by cases z : isSlipD C d with
      | true => rw [z] at h; cases h
      | false => rfl
    rw [hs, if_neg Bool.false_ne_true] at e2
    subst e2
    exact rn_raiseX (E := E) T.ecI hr (by decide) takesX q .rfl' (cI 0)
  · have hs : isSlipD C d = true := by cases z : isSlipD C d with
      | true => rfl
      | false => rw [z] at h; cases h
    rw [hs, if_pos rfl] at e2
    subst e2
    exact rn_out (rn_retP q .rfl' rfl (nP 1))
def F_chHeap (K : PySem.W.Frag) (M : Ad) : List Pd → Oc → Prop := fun pds o => ∃ (T : Tb) (C : Nat) (d : PyData), pds = [mach K M.cm T C, dat K d] ∧ ((∃ l, HeapD C d l ∧ o = .val (dat K (slipsT (sortS l)))) ∨ ∃ l, BadD C d l ∧ o = .exc M.ci l.length)
theorem sc_checkedHeap : FnScope ["machine", "value", "times", "at", "slip"] ["machine", "value"] (defScope sCheckedHeap) := ⟨rfl, rfl, rfl, by decide +kernel, rfl, by decide +kernel, by decide +kernel⟩
theorem cl_checkedHeap (T : Tt P w K mg base M) : Cl P w K mg base (L2.CX P w) 5 "checked_heap" ["machine", "value"] (spX (F_chHeap K M)) := by
  refine Cl.mk' (d := dCheckedHeap) (T.tx.df 11 _ rfl rfl rfl) (fun f fd F => fn_x F sc_checkedHeap (fun pds r h => ?_) fun cdv A outer s H E hr S H0 pds o Q h q => ?_) (fun _ _ _ _ _ _ us hl => match us, hl with | [_, _], _ => rfl)
  · obtain ⟨t, C, d, e1, e2⟩ := h
    subst e1; rfl
  obtain ⟨t, C, d, e1, hc⟩ := h
  subst e1
  obtain ⟨l, tl, hd, cm, ap, len, how⟩ : ∃ (l : List Slip) (tl : List PyData), (d = .list (slips l ++ tl) ∨ d = .tuple (slips l ++ tl)) ∧ Cmds C (cmds l) ∧ Apart l ∧ l.length ≤ 500 ∧
      ((tl = [] ∧ o = .val (dat K (slipsT (sortS l)))) ∨ ∃ x r, tl = x :: r ∧ (isSlipD C x = false ∨ ∃ y : Slip, x = slipD y ∧ y.2 < C ∧ y.1 ∈ l.map (·.1)) ∧ o = .exc M.ci l.length) := by
    rcases hc with ⟨l, hg, e⟩ | ⟨l, hg, e⟩
    · exact ⟨l, [], by rw [List.append_nil]; exact hg.seq, hg.cm, hg.ap, hg.len, .inl ⟨rfl, e⟩⟩
    · obtain ⟨x, r, h1, h2⟩ := hg.ex
      exact ⟨l, x :: r, h1, hg.cm, hg.ap, hg.len, .inr ⟨x, r, rfl, h2, e⟩⟩
  have hu : A.units + 3 + 64 < cLine := hr.units
  -- a sequence
  refine rn_if (T := eT false) (t_not (u := true) (t_val (Xe.toB (Xe.ofP (x_clP (cl_isSequence T.tx) hr (by decide) pass0 (ap_cons (nP 1) ap_nil) fun pds e => ⟨_, ⟨d, e, rfl⟩, by rcases hd with rfl | rfl <;> rfl⟩))))) (fun z => by cases z) (fun _ => ?_)
  refine rn_out (rn_new (i := 2) (C := fun c => c = Ct.eq (.dK [])) (xf_dK rfl) (fun p c n1 n2 ec => ?_) sc_checkedHeap.nd rfl (Or.inl rfl))
  subst ec
  refine rn_for (passes_of rfl) rfl (wi_enum (ds := slips l ++ tl) T.tx.enum (nD 1) hd) (pg_tup rfl (pgs_cons (pg_name (i := 3) sc_checkedHeap.nd rfl (Or.inl rfl)) (pgs_cons (pg_name (i := 4) sc_checkedHeap.nd rfl (Or.inl rfl)) pgs_nil))) (tgr_pair (i := 3) (j := 4) (by decide)) (fun ds i x e h => by
      subst e
      obtain ⟨y, _, rfl⟩ := numD_get h
      exact ⟨_, _, rfl⟩)
    (fun wb ds i w' τ' => w'.S = wb.S ∧ (∀ H, w'.J H → wb.J H) ∧ w'.own[0]? = some (p, Ct.eq (.dK (kvT (l.take i)))) ∧ i ≤ l.length ∧ ∃ o1 o2, τ' = [some (mach K M.cm t C), some (dat K d), some (is (.ref p)), o1, o2])
    (fun wb ds lk e => ⟨rfl, fun _ h => h, by rw [lk.own]; rfl, Nat.zero_le _, none, none, rfl⟩) (fun wb ds i w' τ' lk h => ⟨by rw [h.1, lk.S], h.2.1⟩)
    (fun wb ds i x w' τ' lk e h hx => ?_) (fun wb ds w' τ' lk e h => ?_)
  · obtain ⟨eS, eJ, eo, hi, o1, o2, rfl⟩ := h
    subst e
    obtain ⟨y, hy, rfl⟩ := numD_get hx
    have up : Up (Vw.pure S H0) w' := ⟨fun h => Up.rfl'.J (lk.J (eJ _ h)), fun a m => by rw [eS, lk.S]; exact List.mem_cons_of_mem _ m⟩
    rcases Nat.lt_or_ge i l.length with hl | hl
    · -- a good one
      rw [List.getElem?_append_left (by rw [slips_len]; exact hl)] at hy
      obtain ⟨x0, hx0, rfl⟩ := slips_inv hy
      have hc0 : x0.2 < C := cm _ (List.mem_map.mpr ⟨x0, List.mem_of_getElem? hx0, rfl⟩)
      have new := apart_take ap hx0
      refine rn_if (T := eT false) (xt_p (t_or (u := false) (v := false) (t_not (u := true) (t_val (Xe.toB (Xe.ofP (x_clP (cl_isSlip T.tx) hr (by decide) pass0 (ap_cons (nP 0) (ap_cons (nP 4) ap_nil)) fun pds e => ⟨_, ⟨t, C, slipD x0, e, rfl⟩, by rw [isSlip_slip hc0]⟩)))))
        (fun _ => xp_or1 ?_))) (fun z => by cases z) (fun _ => ?_)
      · refine t_inK (n := (x0.1 : Int)) ?_ (Xe.toI (v_ix (ds := [.int x0.1, .int x0.2]) (nD 4) (cI 0) (.inr rfl) rfl)) (nO 2) eo ?_
        · show A.units + 3 + 1 < cLine; omega
        · rw [valV_kvT, decide_eq_false new]
      · refine rn_out (rn_dput (n := (x0.1 : Int)) (pd0 := dat K (.bool true)) (v0 := .bl true) (by show A.units + 3 + 1 < cLine; omega) (x_bl rfl) (fun v G h => dat_bl h) (nO 2) (Xe.toI (v_ix (ds := [.int x0.1, .int x0.2]) (nD 4) (cI 0) (.inr rfl) rfl)) eo (by rw [kvT_len, sizeLine_eq, List.length_take]; omega) ?_)
        refine rn_nil fun σ H s => ⟨_, _, ?_, s⟩
        refine ⟨eS, eJ, ?_, hl, _, _, rfl⟩
        have hown : 0 < w'.own.length := (List.getElem?_eq_some_iff.mp eo).1
        show (w'.own.set 0 _)[0]? = _
        rw [List.getElem?_set_self hown, kvT_put new, take_snoc hx0]
    · have ei : i = l.length := by omega
      subst ei
      rw [List.getElem?_append_right (by rw [slips_len]; exact Nat.le_refl _), slips_len, Nat.sub_self] at hy
      rcases how with ⟨rfl, _⟩ | ⟨x, r, rfl, hbad, rfl⟩
      · simp at hy
      · have ey : x = y := by simpa using hy
        subst ey
        rw [List.take_length] at eo
        rcases hbad with hs | ⟨z, rfl, hz, hm⟩
        · refine rn_if (T := eT true) (xt_p (t_or (u := true) (v := true) (t_not (u := false) (t_val (Xe.toB (Xe.ofP (x_clP (cl_isSlip T.tx) hr (by decide) pass0 (ap_cons (nP 0) (ap_cons (nP 4) ap_nil)) fun pds e => ⟨_, ⟨t, C, x, e, rfl⟩, by rw [hs]⟩)))))
            (fun z => by cases z))) (fun _ => ?_) (fun z => by cases z)
          exact rn_raiseX (E := E) T.ecI hr (by decide) takesX q up (nI 3)
        · refine rn_if (T := eT true) (xt_p (t_or (u := false) (v := true) (t_not (u := true) (t_val (Xe.toB (Xe.ofP (x_clP (cl_isSlip T.tx) hr (by decide) pass0 (ap_cons (nP 0) (ap_cons (nP 4) ap_nil)) fun pds e => ⟨_, ⟨t, C, slipD z, e, rfl⟩, by rw [isSlip_slip hz]⟩)))))
            (fun _ => xp_or1 ?_))) (fun _ => ?_) (fun z => by cases z)
          · refine t_inK (n := (z.1 : Int)) ?_ (Xe.toI (v_ix (ds := [.int z.1, .int z.2]) (nD 4) (cI 0) (.inr rfl) rfl)) (nO 2) eo ?_
            · show A.units + 3 + 1 < cLine; omega
            · rw [valV_kvT, decide_eq_true hm]
          · exact rn_raiseX (E := E) T.ecI hr (by decide) takesX q up (nI 3)
  · obtain ⟨eS, eJ, eo, hi, o1, o2, rfl⟩ := h
    subst e
    rw [numD_len, List.length_append, slips_len] at hi
    rcases how with ⟨rfl, rfl⟩ | ⟨x, r, rfl, _, _⟩
    · have up : Up (Vw.pure S H0) w' := ⟨fun h => Up.rfl'.J (lk.J (eJ _ h)), fun a m => by rw [eS, lk.S]; exact List.mem_cons_of_mem _ m⟩
      rw [List.append_nil] at hd
      exact rn_retP q up rfl (Xe.ret (v_tuple T.tx.tuple (v_sorted (l := l) T.tx.sorted (nD 1) hd (sortS_perm l) (sortS_asc ap)) (.inl rfl)) rfl)
    · exfalso
      simp only [List.length_cons] at hi
      omega
end
end Lt
namespace Lt
open PySem PySem.Spec PyProof.Rows L2
section
variable {X : Cx} {w : Vw} {e : Expr} {es : List Expr} {τ : Ty} {P : Pd → Prop} {pos p : Pos}
theorem x_clV {CX : CXT} {k j : Nat} {x : Str} {ps : List Str} {F : List Pd → Oc → Prop} {E : XK} {qs : List Pd} {r : Pd} (c : Cl X.prog X.w X.K X.mg X.base CX k x ps (spX F)) (hr : Room j X.A) (hk : k ≤ j) (hx : Passes CX X E) (ha : Xa X w (e :: es) τ (fun pds => pds = qs)) (hf : F qs (.val r))
    (hg : Gl X x := by rfl) (hdb : (x == ("__debug__" : Str)) = false := by decide) (he : starEach (e :: es) X.env = (false, eval e X.env) :: starEach es X.env := by rfl) (hpl : (backTo pos (starEach es X.env)).any (·.1) = false := by rfl) :
    Xe X w (.Call (.Name x p) (e :: es) [] pos) τ (fun pd => pd = r) := x_clX (E := E) c hr hk hx ha (fun pds h => ⟨.val r, by rw [h]; exact hf, rfl⟩) hg hdb he hpl
theorem x_clE {CX : CXT} {k j : Nat} {x : Str} {ps : List Str} {F : List Pd → Oc → Prop} {E : XK} {qs : List Pd} {C : Addr} {n : Int} {S : List Addr} {H0 : Hp} {Q : VK} (c : Cl X.prog X.w X.K X.mg X.base CX k x ps (spX F)) (hr : Room j X.A) (hk : k ≤ j) (hx : Passes CX X E) (ha : Xa X w (e :: es) τ (fun pds => pds = qs))
    (hf : F qs (.exc C n)) (u : Up (Vw.pure S H0) w) (q : Tells S H0 Q E (.exc C n)) (hg : Gl X x := by rfl) (hdb : (x == ("__debug__" : Str)) = false := by decide) (he : starEach (e :: es) X.env = (false, eval e X.env) :: starEach es X.env := by rfl)
    (hpl : (backTo pos (starEach es X.env)).any (·.1) = false := by rfl) : Xe X w (.Call (.Name x p) (e :: es) [] pos) τ P := x_clX (E := E) c hr hk hx ha (fun pds h => ⟨.exc C n, by rw [h]; exact hf, fun d H' i hd => q d H' (u.J i.1) hd⟩) hg hdb he hpl
end
section
variable {X : Cx} {w : Vw} {elt tg iter : Expr} {scope : Scope} {own : List (Str × Nat)} {pos : Pos} {τ : Ty} {g : TG} {Dt : PyData → Prop} {f : PyData → Ty → Ty}
/-- v_lc, where the source may not come -/
theorem v_lcG {G : Prop} {ds ws : List PyData} (hc : X.calm = true) (hN : X.N.Nodup) (hi : Xi X w tg iter τ (fun y => y = ds ∧ G)) (ok : BlkOk X.N X.env.scope scope own) (hg : ∀ (s : Shared) (H : Hp) (C : Addr) (cl : List (Str × Addr)) (fp : List Addr), PG (X.blk s H scope (compEnvC scope cl C X.env) fp) tg g)
    (ht : TgR X.K g (own.map (·.2)) Dt f) (hD : ∀ (i : Nat) (x : PyData), ds[i]? = some x → Dt x) (hl : ws.length = ds.length) (hz : ds.length ≤ 100000)
    (he : ∀ (i : Nat) (x r : PyData), ds[i]? = some x → ws[i]? = some r → ∀ w' : Vw, w'.M = w.M → w'.ok = w.ok → Xeb X scope w' elt (f x (wipeT τ (own.map (·.2)))) (eD X.K r)) (hs : ∀ x, foldedSetIterable iter X.env x = pure x := by intro _; rfl) :
    Xe X w (.ListComp elt [⟨tg, iter, [], 0⟩] scope pos) τ (isD X.K fun y => y = .list ws ∧ G) :=
  x_lc hc hN hi ok hg ht (by simp) (fun _ i acc => acc = ws.take i ∧ i ≤ ds.length) (fun _ _ _ b => b = true) (fun _ _ => ⟨rfl, Nat.zero_le _⟩) (fun _ i acc ⟨e, h⟩ => by
    rw [e]
    exact Nat.lt_of_le_of_lt (Nat.le_trans (List.length_take_le _ _) (Nat.le_trans h hz)) (by decide)) (fun d i x e h => hD i x (by rw [← e.1]; exact h)) (fun _ _ _ _ _ _ _ w' _ _ => rfl)
    (fun d i acc x ⟨e, _⟩ ⟨ea, hi⟩ hx _ w' h1 h2 => by
      subst e
      have l := (List.getElem?_eq_some_iff.mp hx).1
      have hr : ws[i]? = some (ws[i]'(by omega)) := by simp [hl, l]
      intro s H C cl fp
      refine (he i x _ hx hr w' h1 h2 s H C cl fp).imp fun pd ⟨y, e1, e2⟩ => ⟨y, e1, ?_, by omega⟩
      rw [e2, ea, List.take_add_one, hr]; rfl) (fun _ _ _ _ _ _ _ h => by cases h)
    (fun d acc e ⟨ea, _⟩ => ⟨by rw [ea, e.1, ← hl, List.take_length], e.2⟩) hs
end
section
variable {P : Program} {w : World} {K : PySem.W.Frag} {mg : Str → Option Value} {base : Heap} {M : Ad}
def F_rowOf (K : PySem.W.Frag) (M : Ad) : List Pd → Oc → Prop := fun pds o => ∃ (T : Tb) (C : Nat) (d : PyData), pds = [mach K M.cm T C, dat K d] ∧ ((∃ l, HeapD C d l ∧ o = .val (dat K (natsT (cmds (sortS l))))) ∨ ∃ l, BadD C d l ∧ o = .exc M.ci l.length)
theorem sc_rowOf : FnScope ["machine", "heap", "time", "command"] ["machine", "heap"] (defScope sRowOf) := ⟨rfl, rfl, rfl, by decide +kernel, rfl, by decide +kernel, by decide +kernel⟩
theorem cl_rowOf (T : Tt P w K mg base M) : Cl P w K mg base (L2.CX P w) 6 "row_of" ["machine", "heap"] (spX (F_rowOf K M)) := by
  refine Cl.mk' (d := dRowOf) (T.tx.df 12 _ rfl rfl rfl) (fun f fd F => fn_x F sc_rowOf (fun pds r h => ?_) fun cdv A outer s H E hr S H0 pds o Q h q => ?_) (fun _ _ _ _ _ _ us hl => match us, hl with | [_, _], _ => rfl)
  · obtain ⟨t, C, d, e1, e2⟩ := h
    subst e1; rfl
  obtain ⟨t, C, d, e1, hc⟩ := h
  subst e1
  obtain ⟨G, l, hl, hc0, hr0⟩ : ∃ (G : Prop) (l : List Slip), l.length ≤ 500 ∧ (∀ {p1 p2 p3 p4 : Pos}, Xe (cxOf (L2.CX P w) P w K mg base ["machine", "heap", "time", "command"] dRowOf.qual (defScope sRowOf) f cdv A outer s H E) (Vw.pure S H0) (.Call (.Name "checked_heap" p1) [.Name "machine" p2, .Name "heap" p3] [] p4) (startT 4 [mach K M.cm t C, dat K d]) (isD K fun y => y = slipsT l ∧ G)) ∧
      (G → ∀ v H', Same H0 H' → (dat K (natsT (cmds l))).p v (hid S H') → Q v H') := by
    rcases hc with ⟨l, hg, rfl⟩ | ⟨l, hg, rfl⟩
    · exact ⟨True, sortS l, by rw [sortS_len]; exact hg.len, (x_clV (E := E) (cl_checkedHeap T) hr (by decide) passX (ap_cons (nP 0) (ap_cons (nP 1) ap_nil)) ⟨t, C, d, rfl, .inl ⟨l, hg, rfl⟩⟩).imp (fun pd e => ⟨_, e, rfl, trivial⟩), fun _ => q⟩
    · exact ⟨False, [], by simp, x_clE (E := E) (cl_checkedHeap T) hr (by decide) passX (ap_cons (nP 0) (ap_cons (nP 1) ap_nil)) ⟨t, C, d, rfl, .inr ⟨l, hg, rfl⟩⟩ .rfl' q, fun z => z.elim⟩
  refine rn_ret (P := isD K fun y => y = natsT (cmds l) ∧ G) (x_tupleOf T.tx.tuple (v_lcG (G := G) (ds := slips l) (ws := nats (cmds l)) (own := [("time", 2), ("command", 3)]) rfl sc_rowOf.nd (xi_tup hc0 fun y h => ⟨slips l, h.1, rfl, h.2⟩) (blkOk_by (N := ["machine", "heap", "time", "command"]) (sc := defScope sRowOf) (by decide +kernel))
    (fun _ _ _ _ _ => pg_tup rfl (pgs_cons (pg_name (i := 2) sc_rowOf.nd rfl (Or.inl rfl)) (pgs_cons (pg_name (i := 3) sc_rowOf.nd rfl (Or.inl rfl)) pgs_nil))) (tgr_pair (i := 2) (j := 3) (by decide)) (fun i x h => ?_) (by rw [nats_len, cmds_len, slips_len]) (by rw [slips_len]; omega) (fun i x r hx hr' w' _ _ => ?_)) (fun y h => ⟨_, .inl h.1, rfl, h.2⟩)) (fun v pd H1 lv i1 ⟨y, e1, e2, g⟩ hv => ?_)
  · obtain ⟨y, _, rfl⟩ := slips_inv h
    exact ⟨_, _, rfl⟩
  · obtain ⟨y, hy, rfl⟩ := slips_inv hx
    obtain ⟨n, hn, rfl⟩ := nats_inv hr'
    have en : n = y.2 := by
      unfold cmds at hn
      rw [List.getElem?_map, hy] at hn
      exact (Option.some.inj hn).symm
    subst en
    intro s H C cl fp
    exact nD 3
  · subst e1; subst e2
    exact hr0 g v H1 i1.1 hv
end
end Lt
namespace Lt
open PySem PySem.Spec PyProof.Rows L2
theorem boot_any'' : bootBuiltins "any" = some (.builtin "any") := by decide +kernel
section
variable {X : Cx} {w : Vw} {e a b : Expr} {es : List Expr} {τ : Ty} {pos p : Pos} {d : PyData} {rest : List Stmt} {D : Ends}
/-! ### any, all -/
theorem dpa_bools_inv {K : PySem.W.Frag} {G : Hp} : ∀ {bs : List Bool} {vs : List V}, DpAll K G vs (bs.map PyData.bool) → vs = bs.map V.bl
  | [], _, h => by cases h; rfl
  | n :: r, _, h => by
    cases h with
    | cons h1 h2 => cases h1; rw [dpa_bools_inv h2]; rfl
theorem v_any {bs : List Bool} (hc : X.calm = true) (hm : X.mg "any" = none) (ha : Xe X w e τ (eD X.K (.list (bs.map PyData.bool)))) (hg : Gl X "any" := by rfl) (hs : starEach [e] X.env = [(false, eval e X.env)] := by rfl) : Xe X w (.Call (.Name "any" p) [e] [] pos) τ (eB X.K (bs.any id)) :=
  x_cB (cr_any hc) hg hm boot_any' (xa_1 ha hs) (fun vs pds H lv i0 hp hv => by
    obtain ⟨v, y, rfl, hy, hv⟩ := one_of hp hv
    subst hy
    obtain ⟨q, ws, rfl, hs', da⟩ := dat_lst hv
    have ew := dpa_bools_inv da
    subst ew
    exact ob i0 (fun Q k => ⟨q, bs, rfl, sql_same (hid_sub _ _) hs', k⟩) rfl) (by decide) (by decide) hs rfl
theorem v_all {bs : List Bool} (hc : X.calm = true) (hm : X.mg "all" = none) (ha : Xe X w e τ (eD X.K (.list (bs.map PyData.bool)))) (hg : Gl X "all" := by rfl) (hs : starEach [e] X.env = [(false, eval e X.env)] := by rfl) : Xe X w (.Call (.Name "all" p) [e] [] pos) τ (eB X.K (bs.all id)) :=
  x_cB (cr_all hc) hg hm boot_all' (xa_1 ha hs) (fun vs pds H lv i0 hp hv => by
    obtain ⟨v, y, rfl, hy, hv⟩ := one_of hp hv
    subst hy
    obtain ⟨q, ws, rfl, hs', da⟩ := dat_lst hv
    have ew := dpa_bools_inv da
    subst ew
    exact ob i0 (fun Q k => ⟨q, bs, rfl, sql_same (hid_sub _ _) hs', k⟩) rfl) (by decide) (by decide) hs rfl
/-! ### a tuple of anything, and its unpacking -/
def tupP (K : PySem.W.Frag) (qs : List Pd) : Pd := ⟨fun v G => ∃ q vs, v = .ref q ∧ SqT K G q vs ∧ PdAll G vs qs, fun e ⟨q, vs, a, b, c⟩ => ⟨q, vs, a, sqt_same e b, pda_same e c⟩⟩
theorem tupP_dat {K : PySem.W.Frag} {G : Hp} {v : V} {ds : List PyData} (h : (dat K (.tuple ds)).p v G) : (tupP K (ds.map (dat K))).p v G := by
  obtain ⟨q, vs, rfl, hs, da⟩ := dat_tup h
  exact ⟨q, vs, rfl, hs, dpa_pda da⟩
theorem Xe.tup {ds : List PyData} (h : Xe X w e τ (fun pd => pd = dat X.K (.tuple ds))) : Xe X w e τ (fun pd => pd = tupP X.K (ds.map (dat X.K))) := fun σ H s Q q =>
  h σ H s Q fun v pd H1 m i e1 hv => q v _ H1 m i rfl (by subst e1; exact tupP_dat hv)
theorem x_tupP {qs : List Pd} {k} (h : Xa X w es τ (fun pds => pds = qs)) (hl : qs.length ≤ 1000 := by simp) : Xe X w (.Tuple es k pos) τ (fun pd => pd = tupP X.K qs) := fun σ H s Q q => by
  refine eSem_of (pe_tup pa_sem) (h σ H s _ fun vs pds H1 e1 i1 ed h1 => ?_)
  subst ed
  have ln : vs.length = pds.length := Paired.length h1
  refine ⟨by rw [ln, sizeLine_eq]; omega, ?_⟩
  have z := Ot.new (w := w) (H := H1) (o := .tup vs) (P := fun pd => pd = tupP X.K pds) (pd := tupP X.K pds) (t := fun Q => ∀ p, H1 p = none → Q (.ref p) (upd H1 p (.tup vs))) (s.live.move e1) i1 (fun Q h => h) rfl
    fun p n np sm hp => ⟨p, vs, rfl, .inl (.inl hp), pda_same sm h1⟩
  exact z Q fun v pd H2 e2 i2 p2 h2 => q v pd H2 (e1.trans e2) i2 p2 h2
/-- the targets: names at the slots js -/
inductive NmT (X : Cx) : List Expr → List Nat → TGs → Prop
  | nil : NmT X [] [] gNil
  | cons {x : Str} {p : Pos} {i : Nat} {es : List Expr} {js : List Nat} {u : TGs} (h : PG X (.Name x p) (gName i)) (r : NmT X es js u) (hs : (assignEach (.Name x p :: es) X.env).map (·.2) = assign (.Name x p) X.env :: (assignEach es X.env).map (·.2)) : NmT X (.Name x p :: es) (i :: js) (gCons (gName i) u)
theorem NmT.pgs {es : List Expr} {js : List Nat} {u : TGs} (h : NmT X es js u) : PGs X es u := by
  induction h with
  | nil => exact pgs_nil
  | cons h r hs ih => exact pgs_cons h ih hs
def setAll (τ : Ty) : List Nat → List Pd → Ty
  | j :: js, q :: qs => setAll (τ.set j (some q)) js qs
  | _, _ => τ
theorem nm_run {es : List Expr} {js : List Nat} {u : TGs} (h : NmT X es js u) : ∀ {w : Vw} {H : Hp} {vs : List V} {qs : List Pd} {σ : L2.St} {τ : Ty} {R : L2.St → Hp → Prop}, vs.length = js.length → PdAll (hid w.S H) vs qs → Sv w H σ τ → (∀ σ2, Sv w H σ2 (setAll τ js qs) → R σ2 H) → u vs σ H R := by
  induction h with
  | nil =>
    intro w H vs qs σ τ R hl hp s k
    cases vs with
    | nil =>
      cases hp
      exact ⟨rfl, k σ s⟩
    | cons _ _ => simp at hl
  | cons h r hs ih =>
    intro w H vs qs σ τ R hl hp s k
    cases hp with
    | nil => simp at hl
    | cons h1 h2 => exact ⟨_, _, rfl, ih (by simpa using hl) h2 (s.set _ h1) k⟩
theorem rn_unp {ts : List Expr} {js : List Nat} {u : TGs} {qs : List Pd} {k n : Nat} {tpos : Pos} (hc : X.calm = true) (he : Xe X w e τ (fun pd => pd = tupP X.K qs)) (hn : NmT X ts js u) (hj : js.length = n) (hq : qs.length = n) (kk : Rn X w rest (setAll τ js qs) D)
    (hn' : (assignEach ts X.env).length = n := by rfl) (hst : (assignEach ts X.env).findIdx? (·.1) = none := by rfl) (hs : swapsWithSole [.Tuple ts k tpos] e pos.line X.env = pure false := by rfl) (hw : swappedStores [.Tuple ts k tpos] e X.env = pure none := by rfl)
    (h1 : (assignEach [.Tuple ts k tpos] X.env).map (·.2) = [assign (.Tuple ts k tpos) X.env] := by rfl) : Rn X w (.Assign [.Tuple ts k tpos] e pos :: rest) τ D := fun σ H s =>
  cons_of (ps_asg pe_sem (pg_tup hc hn.pgs hn' hst) hs hw h1) (he σ H s _ fun v pd H1 m i e1 hv => by
    subst e1
    obtain ⟨q, vs, rfl, hs', hp⟩ := hv
    have lv : vs.length = qs.length := Paired.length hp
    exact ⟨q, vs, rfl, sqt_same (hid_sub _ _) hs', by omega, nm_run hn (by omega) hp (s.move m i) fun σ2 s2 => kk σ2 H1 s2⟩)
/-- x, y = e, (something new), by way of a tuple -/
theorem rn_unpF {e1 e2 : Expr} {ts : List Expr} {i j : Nat} {u : TGs} {PA' : Pd → Prop} {C : Ct → Prop} {k k2 : Nat} {tpos pt2 : Pos} (hc : X.calm = true) (h1 : Xe X w e1 τ PA') (h2 : Xf X w e2 τ C) (hn : NmT X ts [i, j] u)
    (kk : ∀ pd q c (n1 : ¬ q ∈ w.S) (n2 : ¬ q ∈ w.M ∧ ∀ {H : Hp} {o : HO}, w.J H → w.J (upd H q o)), PA' pd → C c → Rn X (w.add q c n1 n2) rest ((τ.set i (some pd)).set j (some (is (.ref q)))) D)
    (hn' : (assignEach ts X.env).length = 2 := by rfl) (hst : (assignEach ts X.env).findIdx? (·.1) = none := by rfl) (hs : swapsWithSole [.Tuple ts k tpos] (.Tuple [e1, e2] k2 pt2) pos.line X.env = pure false := by rfl) (hw : swappedStores [.Tuple ts k tpos] (.Tuple [e1, e2] k2 pt2) X.env = pure none := by rfl)
    (h0 : (assignEach [.Tuple ts k tpos] X.env).map (·.2) = [assign (.Tuple ts k tpos) X.env] := by rfl) (hs1 : starEach [e1, e2] X.env = (false, eval e1 X.env) :: starEach [e2] X.env := by rfl) (hs2 : starEach [e2] X.env = (false, eval e2 X.env) :: starEach [] X.env := by rfl) :
    Rn X w (.Assign [.Tuple ts k tpos] (.Tuple [e1, e2] k2 pt2) pos :: rest) τ D := fun σ H s =>
  cons_of (ps_asg (pe_tup (pa_cons pe_sem (pa_cons pe_sem pa_nil hs2) hs1)) (pg_tup hc hn.pgs hn' hst) hs hw h0) (h1 σ H s _ fun v pd H1 m1 i1 p1 hv => h2 σ H1 (s.move m1 i1) _ fun q o c H2 m2 i2 n hcc hco => by
    have s2 := (s.move m1 i1).move m2 i2
    have n1 := s2.notin n
    have n2 : ¬ q ∈ w.M ∧ ∀ {H : Hp} {o : HO}, w.J H → w.J (upd H q o) := w.jnw i2.1 n
    refine ⟨by show 2 ≤ sizeLine; decide, fun tp tn => ⟨tp, _, rfl, .inl (.inl upd_same), rfl, ?_⟩⟩
    have s3 : Sv (w.add q c n1 n2) (upd H2 q o) σ τ := s2.add n (c.st (hid_more n (same_upd n)) hco) n1 n2
    have sm : Same (upd H2 q o) (upd (upd H2 q o) tp (.tup [v, .ref q])) := same_upd tn
    have s4 := s3.move (Exm.same sm) (Vw.st _ sm s3.inv)
    have hv4 : pd.p v (hid (w.add q c n1 n2).S (upd (upd H2 q o) tp (.tup [v, .ref q]))) := pd.st (hid_move (Exm.same sm)) (pd.st (hid_more n (same_upd n)) (pd.move m2 hv))
    exact nm_run hn rfl (.cons hv4 (.cons (show (is (.ref q)).p (.ref q) _ from rfl) .nil)) s4 fun σ2 s5 => kk pd q c n1 n2 p1 hcc σ2 _ s5)
/-- x, y, z = e1, e2, e3 with plain local names -/
theorem rn_par3 {i j l : Nat} {x y z : Str} {e1 e2 e3 : Expr} {px py pz pt : Pos} {kt k2 pt2} {P1 P2 P3 : Pd → Prop} (hc : X.calm = true) (h1 : Xe X w e1 τ P1) (h2 : Xe X w e2 τ P2) (h3 : Xe X w e3 τ P3) (k : ∀ a b c, P1 a → P2 b → P3 c → Rn X w rest (((τ.set i (some a)).set j (some b)).set l (some c)) D)
    (hN : X.N.Nodup) (hi : X.N[i]? = some x) (hj : X.N[j]? = some y) (hl : X.N[l]? = some z) (hij : i ≠ j) (hil : i ≠ l) (hjl : j ≠ l) (hx : X.env.scope.names.lookup x = some .local) (hy : X.env.scope.names.lookup y = some .local) (hz : X.env.scope.names.lookup z = some .local)
    (hw : swappedStores [.Tuple [.Name x px, .Name y py, .Name z pz] kt pt] (.Tuple [e1, e2, e3] k2 pt2) X.env = pure (some [x, y, z])) (hs : swapsWithSole [.Tuple [.Name x px, .Name y py, .Name z pz] kt pt] (.Tuple [e1, e2, e3] k2 pt2) pos.line X.env = pure false := by rfl)
    (hs1 : starEach [e1, e2, e3] X.env = (false, eval e1 X.env) :: starEach [e2, e3] X.env := by rfl) (hs2 : starEach [e2, e3] X.env = (false, eval e2 X.env) :: starEach [e3] X.env := by rfl) (hs3 : starEach [e3] X.env = (false, eval e3 X.env) :: starEach [] X.env := by rfl) :
    Rn X w (.Assign [.Tuple [.Name x px, .Name y py, .Name z pz] kt pt] (.Tuple [e1, e2, e3] k2 pt2) pos :: rest) τ D := fun σ H s =>
  cons_of (ps_par3 hc hN hi hj hl hij hil hjl hx hy hz (pa_cons pe_sem (pa_cons pe_sem (pa_cons pe_sem pa_nil hs3) hs2) hs1) hw hs) (h1 σ H s _ fun v a H1 m1 i1 p1 hv => h2 σ H1 (s.move m1 i1) _ fun u b H2 m2 i2 p2 hu => h3 σ H2 ((s.move m1 i1).move m2 i2) _ fun t c H3 m3 i3 p3 ht =>
    ⟨v, u, t, rfl, k a b c p1 p2 p3 _ H3 ((((((s.move m1 i1).move m2 i2).move m3 i3).set i (a.move m3 (a.move m2 hv))).set j (b.move m3 hu)).set l ht)⟩)
end
end Lt
namespace Lt
open PySem PySem.Spec PyProof.Rows L2
theorem Xt.imp' {X : Cx} {w : Vw} {e : Expr} {τ : Ty} {u v : Bool} (h : Xt X w e τ (eT u)) (e1 : u = v) : Xt X w e τ (eT v) := by rw [← e1]; exact h
def times (l : List Slip) : List Nat := l.map (·.1)
theorem times_len (l : List Slip) : (times l).length = l.length := by simp [times]
theorem times_get {l : List Slip} {i m : Nat} {y : Slip} (hy : l[i]? = some y) (hm : (times l)[i]? = some m) : m = y.1 := by
  unfold times at hm
  rw [List.getElem?_map, hy] at hm
  exact (Option.some.inj hm).symm
theorem slips_app (l m : List Slip) : slips (l ++ m) = slips l ++ slips m := by simp [slips]
theorem times_sort {l : List Slip} {n : Nat} : n ∈ times (sortS l) ↔ n ∈ times l := ((sortS_perm l).map (·.1)).mem_iff
section
variable {P : Program} {w : World} {K : PySem.W.Frag} {mg : Str → Option Value} {base : Heap} {M : Ad}
def F_putIn (K : PySem.W.Frag) (M : Ad) : List Pd → Oc → Prop := fun pds o => ∃ (T : Tb) (C : Nat) (d : PyData) (l : List Slip) (x : Slip), pds = [mach K M.cm T C, dat K d, dat K (slipD x)] ∧ HeapD C d l ∧ x.2 < C ∧ (∀ y ∈ l, y.1 ≠ x.1) ∧ o = .val (dat K (slipsT (ins x (sortS l))))
theorem sc_putIn : FnScope ["machine", "heap", "slip", "some", "late", "time", "command"] ["machine", "heap", "slip"] (defScope sPutIn) := ⟨rfl, rfl, rfl, by decide +kernel, rfl, by decide +kernel, by decide +kernel⟩
theorem cl_putIn (T : Tt P w K mg base M) : Cl P w K mg base (L2.CX P w) 6 "put_in" ["machine", "heap", "slip"] (spX (F_putIn K M)) := by
  refine Cl.mk' (d := dPutIn) (T.tx.df 13 _ rfl rfl rfl) (fun f fd F => fn_x F sc_putIn (fun pds r h => ?_) fun cdv A outer s H E hr S H0 pds o Q h q => ?_) (fun _ _ _ _ _ _ us hl => match us, hl with | [_, _, _], _ => rfl)
  · obtain ⟨t, C, d, l, x, e1, e2⟩ := h
    subst e1; rfl
  obtain ⟨t, C, d, l, x, e1, hg, hx, hn, e2⟩ := h
  subst e1; subst e2
  have lens := sortS_len l
  have lenl := hg.len
  have new : ∀ y ∈ sortS l, y.1 ≠ x.1 := fun y hy => hn y ((sortS_perm l).mem_iff.mp hy)
  refine rn_par (i := 3) (j := 4) rfl (x_clV (E := E) (cl_checkedHeap T) hr (by decide) passX (ap_cons (nP 0) (ap_cons (nP 1) ap_nil)) ⟨t, C, d, rfl, .inl ⟨l, hg, rfl⟩⟩)
    (x_clV (E := E) (cl_checkedSlip T) hr (by decide) passX (ap_cons (nP 0) (ap_cons (nP 2) ap_nil)) ⟨t, C, slipD x, rfl, by rw [isSlip_slip hx, if_pos rfl]⟩) (fun p1 p2 ep1 ep2 => ?_) sc_putIn.nd rfl rfl (by decide) rfl rfl rfl
  subst ep1; subst ep2
  refine rn_if (T := eT false) (Xt.imp' (t_inN (n := x.1) (xs := times (sortS l)) (Xe.toI (v_ix (ds := [.int x.1, .int x.2]) (nD 4) (cI 0) (.inr rfl) rfl)) (v_lc (ds := slips (sortS l)) (ws := nats (times (sortS l))) (own := [("time", 5), ("command", 6)]) rfl sc_putIn.nd (wi_tup (nD 3)) (blkOk_by (N := ["machine", "heap", "slip", "some", "late", "time", "command"]) (sc := defScope sPutIn) (by decide +kernel))
    (fun _ _ _ _ _ => pg_tup rfl (pgs_cons (pg_name (i := 5) sc_putIn.nd rfl (Or.inl rfl)) (pgs_cons (pg_name (i := 6) sc_putIn.nd rfl (Or.inl rfl)) pgs_nil))) (tgr_pair (i := 5) (j := 6) (by decide)) (fun i x h => ?_) (by rw [nats_len, times_len, slips_len]) (by rw [slips_len]; omega) (fun i x r hx hr' w' _ _ => ?_)) (.inl rfl)) ?_) (fun z => by cases z) (fun _ => ?_)
  · obtain ⟨y, _, rfl⟩ := slips_inv h
    exact ⟨_, _, rfl⟩
  · obtain ⟨y, hy, rfl⟩ := slips_inv hx
    obtain ⟨n, hn, rfl⟩ := nats_inv hr'
    have en := times_get hy hn
    subst en
    intro s H C cl fp
    exact nD 5
  · refine decide_eq_false fun m => ?_
    obtain ⟨y, hy, e⟩ := List.mem_map.mp m
    exact new y hy e
  · have e3 : slips (sortS l) ++ [slipD x] = slips (sortS l ++ [x]) := by rw [slips_app]; rfl
    refine rn_out (rn_retP q .rfl' rfl (Xe.ret (v_tuple T.tx.tuple (v_sorted (l := sortS l ++ [x]) T.tx.sorted (v_lst (a_star (ds := slips (sortS l)) (nD 3) (.inr rfl) (a_cons (nD 4) a_nil)) (by rw [List.length_append, slips_len]; simp; omega)) (.inl (by rw [e3]; rfl)) ((ins_perm x _).trans (List.perm_append_comm (l₁ := [x]) (l₂ := sortS l))) (ins_asc (sortS_asc hg.ap) new)) (.inl rfl)) rfl))
def F_joined (K : PySem.W.Frag) (M : Ad) : List Pd → Oc → Prop := fun pds o => ∃ (T : Tb) (C : Nat) (d : PyData) (l : List Slip) (x : PyData) (n : Int), pds = [mach K M.cm T C, dat K d, dat K (.tuple [x]), dat K (.int n)] ∧ HeapD C d l ∧
  ((isSlipD C x = false ∧ o = .exc M.ci 0) ∨ ∃ y : Slip, x = slipD y ∧ y.2 < C ∧ ((y.1 ∈ times l ∧ o = .exc M.cr n) ∨ ((∀ z ∈ l, z.1 ≠ y.1) ∧ o = .val (dat K (slipsT (ins y (sortS l)))))))
theorem sc_joined : FnScope ["machine", "one", "other", "at", "some", "others", "times", "time", "command"] ["machine", "one", "other", "at"] (defScope sJoined) := ⟨rfl, rfl, rfl, by decide +kernel, rfl, by decide +kernel, by decide +kernel⟩
theorem one_heap {C : Nat} {y : Slip} (h : y.2 < C) : HeapD C (.tuple [slipD y]) [y] := ⟨.inr rfl, Cmds.cons h fun _ z => (nomatch z), by simp [Apart], by simp⟩
theorem one_bad {C : Nat} {x : PyData} (h : isSlipD C x = false) : BadD C (.tuple [x]) [] := ⟨⟨x, [], .inr rfl, .inl h⟩, fun _ z => (nomatch z), by simp [Apart], by simp⟩
theorem sort_one (y : Slip) : sortS [y] = [y] := rfl
theorem cl_joined (T : Tt P w K mg base M) : Cl P w K mg base (L2.CX P w) 6 "joined" ["machine", "one", "other", "at"] (spX (F_joined K M)) := by
  refine Cl.mk' (d := dJoined) (T.tx.df 17 _ rfl rfl rfl) (fun f fd F => fn_x F sc_joined (fun pds r h => ?_) fun cdv A outer s H E hr S H0 pds o Q h q => ?_) (fun _ _ _ _ _ _ us hl => match us, hl with | [_, _, _, _], _ => rfl)
  · obtain ⟨t, C, d, l, x, n, e1, e2⟩ := h
    subst e1; rfl
  obtain ⟨t, C, d, l, x, n, e1, hg, hc⟩ := h
  subst e1
  have lens := sortS_len l
  have lenl := hg.len
  rcases hc with ⟨hs, rfl⟩ | ⟨y, rfl, hy, hc⟩
  · exact rn_par (i := 4) (j := 5) (PB := fun _ => False) rfl (x_clV (E := E) (cl_checkedHeap T) hr (by decide) passX (ap_cons (nP 0) (ap_cons (nP 1) ap_nil)) ⟨t, C, d, rfl, .inl ⟨l, hg, rfl⟩⟩)
      (x_clE (E := E) (cl_checkedHeap T) hr (by decide) passX (ap_cons (nP 0) (ap_cons (nP 2) ap_nil)) ⟨t, C, .tuple [x], rfl, .inr ⟨[], one_bad hs, rfl⟩⟩ .rfl' q) (fun _ _ _ z => z.elim) sc_joined.nd rfl rfl (by decide) rfl rfl rfl
  refine rn_par (i := 4) (j := 5) rfl (x_clV (E := E) (cl_checkedHeap T) hr (by decide) passX (ap_cons (nP 0) (ap_cons (nP 1) ap_nil)) ⟨t, C, d, rfl, .inl ⟨l, hg, rfl⟩⟩)
    (x_clV (E := E) (cl_checkedHeap T) hr (by decide) passX (ap_cons (nP 0) (ap_cons (nP 2) ap_nil)) ⟨t, C, .tuple [slipD y], rfl, .inl ⟨[y], one_heap hy, rfl⟩⟩) (fun p1 p2 ep1 ep2 => ?_) sc_joined.nd rfl rfl (by decide) rfl rfl rfl
  subst ep1; subst ep2
  refine rn_asg (i := 6) (v_lc (ds := slips (sortS l)) (ws := nats (times (sortS l))) (own := [("time", 7), ("command", 8)]) rfl sc_joined.nd (wi_tup (nD 4)) (blkOk_by (N := ["machine", "one", "other", "at", "some", "others", "times", "time", "command"]) (sc := defScope sJoined) (by decide +kernel))
    (fun _ _ _ _ _ => pg_tup rfl (pgs_cons (pg_name (i := 7) sc_joined.nd rfl (Or.inl rfl)) (pgs_cons (pg_name (i := 8) sc_joined.nd rfl (Or.inl rfl)) pgs_nil))) (tgr_pair (i := 7) (j := 8) (by decide)) (fun i x h => ?_) (by rw [nats_len, times_len, slips_len]) (by rw [slips_len]; omega) (fun i x r hx hr' w' _ _ => ?_)) (fun p3 ep3 => ?_) sc_joined.nd rfl (Or.inr rfl)
  · obtain ⟨y, _, rfl⟩ := slips_inv h
    exact ⟨_, _, rfl⟩
  · obtain ⟨y, hy, rfl⟩ := slips_inv hx
    obtain ⟨n, hn, rfl⟩ := nats_inv hr'
    have en := times_get hy hn
    subst en
    intro s H C cl fp
    exact nD 7
  obtain ⟨z3, rfl, rfl⟩ := ep3
  have test : ∀ (w1 : Vw) (p1 p2 p3 p4 p5 p6 p7 p8 p9 : Pos) (kk : Nat), True := fun _ _ _ _ _ _ _ _ _ _ _ => trivial
  refine rn_if (T := eT (decide (y.1 ∈ times l))) (Xt.imp' (t_val (v_any (bs := [decide (y.1 ∈ times (sortS l))]) rfl T.tx.any (v_lc (ds := slips [y]) (ws := [.bool (decide (y.1 ∈ times (sortS l)))]) (own := [("time", 7), ("command", 8)]) rfl sc_joined.nd (wi_tup (nD 5)) (blkOk_by (N := ["machine", "one", "other", "at", "some", "others", "times", "time", "command"]) (sc := defScope sJoined) (by decide +kernel))
    (fun _ _ _ _ _ => pg_tup rfl (pgs_cons (pg_name (i := 7) sc_joined.nd rfl (Or.inl rfl)) (pgs_cons (pg_name (i := 8) sc_joined.nd rfl (Or.inl rfl)) pgs_nil))) (tgr_pair (i := 7) (j := 8) (by decide)) (fun i x h => ?_) (by rw [slips_len]; rfl) (by rw [slips_len]; simp) (fun i x r hx hr' w' _ _ => ?_)))) ?_) (fun h => ?_) (fun h => ?_)
  · obtain ⟨y, _, rfl⟩ := slips_inv h
    exact ⟨_, _, rfl⟩
  · obtain ⟨y', hy', rfl⟩ := slips_inv hx
    have ey : y' = y := by
      cases i with
      | zero => simpa using hy'.symm
      | succ i => simp at hy'
    subst ey
    have er : r = .bool (decide (y'.1 ∈ times (sortS l))) := by
      cases i with
      | zero => simpa using hr'.symm
      | succ i => simp at hr'
    subst er
    intro s H C cl fp
    exact Xe.ofB (x_inN (n := y'.1) (xs := times (sortS l)) (nI 7) (nD 6) (.inl rfl))
  · rw [List.any_cons, List.any_nil, Bool.or_false]
    exact decide_eq_decide.mpr times_sort
  · have hm : y.1 ∈ times l := of_decide_eq_true h.symm
    rcases hc with ⟨_, rfl⟩ | ⟨hn, rfl⟩
    · exact rn_raiseX (E := E) T.ecR hr (by decide) takesX q .rfl' (nI 3)
    · obtain ⟨z, hz, e⟩ := List.mem_map.mp hm
      exact absurd e (hn z hz)
  · have hm : ¬ y.1 ∈ times l := of_decide_eq_false h.symm
    rcases hc with ⟨h1, rfl⟩ | ⟨hn, rfl⟩
    · exact absurd h1 hm
    · have new : ∀ z ∈ sortS l, z.1 ≠ y.1 := fun z hz => hn z ((sortS_perm l).mem_iff.mp hz)
      have e3 : slips (sortS l) ++ (slips [y] ++ []) = slips (sortS l ++ [y]) := by rw [slips_app]; rfl
      refine rn_out (rn_retP q .rfl' rfl (Xe.ret (v_tuple T.tx.tuple (v_sorted (l := sortS l ++ [y]) T.tx.sorted (v_lst (a_star (ds := slips (sortS l)) (nD 4) (.inr rfl) (a_star (ds := slips [y]) (nD 5) (.inr rfl) a_nil)) (by rw [List.length_append, slips_len]; simp [slips_len]; omega)) (.inl (by rw [e3]; rfl)) ((ins_perm y _).trans (List.perm_append_comm (l₁ := [y]) (l₂ := sortS l))) (ins_asc (sortS_asc hg.ap) new)) (.inl rfl)) rfl))
end
end Lt
namespace Lt
open PySem PySem.Spec PyProof.Rows L2
/-- some pair of numbers -/
def pairP (K : PySem.W.Frag) : Pd := ⟨fun v G => ∃ a b : Nat, Dp K G v (.tuple [.int a, .int b]), fun e ⟨a, b, h⟩ => ⟨a, b, dp_same e _ _ h⟩⟩
/-- None, or some pair -/
def clashP (K : PySem.W.Frag) : Bool → Pd
  | true => dat K .none
  | false => pairP K
section
variable {X : Cx} {w : Vw} {e a : Expr} {τ : Ty} {pos : Pos} {P : Pd → Prop}
theorem clash_non {K : PySem.W.Frag} {G : Hp} {v : V} {b : Bool} (h : (clashP K b).p v G) : decide (v = .non) = b := by
  cases b with
  | true =>
    have h' : Dp K G v .none := h
    cases h'
    rfl
  | false =>
    obtain ⟨x, y, h'⟩ := h
    cases h'
    rfl
theorem t_notNP {b : Bool} {k pos'} (ha : Xe X w a τ (fun pd => pd = clashP X.K b)) : Xt X w (.Compare a [.IsNot] [.Constant .none k pos'] pos) τ (eT (!b)) := fun σ H s Q q =>
  tSem_of (pt_cmp (pc_notN pe_sem)) (ha σ H s _ fun va pa H1 e1 i1 ed h1 => by
    subst ed
    exact ⟨_, rfl, by rw [clash_non h1]; exact q _ H1 e1 i1 rfl⟩)
theorem t_isNP {b : Bool} {k pos'} (ha : Xe X w a τ (fun pd => pd = clashP X.K b)) : Xt X w (.Compare a [.Is] [.Constant .none k pos'] pos) τ (eT b) := fun σ H s Q q =>
  tSem_of (pt_cmp (pc_isN pe_sem)) (ha σ H s _ fun va pa H1 e1 i1 ed h1 => by
    subst ed
    exact ⟨_, rfl, by rw [clash_non h1]; exact q _ H1 e1 i1 rfl⟩)
theorem Xe.pair {i j : Nat} (h : Xe X w e τ (eD X.K (.tuple [.int i, .int j]))) : Xe X w e τ (fun pd => pd = clashP X.K false) := fun σ H s Q q =>
  h σ H s Q fun v pd H1 m i1 ⟨y, e1, e2⟩ hv => q v _ H1 m i1 rfl (by subst e1; subst e2; exact ⟨i, j, hv⟩)
end
section
variable {X : Cx} {w : Vw} {e a b : Expr} {τ : Ty} {pos pos2 : Pos}
theorem Sv.unlk {w wb : Vw} {H : Hp} {σ : L2.St} {τ : Ty} (l : Lk w wb) (s : Sv wb H σ τ) : Sv w H σ τ :=
  ⟨by rw [← l.S]; exact s.live, ⟨l.J s.inv.1, fun q m => by
    have z := s.inv.2 q (by rw [l.own]; exact m)
    rw [l.S] at z
    exact z⟩, s.len, fun i pd e => by
    have z := s.at_ i pd e
    rw [l.S] at z
    exact z⟩
/-- steps[s][c] -/
theorem v_stp {T : Tb} {C s c : Nat} {d : PyData} (ok : Ok T C) (hs : s < T.length) (hc : c < C) (h1 : Xe X w e τ (eD X.K d)) (hd : d = rowsT T ∨ d = rowsL T) (h2 : Xe X w a τ (eI X.K s)) (h3 : Xe X w b τ (eI X.K c)) (p1 : PlainIx a := by exact fun _ _ => rfl) (p2 : PlainIx b := by exact fun _ _ => rfl) :
    Xe X w (.Subscript (.Subscript e a pos) b pos2) τ (eI X.K (stp T s c)) := by
  rcases hd with rfl | rfl
  · exact Xe.toI (v_ix (ds := nats (T.getD s [])) (v_ix (ds := T.map natsT) (f := natsT (T.getD s [])) h1 h2 (.inr rfl) (rows_get (getD_some hs)) p1) h3 (.inr rfl) (nats_get (ok.at hs hc)) p2)
  · exact Xe.toI (v_ix (ds := nats (T.getD s [])) (v_ix (ds := T.map natsL) (f := natsL (T.getD s [])) h1 h2 (.inl rfl) (rows_get (getD_some hs)) p1) h3 (.inl rfl) (nats_get (ok.at hs hc)) p2)
/-- found[s] -/
theorem v_at {f : List Nat} {s : Nat} {d : PyData} (hs : s < f.length) (h1 : Xe X w e τ (eD X.K d)) (hd : d = natsT f ∨ d = natsL f) (h2 : Xe X w a τ (eI X.K s)) (p1 : PlainIx a := by exact fun _ _ => rfl) : Xe X w (.Subscript e a pos) τ (eI X.K (f.getD s 0 : Nat)) := by
  rcases hd with rfl | rfl
  · exact Xe.toI (v_ix (ds := nats f) h1 h2 (.inr rfl) (nats_get (getD_some hs)) p1)
  · exact Xe.toI (v_ix (ds := nats f) h1 h2 (.inl rfl) (nats_get (getD_some hs)) p1)
end
/-- no clash at the states below i -/
def noClash (T : Tb) (C : Nat) (c : Nat) (f : List Nat) (i : Nat) : Prop := ∀ s, s < i → ∀ x, x < C → f.getD (stp T (stp T s c) x) 0 = f.getD (stp T (stp T s x) c) 0
theorem noClash_all {T : Tb} {C c : Nat} {f : List Nat} (h : noClash T C c f T.length) : freeB T C c f = true := freeB_iff.mpr fun s x hs hx => h s hs x hx
theorem clash_not {T : Tb} {C c s x : Nat} {f : List Nat} (hs : s < T.length) (hx : x < C) (h : ¬ f.getD (stp T (stp T s c) x) 0 = f.getD (stp T (stp T s x) c) 0) : freeB T C c f = false := by
  cases q : freeB T C c f with
  | true => exact absurd (freeB_iff.mp q s x hs hx) h
  | false => rfl
section
variable {P : Program} {w : World} {K : PySem.W.Frag} {mg : Str → Option Value} {base : Heap} {M : Ad}
def F_clash (K : PySem.W.Frag) (M : Ad) : List Pd → Pd → Prop := fun pds r => ∃ (T : Tb) (C c : Nat) (f : List Nat), pds = [mach K M.cm T C, dat K (.int c), dat K (natsT f)] ∧ Ok T C ∧ c < C ∧ f.length = T.length ∧ T.length ≤ 1000 ∧ C ≤ 1000 ∧ r = clashP K (freeB T C c f)
theorem sc_clashBehind : FnScope ["machine", "command", "found", "state", "other", "first", "second"] ["machine", "command", "found"] (defScope sClashBehind) := ⟨rfl, rfl, rfl, by decide +kernel, rfl, by decide +kernel, by decide +kernel⟩
theorem cl_clashBehind (T : Tx K mg M) : Cl P w K mg base CX0 1 "clash_behind" ["machine", "command", "found"] (spP (F_clash K M)) := by
  refine Cl.mk' (d := dClashBehind) (T.df 14 _ rfl rfl rfl) (fun f fd F => fn_pure F sc_clashBehind (fun pds r h => ?_) fun cdv A outer s H E hr S H0 pds r Q h q => ?_) (fun _ _ _ _ _ _ us hl => match us, hl with | [_, _, _], _ => rfl)
  · obtain ⟨t, C, c, f, e1, _⟩ := h
    subst e1; rfl
  obtain ⟨t, C, c, f, e1, ok, hc, hf, hn, hC, e2⟩ := h
  subst e1; subst e2
  refine rn_for (passes_of rfl) rfl (wi_range T.range (v_states T.cls T.na2 (nP 0)) (by omega)) (pg_name (i := 3) sc_clashBehind.nd rfl (Or.inl rfl)) (tgr_name 3) (fun _ _ _ _ _ => trivial)
    (fun wb ds i w' τ' => w' = wb ∧ noClash t C c f i ∧ ∃ o1 o2 o3 o4, τ' = [some (mach K M.cm t C), some (dat K (.int c)), some (dat K (natsT f)), o1, o2, o3, o4])
    (fun wb ds l e => ⟨rfl, fun s hs => absurd hs (Nat.not_lt_zero s), none, none, none, none, rfl⟩) (fun wb ds i w' τ' l h => ⟨by rw [h.1]; exact l.S, fun H h' => by rw [h.1] at h'; exact h'⟩)
    (fun wb ds i x w' τ' l e h hx => ?_) (fun wb ds w' τ' l e h => ?_)
  · obtain ⟨rfl, nc, o1, o2, o3, o4, rfl⟩ := h
    subst e
    obtain ⟨hi, rfl⟩ := rangeD_get hx
    refine rn_for (passes_of rfl) rfl (wi_range T.range (v_commands T.cls T.na1 (nP 0)) (by omega)) (pg_name (i := 4) sc_clashBehind.nd rfl (Or.inl rfl)) (tgr_name 4) (fun _ _ _ _ _ => trivial)
      (fun wb' ds j w'' τ'' => w'' = wb' ∧ (∀ x, x < j → f.getD (stp t (stp t i c) x) 0 = f.getD (stp t (stp t i x) c) 0) ∧ ∃ o2 o3 o4, τ'' = [some (mach K M.cm t C), some (dat K (.int c)), some (dat K (natsT f)), some (dat K (.int i)), o2, o3, o4])
      (fun wb ds l e => ⟨rfl, fun s hs => absurd hs (Nat.not_lt_zero s), _, _, _, rfl⟩) (fun wb ds i w' τ' l h => ⟨by rw [h.1]; exact l.S, fun H h' => by rw [h.1] at h'; exact h'⟩)
      (fun wb' ds j x w'' τ'' l' e h hx => ?_) (fun wb' ds w'' τ'' l' e h => ?_)
    · obtain ⟨rfl, nj, o2, o3, o4, rfl⟩ := h
      subst e
      obtain ⟨hj, rfl⟩ := rangeD_get hx
      have h1 := ok.stp_lt hi hc
      have h2 := ok.stp_lt hi hj
      have h3 := ok.stp_lt h1 hj
      have h4 := ok.stp_lt h2 hc
      refine rn_asg (i := 5) (v_stp ok h1 hj (v_steps T.cls T.na3 (nP 0)) (.inl rfl) (v_stp ok hi hc (v_steps T.cls T.na3 (nP 0)) (.inl rfl) (nI 3) (nI 1)) (nI 4)) (fun pd hp => ?_) sc_clashBehind.nd rfl (Or.inl rfl)
      obtain ⟨y, rfl, rfl⟩ := hp
      refine rn_asg (i := 6) (v_stp ok h2 hc (v_steps T.cls T.na3 (nP 0)) (.inl rfl) (v_stp ok hi hj (v_steps T.cls T.na3 (nP 0)) (.inl rfl) (nI 3) (nI 4)) (nI 1)) (fun pd hp => ?_) sc_clashBehind.nd rfl (Or.inl rfl)
      obtain ⟨y, rfl, rfl⟩ := hp
      refine rn_if (t_ne (v_at (f := f) (s := stp t (stp t i c) j) (by omega) (nD 2) (.inl rfl) (nI 5)) (v_at (f := f) (s := stp t (stp t i j) c) (by omega) (nD 2) (.inl rfl) (nI 6))) (fun h => ?_) (fun h => ?_)
      · have ne : ¬ f.getD (stp t (stp t i c) j) 0 = f.getD (stp t (stp t i j) c) 0 := fun z => by
          rw [z] at h
          have h' : true = !decide True := by simpa using h
          cases h'
        refine rn_retP q ((Up.rfl'.lk l).lk l') rfl ?_
        rw [clash_not hi hj ne]
        exact Xe.pair (i := i) (j := j) (v_tup (a_cons (Xe.toD (nI 3)) (a_cons (Xe.toD (nI 4)) a_nil)))
      · have eq : f.getD (stp t (stp t i c) j) 0 = f.getD (stp t (stp t i j) c) 0 := by
          have h' : (false : Bool) = !decide (((f.getD (stp t (stp t i c) j) 0 : Nat) : Int) = ((f.getD (stp t (stp t i j) c) 0 : Nat) : Int)) := h
          cases q2 : decide (((f.getD (stp t (stp t i c) j) 0 : Nat) : Int) = ((f.getD (stp t (stp t i j) c) 0 : Nat) : Int)) with
          | true => have := of_decide_eq_true q2; omega
          | false => rw [q2] at h'; cases h'
        refine rn_out (rn_nil fun σ H s => ⟨_, _, ⟨rfl, fun x hx => ?_, _, _, _, rfl⟩, s⟩)
        by_cases e : x = j
        · subst e; exact eq
        · exact nj x (by omega)
    · obtain ⟨rfl, nj, o2, o3, o4, rfl⟩ := h
      subst e
      rw [rangeD_len] at nj
      -- the inner loop has run out: the view is its own
      refine rn_nil fun σ H s => ⟨_, _, ⟨rfl, fun s1 hs1 x1 hx1 => ?_, _, _, _, _, rfl⟩, s.unlk l'⟩
      by_cases e : s1 = i
      · subst e; exact nj x1 hx1
      · exact nc s1 (by omega) x1 hx1
  · obtain ⟨rfl, nc, o1, o2, o3, o4, rfl⟩ := h
    subst e
    rw [rangeD_len] at nc
    refine rn_retP q (Up.rfl'.lk l) rfl ?_
    rw [noClash_all nc]
    exact x_non rfl
end
end Lt
namespace Lt
open PySem PySem.Spec PyProof.Rows L2
section
variable {X : Cx} {w : Vw} {e a b : Expr} {es : List Expr} {τ : Ty} {pos p apos : Pos} {d : PyData} {rest : List Stmt} {D : Ends} {q : Addr} {ds : List PyData} {j : Nat}
/-! ### lists of one's own, read -/
theorem own_at {H : Hp} (i : w.I H) (hw : w.own[j]? = some (q, Ct.lst X.K ds)) : ∃ vs, H q = some (.lst vs) ∧ DpAll X.K (hid w.S H) vs ds := by
  obtain ⟨o, ho, vs, rfl, da⟩ := i.2 (q, Ct.lst X.K ds) (List.mem_of_getElem? hw)
  exact ⟨vs, ho, da⟩
theorem v_revO {k : Nat} {p1 p2 p3 : Pos} (ha : Xe X w a τ (fun pd => pd = is (.ref q))) (hw : w.own[j]? = some (q, Ct.lst X.K ds)) : Xe X w (.Subscript a (.Slice none none (some (.UnaryOp .USub (.Constant (.int 1) k p1) p2)) p3) pos) τ (eD X.K (.list ds.reverse)) := fun σ H s Q k =>
  eSem_of (pe_revL pe_sem) (ha σ H s _ fun v pd H1 m i e1 hv => by
    subst e1
    have ev : v = .ref q := hv
    subst ev
    obtain ⟨vs, hq, da⟩ := own_at i hw
    refine ⟨q, vs, rfl, .inl (.inl hq), ?_⟩
    have z := ot_lst (X := X) (w := w) (H := H1) (t := fun Q => ∀ p, H1 p = none → Q (.ref p) (upd H1 p (.lst vs.reverse))) (A := fun y => y = .list ds.reverse) (s.live.move m) i (dpa_rev da) rfl fun Q h => h
    exact z Q fun v pd H2 m2 i2 p2 h2 => k v pd H2 (m.trans m2) i2 p2 h2)
/-- len(x), x a list of one's own -/
theorem v_lenO (hm : X.mg "len" = none) (ha : Xe X w e τ (fun pd => pd = is (.ref q))) (hw : w.own[j]? = some (q, Ct.lst X.K ds)) (hg : Gl X "len" := by rfl) (hs : starEach [e] X.env = (false, eval e X.env) :: starEach [] X.env := by rfl) : Xe X w (.Call (.Name "len" p) [e] [] pos) τ (eI X.K ds.length) :=
  x_cB (PA' := fun pds => pds = [is (.ref q)]) call_len_seq hg hm boot_len' (ap_cons ha ap_nil hs) (fun vs pds H lv i0 hp hv => by
    subst hp
    cases hv with
    | cons h1 h2 =>
      cases h2
      have h1' := (show _ = V.ref q from h1)
      subst h1'
      obtain ⟨vs, hq, da⟩ := own_at i0 hw
      exact Ot.val (pd := dat X.K (.int vs.length)) i0 (fun Q k => ⟨q, vs, rfl, .inl (.inl (.inl hq)), k⟩) ⟨_, rfl, by rw [dpa_len da]⟩ (.int _)) (by decide) (by decide) hs rfl
/-- x[i] -/
theorem v_ixO {n : Nat} {f : PyData} (ha : Xe X w a τ (fun pd => pd = is (.ref q))) (hw : w.own[j]? = some (q, Ct.lst X.K ds)) (hb : Xe X w b τ (eI X.K n)) (hx : ds[n]? = some f) (hs : PlainIx b := by exact fun _ _ => rfl) : Xe X w (.Subscript a b pos) τ (eD X.K f) :=
  x_2 (t := fun ta tb => tOp (rIx X.K) ta tb) (fun h1 h2 => pe_ix ix_seq h1 h2 hs) (r := rIx X.K) (fun _ _ _ _ _ h => h) ha hb fun va vb pa pb H l i0 e1 ⟨k, e2, c2⟩ h1 h2 => by
    subst e1; subst e2; subst c2
    have ev : va = .ref q := h1
    subst ev
    obtain ⟨vs, hq, da⟩ := own_at i0 hw
    rw [dat_int h2]
    obtain ⟨v, hv, dv⟩ := dpa_atI da (atI_nat hx)
    exact Ot.val (pd := dat X.K f) i0 (fun Q q' => .inl ⟨q, vs, _, v, rfl, rfl, .inl (.inl hq), hv, q'⟩) ⟨f, rfl, rfl⟩ dv
/-- return x -/
theorem rn_retO {S : List Addr} {H0 : Hp} {r : Pd} {Q : VK} {K : PySem.W.Frag} (k : ∀ v H', Same H0 H' → r.p v (hid S H') → Q v H') (u : Up (Vw.pure S H0) w) (hD : D.rt = Q) (ha : Xe X w e τ (fun pd => pd = is (.ref q))) (hw : w.own[j]? = some (q, Ct.lst X.K ds)) (nq : ¬ q ∈ S) (hr : r = dat K (.list ds)) (hk : X.K = K := by rfl) :
    Rn X w (.Return (some e) pos :: rest) τ D :=
  rn_ret ha fun v pd H lv i e1 h => by
    subst e1; subst hk; subst hr
    have ev : v = .ref q := h
    subst ev
    obtain ⟨vs, hq, da⟩ := own_at i hw
    rw [hD]
    exact k _ H (u.J i.1) (.lst (.inl (.inl (by rw [hid_ne nq]; exact hq))) (dpa_same (hid_less u.S) _ _ da))
/-- the slot's list is shown: it is data from now on, no more written -/
theorem rn_appO {n : Expr} {C : PyData → Prop} {pos' : Pos} (hn : Xe X w n τ (fun pd => pd = is (.ref q))) (hw : w.own[j]? = some (q, Ct.lst X.K ds)) (hz : ds.length < 1000000) (he : Xe X w e τ (isD X.K C)) (k : ∀ d, C d → Rn X (w.put j q (Ct.lst X.K (ds ++ [d])) ⟨_, hw⟩) rest τ D)
    (hbase : attributeBase n "append" X.env (eval n X.env) = eval n X.env := by rfl)
    (hfew : ((backTo pos' (starEach [e] X.env)).all (fun x => !x.1) && (backToKw pos' (keywordEach [] X.env)).all (fun x => x.1.isSome)
      && decide (([e] : List Expr).length + ([] : List Keyword).length + (if ([] : List Keyword).isEmpty then 0 else 1) < 30)) = true := by rfl)
    (hline : (apos.endLine == pos'.line) = true := by rfl) (hs : starEach [e] X.env = (false, eval e X.env) :: starEach [] X.env := by rfl) (hplain : (backTo pos' (starEach [] X.env)).any (·.1) = false := by rfl) :
    Rn X w (.Expr (.Call (.Attribute n "append" apos) [e] [] pos') pos :: rest) τ D :=
  rn_app hn hw (Nat.lt_of_lt_of_le hz (by decide)) he k (pe_bm PySem.F.plainAttrs_list PySem.F.slot_list_append PySem.F.type_list_append mt_append pe_sem (pa_cons pe_sem pa_nil hs) hbase hfew hline hs hplain)
/-- an if whose ways meet again -/
theorem rn_ifJ {c : Expr} {a b : List Stmt} {T : Bool → Prop} (J : Vw → Prop) (hc : Xt X w c τ T) (h1 : T true → (∀ w1, J w1 → Rn X w1 [] τ (aft X rest D)) → Rn X w a τ (aft X rest D)) (h2 : T false → (∀ w1, J w1 → Rn X w1 [] τ (aft X rest D)) → Rn X w b τ (aft X rest D)) (k : ∀ w1, J w1 → Rn X w1 rest τ D) : Rn X w (.If c a b pos :: rest) τ D :=
  rn_if hc (fun t => h1 t fun w1 j => rn_out (k w1 j)) fun t => h2 t fun w1 j => rn_out (k w1 j)
end
end Lt
namespace Lt
open PySem PySem.Spec PyProof.Rows L2
theorem col_len (T : Tb) (c : Nat) : (col T c).length = T.length := by simp [col]
theorem col_lt {T : Tb} {C c : Nat} (ok : Ok T C) (hc : c < C) : ∀ x ∈ col T c, x < T.length := fun x hx => by
  obtain ⟨r, hr, rfl⟩ := List.mem_map.mp hx
  have h := ok.row r hr
  have hl : c < r.length := by rw [h.1]; exact hc
  have e : r.getD c 0 = r[c] := by simp [List.getD, hl]
  rw [e]
  exact h.2 _ (List.getElem_mem hl)
theorem col_at {T : Tb} {c s : Nat} (hs : s < T.length) : (col T c)[s]? = some (stp T s c) := by
  unfold col stp
  rw [List.getElem?_map, List.getElem?_eq_getElem hs]
  simp [List.getD, hs]
theorem eff_cons {T : Tb} {C c : Nat} (ok : Ok T C) (hc : c < C) (row : List Nat) : fol (col T c) (eff T row) = eff T (c :: row) := by
  apply List.ext_getElem?
  intro i
  unfold fol
  by_cases hi : i < T.length
  · rw [List.getElem?_map, col_at hi]
    have h2 : (eff T (c :: row))[i]? = some (led T i (c :: row)) := by simp [eff, hi]
    rw [h2]
    show some ((eff T row).getD (stp T i c) 0) = _
    rw [eff_at (ok.stp_lt hi hc)]; rfl
  · rw [List.getElem?_eq_none (by simp [col_len]; omega), List.getElem?_eq_none (by simp [eff_len]; omega)]
theorem eff_nil (T : Tb) : eff T [] = List.range T.length := by
  unfold eff
  have : (fun s => led T s []) = id := rfl
  rw [this, List.map_id]
/-- the last i slips -/
def lastS (l : List Slip) (i : Nat) : List Slip := (l.reverse.take i).reverse
theorem lastS_zero (l : List Slip) : lastS l 0 = [] := rfl
theorem lastS_succ {l : List Slip} {i : Nat} {x : Slip} (h : l.reverse[i]? = some x) : lastS l (i + 1) = x :: lastS l i := by
  unfold lastS
  rw [List.take_add_one, h]
  simp
theorem lastS_all (l : List Slip) : lastS l l.length = l := by
  unfold lastS
  rw [← List.length_reverse, List.take_length, List.reverse_reverse]
theorem slips_rev (l : List Slip) : (slips l).reverse = slips l.reverse := by simp [slips]
theorem tray_cons {T : Tb} {C : Nat} {x : Slip} {r : List Slip} : tray T C (x :: r) = if freeB T C x.2 (eff T (cmds r)) = true then tray T C r else x :: tray T C r := rfl
section
variable {P : Program} {w : World} {K : PySem.W.Frag} {mg : Str → Option Value} {base : Heap} {M : Ad}
def F_trayOf (K : PySem.W.Frag) (M : Ad) : List Pd → Pd → Prop := fun pds r => ∃ (T : Tb) (C : Nat) (l : List Slip), pds = [mach K M.cm T C, dat K (slipsT l)] ∧ Ok T C ∧ T.length < 1000 ∧ C ≤ 1000 ∧ Cmds C (cmds l) ∧ l.length ≤ 1000 ∧ r = dat K (slipsT (tray T C l))
theorem sc_trayOf : FnScope ["machine", "heap", "found", "kept", "slip"] ["machine", "heap"] (defScope sTrayOf) := ⟨rfl, rfl, rfl, by decide +kernel, rfl, by decide +kernel, by decide +kernel⟩
theorem cl_trayOf (T : Tx K mg M) : Cl P w K mg base CX0 3 "tray_of" ["machine", "heap"] (spP (F_trayOf K M)) := by
  refine Cl.mk' (d := dTrayOf) (T.df 15 _ rfl rfl rfl) (fun f fd F => fn_pure F sc_trayOf (fun pds r h => ?_) fun cdv A outer s H E hr S H0 pds r Q h q => ?_) (fun _ _ _ _ _ _ us hl => match us, hl with | [_, _], _ => rfl)
  · obtain ⟨t, C, l, e1, _⟩ := h
    subst e1; rfl
  obtain ⟨t, C, l, e1, ok, hn, hC, hc, hl, e2⟩ := h
  subst e1; subst e2
  obtain ⟨fD, fdD, FD, hbD, mD⟩ := ok_does (P := P) (w := w) (base := base) T
  refine rn_parF (i := 2) (j := 3) (C := fun c => c = Ct.lst K (slips [])) rfl (x_clP (cl_idle T) hr (by decide) pass0 (ap_cons (Xe.eqI (v_states T.cls T.na2 (nP 0))) ap_nil) fun pds e => ⟨_, ⟨t.length, e, hn, rfl⟩, rfl⟩) (xf_nil rfl) (fun p1 p c n1 n2 e1 ec => ?_) sc_trayOf.nd rfl rfl (by decide) rfl rfl rfl
  subst e1; subst ec
  refine rn_for (passes_of rfl) rfl (wi_tup (v_revT (nD 1))) (pg_name (i := 4) sc_trayOf.nd rfl (Or.inl rfl)) (tgr_name 4) (fun _ _ _ _ _ => trivial)
    (fun wb ds i w' τ' => w'.S = wb.S ∧ (∀ H, w'.J H → wb.J H) ∧ w'.own[0]? = some (p, Ct.lst K (slips (tray t C (lastS l i)).reverse)) ∧ ∃ o1, τ' = [some (mach K M.cm t C), some (dat K (slipsT l)), some (dat K (natsT (eff t (cmds (lastS l i))))), some (is (.ref p)), o1])
    (fun wb ds lk e => ⟨rfl, fun _ h => h, by rw [lk.own]; rfl, none, by rw [lastS_zero]; show _ = [_, _, some (dat K (natsT (eff t []))), _, _]; rw [eff_nil]; rfl⟩) (fun wb ds i w' τ' lk h => ⟨by rw [h.1, lk.S], h.2.1⟩)
    (fun wb ds i x w' τ' lk e h hx => ?_) (fun wb ds w' τ' lk e h => ?_)
  · obtain ⟨eS, eJ, eo, o1, rfl⟩ := h
    subst e
    rw [slips_rev] at hx
    obtain ⟨y, hy, rfl⟩ := slips_inv hx
    have hyl : y ∈ l := List.mem_reverse.mp (List.mem_of_getElem? hy)
    have hyc : y.2 < C := hc _ (List.mem_map.mpr ⟨y, hyl, rfl⟩)
    have hr0 : Cmds C (cmds (lastS l i)) := fun c hc' => by
      obtain ⟨z, hz, rfl⟩ := List.mem_map.mp hc'
      have hz' : z ∈ l.reverse.take i := List.mem_reverse.mp hz
      exact hc _ (List.mem_map.mpr ⟨z, List.mem_reverse.mp (List.mem_of_mem_take hz'), rfl⟩)
    have es : lastS l (i + 1) = y :: lastS l i := lastS_succ hy
    have trx := tray_cons (T := t) (C := C) (x := y) (r := lastS l i)
    refine rn_ifJ (fun w1 => w1.S = wb.S ∧ (∀ H, w1.J H → wb.J H) ∧ w1.own[0]? = some (p, Ct.lst K (slips (tray t C (lastS l (i + 1))).reverse))) (t_notNP (b := freeB t C y.2 (eff t (cmds (lastS l i)))) (x_clP (cl_clashBehind T) hr (by decide) pass0 (ap_cons (nP 0) (ap_cons (Xe.eq (v_ix (ds := [.int y.1, .int y.2]) (nD 4) (cI 1) (.inr rfl) rfl)) (ap_cons (nP 2) ap_nil)))
      fun pds e => ⟨_, ⟨t, C, y.2, eff t (cmds (lastS l i)), e, ok, hyc, eff_len _ _, by omega, hC, rfl⟩, rfl⟩)) (fun h k => ?_) (fun h k => ?_) (fun w1 hw1 => ?_)
    · have hf : freeB t C y.2 (eff t (cmds (lastS l i))) = false := by
        cases z : freeB t C y.2 (eff t (cmds (lastS l i))) with
        | true => rw [z] at h; cases h
        | false => rfl
      rw [if_neg (by rw [hf]; exact Bool.false_ne_true)] at trx
      have lt : (tray t C (lastS l i)).length ≤ 1000 := by
        have l1 := tray_len (T := t) (C := C) (lastS l i)
        have l2 : (lastS l i).length ≤ l.length := by
          unfold lastS
          rw [List.length_reverse]
          have := List.length_take_le i l.reverse
          have l3 : (l.reverse.take i).length ≤ l.reverse.length := by rw [List.length_take]; omega
          rw [List.length_reverse] at l3
          exact l3
        omega
      refine rn_appO (C := fun d => d = slipD y) (nO 3) eo (by rw [slips_len, List.length_reverse]; omega) (nD 4) (fun d hd => ?_)
      subst hd
      refine k _ ⟨eS, eJ, ?_⟩
      have hown : 0 < w'.own.length := (List.getElem?_eq_some_iff.mp eo).1
      show (w'.own.set 0 _)[0]? = _
      rw [List.getElem?_set_self hown, es, trx, List.reverse_cons, slips_app]
      rfl
    · have hf : freeB t C y.2 (eff t (cmds (lastS l i))) = true := by
        cases z : freeB t C y.2 (eff t (cmds (lastS l i))) with
        | true => rfl
        | false => rw [z] at h; cases h
      rw [if_pos hf] at trx
      exact k _ ⟨eS, eJ, by rw [es, trx]; exact eo⟩
    · obtain ⟨a1, a2, a3⟩ := hw1
      refine rn_asg (i := 2) (x_clP (P := fun pd => pd = dat K (natsT (eff t (cmds (lastS l (i + 1)))))) (cl_followed T) hr (by decide) pass0 (ap_cons (x_does (P := fun pd => pd = dat K (natsT (col t y.2))) T.cls mD FD hr (by decide) hbD pass0 (nP 0) (ap_cons (Xe.eq (v_ix (ds := [.int y.1, .int y.2]) (nD 4) (cI 1) (.inr rfl) rfl)) ap_nil) (fun pds e => ⟨_, ⟨t, C, y.2, by rw [e]; rfl, ok, hyc, by omega, rfl⟩, rfl⟩)) (ap_cons (nP 2) ap_nil))
        fun pds e => ⟨_, ⟨col t y.2, eff t (cmds (lastS l i)), e, fun x hx => by rw [eff_len]; exact col_lt ok hyc x hx, by rw [col_len]; omega, rfl⟩, by rw [eff_cons ok hyc, es]; rfl⟩) (fun pd hp => ?_) sc_trayOf.nd rfl (Or.inl rfl)
      subst hp
      exact rn_nil fun σ H s => ⟨_, _, ⟨a1, a2, a3, _, rfl⟩, s⟩
  · obtain ⟨eS, eJ, eo, o1, rfl⟩ := h
    subst e
    rw [List.length_reverse, slips_len, lastS_all] at eo
    have up : Up (Vw.pure S H0) w' := ⟨fun h => Up.rfl'.J (lk.J (eJ _ h)), fun a m => by rw [eS, lk.S]; exact List.mem_cons_of_mem _ m⟩
    exact rn_retP q up rfl (Xe.ret (v_tuple T.tuple (v_revO (nO 3) eo) (.inl rfl)) (by rw [slips_rev, List.reverse_reverse]; rfl))
end
end Lt
namespace Lt
open PySem PySem.Spec PyProof.Rows L2
theorem isIdx_inv {d : PyData} {n : Nat} (h : isIdxD d n = true) : ∃ i : Nat, d = .int i ∧ i < n := by
  cases d with
  | int i =>
    obtain ⟨h1, h2⟩ := Bool.and_eq_true_iff.mp h
    have a1 : 0 ≤ i := of_decide_eq_true h1
    have a2 : i < n := of_decide_eq_true h2
    exact ⟨i.toNat, by rw [show ((i.toNat : Nat) : Int) = i by omega], by omega⟩
  | _ => cases h
theorem isIdx_nat {i n : Nat} (h : i < n) : isIdxD (.int i) n = true := by simp [isIdxD, h]
/-- the first i of the ways back -/
def waysT (T : Tb) (now : Nat) (k : List Slip) (i : Nat) : List Nat := (List.range i).filter fun s => decide (led T s (cmds k) = now)
theorem waysT_succ (T : Tb) (now : Nat) (k : List Slip) (i : Nat) : waysT T now k (i + 1) = waysT T now k i ++ (if led T i (cmds k) = now then [i] else []) := by
  unfold waysT
  rw [List.range_succ, List.filter_append]
  congr 1
  by_cases h : led T i (cmds k) = now
  · rw [if_pos h]; simp [h]
  · rw [if_neg h]; simp [h]
theorem waysT_len (T : Tb) (now : Nat) (k : List Slip) (i : Nat) : (waysT T now k i).length ≤ i := by
  unfold waysT
  refine Nat.le_trans (List.length_filter_le _ _) (by simp)
section
variable {P : Program} {w : World} {K : PySem.W.Frag} {mg : Str → Option Value} {base : Heap} {M : Ad}
def F_tray (K : PySem.W.Frag) (M : Ad) : List Pd → Oc → Prop := fun pds o => ∃ (T : Tb) (C : Nat) (d : PyData) (l : List Slip), pds = [mach K M.cm T C, dat K d] ∧ Ok T C ∧ T.length < 1000 ∧ C ≤ 1000 ∧ HeapD C d l ∧ o = .val (dat K (slipsT (tray T C (sortS l))))
theorem sc_tray : FnScope ["machine", "heap"] ["machine", "heap"] (defScope sTray) := ⟨rfl, rfl, rfl, by decide +kernel, rfl, by decide +kernel, by decide +kernel⟩
theorem cl_tray (T : Tt P w K mg base M) : Cl P w K mg base (L2.CX P w) 6 "tray" ["machine", "heap"] (spX (F_tray K M)) := by
  refine Cl.mk' (d := dTray) (T.tx.df 16 _ rfl rfl rfl) (fun f fd F => fn_x F sc_tray (fun pds r h => ?_) fun cdv A outer s H E hr S H0 pds o Q h q => ?_) (fun _ _ _ _ _ _ us hl => match us, hl with | [_, _], _ => rfl)
  · obtain ⟨t, C, d, l, e1, _⟩ := h
    subst e1; rfl
  obtain ⟨t, C, d, l, e1, ok, hn, hC, hg, e2⟩ := h
  subst e1; subst e2
  exact rn_retP q .rfl' rfl (x_clP (cl_trayOf T.tx) hr (by decide) pass0 (ap_cons (nP 0) (ap_cons (x_clV (E := E) (cl_checkedHeap T) hr (by decide) passX (ap_cons (nP 0) (ap_cons (nP 1) ap_nil)) ⟨t, C, d, rfl, .inl ⟨l, hg, rfl⟩⟩) ap_nil))
    fun pds e => ⟨_, ⟨t, C, sortS l, e, ok, hn, hC, sortS_cmds hg.cm, by rw [sortS_len]; have := hg.len; omega, rfl⟩, rfl⟩)
def F_beg (K : PySem.W.Frag) (M : Ad) : List Pd → Oc → Prop := fun pds o => ∃ (T : Tb) (C : Nat) (nd d : PyData), pds = [mach K M.cm T C, dat K nd, dat K d] ∧ Ok T C ∧ T.length < 1000 ∧ C ≤ 1000 ∧
  ((isIdxD nd T.length = false ∧ o = .exc M.cr 0) ∨ ∃ now : Nat, now < T.length ∧ nd = .int now ∧ ((∃ l, BadD C d l ∧ o = .exc M.ci l.length) ∨ ∃ l, HeapD C d l ∧ o = .val (dat K (natsT (waysB T now (sortS l))))))
theorem sc_beginnings : FnScope ["machine", "now", "heap", "row", "state"] ["machine", "now", "heap"] (defScope sBeginnings) := ⟨rfl, rfl, rfl, by decide +kernel, rfl, by decide +kernel, by decide +kernel⟩
theorem cl_beginnings (T : Tt P w K mg base M) : Cl P w K mg base (L2.CX P w) 7 "beginnings" ["machine", "now", "heap"] (spX (F_beg K M)) := by
  refine Cl.mk' (d := dBeginnings) (T.tx.df 18 _ rfl rfl rfl) (fun f fd F => fn_x F sc_beginnings (fun pds r h => ?_) fun cdv A outer s H E hr S H0 pds o Q h q => ?_) (fun _ _ _ _ _ _ us hl => match us, hl with | [_, _, _], _ => rfl)
  · obtain ⟨t, C, nd, d, e1, _⟩ := h
    subst e1; rfl
  obtain ⟨t, C, nd, d, e1, ok, hn, hC, hc⟩ := h
  subst e1
  refine rn_if (T := eT (!isIdxD nd t.length)) (t_not (t_val (Xe.toB (Xe.ofP (x_clP (cl_isIndex T.tx) hr (by decide) pass0 (ap_cons (nP 1) (ap_cons (Xe.eqI (v_states T.tx.cls T.tx.na2 (nP 0))) ap_nil)) fun pds e => ⟨_, ⟨nd, (t.length : Int), e, rfl⟩, rfl⟩))))) (fun h => ?_) (fun h => ?_)
  · rcases hc with ⟨_, rfl⟩ | ⟨now, h1, rfl, _⟩
    · exact rn_raiseX (E := E) T.ecR hr (by decide) takesX q .rfl' (cI 0)
    · rw [isIdx_nat h1] at h; cases h
  refine rn_out ?_
  rcases hc with ⟨h1, _⟩ | ⟨now, h1, rfl, hc⟩
  · rw [h1] at h; cases h
  rcases hc with ⟨l, hb, rfl⟩ | ⟨l, hg, rfl⟩
  · exact rn_asg (i := 3) (P := fun _ => False) (x_clE (E := E) (cl_rowOf T) hr (by decide) passX (ap_cons (nP 0) (ap_cons (nP 2) ap_nil)) ⟨t, C, d, rfl, .inr ⟨l, hb, rfl⟩⟩ .rfl' q) (fun _ z => z.elim) sc_beginnings.nd rfl (Or.inr rfl)
  refine rn_asg (i := 3) (x_clV (E := E) (cl_rowOf T) hr (by decide) passX (ap_cons (nP 0) (ap_cons (nP 2) ap_nil)) ⟨t, C, d, rfl, .inl ⟨l, hg, rfl⟩⟩) (fun pd hp => ?_) sc_beginnings.nd rfl (Or.inr rfl)
  subst hp
  refine rn_retP q .rfl' rfl (Xe.ret (v_tuple T.tx.tuple (ds := nats (waysB t now (sortS l))) (x_lc (own := [("state", 4)]) (A := fun y => y = rangeD t.length) rfl sc_beginnings.nd (wi_range T.tx.range (v_states T.tx.cls T.tx.na2 (nP 0)) (by omega)) (blkOk_by (N := ["machine", "now", "heap", "row", "state"]) (sc := defScope sBeginnings) (by decide +kernel))
    (fun _ _ _ _ _ => pg_name (i := 4) sc_beginnings.nd rfl (Or.inl rfl)) (tgr_name 4) (by simp) (fun _ i acc => acc = nats (waysT t now (sortS l) i) ∧ i ≤ t.length) (fun _ i _ b => b = decide (led t i (cmds (sortS l)) = now)) (fun ds e => ⟨rfl, Nat.zero_le _⟩) (fun ds i acc e => ?_) (fun _ _ _ _ _ => trivial) (fun ds i acc x e hi hx w' _ _ => ?_) (fun ds i acc x e hi hx hT w' _ _ => ?_) (fun ds i acc x e hi hx hT => ?_)
    (fun ds acc e hi => ?_)) (.inl rfl)) rfl)
  · have := waysT_len t now (sortS l) i
    have h2 := e.2
    rw [e.1, nats_len]
    exact Nat.lt_of_le_of_lt this (Nat.lt_of_le_of_lt h2 (Nat.lt_trans hn (by decide)))
  · subst e
    obtain ⟨hi', rfl⟩ := rangeD_get hx
    intro s H C' cl fp
    exact Xt.imp' (t_eq (Xe.toI (Xe.ofP (x_clP (P := fun pd => pd = dat K (.int (led t i (cmds (sortS l)) : Nat))) (cl_led T.tx) hr (by decide) pass0 (ap_cons (nP 0) (ap_cons (nP 4) (ap_cons (nP 3) ap_nil))) fun pds e => ⟨_, ⟨t, C, i, cmds (sortS l), e, ok, hi', sortS_cmds hg.cm, rfl⟩, rfl⟩))) (nI 1)) (decide_eq_decide.mpr (by omega))
  · subst e
    obtain ⟨hi', rfl⟩ := rangeD_get hx
    have hT' : led t i (cmds (sortS l)) = now := of_decide_eq_true hT.symm
    intro s H C' cl fp
    refine Xe.imp (P := eD K (.int (i : Nat))) (nD 4) fun pd ⟨y, e1, e2⟩ => ⟨y, e1, ?_, hi'⟩
    rw [e2, hi.1, waysT_succ, if_pos hT']
    simp [nats]
  · subst e
    obtain ⟨hi', rfl⟩ := rangeD_get hx
    have hT' : ¬ led t i (cmds (sortS l)) = now := of_decide_eq_false hT.symm
    refine ⟨?_, hi'⟩
    rw [hi.1, waysT_succ, if_neg hT', List.append_nil]
  · subst e
    rw [rangeD_len] at hi
    rw [hi.1]; rfl
end
end Lt
namespace Lt
open PySem PySem.Spec PyProof.Rows L2
/-! ### calls with keywords, with defaults -/
structure kSem (X : Cx) (kws : List Keyword) (σ : L2.St) (H : Hp) (Q : List V → Hp → Prop) : Prop where
  go : ∀ (pos : Pos) (pins : List (Addr × Obj)) (s : Shared), Inv X pins σ H s → wpAny (model X.prog X.w) X.A (evalAll ((backToKw pos (keywordEach kws X.env)).map (·.2))) (AP X pins σ Q) X.xe s
theorem pk_sem {X : Cx} {kws : List Keyword} : PK X kws (kSem X kws) := ⟨fun pos pins s _ _ _ I h => h.go pos pins s I⟩
theorem kSem_of {X : Cx} {kws : List Keyword} {σ : L2.St} {H : Hp} {t : TA} {Q : List V → Hp → Prop} (h : PK X kws t) (q : t σ H Q) : kSem X kws σ H Q := ⟨fun pos pins s I => h.run pos pins s σ H Q I q⟩
def Xk (X : Cx) (w : Vw) (kws : List Keyword) (τ : Ty) (P : List Pd → Prop) : Prop := ∀ (σ : L2.St) (H : Hp), Sv w H σ τ → ∀ Q : List V → Hp → Prop, (∀ vs pds H', Exm w.M H H' → w.I H' → P pds → PdAll (hid w.S H') vs pds → Q vs H') → kSem X kws σ H Q
section
variable {X : Cx} {w : Vw} {e : Expr} {es : List Expr} {kws : List Keyword} {τ : Ty} {P : Pd → Prop} {pos p kpos : Pos} {nm : Option Str}
theorem kp_nil : Xk X w [] τ (fun pds => pds = []) := fun σ H s Q q => kSem_of pk_nil (q [] [] H .rfl' s.inv rfl .nil)
theorem kp_cons {q : Pd} {qs : List Pd} (ha : Xe X w e τ (fun pd => pd = q)) (hr : Xk X w kws τ (fun pds => pds = qs)) : Xk X w (⟨nm, e, kpos⟩ :: kws) τ (fun pds => pds = q :: qs) := fun σ H s Q k =>
  kSem_of (pk_cons pe_sem pk_sem) (ha σ H s _ fun v pd H1 m1 i1 e1 hv => hr σ H1 (s.move m1 i1) _ fun vs pds H2 m2 i2 e2 hvs => k _ _ H2 (m1.trans m2) i2 (by rw [e1, e2]) (.cons (pd.move m2 hv) hvs))
theorem pdAll_app {G : Hp} : ∀ {vs us : List V} {ps qs : List Pd}, PdAll G vs ps → PdAll G us qs → PdAll G (vs ++ us) (ps ++ qs)
  | _, _, _, _, .nil, h => h
  | _, _, _, _, .cons a b, h => .cons a (pdAll_app b h)
/-- a def with keyword-only parameters -/
structure Clk (P : Program) (w : World) (K : PySem.W.Frag) (mg : Str → Option Value) (base : Heap) (CX : CXT) (k : Nat) (d : He.DefD) (ps : List Str) (sp : Sp) : Prop where
  ex : ∃ f fd, FnOk P w K mg base CX k f fd ps sp ∧ mg d.name = some (.ref f) ∧ PySem.W.keepIn K (.ref f) = true ∧ FunD K d.name d.qual d.params d.body d.scope [] by0 f fd
theorem Clk.mk' {P : Program} {w : World} {K : PySem.W.Frag} {mg : Str → Option Value} {base : Heap} {CX : CXT} {k : Nat} {ps : List Str} {sp : Sp} {d : He.DefD} (h : Dfk K mg d) (hF : ∀ f fd, FunD K d.name d.qual d.params d.body d.scope [] by0 f fd → FnOk P w K mg base CX k f fd ps sp) :
    Clk P w K mg base CX k d ps sp := by
  obtain ⟨f, fd, F, hm⟩ := h.ex
  exact ⟨f, fd, hF f fd F, hm, F.kp, F⟩
/-- f(e, .., k = v, ..) -/
theorem x_kN {CX : CXT} {k j n : Nat} {d : He.DefD} {x : Str} {ps ks : List Str} {F : List Pd → Oc → Prop} {E : XK} {qs zs : List Pd} {gV : List V → List V → List V} (c : Clk X.prog X.w X.K X.mg X.base CX k d ps (spX F)) (hr : Room j X.A) (hk : k ≤ j) (hx : Passes CX X E) (hxn : d.name = x)
    (hb : ∀ f fd, FunD X.K d.name d.qual d.params d.body d.scope [] by0 f fd → ∃ g, KBn X.K fd ps n ks g gV) (ha : Xa X w (e :: es) τ (fun pds => pds = qs)) (hkw : Xk X w kws τ (fun pds => pds = zs)) (hn : qs.length = n) (hz : zs.length = ks.length)
    (rs : List Pd) (hg2 : ∀ (G : Hp) (us vs : List V), PdAll G us qs → PdAll G vs zs → PdAll G (gV us vs) rs) (h : ∃ o, F rs o ∧ Wish w P E o) (hg : Gl X x := by rfl) (hdb : (x == ("__debug__" : Str)) = false := by decide)
    (hall : (backToKw pos (keywordEach kws X.env)).all (·.1.isSome) = true := by rfl) (hks : (backToKw pos (keywordEach kws X.env)).filterMap (·.1) = ks := by rfl) (he : starEach (e :: es) X.env = (false, eval e X.env) :: starEach es X.env := by rfl)
    (hpl : ((backTo pos (starEach (e :: es) X.env)).any (·.1) || (backToKw pos (keywordEach kws X.env)).any (·.1.isNone)) = false := by rfl) : Xe X w (.Call (.Name x p) (e :: es) kws pos) τ P := fun σ H s Q q => by
  obtain ⟨f, fd, Fk, hm, hkp, FD⟩ := c.ex
  obtain ⟨g, kb⟩ := hb f fd FD
  subst hxn
  refine eSem_of (pe_callN Fk (hr.mono hk) hg hm hkp kb hx pa_sem pk_sem hall hks hdb he hpl) (ha σ H s _ fun vs pds H1 m1 i1 e1 h1 => hkw σ H1 (s.move m1 i1) _ fun us pds2 H2 m2 i2 e2 h2 => ?_)
  subst e1; subst e2
  have h1' : PdAll (hid w.S H2) vs pds := pda_same (hid_move m2.wide) h1
  refine ⟨(Paired.length h1).trans hn, (Paired.length h2).trans hz, ?_⟩
  obtain ⟨o, hf, hw⟩ := h
  exact ot_spX (w := w) ((s.live.move m1).move m2) i2 (hg2 _ _ _ h1' h2) hf hw Q fun v pd H3 m3 i3 p3 h3 => q v pd H3 ((m1.trans m2).trans m3) i3 p3 h3
/-- f(e, ..), the keyword-only ones lack -/
theorem x_kP {CX : CXT} {k j : Nat} {d : He.DefD} {x : Str} {ps : List Str} {F : List Pd → Oc → Prop} {E : XK} {qs : List Pd} {dv : List V} (c : Clk X.prog X.w X.K X.mg X.base CX k d ps (spX F)) (hr : Room j X.A) (hk : k ≤ j) (hx : Passes CX X E) (hxn : d.name = x)
    (hb : ∀ f fd, FunD X.K d.name d.qual d.params d.body d.scope [] by0 f fd → ∃ ds, Vals dv ds ∧ Binds X.K fd ps ds) (ha : Xa X w (e :: es) τ (fun pds => pds = qs)) (rs : List Pd) (hg2 : ∀ (G : Hp), PdAll G dv rs) (h : ∃ o, F (qs ++ rs) o ∧ Wish w P E o) (hg : Gl X x := by rfl) (hdb : (x == ("__debug__" : Str)) = false := by decide)
    (he : starEach (e :: es) X.env = (false, eval e X.env) :: starEach es X.env := by rfl) (hpl : (backTo pos (starEach es X.env)).any (·.1) = false := by rfl) : Xe X w (.Call (.Name x p) (e :: es) [] pos) τ P := by
  obtain ⟨f, fd, Fk, hm, hkp, FD⟩ := c.ex
  obtain ⟨ds, hd, kb⟩ := hb f fd FD
  subst hxn
  obtain ⟨o, hf, hw⟩ := h
  exact x_call Fk (hr.mono hk) hm hkp kb hd hx ha (fun vs pds H l i a b => by
    subst a
    exact ot_spX l i (pdAll_app b (hg2 _)) hf hw) hg hdb he hpl
/-- f(k = v, ..) -/
theorem x_k0 {CX : CXT} {k j : Nat} {d : He.DefD} {x : Str} {ps ks : List Str} {F : List Pd → Oc → Prop} {E : XK} {zs : List Pd} {gV : List V → List V → List V} (c : Clk X.prog X.w X.K X.mg X.base CX k d ps (spX F)) (hr : Room j X.A) (hk : k ≤ j) (hx : Passes CX X E) (hxn : d.name = x)
    (hb : ∀ f fd, FunD X.K d.name d.qual d.params d.body d.scope [] by0 f fd → ∃ g, KBn X.K fd ps 0 ks g gV) (hkw : Xk X w kws τ (fun pds => pds = zs)) (hz : zs.length = ks.length) (rs : List Pd) (hg2 : ∀ (G : Hp) (vs : List V), PdAll G vs zs → PdAll G (gV [] vs) rs)
    (h : ∃ o, F rs o ∧ Wish w P E o) (hg : Gl X x := by rfl) (hdb : (x == ("__debug__" : Str)) = false := by decide)
    (hall : (backToKw pos (keywordEach kws X.env)).all (·.1.isSome) = true := by rfl) (hks : (backToKw pos (keywordEach kws X.env)).filterMap (·.1) = ks := by rfl)
    (hpl : ((backTo pos (starEach [] X.env)).any (·.1) || (backToKw pos (keywordEach kws X.env)).any (·.1.isNone)) = false := by rfl) : Xe X w (.Call (.Name x p) [] kws pos) τ P := fun σ H s Q q => by
  obtain ⟨f, fd, Fk, hm, hkp, FD⟩ := c.ex
  obtain ⟨g, kb⟩ := hb f fd FD
  subst hxn
  have pe : PE X (.Call (.Name d.name p) [] kws pos) (fun σ H Q => kSem X kws σ H fun zs H2 => zs.length = ks.length ∧ spX F (gV [] zs) H2 Q E) := by
    refine ⟨fun pins s σ H Q I h => ?_⟩
    refine wpAny_Call_Name_kw (ld_glob I hg hm ?_ hdb)
    refine PySem.W.callWith_KW0 (h₀ := X.base) I.ok.mod.kin hkp hall (thn (pk_sem.run pos pins s σ H _ I h) fun ws s2 ⟨zs, H2, I2, rz, l2, q2⟩ => ⟨I2.kIn, ?_⟩) hpl
    rw [hks]
    exact run_fnN Fk (hr.mono hk) kb hx I2 .nil rz rfl l2 q2
  refine eSem_of pe (hkw σ H s _ fun us pds2 H2 m2 i2 e2 h2 => ?_)
  subst e2
  refine ⟨(Paired.length h2).trans hz, ?_⟩
  obtain ⟨o, hf, hw⟩ := h
  exact ot_spX (w := w) (s.live.move m2) i2 (hg2 _ _ h2) hf hw Q fun v pd H3 m3 i3 p3 h3 => q v pd H3 (m2.trans m3) i3 p3 h3
end
end Lt
namespace Lt
open PySem PySem.Spec PyProof.Rows L2
section
variable {X : Cx} {w : Vw} {e : Expr} {es : List Expr} {τ : Ty} {P : Pd → Prop} {pos p : Pos} {rest : List Stmt} {D : Ends}
/-- an unpacking whose right side lets something out -/
theorem rn_unpD {ts : List Expr} {js : List Nat} {u : TGs} {k n : Nat} {tpos : Pos} (hc : X.calm = true) (he : Xe X w e τ (fun _ => False)) (hn : NmT X ts js u)
    (hn' : (assignEach ts X.env).length = n := by rfl) (hst : (assignEach ts X.env).findIdx? (·.1) = none := by rfl) (hs : swapsWithSole [.Tuple ts k tpos] e pos.line X.env = pure false := by rfl) (hw : swappedStores [.Tuple ts k tpos] e X.env = pure none := by rfl)
    (h1 : (assignEach [.Tuple ts k tpos] X.env).map (·.2) = [assign (.Tuple ts k tpos) X.env] := by rfl) : Rn X w (.Assign [.Tuple ts k tpos] e pos :: rest) τ D := fun σ H s =>
  cons_of (ps_asg pe_sem (pg_tup hc hn.pgs hn' hst) hs hw h1) (he σ H s _ fun v pd H1 m i z hv => z.elim)
end
/-- how a slip is received, up to where all is in order -/
def Pre (M : Ad) (n C : Nat) (nd kd x : PyData) (o : Oc) (R : Nat → List Slip → Slip → Prop) : Prop :=
  (isIdxD nd n = false ∧ o = .exc M.cr 0) ∨ ∃ now : Nat, now < n ∧ nd = .int now ∧ ((∃ l, BadD C kd l ∧ o = .exc M.ci l.length) ∨ ∃ l, HeapD C kd l ∧
    ((isSlipD C x = false ∧ o = .exc M.ci 0) ∨ ∃ y : Slip, x = slipD y ∧ y.2 < C ∧ ((y.1 ∈ times l ∧ o = .exc M.cr 1) ∨ ((∀ z ∈ l, z.1 ≠ y.1) ∧ R now l y))))
section
variable {P : Program} {w : World} {K : PySem.W.Frag} {mg : Str → Option Value} {base : Heap} {M : Ad}
def F_ways (K : PySem.W.Frag) (M : Ad) : List Pd → Oc → Prop := fun pds o => ∃ (T : Tb) (C : Nat) (nd kd x : PyData), pds = [mach K M.cm T C, dat K nd, dat K kd, dat K (.tuple [x])] ∧ Ok T C ∧ T.length < 1000 ∧ C ≤ 1000 ∧
  Pre M T.length C nd kd x o fun now l y => l.length ≤ 400 ∧ o = .val (dat K (.tuple [natsT (waysB T now (sortS l)), natsT (cmds (ins y (sortS l)))]))
theorem asc_heap {C : Nat} {l : List Slip} (hc : Cmds C (cmds l)) (ha : Asc l) (hl : l.length ≤ 500) : HeapD C (slipsT l) l := ⟨.inr rfl, hc, asc_apart ha, hl⟩
theorem sc_waysBack : FnScope ["machine", "now", "kept", "late", "some"] ["machine", "now", "kept", "late"] (defScope sWaysBack) := ⟨rfl, rfl, rfl, by decide +kernel, rfl, by decide +kernel, by decide +kernel⟩
theorem cl_waysBack (T : Tt P w K mg base M) : Cl P w K mg base (L2.CX P w) 8 "ways_back" ["machine", "now", "kept", "late"] (spX (F_ways K M)) := by
  refine Cl.mk' (d := dWaysBack) (T.tx.df 19 _ rfl rfl rfl) (fun f fd F => fn_x F sc_waysBack (fun pds r h => ?_) fun cdv A outer s H E hr S H0 pds o Q h q => ?_) (fun _ _ _ _ _ _ us hl => match us, hl with | [_, _, _, _], _ => rfl)
  · obtain ⟨t, C, nd, kd, x, e1, _⟩ := h
    subst e1; rfl
  obtain ⟨t, C, nd, kd, x, e1, ok, hn, hC, hc⟩ := h
  subst e1
  rcases hc with ⟨hi, rfl⟩ | ⟨now, h1, rfl, ⟨l, hb, rfl⟩ | ⟨l, hg, hc⟩⟩
  · exact rn_asg (i := 4) (P := fun _ => False) (x_clE (E := E) (cl_beginnings T) hr (by decide) passX (ap_cons (nP 0) (ap_cons (nP 1) (ap_cons (nP 2) ap_nil))) ⟨t, C, nd, kd, rfl, ok, hn, hC, .inl ⟨hi, rfl⟩⟩ .rfl' q) (fun _ z => z.elim) sc_waysBack.nd rfl (Or.inl rfl)
  · exact rn_asg (i := 4) (P := fun _ => False) (x_clE (E := E) (cl_beginnings T) hr (by decide) passX (ap_cons (nP 0) (ap_cons (nP 1) (ap_cons (nP 2) ap_nil))) ⟨t, C, .int now, kd, rfl, ok, hn, hC, .inr ⟨now, h1, rfl, .inl ⟨l, hb, rfl⟩⟩⟩ .rfl' q) (fun _ z => z.elim) sc_waysBack.nd rfl (Or.inl rfl)
  refine rn_asg (i := 4) (x_clV (E := E) (cl_beginnings T) hr (by decide) passX (ap_cons (nP 0) (ap_cons (nP 1) (ap_cons (nP 2) ap_nil))) ⟨t, C, .int now, kd, rfl, ok, hn, hC, .inr ⟨now, h1, rfl, .inr ⟨l, hg, rfl⟩⟩⟩) (fun pd hp => ?_) sc_waysBack.nd rfl (Or.inl rfl)
  subst hp
  have bad : ∀ (C' : Addr) (n : Int), o = .exc C' n → F_joined K M [mach K M.cm t C, dat K kd, dat K (.tuple [x]), dat K (.int 1)] (.exc C' n) → Rn (cxOf (L2.CX P w) P w K mg base ["machine", "now", "kept", "late", "some"] dWaysBack.qual (defScope sWaysBack) f cdv A outer s H E) (Vw.pure S H0) (dWaysBack.body.drop 1) [some (mach K M.cm t C), some (dat K (.int now)), some (dat K kd), some (dat K (.tuple [x])), some (dat K (natsT (waysB t now (sortS l))))] (fin Q) := by
    intro C' n ho hF
    subst ho
    refine rn_ret (P := isD K fun _ => False) (x_tup (C := fun _ => False) (xa_cons (PB := fun _ => False) (nP 4) (xa_cons (PA' := fun _ => False) (x_clX (E := E) (PA' := fun _ => False) (cl_rowOf T) hr (by decide) passX (xa_cons (PB := fun _ => False) (nP 0) (xa_cons (PA' := fun _ => False) (x_clE (E := E) (cl_joined T) hr (by decide) passX (ap_cons (nP 0) (ap_cons (nP 2) (ap_cons (nP 3) (ap_cons (Xe.eqI (cI 1)) ap_nil)))) hF .rfl' q) ap_nil fun _ _ h _ => h) fun _ _ _ h => h) fun _ h => h.elim) ap_nil fun _ _ h _ => h) fun _ _ _ h => h.elim) (fun _ h => h.elim) (fun _ h => h.elim))
      (fun v pd H lv i ⟨d, _, z⟩ => z.elim)
  rcases hc with ⟨hs, ho⟩ | ⟨y, rfl, hy, ⟨hm, ho⟩ | ⟨hm, l4, ho⟩⟩
  · exact bad _ _ ho ⟨t, C, kd, l, x, 1, rfl, hg, .inl ⟨hs, rfl⟩⟩
  · exact bad _ _ ho ⟨t, C, kd, l, _, 1, rfl, hg, .inr ⟨y, rfl, hy, .inl ⟨hm, rfl⟩⟩⟩
  · subst ho
    have new : ∀ z ∈ sortS l, z.1 ≠ y.1 := fun z hz => hm z ((sortS_perm l).mem_iff.mp hz)
    have asc := ins_asc (sortS_asc hg.ap) new
    have hI : HeapD C (slipsT (ins y (sortS l))) (ins y (sortS l)) := asc_heap (ins_cmds hy (sortS_cmds hg.cm)) asc (by rw [ins_len, sortS_len]; omega)
    refine rn_retP q .rfl' rfl (Xe.ret (v_tup (a_cons (nD 4) (a_cons (Xe.ofP (x_clV (E := E) (cl_rowOf T) hr (by decide) passX (ap_cons (nP 0) (ap_cons (x_clV (E := E) (cl_joined T) hr (by decide) passX (ap_cons (nP 0) (ap_cons (nP 2) (ap_cons (nP 3) (ap_cons (Xe.eqI (cI 1)) ap_nil)))) ⟨t, C, kd, l, _, 1, rfl, hg, .inr ⟨y, rfl, hy, .inr ⟨hm, rfl⟩⟩⟩) ap_nil))
      ⟨t, C, _, rfl, .inl ⟨_, hI, rfl⟩⟩)) a_nil))) (by rw [sortS_asc_eq asc]))
/-! ### redone, receive, receive_all -/
def F_redone (K : PySem.W.Frag) (M : Ad) : List Pd → Oc → Prop := fun pds o => ∃ (T : Tb) (C : Nat) (nd kd x : PyData) (b : Nat), pds = [mach K M.cm T C, dat K nd, dat K kd, dat K (.tuple [x]), dat K (.int b)] ∧ Ok T C ∧ T.length < 1000 ∧ C ≤ 1000 ∧
  Pre M T.length C nd kd x o fun now l y => l.length ≤ 400 ∧ o = if waysB T now (sortS l) = [] then .exc M.cr 2 else .val (dat K (.int (led T ((waysB T now (sortS l)).getD (b % (waysB T now (sortS l)).length) 0) (cmds (ins y (sortS l))) : Nat)))
theorem sc_redone : FnScope ["machine", "now", "kept", "late", "by", "some", "row"] ["machine", "now", "kept", "late", "by"] (defScope sRedone) := ⟨rfl, rfl, rfl, by decide +kernel, rfl, by decide +kernel, by decide +kernel⟩
theorem cl_redone (T : Tt P w K mg base M) : Clk P w K mg base (L2.CX P w) 9 dRedone ["machine", "now", "kept", "late", "by"] (spX (F_redone K M)) := by
  refine Clk.mk' T.k1 (fun f fd F => fn_x F sc_redone (fun pds r h => ?_) fun cdv A outer s H E hr S H0 pds o Q h q => ?_)
  · obtain ⟨t, C, nd, kd, x, b, e1, _⟩ := h
    subst e1; rfl
  obtain ⟨t, C, nd, kd, x, b, e1, ok, hn, hC, hc⟩ := h
  subst e1
  have args : ∀ {p1 p2 p3 p4 : Pos}, Xa (cxOf (L2.CX P w) P w K mg base ["machine", "now", "kept", "late", "by", "some", "row"] dRedone.qual (defScope sRedone) f cdv A outer s H E) (Vw.pure S H0) [.Name "machine" p1, .Name "now" p2, .Name "kept" p3, .Name "late" p4] (startT 7 [mach K M.cm t C, dat K nd, dat K kd, dat K (.tuple [x]), dat K (.int b)]) (fun pds => pds = [mach K M.cm t C, dat K nd, dat K kd, dat K (.tuple [x])]) :=
    ap_cons (nP 0) (ap_cons (nP 1) (ap_cons (nP 2) (ap_cons (nP 3) ap_nil)))
  have nt : ∀ {p1 p2 : Pos}, NmT (cxOf (L2.CX P w) P w K mg base ["machine", "now", "kept", "late", "by", "some", "row"] dRedone.qual (defScope sRedone) f cdv A outer s H E) [.Name "some" p1, .Name "row" p2] [5, 6] (gCons (gName 5) (gCons (gName 6) gNil)) := .cons (pg_name sc_redone.nd rfl (Or.inl rfl)) (.cons (pg_name sc_redone.nd rfl (Or.inl rfl)) .nil rfl) rfl
  have bad : ∀ (C' : Addr) (n : Int), o = .exc C' n → F_ways K M [mach K M.cm t C, dat K nd, dat K kd, dat K (.tuple [x])] (.exc C' n) → Rn (cxOf (L2.CX P w) P w K mg base ["machine", "now", "kept", "late", "by", "some", "row"] dRedone.qual (defScope sRedone) f cdv A outer s H E) (Vw.pure S H0) dRedone.body (startT 7 [mach K M.cm t C, dat K nd, dat K kd, dat K (.tuple [x]), dat K (.int b)]) (fin Q) := by
    intro C' n ho hF
    subst ho
    exact rn_unpD rfl (x_clE (E := E) (cl_waysBack T) hr (by decide) passX args hF .rfl' q) nt
  rcases hc with ⟨hi, ho⟩ | ⟨now, h1, rfl, ⟨l, hb, ho⟩ | ⟨l, hg, ⟨hs, ho⟩ | ⟨y, rfl, hy, ⟨hm, ho⟩ | ⟨hm, l4, ho⟩⟩⟩⟩
  · exact bad _ _ ho ⟨t, C, nd, kd, x, rfl, ok, hn, hC, .inl ⟨hi, rfl⟩⟩
  · exact bad _ _ ho ⟨t, C, _, kd, x, rfl, ok, hn, hC, .inr ⟨now, h1, rfl, .inl ⟨l, hb, rfl⟩⟩⟩
  · exact bad _ _ ho ⟨t, C, _, kd, x, rfl, ok, hn, hC, .inr ⟨now, h1, rfl, .inr ⟨l, hg, .inl ⟨hs, rfl⟩⟩⟩⟩
  · exact bad _ _ ho ⟨t, C, _, kd, _, rfl, ok, hn, hC, .inr ⟨now, h1, rfl, .inr ⟨l, hg, .inr ⟨y, rfl, hy, .inl ⟨hm, rfl⟩⟩⟩⟩⟩
  have wl : (waysB t now (sortS l)).length ≤ t.length := waysT_len t now (sortS l) t.length
  refine rn_unp (qs := [dat K (natsT (waysB t now (sortS l))), dat K (natsT (cmds (ins y (sortS l))))]) rfl (Xe.tup (ds := [natsT (waysB t now (sortS l)), natsT (cmds (ins y (sortS l)))]) (x_clV (E := E) (cl_waysBack T) hr (by decide) passX args ⟨t, C, _, kd, _, rfl, ok, hn, hC, .inr ⟨now, h1, rfl, .inr ⟨l, hg, .inr ⟨y, rfl, hy, .inr ⟨hm, l4, rfl⟩⟩⟩⟩⟩)) nt rfl rfl ?_
  refine rn_if (t_eq (v_len (ds := nats (waysB t now (sortS l))) T.tx.len (nD 5) (.inr rfl)) (cI 0)) (fun h => ?_) (fun h => ?_)
  · have e : waysB t now (sortS l) = [] := by
      have h' := of_decide_eq_true h.symm
      rw [nats_len] at h'
      exact List.length_eq_zero_iff.mp (by omega)
    rw [if_pos e] at ho
    subst ho
    exact rn_raiseX (E := E) T.ecR hr (by decide) takesX q .rfl' (cI 2)
  · have e : ¬ waysB t now (sortS l) = [] := fun z => by
      have h' := of_decide_eq_false h.symm
      rw [nats_len, z] at h'
      exact h' rfl
    rw [if_neg e] at ho
    subst ho
    have lp : 0 < (waysB t now (sortS l)).length := List.length_pos_iff.mpr e
    have ib : b % (waysB t now (sortS l)).length < (waysB t now (sortS l)).length := Nat.mod_lt _ lp
    refine rn_out (rn_retP q .rfl' rfl (x_clP (cl_led T.tx) hr (by decide) pass0 (ap_cons (nP 0) (ap_cons (Xe.eqI (v_at (f := waysB t now (sortS l)) (s := b % (waysB t now (sortS l)).length) ib (nD 5) (.inl rfl) (x_mod (nI 4) (v_len (ds := nats (waysB t now (sortS l))) T.tx.len (nD 5) (.inr rfl)) (fun i j h1 h2 => by rw [h2, nats_len]; omega) fun i j h1 h2 => by rw [h1, h2, nats_len]; rfl))) (ap_cons (nP 6) ap_nil)))
      fun pds e2 => ⟨_, ⟨t, C, _, _, e2, ok, ways_lt e, ins_cmds hy (sortS_cmds hg.cm), rfl⟩, rfl⟩))
end
end Lt
namespace Lt
open PySem PySem.Spec PyProof.Rows L2
def pairD (p : Nat × List Slip) : PyData := .tuple [.int p.1, slipsT p.2]
section
variable {P : Program} {w : World} {K : PySem.W.Frag} {mg : Str → Option Value} {base : Heap} {M : Ad}
abbrev gApp : List V → List V → List V := fun vs zs => vs ++ zs
theorem kb_redone (f : Addr) (fd : FuncData) (F : FunD K dRedone.name dRedone.qual dRedone.params dRedone.body dRedone.scope [] by0 f fd) : ∃ g, KBn K fd ["machine", "now", "kept", "late", "by"] 4 ["by"] g gApp := by
  obtain ⟨oc, od, dV, kV, doc, pm, an, cdv, ct, osl, rfl, lk, hcd, hD, _⟩ := F.ex
  rcases hD with ⟨_, rfl⟩ | ⟨z, _⟩
  case inr => exact absurd rfl z
  exact ⟨fun us ws => us ++ ws, fun s us ws _ h1 h2 => match us, ws, h1, h2 with | [_, _, _, _], [_], _, _ => BindsTo.of_eq rfl, fun r1 r2 => r1.append r2⟩
theorem kb_receive (f : Addr) (fd : FuncData) (F : FunD K dReceive.name dReceive.qual dReceive.params dReceive.body dReceive.scope [] by0 f fd) : ∃ g, KBn K fd ["machine", "now", "kept", "slip", "by"] 4 ["by"] g gApp := by
  obtain ⟨oc, od, dV, kV, doc, pm, an, cdv, ct, osl, rfl, lk, hcd, hD, _⟩ := F.ex
  rcases hD with ⟨_, rfl⟩ | ⟨z, _⟩
  case inr => exact absurd rfl z
  exact ⟨fun us ws => us ++ ws, fun s us ws _ h1 h2 => match us, ws, h1, h2 with | [_, _, _, _], [_], _, _ => BindsTo.of_eq rfl, fun r1 r2 => r1.append r2⟩
def F_receive (K : PySem.W.Frag) (M : Ad) : List Pd → Oc → Prop := fun pds o => ∃ (T : Tb) (C : Nat) (nd kd x : PyData) (b : Nat), pds = [mach K M.cm T C, dat K nd, dat K kd, dat K x, dat K (.int b)] ∧ Ok T C ∧ T.length < 1000 ∧ C ≤ 1000 ∧
  Pre M T.length C nd kd x o fun now l y => l.length ≤ 400 ∧ o = match after T C now (sortS l) y b with
    | none => .exc M.cr 2
    | some p => .val (dat K (pairD p))
theorem sc_receive : FnScope ["machine", "now", "kept", "slip", "by", "state"] ["machine", "now", "kept", "slip", "by"] (defScope sReceive) := ⟨rfl, rfl, rfl, by decide +kernel, rfl, by decide +kernel, by decide +kernel⟩
theorem cl_receive (T : Tt P w K mg base M) : Clk P w K mg base (L2.CX P w) 10 dReceive ["machine", "now", "kept", "slip", "by"] (spX (F_receive K M)) := by
  refine Clk.mk' T.k2 (fun f fd F => fn_x F sc_receive (fun pds r h => ?_) fun cdv A outer s H E hr S H0 pds o Q h q => ?_)
  · obtain ⟨t, C, nd, kd, x, b, e1, _⟩ := h
    subst e1; rfl
  obtain ⟨t, C, nd, kd, x, b, e1, ok, hn, hC, hc⟩ := h
  subst e1
  have bad : ∀ (C' : Addr) (n : Int), o = .exc C' n → F_redone K M [mach K M.cm t C, dat K nd, dat K kd, dat K (.tuple [x]), dat K (.int b)] (.exc C' n) → Rn (cxOf (L2.CX P w) P w K mg base ["machine", "now", "kept", "slip", "by", "state"] dReceive.qual (defScope sReceive) f cdv A outer s H E) (Vw.pure S H0) dReceive.body (startT 6 [mach K M.cm t C, dat K nd, dat K kd, dat K x, dat K (.int b)]) (fin Q) := by
    intro C' n ho hF
    subst ho
    refine rn_asg (i := 5) (P := fun _ => False) (x_kN (E := E) (gV := gApp) (cl_redone T) hr (by decide) passX rfl kb_redone (ap_cons (nP 0) (ap_cons (nP 1) (ap_cons (nP 2) (ap_cons (Xe.eq (v_tup (a_cons (nD 3) a_nil))) ap_nil)))) (kp_cons (nP 4) kp_nil) rfl rfl [mach K M.cm t C, dat K nd, dat K kd, dat K (.tuple [x]), dat K (.int b)] (fun G us vs h1 h2 => pdAll_app h1 h2)
      ⟨.exc C' n, hF, fun d H' i hd => q d H' i.1 hd⟩) (fun _ z => z.elim) sc_receive.nd rfl (Or.inl rfl)
  rcases hc with ⟨hi, ho⟩ | ⟨now, h1, rfl, ⟨l, hb, ho⟩ | ⟨l, hg, ⟨hs, ho⟩ | ⟨y, rfl, hy, ⟨hm, ho⟩ | ⟨hm, l4, ho⟩⟩⟩⟩
  · exact bad _ _ ho ⟨t, C, nd, kd, x, b, rfl, ok, hn, hC, .inl ⟨hi, rfl⟩⟩
  · exact bad _ _ ho ⟨t, C, _, kd, x, b, rfl, ok, hn, hC, .inr ⟨now, h1, rfl, .inl ⟨l, hb, rfl⟩⟩⟩
  · exact bad _ _ ho ⟨t, C, _, kd, x, b, rfl, ok, hn, hC, .inr ⟨now, h1, rfl, .inr ⟨l, hg, .inl ⟨hs, rfl⟩⟩⟩⟩
  · exact bad _ _ ho ⟨t, C, _, kd, _, b, rfl, ok, hn, hC, .inr ⟨now, h1, rfl, .inr ⟨l, hg, .inr ⟨y, rfl, hy, .inl ⟨hm, rfl⟩⟩⟩⟩⟩
  by_cases e : waysB t now (sortS l) = []
  · have ea : after t C now (sortS l) y b = none := if_pos e
    rw [ea] at ho
    exact bad _ _ ho ⟨t, C, _, kd, _, b, rfl, ok, hn, hC, .inr ⟨now, h1, rfl, .inr ⟨l, hg, .inr ⟨y, rfl, hy, .inr ⟨hm, l4, by rw [if_pos e]⟩⟩⟩⟩⟩
  have ea : after t C now (sortS l) y b = some (led t ((waysB t now (sortS l)).getD (b % (waysB t now (sortS l)).length) 0) (cmds (ins y (sortS l))), tray t C (ins y (sortS l))) := if_neg e
  rw [ea] at ho
  subst ho
  have new : ∀ z ∈ sortS l, z.1 ≠ y.1 := fun z hz => hm z ((sortS_perm l).mem_iff.mp hz)
  have asc := ins_asc (sortS_asc hg.ap) new
  have hI : HeapD C (slipsT (ins y (sortS l))) (ins y (sortS l)) := asc_heap (ins_cmds hy (sortS_cmds hg.cm)) asc (by rw [ins_len, sortS_len]; omega)
  refine rn_asg (i := 5) (x_kN (E := E) (gV := gApp) (P := fun pd => pd = dat K (.int (led t ((waysB t now (sortS l)).getD (b % (waysB t now (sortS l)).length) 0) (cmds (ins y (sortS l))) : Nat))) (cl_redone T) hr (by decide) passX rfl kb_redone (ap_cons (nP 0) (ap_cons (nP 1) (ap_cons (nP 2) (ap_cons (Xe.eq (v_tup (a_cons (nD 3) a_nil))) ap_nil)))) (kp_cons (nP 4) kp_nil) rfl rfl
    [mach K M.cm t C, dat K (.int now), dat K kd, dat K (.tuple [slipD y]), dat K (.int b)] (fun G us vs h1 h2 => pdAll_app h1 h2) ⟨.val _, ⟨t, C, _, kd, _, b, rfl, ok, hn, hC, .inr ⟨now, h1, rfl, .inr ⟨l, hg, .inr ⟨y, rfl, hy, .inr ⟨hm, l4, by rw [if_neg e]; rfl⟩⟩⟩⟩⟩, rfl⟩) (fun pd hp => ?_) sc_receive.nd rfl (Or.inl rfl)
  subst hp
  refine rn_retP q .rfl' rfl (Xe.ret (v_tup (a_cons (nD 5) (a_cons (Xe.ofP (x_clV (E := E) (cl_tray T) hr (by decide) passX (ap_cons (nP 0) (ap_cons (x_clV (E := E) (cl_putIn T) hr (by decide) passX (ap_cons (nP 0) (ap_cons (nP 2) (ap_cons (nP 3) ap_nil))) ⟨t, C, kd, l, y, rfl, hg, hy, hm, rfl⟩) ap_nil))
    ⟨t, C, _, _, rfl, ok, hn, hC, hI, rfl⟩)) a_nil))) (by rw [sortS_asc_eq asc]; rfl))
def F_recvAll (K : PySem.W.Frag) (M : Ad) : List Pd → Oc → Prop := fun pds o => ∃ (T : Tb) (C : Nat) (sd d : PyData) (b : Nat), pds = [mach K M.cm T C, dat K sd, dat K d, dat K (.int b)] ∧ Ok T C ∧ T.length < 1000 ∧ C ≤ 1000 ∧
  ((isIdxD sd T.length = false ∧ o = .exc M.cr 0) ∨ ∃ s : Nat, s < T.length ∧ sd = .int s ∧ ((∃ l, BadD C d l ∧ o = .exc M.ci l.length) ∨ ∃ l, HeapD C d l ∧ l.length ≤ 400 ∧ o = match runA T C b (s, []) l with
    | none => .exc M.cr 2
    | some p => .val (dat K (pairD p))))
theorem sc_receiveAll : FnScope ["machine", "state", "slips", "by", "now", "kept", "slip"] ["machine", "state", "slips", "by"] (defScope sReceiveAll) := ⟨rfl, rfl, rfl, by decide +kernel, rfl, by decide +kernel, by decide +kernel⟩
theorem cl_receiveAll (T : Tt P w K mg base M) : Clk P w K mg base (L2.CX P w) 11 dReceiveAll ["machine", "state", "slips", "by"] (spX (F_recvAll K M)) := by
  refine Clk.mk' T.k3 (fun f fd F => fn_x F sc_receiveAll (fun pds r h => ?_) fun cdv A outer s H E hr S H0 pds o Q h q => ?_)
  · obtain ⟨t, C, sd, d, b, e1, _⟩ := h
    subst e1; rfl
  obtain ⟨t, C, sd, d, b, e1, ok, hn, hC, hc⟩ := h
  subst e1
  refine rn_if (T := eT (!isIdxD sd t.length)) (t_not (t_val (Xe.toB (Xe.ofP (x_clP (cl_isIndex T.tx) hr (by decide) pass0 (ap_cons (nP 1) (ap_cons (Xe.eqI (v_states T.tx.cls T.tx.na2 (nP 0))) ap_nil)) fun pds e => ⟨_, ⟨sd, (t.length : Int), e, rfl⟩, rfl⟩))))) (fun h => ?_) (fun h => ?_)
  · rcases hc with ⟨_, rfl⟩ | ⟨s0, h1, rfl, _⟩
    · exact rn_raiseX (E := E) T.ecR hr (by decide) takesX q .rfl' (cI 0)
    · rw [isIdx_nat h1] at h; cases h
  refine rn_out ?_
  rcases hc with ⟨h1, _⟩ | ⟨s0, h1, rfl, hc⟩
  · rw [h1] at h; cases h
  rcases hc with ⟨l, hb, rfl⟩ | ⟨l, hg, l4, ho⟩
  · have dead : ∀ {rest : List Stmt} {τ : Ty} {e : Expr} {p : Pos} {D : Ends}, Xe (cxOf (L2.CX P w) P w K mg base ["machine", "state", "slips", "by", "now", "kept", "slip"] dReceiveAll.qual (defScope sReceiveAll) f cdv A outer s H E) (Vw.pure S H0) e τ (fun _ => False) → swapsWith e none p.line (cxOf (L2.CX P w) P w K mg base ["machine", "state", "slips", "by", "now", "kept", "slip"] dReceiveAll.qual (defScope sReceiveAll) f cdv A outer s H E).env = pure false →
        Rn (cxOf (L2.CX P w) P w K mg base ["machine", "state", "slips", "by", "now", "kept", "slip"] dReceiveAll.qual (defScope sReceiveAll) f cdv A outer s H E) (Vw.pure S H0) (.Expr e p :: rest) τ D := fun he hs σ H s => cons_of (ps_expr pe_sem hs) (he σ H s _ fun v pd H1 m1 i1 z _ => z.elim)
    exact dead (x_clE (E := E) (cl_checkedHeap T) hr (by decide) passX (ap_cons (nP 0) (ap_cons (nP 2) ap_nil)) ⟨t, C, d, rfl, .inr ⟨l, hb, rfl⟩⟩ .rfl' q) rfl
  refine rn_expr (x_clV (E := E) (cl_checkedHeap T) hr (by decide) passX (ap_cons (nP 0) (ap_cons (nP 2) ap_nil)) ⟨t, C, d, rfl, .inl ⟨l, hg, rfl⟩⟩) ?_
  refine rn_par (i := 4) (j := 5) rfl (nP 1) (Xe.eq (v_tup (ds := []) a_nil)) (fun p1 p2 e1 e2 => ?_) sc_receiveAll.nd rfl rfl (by decide) rfl rfl rfl
  subst e1; subst e2
  have src : ∀ {tg : Expr} {p : Pos} {τ : Ty}, τ[2]? = some (some (dat K d)) → Xi (cxOf (L2.CX P w) P w K mg base ["machine", "state", "slips", "by", "now", "kept", "slip"] dReceiveAll.qual (defScope sReceiveAll) f cdv A outer s H E) (Vw.pure S H0) tg (.Name "slips" p) τ (fun y => y = slips l) := fun ht => by
    rcases hg.seq with rfl | rfl
    · exact wi_list (nD 2 ht)
    · exact wi_tup (nD 2 ht)
  refine rn_for (passes_of rfl) rfl (src rfl) (pg_name (i := 6) sc_receiveAll.nd rfl (Or.inl rfl)) (tgr_name 6) (fun _ _ _ _ _ => trivial)
    (fun wb ds i w' τ' => w' = wb ∧ ∃ p o1, runA t C b (s0, []) (l.take i) = some p ∧ τ' = [some (mach K M.cm t C), some (dat K (.int s0)), some (dat K d), some (dat K (.int b)), some (dat K (.int p.1)), some (dat K (slipsT p.2)), o1])
    (fun wb ds lk e => ⟨rfl, (s0, []), none, by rw [List.take_zero]; rfl, rfl⟩) (fun wb ds i w' τ' lk h => ⟨by rw [h.1]; exact lk.S, fun H h' => by rw [h.1] at h'; exact h'⟩)
    (fun wb ds i x w' τ' lk e h hx => ?_) (fun wb ds w' τ' lk e h => ?_)
  · obtain ⟨rfl, p, o1, hp, rfl⟩ := h
    subst e
    obtain ⟨y, hy, rfl⟩ := slips_inv hx
    have hyc : y.2 < C := hg.cm _ (List.mem_map.mpr ⟨y, List.mem_of_getElem? hy, rfl⟩)
    have st : Stage t C (l.take i) p := by
      have z := Stage.run ok (Stage.start h1) (l := l.take i) (by_ := b) (fun c hc => by
        obtain ⟨z, hz, rfl⟩ := List.mem_map.mp hc
        exact hg.cm _ (List.mem_map.mpr ⟨z, List.mem_of_mem_take hz, rfl⟩)) (by
        rw [List.nil_append]
        exact apart_left (m := l.drop i) (by rw [List.take_append_drop]; exact hg.ap)) hp
      rw [List.nil_append] at z
      exact z
    have pl : p.2.length ≤ 400 := by
      have h1 := st.len
      rw [List.length_take] at h1
      omega
    have hk : HeapD C (slipsT p.2) p.2 := asc_heap st.cm st.asc (by omega)
    have new : ∀ z ∈ p.2, z.1 ≠ y.1 := fun z hz e => apart_take hg.ap hy (List.mem_map.mpr ⟨z, st.sub z hz, e⟩)
    have nx := runA_take (T := t) (C := C) (by_ := b) (p := (s0, [])) hy
    rw [hp] at nx
    have nx' : runA t C b (s0, []) (l.take (i + 1)) = after t C p.1 p.2 y b := nx
    have nt : ∀ {p1 p2 : Pos}, NmT (cxOf (L2.CX P w) P w K mg base ["machine", "state", "slips", "by", "now", "kept", "slip"] dReceiveAll.qual (defScope sReceiveAll) f cdv A outer s H E) [.Name "now" p1, .Name "kept" p2] [4, 5] (gCons (gName 4) (gCons (gName 5) gNil)) := .cons (pg_name sc_receiveAll.nd rfl (Or.inl rfl)) (.cons (pg_name sc_receiveAll.nd rfl (Or.inl rfl)) .nil rfl) rfl
    have up : Up (Vw.pure S H0) w' := Up.rfl'.lk lk
    cases ea : after t C p.1 p.2 y b with
    | none =>
      rw [ea] at nx'
      have en := runA_none nx'
      rw [en] at ho
      subst ho
      exact rn_unpD rfl (x_kN (E := E) (gV := gApp) (cl_receive T) hr (by decide) passX rfl kb_receive (ap_cons (nP 0) (ap_cons (nP 4) (ap_cons (nP 5) (ap_cons (nP 6) ap_nil)))) (kp_cons (nP 3) kp_nil) rfl rfl [mach K M.cm t C, dat K (.int p.1), dat K (slipsT p.2), dat K (slipD y), dat K (.int b)] (fun G us vs h1 h2 => pdAll_app h1 h2)
        ⟨.exc M.cr 2, ⟨t, C, _, _, _, b, rfl, ok, hn, hC, .inr ⟨p.1, st.now, rfl, .inr ⟨p.2, hk, .inr ⟨y, rfl, hyc, .inr ⟨new, pl, by rw [sortS_asc_eq st.asc, ea]⟩⟩⟩⟩⟩, fun d H' i hd => q d H' (up.J i.1) hd⟩) nt
    | some p' =>
      rw [ea] at nx'
      refine rn_unp (qs := [dat K (.int p'.1), dat K (slipsT p'.2)]) rfl (Xe.tup (ds := [.int p'.1, slipsT p'.2]) (x_kN (E := E) (gV := gApp) (cl_receive T) hr (by decide) passX rfl kb_receive (ap_cons (nP 0) (ap_cons (nP 4) (ap_cons (nP 5) (ap_cons (nP 6) ap_nil)))) (kp_cons (nP 3) kp_nil) rfl rfl [mach K M.cm t C, dat K (.int p.1), dat K (slipsT p.2), dat K (slipD y), dat K (.int b)] (fun G us vs h1 h2 => pdAll_app h1 h2)
        ⟨.val (dat K (pairD p')), ⟨t, C, _, _, _, b, rfl, ok, hn, hC, .inr ⟨p.1, st.now, rfl, .inr ⟨p.2, hk, .inr ⟨y, rfl, hyc, .inr ⟨new, pl, by rw [sortS_asc_eq st.asc, ea]; rfl⟩⟩⟩⟩⟩, rfl⟩)) nt rfl rfl ?_
      exact rn_nil fun σ H s => ⟨_, _, ⟨rfl, p', _, nx', rfl⟩, s⟩
  · obtain ⟨rfl, p, o1, hp, rfl⟩ := h
    subst e
    rw [slips_len, List.take_length] at hp
    rw [hp] at ho
    subst ho
    exact rn_retP q (Up.rfl'.lk lk) rfl (Xe.ret (v_tup (a_cons (nD 4) (a_cons (nD 5) a_nil))) rfl)
end
end Lt
namespace Lt
open PySem PySem.Spec PyProof.Rows L2
/-! ### the deal: a list of numbers and a number -/
def natV (ns : List Nat) : List V := ns.map fun (n : Nat) => V.int n
structure DealAt (d l : Addr) (H : Hp) : Prop where
  ex : ∃ (b : Nat) (ns : List Nat), H d = some (.lst [.ref l, .int b]) ∧ H l = some (.lst (natV ns)) ∧ ns.length ≤ 1000
theorem DealAt.same {d l : Addr} {H H' : Hp} (a : DealAt d l H) (e : Same H H') : DealAt d l H' := by
  obtain ⟨b, ns, h1, h2, h3⟩ := a.ex
  exact ⟨b, ns, e _ _ h1, e _ _ h2, h3⟩
theorem DealAt.ne {d l : Addr} {H : Hp} (a : DealAt d l H) : d ≠ l := fun z => by
  obtain ⟨b, ns, h1, h2, _⟩ := a.ex
  rw [z, h2] at h1
  have e := HO.lst.inj (Option.some.inj h1)
  cases ns with
  | nil => cases e
  | cons n r =>
    have e1 := (List.cons.inj e).1
    cases e1
theorem DealAt.upd {d l p : Addr} {H : Hp} {o : HO} (a : DealAt d l H) (h1 : p ≠ d) (h2 : p ≠ l) : DealAt d l (upd H p o) := by
  obtain ⟨b, ns, e1, e2, h3⟩ := a.ex
  exact ⟨b, ns, by rw [upd_ne (Ne.symm h1)]; exact e1, by rw [upd_ne (Ne.symm h2)]; exact e2, h3⟩
/-- what draws may change the deal, nothing else -/
def Vw.deal (S : List Addr) (d l : Addr) (hd : d ∈ S) (hl : l ∈ S) (H0 : Hp) : Vw where
  S := S
  M := [d, l]
  J := fun H => Exm [d, l] H0 H ∧ DealAt d l H
  ok := DealAt d l
  own := []
  sub := fun a m => by
    rcases List.mem_cons.mp m with rfl | m
    · exact hd
    · have : a = l := by simpa using m
      subst this; exact hl
  jst := fun e h => ⟨h.1.trans (Exm.same e), h.2.same e⟩
  jok := fun h => h.2
  jmv := fun e k h => ⟨h.1.trans e, k⟩
  jnw := fun {H p} h n => by
    obtain ⟨b, ns, e1, e2, _⟩ := h.2.ex
    have p1 : p ≠ d := fun z => by rw [z, e1] at n; cases n
    have p2 : p ≠ l := fun z => by rw [z, e2] at n; cases n
    have p0 : H0 p = none := by
      cases q : H0 p with
      | none => rfl
      | some o => exact absurd n (h.1.there _ (by rw [q]; intro z; cases z))
    exact ⟨fun m => by
      rcases List.mem_cons.mp m with z | m
      · exact p1 z
      · exact p2 (by simpa using m), fun h' => ⟨h'.1.upd_new p0, h'.2.upd p1 p2⟩⟩
  ow := fun _ h => nomatch h
  nd := List.nodup_nil
/-- a view grown from that -/
structure Dv (d l : Addr) (w0 w : Vw) : Prop where
  up : Up w0 w
  M : w.M = [d, l]
  ok : w.ok = DealAt d l
theorem Dv.rfl' {S : List Addr} {d l : Addr} {hd : d ∈ S} {hl : l ∈ S} {H0 : Hp} : Dv d l (Vw.deal S d l hd hl H0) (Vw.deal S d l hd hl H0) := ⟨Up.rfl', rfl, rfl⟩
theorem Dv.add {d l : Addr} {w0 w : Vw} {p : Addr} {c : Ct} {n1 : ¬ p ∈ w.S} {n2 : ¬ p ∈ w.M ∧ ∀ {H : Hp} {o : HO}, w.J H → w.J (L2.upd H p o)} (u : Dv d l w0 w) : Dv d l w0 (w.add p c n1 n2) := ⟨u.up.add, u.M, u.ok⟩
theorem Dv.put {d l : Addr} {w0 w : Vw} {p : Addr} {c : Ct} {i : Nat} {h : ∃ c0, w.own[i]? = some (p, c0)} (u : Dv d l w0 w) : Dv d l w0 (w.put i p c h) := ⟨u.up.put, u.M, u.ok⟩
theorem Dv.lk {d l : Addr} {w0 w wb : Vw} (u : Dv d l w0 w) (k : Lk w wb) : Dv d l w0 wb := ⟨u.up.lk k, k.M.trans u.M, k.ok.trans u.ok⟩
/-- a def that draws: from arguments ar i of which ok holds, any answer of which B holds -/
def spDl {ι : Type} (ar : ι → List Pd) (ok : ι → Prop) (B : ι → Pd → Prop) : Sp := fun vs H Q _ => ∃ (S : List Addr) (d l : Addr) (us : List V) (i : ι), vs = .ref d :: us ∧ Live S H ∧ d ∈ S ∧ l ∈ S ∧ DealAt d l H ∧ PdAll (hid S H) us (ar i) ∧ ok i ∧
  ∀ r v H', B i r → Exm [d, l] H H' → DealAt d l H' → r.p v (hid S H') → Q v H'
theorem spDl_len {ι : Type} {ar : ι → List Pd} {ok : ι → Prop} {B : ι → Pd → Prop} {n : Nat} (h : ∀ i, (ar i).length + 1 = n) : ∀ vs H Q E, spDl ar ok B vs H Q E → vs.length = n := fun vs H Q E ⟨S, d, l, us, i, e, _, _, _, _, hv, _⟩ => by
  rw [e, List.length_cons, Paired.length hv]; exact h i
theorem fn_dl {ι : Type} {P : Program} {w : World} {K : PySem.W.Frag} {mg : Str → Option Value} {base : Heap} {x qual : Str} {params : Arguments} {body : List Stmt} {scope : Scope} {dvs : List V} {kws : List (Str × V)} {f : Addr} {fd : FuncData} {CX : CXT} {N ps : List Str} {k : Nat} {ar : ι → List Pd} {ok : ι → Prop} {B : ι → Pd → Prop}
    (F : FunD K x qual params body scope dvs kws f fd) (S : FnScope N ps scope) (hl : ∀ i, (ar i).length + 1 = ps.length)
    (hb : ∀ (cdv : Value) (Ar : Around) (outer : List Env) (s : Shared) (H : Hp) (E : XK), Room k (Ar.deeper (envOfC qual scope s.heap.objs.size f cdv)) → ∀ (S : List Addr) (d l : Addr) (hd : d ∈ S) (hl : l ∈ S) (H0 : Hp) (i : ι) (Q : VK), ok i →
      (∀ r v H', B i r → Exm [d, l] H0 H' → DealAt d l H' → r.p v (hid S H') → Q v H') →
      Rn (cxOf CX P w K mg base N qual scope f cdv Ar outer s H E) (Vw.deal S d l hd hl H0) body (startT N.length (is (.ref d) :: ar i)) (fin Q)) : FnOk P w K mg base CX (k + 1) f fd ps (spDl ar ok B) := by
  refine F.ok S (spDl_len hl) (fun cdv Ar outer s H vs Q E hr h => ⟨_, pss_sem, ?_⟩)
  obtain ⟨Sd, d, l, us, i, rfl, lv, hd, hl', da, hv, ha, q⟩ := h
  exact hb cdv Ar outer s H E hr Sd d l hd hl' H i Q ha q _ H (sv_start (w := Vw.deal Sd d l hd hl' H) lv ⟨⟨.rfl', da⟩, fun _ m => nomatch m⟩ (.cons rfl hv))
section
variable {X : Cx} {w : Vw} {e a b n o : Expr} {es : List Expr} {rest : List Stmt} {τ : Ty} {P : Pd → Prop} {pos p pos' apos : Pos} {D : Ends} {d l : Addr}
/-- f(deal, ..) -/
theorem x_dl {ι : Type} {CX : CXT} {k j : Nat} {x : Str} {ps : List Str} {ar : ι → List Pd} {ok : ι → Prop} {B : ι → Pd → Prop} (i0 : ι) (c : Cl X.prog X.w X.K X.mg X.base CX k x ps (spDl ar ok B)) (hr : Room j X.A) (hk : k ≤ j) (hx : Passes CX X E0) (dM : w.M = [d, l]) (dk : w.ok = DealAt d l)
    (ha : Xa X w (e :: es) τ (fun pds => pds = is (.ref d) :: ar i0)) (hA : ok i0) (h : ∀ r, B i0 r → P r) (hg : Gl X x := by rfl) (hdb : (x == ("__debug__" : Str)) = false := by decide) (he : starEach (e :: es) X.env = (false, eval e X.env) :: starEach es X.env := by rfl)
    (hpl : (backTo pos (starEach es X.env)).any (·.1) = false := by rfl) : Xe X w (.Call (.Name x p) (e :: es) [] pos) τ P :=
  x_cl (E := E0) c hr hk hx ha (fun vs pds H lv i a hv Q q => by
    subst a
    cases hv with
    | cons h1 h2 =>
      have ev := (show _ = V.ref d from h1)
      subst ev
      have dd : d ∈ w.S := w.sub d (by rw [dM]; simp)
      have dl : l ∈ w.S := w.sub l (by rw [dM]; simp)
      have da : DealAt d l H := by
        have z := w.jok i.1
        rw [dk] at z
        exact z
      refine ⟨w.S, d, l, _, i0, rfl, lv, dd, dl, da, h2, hA, fun r v H' hB m da' hr' => ?_⟩
      have m' : Exm w.M H H' := by rw [dM]; exact m
      exact q v r H' m' (w.mv m' (by rw [dk]; exact da') i) (h r hB) hr') hg hdb he hpl
/-- return of a def that draws -/
theorem rn_retDl {S : List Addr} {hd : d ∈ S} {hl : l ∈ S} {H0 : Hp} {B : Pd → Prop} {Q : VK} (q : ∀ r v H', B r → Exm [d, l] H0 H' → DealAt d l H' → r.p v (hid S H') → Q v H') (u : Up (Vw.deal S d l hd hl H0) w) (hD : D.rt = Q) (he : Xe X w e τ B) : Rn X w (.Return (some e) pos :: rest) τ D :=
  rn_ret he fun v pd H lv i p h => by
    rw [hD]
    exact q pd v H p (u.J i.1).1 (u.J i.1).2 (pd.st (hid_less u.S) h)
/-- return x, x a list of one's own -/
theorem rn_retODl {S : List Addr} {hd : d ∈ S} {hl : l ∈ S} {H0 : Hp} {B : Pd → Prop} {Q : VK} {q0 : Addr} {j : Nat} {ds : List PyData} (q : ∀ r v H', B r → Exm [d, l] H0 H' → DealAt d l H' → r.p v (hid S H') → Q v H') (u : Up (Vw.deal S d l hd hl H0) w) (hD : D.rt = Q) (ha : Xe X w e τ (fun pd => pd = is (.ref q0)))
    (hw : w.own[j]? = some (q0, Ct.lst X.K ds)) (nq : ¬ q0 ∈ S) (hB : B (dat X.K (.list ds))) : Rn X w (.Return (some e) pos :: rest) τ D :=
  rn_ret ha fun v pd H lv i e1 h => by
    subst e1
    have ev : v = .ref q0 := h
    subst ev
    obtain ⟨vs, hq, da⟩ := own_at i hw
    rw [hD]
    exact q _ _ H hB (u.J i.1).1 (u.J i.1).2 (.lst (.inl (.inl (by rw [hid_ne nq]; exact hq))) (dpa_same (hid_less u.S) _ _ da))
/-! ### one's own list, told value by value -/
/-- x[i] of a list of one's own that is told by its values -/
theorem v_ixE {q : Addr} {vs : List V} {j i : Nat} {v : V} {pd : Pd} (ha : Xe X w a τ (fun pd => pd = is (.ref q))) (hw : w.own[j]? = some (q, Ct.eq (.lst vs))) (hb : Xe X w b τ (eI X.K i)) (hx : vs[i]? = some v) (hp : ∀ G, pd.p v G) (hs : PlainIx b := by exact fun _ _ => rfl) :
    Xe X w (.Subscript a b pos) τ (fun y => y = pd) :=
  x_2 (t := fun ta tb => tOp (rIx X.K) ta tb) (fun h1 h2 => pe_ix ix_seq h1 h2 hs) (r := rIx X.K) (fun _ _ _ _ _ h => h) ha hb fun va vb pa pb H lv i0 e1 ⟨k, e2, c2⟩ h1 h2 => by
    subst e1; subst e2; subst c2
    have ev : va = .ref q := h1
    subst ev
    obtain ⟨ob, hob, hco⟩ := i0.2 (q, Ct.eq (.lst vs)) (List.mem_of_getElem? hw)
    have hco' : ob = .lst vs := hco
    subst hco'
    rw [dat_int h2]
    exact Ot.val (pd := pd) i0 (fun Q q' => .inl ⟨q, vs, _, v, rfl, rfl, .inl (.inl hob), atI_nat hx, q'⟩) rfl (hp _)
/-- x != [] -/
theorem t_neO {q : Addr} {ds : List PyData} {j : Nat} {f : PyData} (hu : X.A.units + 64 < cLine) (ha : Xe X w a τ (fun pd => pd = is (.ref q))) (hw : w.own[j]? = some (q, Ct.lst X.K ds)) (hb : Xe X w b τ (eD X.K f)) (s1 : SeqAt.shaped (.list ds) = true) (s2 : SeqAt.shaped f = true) :
    Xt X w (.Compare a [.NotEq] [b] pos) τ (eT (!PyData.eqv (.list ds) f)) :=
  xt_of (op_neD hu) (nobehind _ (by decide) (by decide)) ha hb fun va vb pa pb H lv i0 e1 ⟨y, e2, c2⟩ h1 h2 => by
    subst e1; subst e2; subst c2
    have ev : va = .ref q := h1
    subst ev
    obtain ⟨vs, hq, da⟩ := own_at i0 hw
    exact ob i0 (fun Q k => ⟨.list ds, _, .lst (.inl (.inl hq)) (dpa_same (hid_sub _ _) _ _ da), dp_same (hid_sub _ _) _ _ h2, s1, s2, k⟩) rfl
/-- x[-1], x[i] of a list of one's own -/
theorem v_ixOi {q : Addr} {ds : List PyData} {j : Nat} {n : Int} {f : PyData} (ha : Xe X w a τ (fun pd => pd = is (.ref q))) (hw : w.own[j]? = some (q, Ct.lst X.K ds)) (hb : Xe X w b τ (eI X.K n)) (hx : atI ds n = some f) (hs : PlainIx b := by exact fun _ _ => rfl) : Xe X w (.Subscript a b pos) τ (eD X.K f) :=
  x_2 (t := fun ta tb => tOp (rIx X.K) ta tb) (fun h1 h2 => pe_ix ix_seq h1 h2 hs) (r := rIx X.K) (fun _ _ _ _ _ h => h) ha hb fun va vb pa pb H l i0 e1 ⟨k, e2, c2⟩ h1 h2 => by
    subst e1; subst e2; subst c2
    have ev : va = .ref q := h1
    subst ev
    obtain ⟨vs, hq, da⟩ := own_at i0 hw
    rw [dat_int h2]
    obtain ⟨v, hv, dv⟩ := dpa_atI da hx
    exact Ot.val (pd := dat X.K f) i0 (fun Q q' => .inl ⟨q, vs, _, v, rfl, rfl, .inl (.inl hq), hv, q'⟩) ⟨f, rfl, rfl⟩ dv
/-- x.pop() as a statement -/
theorem rn_popO {q : Addr} {ds : List PyData} {j : Nat} (hn : Xe X w n τ (fun pd => pd = is (.ref q))) (hw : w.own[j]? = some (q, Ct.lst X.K ds)) (h0 : ds ≠ []) (k : Rn X (w.put j q (Ct.lst X.K ds.dropLast) ⟨_, hw⟩) rest τ D)
    (hbase : attributeBase n "pop" X.env (eval n X.env) = eval n X.env := by rfl) (hline : (apos.endLine == pos'.line) = true := by rfl) (hs : swapsWith (.Call (.Attribute n "pop" apos) [] [] pos') none pos.line X.env = pure false := by rfl) :
    Rn X w (.Expr (.Call (.Attribute n "pop" apos) [] [] pos') pos :: rest) τ D := fun σ H s =>
  cons_of (ps_expr (pe_bm0 PySem.F.plainAttrs_list PySem.F.slot_list_pop PySem.F.type_list_pop mt_pop pe_sem hbase hline) hs) (hn σ H s _ fun v pd H1 m1 i1 e1 hv => by
    subst e1
    have ev : v = .ref q := hv
    subst ev
    obtain ⟨vs, hq, da⟩ := own_at i1 hw
    have hl := dpa_len da
    have hpos : 0 < ds.length := List.length_pos_iff.mpr h0
    have hx : vs[vs.length - 1]? = some (vs[vs.length - 1]'(by omega)) := by simp
    have dd : DpAll X.K (hid w.S H1) vs.dropLast ds.dropLast := by
      rw [List.dropLast_eq_take, List.dropLast_eq_take, hl]
      exact dpa_take _ da
    exact ⟨.inl ⟨rfl, _, .inl (.inl hq)⟩, q, vs, _, rfl, rfl, hq, hx, k σ _ ((s.move m1 i1).put ⟨_, hw⟩ ⟨_, rfl, dd⟩)⟩)
/-- y = int(x.pop()) -/
theorem rn_setPop {q : Addr} {ds : List PyData} {i j : Nat} {y : Str} {m : Int} {p2 pos2 : Pos} (hm : X.mg "int" = none) (hn : Xe X w n τ (fun pd => pd = is (.ref q))) (hw : w.own[j]? = some (q, Ct.lst X.K (ds ++ [.int m])))
    (k : Rn X (w.put j q (Ct.lst X.K ds) ⟨_, hw⟩) rest (τ.set i (some (dat X.K (.int m)))) D) (hN : X.N.Nodup) (hi : X.N[i]? = some y) (hx : Loc X.env.scope y) (hg : Gl X "int" := by rfl)
    (hbase : attributeBase n "pop" X.env (eval n X.env) = eval n X.env := by rfl) (hline : (apos.endLine == pos'.line) = true := by rfl)
    (hst : starEach [.Call (.Attribute n "pop" apos) [] [] pos'] X.env = (false, eval (.Call (.Attribute n "pop" apos) [] [] pos') X.env) :: starEach [] X.env := by rfl)
    (hs : swapsWith (.Call (.Name "int" p2) [.Call (.Attribute n "pop" apos) [] [] pos'] [] pos2) (some (.Name y p)) pos.line X.env = pure false := by rfl) (hf : X.fn y = true ∨ X.env.scope.names.lookup y = some .local := by first | exact .inl rfl | exact .inr rfl | assumption) :
    Rn X w (.Assign [.Name y p] (.Call (.Name "int" p2) [.Call (.Attribute n "pop" apos) [] [] pos'] [] pos2) pos :: rest) τ D := fun σ H s =>
  cons_of (ps_set hN hi hx (pe_callTy call_int1 hg hm boot_int' (pa_cons (pe_bm0 PySem.F.plainAttrs_list PySem.F.slot_list_pop PySem.F.type_list_pop mt_pop pe_sem hbase hline) pa_nil hst) (by decide) (by decide) hst rfl) hs hf) (hn σ H s _ fun v pd H1 m1 i1 e1 hv => by
    subst e1
    have ev : v = .ref q := hv
    subst ev
    obtain ⟨vs, hq, da⟩ := own_at i1 hw
    have hl := dpa_len da
    rw [List.length_append, List.length_singleton] at hl
    obtain ⟨u, hu, du⟩ := dpa_get da (i := ds.length) (d := .int m) (by simp)
    have eu : u = .int m := dat_int (K := X.K) (G := hid w.S H1) du
    subst eu
    have hx : vs[vs.length - 1]? = some (.int m) := by rw [hl]; exact hu
    have dd : DpAll X.K (hid w.S H1) vs.dropLast ds := by
      rw [List.dropLast_eq_take, hl]
      have z := dpa_take ds.length da
      rw [List.take_left'] at z
      · exact z
      · rfl
    have s2 := (s.move m1 i1).put (o := .lst vs.dropLast) ⟨_, hw⟩ (show (Ct.lst X.K ds).p _ _ from ⟨_, rfl, dd⟩)
    exact ⟨.inl ⟨rfl, _, .inl (.inl hq)⟩, q, vs, _, rfl, rfl, hq, hx, .inl ⟨m, rfl, k _ _ (s2.set i (pd := dat X.K (.int m)) (.int m))⟩⟩)
/-- x[i] = e on a list of one's own that is told by its values -/
theorem rn_setE {q : Addr} {vs : List V} {i j : Nat} {value : Expr} {C : Int → Prop} (hv : Xe X w value τ (isI X.K C)) (ho : Xe X w o τ (fun pd => pd = is (.ref q))) (hw : w.own[j]? = some (q, Ct.eq (.lst vs))) (hi : Xe X w b τ (eI X.K i)) (hl : i < vs.length)
    (k : ∀ m, C m → Rn X (w.put j q (Ct.eq (.lst (vs.set i (.int m)))) ⟨_, hw⟩) rest τ D) (hs : swapsWithSole [.Subscript o b pos'] value pos.line X.env = pure false := by rfl) (hsw : swappedStores [.Subscript o b pos'] value X.env = pure none := by rfl)
    (h1 : (assignEach [.Subscript o b pos'] X.env).map (·.2) = [assign (.Subscript o b pos') X.env] := by rfl)
    (ha : ∀ v, assign (.Subscript o b pos') X.env v = (do
      let ov ← holding [v] (eval o X.env)
      let iv ← holding [v, ov] (eval b X.env)
      standAt pos'
      holding [v, ov, iv] (setItem ov iv v)
      release [v, ov, iv] []) := by intro _; rfl) : Rn X w (.Assign [.Subscript o b pos'] value pos :: rest) τ D := fun σ H s =>
  cons_of (ps_asg pe_sem (pg_sub pe_sem pe_sem set_list ha) hs hsw h1) (hv σ H s _ fun v pd H1 m1 i1 ⟨m, e1, c1⟩ hv1 => ho σ H1 (s.move m1 i1) _ fun u pd2 H2 m2 i2 e2 hu => hi σ H2 ((s.move m1 i1).move m2 i2) _ fun t pd3 H3 m3 i3 ⟨z, e3, c3⟩ ht => by
    subst e1; subst e2; subst e3; subst c3
    have ev : v = .int m := dat_int hv1
    subst ev
    have eu : u = .ref q := hu
    subst eu
    have et : t = .int i := dat_int ht
    subst et
    obtain ⟨ob, hob, hco⟩ := i3.2 (q, Ct.eq (.lst vs)) (List.mem_of_getElem? hw)
    have hco' : ob = .lst vs := hco
    subst hco'
    have hix : ixN vs.length (i : Int) = some i := by
      unfold ixN
      rw [if_pos (by omega), if_pos (by omega)]
      simp
    exact ⟨q, vs, i, i, rfl, rfl, hob, hix, k m c1 σ _ ((((s.move m1 i1).move m2 i2).move m3 i3).put ⟨_, hw⟩ rfl)⟩)
end
end Lt
namespace Lt
open PySem PySem.Spec PyProof.Rows L2
/-! ### data that may be compared -/
structure Sh (d : PyData) (n : Nat) : Prop where
  lay : d.canLay0 = true
  dep : d.depth ≤ n
theorem Sh.shaped {d : PyData} {n : Nat} (h : Sh d n) (hn : n ≤ 64 := by decide) : SeqAt.shaped d = true := by
  unfold SeqAt.shaped
  rw [h.lay, decide_eq_true (Nat.le_trans h.dep hn)]; rfl
theorem Sh.int {i : Int} {n : Nat} : Sh (.int i) n := ⟨by simp [PyData.canLay0], by simp [PyData.depth]⟩
theorem Sh.none {n : Nat} : Sh .none n := ⟨by simp [PyData.canLay0], by simp [PyData.depth]⟩
theorem Sh.bool {b : Bool} {n : Nat} : Sh (.bool b) n := ⟨by simp [PyData.canLay0], by simp [PyData.depth]⟩
theorem sh_all {n : Nat} : ∀ {xs : List PyData}, (∀ x ∈ xs, Sh x n) → PyData.canLayAll0 xs = true ∧ PyData.depthAll xs ≤ n
  | [], _ => ⟨by simp [PyData.canLayAll0], by simp [PyData.depthAll]⟩
  | x :: xs, h => by
    have h1 := h x List.mem_cons_self
    have h2 := sh_all (xs := xs) fun y hy => h y (List.mem_cons_of_mem _ hy)
    refine ⟨by simp [PyData.canLayAll0, h1.lay, h2.1], ?_⟩
    have a1 := h1.dep
    have a2 := h2.2
    simp only [PyData.depthAll]
    omega
theorem Sh.list {xs : List PyData} {n : Nat} (h : ∀ x ∈ xs, Sh x n) : Sh (.list xs) (n + 1) := by
  obtain ⟨h1, h2⟩ := sh_all h
  exact ⟨by simp [PyData.canLay0, h1], by simp only [PyData.depth]; omega⟩
theorem Sh.tuple {xs : List PyData} {n : Nat} (h : ∀ x ∈ xs, Sh x n) : Sh (.tuple xs) (n + 1) := by
  obtain ⟨h1, h2⟩ := sh_all h
  exact ⟨by simp [PyData.canLay0, h1], by simp only [PyData.depth]; omega⟩
theorem sh_nats {xs : List Nat} : ∀ x ∈ nats xs, Sh x 0 := fun x hx => by
  obtain ⟨n, _, rfl⟩ := List.mem_map.mp hx
  exact .int
theorem sh_slip {x : Slip} : Sh (slipD x) 1 := .tuple fun y hy => by
  rcases List.mem_cons.mp hy with rfl | hy
  · exact .int
  · have : y = .int x.2 := by simpa using hy
    subst this; exact .int
theorem sh_slips {l : List Slip} : ∀ x ∈ slips l, Sh x 1 := fun x hx => by
  obtain ⟨n, _, rfl⟩ := List.mem_map.mp hx
  exact sh_slip
theorem eqv_nil : ∀ ds : List PyData, PyData.eqv (.list ds) (.list []) = decide (ds = [])
  | [] => by simp [PyData.eqv, PyData.eqvAll]
  | x :: xs => by simp [PyData.eqv, PyData.eqvAll]
/-! ### _law_any -/
/-- the deal itself, as one's own -/
def Vw.own2 (S : List Addr) (d l : Addr) (hd : d ∈ S) (hl : l ∈ S) (ne : d ≠ l) (H0 : Hp) (K : PySem.W.Frag) (b : Nat) (ns : List Nat) : Vw where
  S := S
  M := []
  J := fun H => Exm [d, l] H0 H
  ok := fun _ => True
  own := [(d, Ct.eq (.lst [.ref l, .int b])), (l, Ct.lst K (nats ns))]
  sub := fun _ h => nomatch h
  jst := fun e h => h.trans (Exm.same e)
  jok := fun _ => trivial
  jmv := fun e _ h => h.trans (Exm.same e.toSame)
  jnw := fun {H p} h n => ⟨fun z => (nomatch z), fun h' => h'.upd_new (by
    cases q : H0 p with
    | none => rfl
    | some o => exact absurd n (h.there _ (by rw [q]; intro z; cases z)))⟩
  ow := fun q m => by
    have z : q = (d, Ct.eq (.lst [.ref l, .int b])) ∨ q = (l, Ct.lst K (nats ns)) := by simpa using m
    rcases z with rfl | rfl
    · exact ⟨hd, fun z => (nomatch z), fun h => h.trans (Exm.upd (.inl (by simp)))⟩
    · exact ⟨hl, fun z => (nomatch z), fun h => h.trans (Exm.upd (.inl (by simp)))⟩
  nd := by simp [ne]
section
variable {P : Program} {w : World} {K : PySem.W.Frag} {mg : Str → Option Value} {base : Heap} {M : Ad}
/-- how the deal stands within _law_any -/
structure Own2 (K : PySem.W.Frag) (S : List Addr) (d l : Addr) (H0 : Hp) (b : Nat) (ns : List Nat) (w : Vw) : Prop where
  S : w.S = S
  J : ∀ H, w.J H → Exm [d, l] H0 H
  o0 : w.own[0]? = some (d, Ct.eq (.lst [.ref l, .int b]))
  o1 : w.own[1]? = some (l, Ct.lst K (nats ns))
theorem natV_ints (ns : List Nat) : natV ns = (ns.map fun (k : Nat) => (k : Int)).map V.int := by simp [natV, List.map_map, Function.comp_def]
theorem dpa_natV {G : Hp} {vs : List V} {ns : List Nat} (h : DpAll K G vs (nats ns)) : vs = natV ns := by
  rw [nats_ints] at h
  rw [dpa_ints_inv h, natV_ints]
theorem natV_dpa {G : Hp} {ns : List Nat} : DpAll K G (natV ns) (nats ns) := by
  rw [nats_ints, natV_ints]
  exact dpa_ints _
theorem Own2.ret {S : List Addr} {d l : Addr} {H0 H : Hp} {b : Nat} {ns : List Nat} {w : Vw} (o : Own2 K S d l H0 b ns w) (hn : ns.length ≤ 1000) (i : w.I H) : Exm [d, l] H0 H ∧ DealAt d l H := by
  refine ⟨o.J _ i.1, ?_⟩
  obtain ⟨o1, h1, e1⟩ := i.2 _ (List.mem_of_getElem? o.o0)
  obtain ⟨o2, h2, vs, e2, da⟩ := i.2 _ (List.mem_of_getElem? o.o1)
  have e1' : o1 = .lst [.ref l, .int b] := e1
  subst e1'
  subst e2
  have ev := dpa_natV da
  subst ev
  exact ⟨b, ns, h1, h2, hn⟩
theorem Own2.put1 {S : List Addr} {d l : Addr} {H0 : Hp} {b : Nat} {ns ms : List Nat} {w : Vw} (o : Own2 K S d l H0 b ns w) {h : ∃ c0, w.own[1]? = some (l, c0)} : Own2 K S d l H0 b ms (w.put 1 l (Ct.lst K (nats ms)) h) := by
  have l1 : 1 < w.own.length := (List.getElem?_eq_some_iff.mp o.o1).1
  refine ⟨o.S, o.J, ?_, ?_⟩
  · show (w.own.set 1 _)[0]? = _
    rw [List.getElem?_set_ne (by decide)]
    exact o.o0
  · show (w.own.set 1 _)[1]? = _
    rw [List.getElem?_set_self l1]
theorem Own2.put0 {S : List Addr} {d l : Addr} {H0 : Hp} {b b' : Nat} {ns : List Nat} {w : Vw} (o : Own2 K S d l H0 b ns w) {h : ∃ c0, w.own[0]? = some (d, c0)} : Own2 K S d l H0 b' ns (w.put 0 d (Ct.eq (.lst [.ref l, .int b'])) h) := by
  have l1 : 0 < w.own.length := (List.getElem?_eq_some_iff.mp o.o0).1
  refine ⟨o.S, o.J, ?_, ?_⟩
  · show (w.own.set 0 _)[0]? = _
    rw [List.getElem?_set_self l1]
  · show (w.own.set 0 _)[1]? = _
    rw [List.getElem?_set_ne (by decide)]
    exact o.o1
def ar_any (K : PySem.W.Frag) (n : Nat) : List Pd := [dat K (.int n)]
def ok_any (n : Nat) : Prop := 0 < n ∧ n < 1000000
def B_any (K : PySem.W.Frag) (n : Nat) (r : Pd) : Prop := ∃ k : Nat, r = dat K (.int k) ∧ k < n
theorem nats_drop (ns : List Nat) : (nats ns).dropLast = nats ns.dropLast := by simp [nats]
theorem nats_app (a b : List Nat) : nats (a ++ b) = nats a ++ nats b := by simp [nats]
theorem sc_lawAny : FnScope ["_law_deal", "_law_bound", "_law_rest"] ["_law_deal", "_law_bound"] (defScope sLawAny) := ⟨rfl, rfl, rfl, by decide +kernel, rfl, by decide +kernel, by decide +kernel⟩
theorem cl_lawAny (T : Tx K mg M) : Cl P w K mg base CX0 1 "_law_any" ["_law_deal", "_law_bound"] (spDl (ar_any K) ok_any (B_any K)) := by
  refine Cl.mk' (d := dLawAny) (T.df 24 _ rfl rfl rfl) (fun f fd F => fn_dl F sc_lawAny (fun n => rfl) fun cdv Ar outer s H E hr S d l hd hl H0 n Q h q => ?_) (fun _ _ _ _ _ _ us hl => match us, hl with | [_, _], _ => rfl)
  obtain ⟨hn, hn2⟩ := h
  intro σ H sv
  have ne := sv.inv.1.2.ne
  obtain ⟨b, ns, e1, e2, hlen⟩ := sv.inv.1.2.ex
  have hu : Ar.units + 3 + 64 < cLine := hr.units
  have sv' : Sv (Vw.own2 S d l hd hl ne H0 K b ns) H σ (startT 3 [is (.ref d), dat K (.int n)]) := ⟨sv.live, ⟨sv.inv.1.1, fun q' m => by
    have z : q' = (d, Ct.eq (.lst [.ref l, .int b])) ∨ q' = (l, Ct.lst K (nats ns)) := by simpa [Vw.own2] using m
    rcases z with rfl | rfl
    · exact ⟨_, e1, rfl⟩
    · exact ⟨_, e2, natV ns, rfl, natV_dpa⟩⟩, sv.len, sv.at_⟩
  have o0 : Own2 K S d l H0 b ns (Vw.own2 S d l hd hl ne H0 K b ns) := ⟨rfl, fun _ h => h, rfl, rfl⟩
  refine (?_ : Rn _ (Vw.own2 S d l hd hl ne H0 K b ns) dLawAny.body (startT 3 [is (.ref d), dat K (.int n)]) (fin Q)) σ H sv'
  refine rn_while (passes_of rfl) (fun m w' τ' => ∃ ms : List Nat, m = ms.length ∧ ms.length ≤ 1000 ∧ Own2 K S d l H0 b ms w' ∧ τ' = startT 3 [is (.ref d), dat K (.int n)]) ⟨_, ns, rfl, hlen, o0, rfl⟩ (fun m w' τ' h => ?_)
  obtain ⟨ms, rfl, hms, o, rfl⟩ := h
  refine ⟨eT (!PyData.eqv (.list (nats ms)) (.list []) && decide ((ms.getLastD 0 : Int) = 0)), xt_p (t_and (t_neO hu (v_ixE (nO 0) o.o0 (cI 0) rfl (fun _ => rfl)) o.o1 (v_lst a_nil) (Sh.list (n := 0) sh_nats).shaped (Sh.list (xs := []) (n := 0) fun x h => by cases h).shaped) (fun h => xp_and1 ?_)), fun h => ?_, fun h => ?_⟩
  · have hne : ms ≠ [] := fun z => by rw [z, nats, List.map_nil, eqv_nil] at h; cases h
    obtain ⟨rs, x, rfl⟩ : ∃ rs x, ms = rs ++ [x] := ⟨ms.dropLast, ms.getLast hne, (List.dropLast_concat_getLast hne).symm⟩
    have ei : atI (nats (rs ++ [x])) (-1) = some (.int x) := by
      unfold atI ixN
      rw [nats_len, List.length_append, List.length_singleton, if_neg (by decide), if_pos (by omega)]
      have : ((-1 : Int) + ((rs.length + 1 : Nat) : Int)).toNat = rs.length := by omega
      rw [this]
      show (nats (rs ++ [x]))[rs.length]? = _
      exact nats_get (by simp)
    exact Xt.imp' (t_eq (Xe.toI (v_ixOi (v_ixE (nO 0) o.o0 (cI 0) rfl (fun _ => rfl)) o.o1 (v_neg (cI 1)) ei)) (cI 0)) (by simp)
  · have h1 : (!PyData.eqv (.list (nats ms)) (.list [])) = true := by
      have h' := h.symm
      exact (Bool.and_eq_true_iff.mp h').1
    have hne : ms ≠ [] := fun z => by rw [z, nats, List.map_nil, eqv_nil] at h1; cases h1
    refine rn_popO (v_ixE (nO 0) o.o0 (cI 0) rfl (fun _ => rfl)) o.o1 (by intro z; exact hne (by cases ms with | nil => rfl | cons _ _ => simp [nats] at z)) ?_
    rw [show (nats ms).dropLast = nats ms.dropLast from nats_drop ms]
    refine rn_nil fun σ H s => ⟨_, _, _, ?_, ⟨ms.dropLast, rfl, ?_, o.put1, rfl⟩, s⟩
    · have : 0 < ms.length := List.length_pos_iff.mpr hne
      rw [List.length_dropLast]; omega
    · rw [List.length_dropLast]; omega
  · refine rn_if (T := eT (!PyData.eqv (.list (nats ms)) (.list []))) (t_neO hu (v_ixE (nO 0) o.o0 (cI 0) rfl (fun _ => rfl)) o.o1 (v_lst a_nil) (Sh.list (n := 0) sh_nats).shaped (Sh.list (xs := []) (n := 0) fun x h => by cases h).shaped) (fun h2 => ?_) (fun h2 => ?_)
    · have hne : ms ≠ [] := fun z => by rw [z, nats, List.map_nil, eqv_nil] at h2; cases h2
      obtain ⟨rs, x, rfl⟩ : ∃ rs x, ms = rs ++ [x] := ⟨ms.dropLast, ms.getLast hne, (List.dropLast_concat_getLast hne).symm⟩
      have hrs : rs.length + 1 ≤ 1000 := by simpa using hms
      have o1' := o.o1
      rw [nats_app] at o1'
      refine rn_setPop (i := 2) (m := (x : Int)) T.int (v_ixE (nO 0) o.o0 (cI 0) rfl (fun _ => rfl)) o1' ?_ sc_lawAny.nd rfl (Or.inl rfl)
      have oP : Own2 K S d l H0 b rs (w'.put 1 l (Ct.lst K (nats rs)) ⟨_, o1'⟩) := o.put1
      refine rn_appO (C := fun y => y = .int ((x / n : Nat) : Int)) (v_ixE (nO 0) oP.o0 (cI 0) rfl (fun _ => rfl)) oP.o1 (by rw [nats_len]; omega) (Xe.toD (x_fdiv (nI 2) (nI 1) (fun i j e1 e2 => by rw [e2]; exact ⟨by omega, by omega⟩) (fun i j e1 e2 => by rw [e1, e2]; exact (Int.natCast_ediv x n).symm))) (fun y ey => ?_)
      subst ey
      have e4 : nats rs ++ [PyData.int ((x / n : Nat) : Int)] = nats (rs ++ [x / n]) := by rw [nats_app]; rfl
      have oQ : Own2 K S d l H0 b (rs ++ [x / n]) ((w'.put 1 l (Ct.lst K (nats rs)) ⟨_, o1'⟩).put 1 l (Ct.lst K (nats (rs ++ [x / n]))) ⟨_, oP.o1⟩) := oP.put1
      rw [e4]
      refine rn_ret (P := fun pd => pd = dat K (.int ((x % n : Nat) : Int))) (Xe.eqI (x_mod (nI 2) (nI 1) (fun i j e1 e2 => by rw [e2]; omega) (fun i j e1 e2 => by rw [e1, e2]; exact (Int.natCast_emod x n).symm))) (fun v pd H1 lv i1 hp hv => ?_)
      subst hp
      obtain ⟨a1, a2⟩ := oQ.ret (by simp; omega) i1
      exact q _ v H1 ⟨x % n, rfl, Nat.mod_lt _ hn⟩ a1 a2 (by rw [← oQ.S]; exact hv)
    · refine rn_out ?_
      refine rn_setE (C := fun y => ∃ b' : Nat, y = b') (x_mod (v_int T.int (v_add (x_mul (A := fun y => y = (b : Int)) (B := fun y => y = 40693) (C := fun y => y = (b : Int) * 40693) (Xe.imp (v_ixE (pd := dat K (.int b)) (nO 0) o.o0 (cI 1) rfl (fun _ => .int _)) fun pd e => ⟨_, e, rfl⟩) (cI 40693) (fun i j e1 e2 => .inr (by rw [e2]; decide)) (fun i j e1 e2 => by rw [e1, e2])) (cI 71))) (cI 2147483647) (fun i j e1 e2 => by rw [e2]; decide) (fun i j e1 e2 => by
        rw [e1, e2]
        exact ⟨((b * 40693 + 71) % 2147483647), by rw [Int.natCast_emod]; rfl⟩)) (nO 0) o.o0 (cI 1) (by show 1 < 2; decide) (fun m hm => ?_)
      obtain ⟨b', rfl⟩ := hm
      have oP : Own2 K S d l H0 b' ms (w'.put 0 d (Ct.eq (.lst ([V.ref l, V.int b].set 1 (.int b')))) ⟨_, o.o0⟩) := o.put0 (b' := b')
      refine rn_ret (P := fun pd => pd = dat K (.int ((b' / 64 % n : Nat) : Int))) (Xe.eqI (x_mod (v_int T.int (x_fdiv (A := fun y => y = (b' : Int)) (C := fun y => y = ((b' / 64 : Nat) : Int)) (Xe.imp (v_ixE (pd := dat K (.int b')) (nO 0) oP.o0 (cI 1) rfl (fun _ => .int _)) fun pd e => ⟨_, e, rfl⟩) (cI 64) (fun i j e1 e2 => by rw [e2]; exact ⟨by decide, by decide⟩) (fun i j e1 e2 => by rw [e1, e2]; exact (Int.natCast_ediv b' 64).symm))) (nI 1) (fun i j e1 e2 => by rw [e2]; omega) (fun i j e1 e2 => by rw [e1, e2]; exact (Int.natCast_emod _ n).symm))) (fun v pd H1 lv i1 hp hv => ?_)
      subst hp
      obtain ⟨a1, a2⟩ := oP.ret hms i1
      exact q _ v H1 ⟨b' / 64 % n, rfl, Nat.mod_lt _ hn⟩ a1 a2 (by rw [← oP.S]; exact hv)
end
end Lt
namespace Lt
open PySem PySem.Spec PyProof.Rows L2
section
variable {X : Cx} {w : Vw} {e a b n o f g idx : Expr} {es : List Expr} {rest : List Stmt} {τ : Ty} {P : Pd → Prop} {pos p pos' apos pos2 apos2 : Pos} {D : Ends}
/-- x, y = (new), (new) -/
theorem rn_parFF {i j : Nat} {x y : Str} {e1 e2 : Expr} {px py pt : Pos} {kt k2 pt2} {C1 C2 : Ct → Prop} (hc : X.calm = true) (h1 : Xf X w e1 τ C1)
    (h2 : ∀ q c (n1 : ¬ q ∈ w.S) (n2 : ¬ q ∈ w.M ∧ ∀ {H : Hp} {o : HO}, w.J H → w.J (upd H q o)), C1 c → Xf X (w.add q c n1 n2) e2 τ C2)
    (k : ∀ q c (n1 : ¬ q ∈ w.S) (n2 : ¬ q ∈ w.M ∧ ∀ {H : Hp} {o : HO}, w.J H → w.J (upd H q o)) r c2 (m1 : ¬ r ∈ (w.add q c n1 n2).S) (m2 : ¬ r ∈ (w.add q c n1 n2).M ∧ ∀ {H : Hp} {o : HO}, (w.add q c n1 n2).J H → (w.add q c n1 n2).J (upd H r o)), C1 c → C2 c2 →
      Rn X ((w.add q c n1 n2).add r c2 m1 m2) rest ((τ.set i (some (is (.ref q)))).set j (some (is (.ref r)))) D)
    (hN : X.N.Nodup) (hi : X.N[i]? = some x) (hj : X.N[j]? = some y) (hij : i ≠ j) (hx : X.env.scope.names.lookup x = some .local) (hy : X.env.scope.names.lookup y = some .local)
    (hw : swappedStores [.Tuple [.Name x px, .Name y py] kt pt] (.Tuple [e1, e2] k2 pt2) X.env = pure (some [x, y])) (hs : swapsWithSole [.Tuple [.Name x px, .Name y py] kt pt] (.Tuple [e1, e2] k2 pt2) pos.line X.env = pure false := by rfl)
    (hs1 : starEach [e1, e2] X.env = (false, eval e1 X.env) :: starEach [e2] X.env := by rfl) (hs2 : starEach [e2] X.env = (false, eval e2 X.env) :: starEach [] X.env := by rfl) :
    Rn X w (.Assign [.Tuple [.Name x px, .Name y py] kt pt] (.Tuple [e1, e2] k2 pt2) pos :: rest) τ D := fun σ H s =>
  cons_of (ps_par hc hN hi hj hij hx hy (pa_cons pe_sem (pa_cons pe_sem pa_nil hs2) hs1) hw hs) (h1 σ H s _ fun q o c H1 m1 i1 nq hcc hco => by
    have s1 := s.move m1 i1
    have n1 := s1.notin nq
    have n2 : ¬ q ∈ w.M ∧ ∀ {H : Hp} {o : HO}, w.J H → w.J (upd H q o) := w.jnw i1.1 nq
    have s2 : Sv (w.add q c n1 n2) (upd H1 q o) σ τ := s1.add nq (c.st (hid_more nq (same_upd nq)) hco) n1 n2
    exact h2 q c n1 n2 hcc σ _ s2 _ fun r o2 c2 H3 m3 i3 nr hcc2 hco2 => by
      have s3 := s2.move m3 i3
      have r1 := s3.notin nr
      have r2 : ¬ r ∈ (w.add q c n1 n2).M ∧ ∀ {H : Hp} {o : HO}, (w.add q c n1 n2).J H → (w.add q c n1 n2).J (upd H r o) := (w.add q c n1 n2).jnw i3.1 nr
      exact ⟨.ref q, .ref r, rfl, k q c n1 n2 r c2 r1 r2 hcc hcc2 _ _ (((s3.set i (pd := is (.ref q)) rfl).add nr (c2.st (hid_more nr (same_upd nr)) hco2) r1 r2).set j rfl)⟩)
theorem dpa_erase {K : PySem.W.Frag} {G : Hp} : ∀ {ds : List PyData} {vs : List V} (i : Nat), DpAll K G vs ds → DpAll K G (vs.eraseIdx i) (ds.eraseIdx i)
  | [], _, i, h => by cases h; exact .nil
  | _ :: _, _, 0, h => by
    cases h with
    | cons h1 h2 => exact h2
  | _ :: _, _, i + 1, h => by
    cases h with
    | cons h1 h2 => exact .cons h1 (dpa_erase i h2)
/-- f.append(g.pop(i)) -/
theorem rn_appPop {qf qg : Addr} {dsf dsg : List PyData} {jf jg : Nat} {C : Int → Prop} (jn : jf ≠ jg) (hf : Xe X w f τ (fun pd => pd = is (.ref qf))) (wf : w.own[jf]? = some (qf, Ct.lst X.K dsf)) (hg : Xe X w g τ (fun pd => pd = is (.ref qg))) (wg : w.own[jg]? = some (qg, Ct.lst X.K dsg))
    (hi : Xe X w idx τ (isI X.K C)) (hC : ∀ i, C i → ∃ k : Nat, i = k ∧ k < dsg.length) (hz : dsf.length < 1000000) (hz2 : dsg.length < 1000000)
    (k : ∀ (i : Nat) (x : PyData) (h1 : ∃ c0, w.own[jg]? = some (qg, c0)) (h2 : ∃ c0, (w.put jg qg (Ct.lst X.K (dsg.eraseIdx i)) h1).own[jf]? = some (qf, c0)), dsg[i]? = some x → Rn X ((w.put jg qg (Ct.lst X.K (dsg.eraseIdx i)) h1).put jf qf (Ct.lst X.K (dsf ++ [x])) h2) rest τ D)
    (hb1 : attributeBase f "append" X.env (eval f X.env) = eval f X.env := by rfl) (hb2 : attributeBase g "pop" X.env (eval g X.env) = eval g X.env := by rfl)
    (hfew : ((backTo pos' (starEach [.Call (.Attribute g "pop" apos2) [idx] [] pos2] X.env)).all (fun x => !x.1) && (backToKw pos' (keywordEach [] X.env)).all (fun x => x.1.isSome)
      && decide (([.Call (.Attribute g "pop" apos2) [idx] [] pos2] : List Expr).length + ([] : List Keyword).length + (if ([] : List Keyword).isEmpty then 0 else 1) < 30)) = true := by rfl)
    (hfew2 : ((backTo pos2 (starEach [idx] X.env)).all (fun x => !x.1) && (backToKw pos2 (keywordEach [] X.env)).all (fun x => x.1.isSome)
      && decide (([idx] : List Expr).length + ([] : List Keyword).length + (if ([] : List Keyword).isEmpty then 0 else 1) < 30)) = true := by rfl)
    (hl1 : (apos.endLine == pos'.line) = true := by rfl) (hl2 : (apos2.endLine == pos2.line) = true := by rfl) (hs1 : starEach [.Call (.Attribute g "pop" apos2) [idx] [] pos2] X.env = (false, eval (.Call (.Attribute g "pop" apos2) [idx] [] pos2) X.env) :: starEach [] X.env := by rfl)
    (hs2 : starEach [idx] X.env = (false, eval idx X.env) :: starEach [] X.env := by rfl) (hp1 : (backTo pos' (starEach [] X.env)).any (·.1) = false := by rfl) (hp2 : (backTo pos2 (starEach [] X.env)).any (·.1) = false := by rfl)
    (hsw : swapsWith (.Call (.Attribute f "append" apos) [.Call (.Attribute g "pop" apos2) [idx] [] pos2] [] pos') none pos.line X.env = pure false := by rfl) :
    Rn X w (.Expr (.Call (.Attribute f "append" apos) [.Call (.Attribute g "pop" apos2) [idx] [] pos2] [] pos') pos :: rest) τ D := fun σ H s =>
  cons_of (ps_expr (pe_bm PySem.F.plainAttrs_list PySem.F.slot_list_append PySem.F.type_list_append mt_append pe_sem
    (pa_cons (pe_bm PySem.F.plainAttrs_list PySem.F.slot_list_pop PySem.F.type_list_pop mt_popAt pe_sem (pa_cons pe_sem pa_nil hs2) hb2 hfew2 hl2 hs2 hp2) pa_nil hs1) hb1 hfew hl1 hs1 hp1) hsw)
    (hf σ H s _ fun v pd H1 m1 i1 e1 hv => by
      subst e1
      have ev : v = .ref qf := hv
      subst ev
      obtain ⟨vf, hqf, daf⟩ := own_at i1 wf
      refine ⟨.inl ⟨rfl, _, .inl (.inl hqf)⟩, hg σ H1 (s.move m1 i1) _ fun u pd2 H2 m2 i2 e2 hu => ?_⟩
      subst e2
      have eu : u = .ref qg := hu
      subst eu
      obtain ⟨vg, hqg, dag⟩ := own_at i2 wg
      refine ⟨.inl ⟨rfl, _, .inl (.inl hqg)⟩, hi σ H2 ((s.move m1 i1).move m2 i2) _ fun t pd3 H3 m3 i3 ⟨z, e3, c3⟩ ht => ?_⟩
      subst e3
      obtain ⟨k0, rfl, hk0⟩ := hC z c3
      have et : t = .int k0 := dat_int ht
      subst et
      have s3 := ((s.move m1 i1).move m2 i2).move m3 i3
      obtain ⟨vg, hqg, dag⟩ := own_at i3 wg
      obtain ⟨x, hx, dx⟩ := dpa_get dag (i := k0) (d := dsg[k0]) (by simp [hk0])
      have hlen := dpa_len dag
      have hseq : seqIndex? (k0 : Int) vg.length = some k0 := by
        unfold seqIndex?
        have h1 : ¬ ((k0 : Int) < 0) := by omega
        simp only [h1, if_false]
        rw [if_pos (by simp; omega)]
        simp
      have s4 := s3.put (o := .lst (vg.eraseIdx k0)) ⟨_, wg⟩ (show (Ct.lst X.K (dsg.eraseIdx k0)).p _ _ from ⟨_, rfl, dpa_erase k0 dag⟩)
      have wf' : (w.put jg qg (Ct.lst X.K (dsg.eraseIdx k0)) ⟨_, wg⟩).own[jf]? = some (qf, Ct.lst X.K dsf) := by
        show (w.own.set jg _)[jf]? = _
        rw [List.getElem?_set_ne (Ne.symm jn)]
        exact wf
      obtain ⟨vf', hqf', daf'⟩ := own_at s4.inv wf'
      have lf := dpa_len daf'
      have hid_eq : hid w.S (upd H3 qg (.lst (vg.eraseIdx k0))) = hid w.S H3 := by
        funext c
        have hgS : qg ∈ w.S := (w.ow _ (List.mem_of_getElem? wg)).1
        by_cases hc : c ∈ w.S
        · rw [hid_in hc, hid_in hc]
        · rw [hid_ne hc, hid_ne hc, upd_ne fun z => hc (by rw [z]; exact hgS)]
      have s5 := s4.put (o := .lst (vf' ++ [x])) ⟨_, wf'⟩ (show (Ct.lst X.K (dsf ++ [dsg[k0]])).p _ _ from ⟨_, rfl, dpa_app daf' (.cons (by
        show Dp X.K (hid w.S _) x _
        rw [hid_eq]
        exact dx) .nil)⟩)
      refine ⟨qg, vg, k0, k0, x, rfl, rfl, hqg, by omega, by omega, hseq, hx, ?_⟩
      exact ⟨qf, vf', x, rfl, rfl, hqf', Nat.lt_of_lt_of_le (by rw [lf]; exact hz) (by decide), k k0 _ ⟨_, wg⟩ ⟨_, wf'⟩ (by simp [hk0]) σ _ s5⟩)
end
section
variable {P : Program} {w : World} {K : PySem.W.Frag} {mg : Str → Option Value} {base : Heap} {M : Ad}
structure SeqD (d : PyData) (ds : List PyData) : Prop where
  eq : d = .list ds ∨ d = .tuple ds
def ar_of (K : PySem.W.Frag) (i : PyData × List PyData) : List Pd := [dat K i.1]
def ok_of (i : PyData × List PyData) : Prop := SeqD i.1 i.2 ∧ i.2 ≠ [] ∧ i.2.length < 1000000
def B_of (K : PySem.W.Frag) (i : PyData × List PyData) (r : Pd) : Prop := ∃ x, x ∈ i.2 ∧ r = dat K x
theorem sc_lawOf : FnScope ["_law_deal", "_law_some"] ["_law_deal", "_law_some"] (defScope sLawOf) := ⟨rfl, rfl, rfl, by decide +kernel, rfl, by decide +kernel, by decide +kernel⟩
theorem cl_lawOf (T : Tx K mg M) : Cl P w K mg base CX0 2 "_law_of" ["_law_deal", "_law_some"] (spDl (ar_of K) ok_of (B_of K)) := by
  refine Cl.mk' (d := dLawOf) (T.df 25 _ rfl rfl rfl) (fun f fd F => fn_dl F sc_lawOf (fun i => rfl) fun cdv Ar outer s H E hr S d l hd hl H0 i Q h q => ?_) (fun _ _ _ _ _ _ us hl => match us, hl with | [_, _], _ => rfl)
  obtain ⟨d0, ds⟩ := i
  obtain ⟨⟨hd0⟩, hne, hlen⟩ := h
  have hpos : 0 < ds.length := List.length_pos_iff.mpr hne
  refine rn_retDl q .rfl' rfl (Xe.imp (P := isD K fun x => x ∈ ds) (x_ix (A := fun y => y = d0) (B := fun i => ∃ k : Nat, i = k ∧ k < ds.length) (nD 1) (x_dl ds.length (cl_lawAny T) hr (by decide) pass0 rfl rfl (ap_cons (nO 0) (ap_cons (Xe.eqI (v_len T.len (nD 1) hd0)) ap_nil)) ⟨hpos, hlen⟩ fun r ⟨k, e2, e3⟩ => ⟨k, e2, k, rfl, e3⟩) fun y i e1 ⟨k, e2, e3⟩ => ?_) fun pd ⟨x, e1, e2⟩ => ⟨x, e2, e1⟩)
  subst e1; subst e2
  exact ⟨ds, ds[k], hd0, atI_nat (by simp [e3]), List.getElem_mem e3⟩
/-! ### _law_mixed -/
theorem erase_perm {α : Type} : ∀ {ls : List α} {i : Nat} (h : i < ls.length), (ls[i] :: ls.eraseIdx i).Perm ls
  | [], i, h => by cases h
  | _ :: _, 0, _ => List.Perm.refl _
  | y :: ls, i + 1, h => (List.Perm.swap y (ls[i]'(Nat.lt_of_succ_lt_succ h)) _).trans (List.Perm.cons y (erase_perm (Nat.lt_of_succ_lt_succ h)))
def ok_mixed (i : PyData × List PyData) : Prop := SeqD i.1 i.2 ∧ i.2.length < 1000 ∧ ∀ x ∈ i.2, Sh x 3
def B_mixed (K : PySem.W.Frag) (i : PyData × List PyData) (r : Pd) : Prop := ∃ es, es.Perm i.2 ∧ r = dat K (.list es)
theorem sc_lawMixed : FnScope ["_law_deal", "_law_some", "_law_left", "_law_found"] ["_law_deal", "_law_some"] (defScope sLawMixed) := ⟨rfl, rfl, rfl, by decide +kernel, rfl, by decide +kernel, by decide +kernel⟩
theorem cl_lawMixed (T : Tx K mg M) : Cl P w K mg base CX0 2 "_law_mixed" ["_law_deal", "_law_some"] (spDl (ar_of K) ok_mixed (B_mixed K)) := by
  refine Cl.mk' (d := dLawMixed) (T.df 26 _ rfl rfl rfl) (fun f fd F => fn_dl F sc_lawMixed (fun i => rfl) fun cdv Ar outer s H E hr S d l hd hl H0 i Q h q => ?_) (fun _ _ _ _ _ _ us hl => match us, hl with | [_, _], _ => rfl)
  obtain ⟨d0, ds⟩ := i
  obtain ⟨⟨hd0⟩, hlen', hsh⟩ := h
  have hlen : ds.length < 1000 := hlen'
  have hu : Ar.units + 3 + 64 < cLine := hr.units
  refine rn_parFF (i := 2) (j := 3) (C1 := fun c => c = Ct.lst K ds) (C2 := fun c => c = Ct.lst K []) rfl (xf_listOf T.list (nD 1) fun y e => ⟨ds, by rw [e]; exact hd0, rfl⟩) (fun q c n1 n2 e => xf_nil rfl) (fun ql c n1 n2 qf c2 m1 m2 ec ec2 => ?_) sc_lawMixed.nd rfl rfl (by decide) rfl rfl rfl
  subst ec; subst ec2
  have nf : ¬ qf ∈ S := fun z => m1 (List.mem_cons_of_mem _ z)
  refine rn_while (passes_of rfl) (fun m w' τ' => ∃ ls fs : List PyData, m = ls.length ∧ (fs ++ ls).Perm ds ∧ Dv d l (Vw.deal S d l hd hl H0) w' ∧ w'.own[0]? = some (qf, Ct.lst K fs) ∧ w'.own[1]? = some (ql, Ct.lst K ls) ∧ τ' = [some (is (.ref d)), some (dat K d0), some (is (.ref ql)), some (is (.ref qf))])
    ⟨_, ds, [], rfl, List.Perm.refl _, Dv.rfl'.add.add, rfl, rfl, rfl⟩ (fun m w' τ' h => ?_)
  obtain ⟨ls, fs, rfl, pm, dv, of, ol, rfl⟩ := h
  have hln : fs.length + ls.length = ds.length := by
    have z := pm.length_eq
    rw [List.length_append] at z
    exact z
  have hshl : ∀ x ∈ ls, Sh x 3 := fun x hx => hsh x (pm.mem_iff.mp (List.mem_append_right _ hx))
  refine ⟨_, t_neO hu (nO 2) ol (v_lst a_nil) (Sh.list hshl).shaped (Sh.list (xs := []) (n := 0) fun x h => by cases h).shaped, fun h => ?_, fun h => ?_⟩
  · have hne : ls ≠ [] := fun z => by rw [z, eqv_nil] at h; cases h
    have hpos : 0 < ls.length := List.length_pos_iff.mpr hne
    refine rn_appPop (jf := 0) (jg := 1) (by decide) (nO 3) of (nO 2) ol (x_dl (P := isI K fun i => ∃ k : Nat, i = k ∧ k < ls.length) ls.length (cl_lawAny T) hr (by decide) pass0 dv.M dv.ok (ap_cons (nO 0) (ap_cons (Xe.eqI (v_lenO T.len (nO 2) ol)) ap_nil)) ⟨hpos, by omega⟩ fun r ⟨k, e2, e3⟩ => ⟨k, e2, k, rfl, e3⟩) (fun i hi => hi) (by omega) (by omega) (fun i x h1 h2 hx => ?_)
    have hi : i < ls.length := (List.getElem?_eq_some_iff.mp hx).1
    have ex : ls[i] = x := by
      have z := hx
      rw [List.getElem?_eq_getElem hi] at z
      exact Option.some.inj z
    have l2 : 1 < w'.own.length := (List.getElem?_eq_some_iff.mp ol).1
    refine rn_nil fun σ H s => ⟨_, _, _, ?_, ⟨ls.eraseIdx i, fs ++ [x], rfl, ?_, dv.put.put, ?_, ?_, rfl⟩, s⟩
    · rw [List.length_eraseIdx, if_pos hi]; omega
    · refine List.Perm.trans ?_ pm
      rw [List.append_assoc]
      refine List.Perm.append_left _ ?_
      show (x :: ls.eraseIdx i).Perm ls
      rw [← ex]
      exact erase_perm hi
    · show ((w'.own.set 1 _).set 0 _)[0]? = _
      rw [List.getElem?_set_self (by rw [List.length_set]; omega)]
      rfl
    · show ((w'.own.set 1 _).set 0 _)[1]? = _
      rw [List.getElem?_set_ne (by decide), List.getElem?_set_self l2]
      rfl
  · have e0 : ls = [] := by
      rw [eqv_nil] at h
      cases z : decide (ls = []) with
      | true => exact of_decide_eq_true z
      | false => rw [z] at h; cases h
    subst e0
    rw [List.append_nil] at pm
    exact rn_retODl q dv.up rfl (nO 3) of nf ⟨fs, pm, rfl⟩
end
end Lt
namespace Lt
open PySem PySem.Spec PyProof.Rows L2
section
variable {X : Cx} {w : Vw} {e a b n o f g idx : Expr} {es : List Expr} {rest : List Stmt} {τ : Ty} {P : Pd → Prop} {pos p pos' apos pos2 apos2 : Pos} {D : Ends}
theorem flat_one {α : Type} (v : α) : ∀ m : Nat, (List.replicate m [v]).flatten = List.replicate m v
  | 0 => rfl
  | m + 1 => by rw [List.replicate_succ, List.replicate_succ, List.flatten_cons, flat_one v m]; rfl
/-- [x] * m -/
theorem x_repF {d : PyData} {m : Nat} (ha : Xf X w a τ (fun c => c = Ct.lst X.K [d])) (hb : ∀ w' : Vw, w'.M = w.M → w'.ok = w.ok → Xe X w' b τ (eI X.K m)) (hm : m ≤ 1000) : Xe X w (.BinOp a .Mult b pos) τ (eD X.K (.list (List.replicate m d))) := fun σ H s Q k => by
  refine eSem_of (pe_op op_rep pe_sem pe_sem) (ha σ H s _ fun q o c H1 m1 i1 nq ec hco => ?_)
  subst ec
  have s1 := s.move m1 i1
  have n1 := s1.notin nq
  have n2 : ¬ q ∈ w.M ∧ ∀ {H : Hp} {o : HO}, w.J H → w.J (upd H q o) := w.jnw i1.1 nq
  have s2 : Sv (w.add q (Ct.lst X.K [d]) n1 n2) (upd H1 q o) σ τ := s1.add nq ((Ct.lst X.K [d]).st (hid_more nq (same_upd nq)) hco) n1 n2
  refine hb (w.add q (Ct.lst X.K [d]) n1 n2) rfl rfl σ _ s2 _ fun u pd H2 m2 i2 ⟨z, e1, e2⟩ hu => ?_
  subst e1; subst e2
  have eu : u = .int (m : Int) := dat_int hu
  subst eu
  have s3 := s2.move m2 i2
  obtain ⟨s5, o2, ho2, vs, e3, da⟩ := s3.show
  subst e3
  cases da with
  | cons d1 d2 =>
    cases d2
    have big : ((1000 : Nat) : Int) < 2 ^ 63 := by decide
    have neg : -((2 : Int) ^ 63) ≤ 0 := by decide
    refine ⟨q, (m : Int), [_], rfl, rfl, hid_sub _ _ _ _ ho2, by omega, by omega, ?_, fun r nr => ?_⟩
    · have e4 : ((m : Int)).toNat = m := by omega
      rw [e4]
      show 1 * m ≤ sizeLine
      have : (1000 : Nat) ≤ sizeLine := by decide
      omega
    · have e4 : ((m : Int)).toNat = m := by omega
      rw [e4, flat_one]
      have me : Exm w.M H H2 := (m1.trans (Exm.upd (.inr nq))).trans m2
      have z := ot_lst (X := X) (w := w) (H := H2) (t := fun Q => ∀ p, H2 p = none → Q (.ref p) (upd H2 p (.lst (List.replicate m _)))) (A := fun y => y = .list (List.replicate m d)) s5.live s5.inv (dpa_rep d1 m) rfl fun Q h => h
      exact z Q (fun v pd H3 m3 i3 p3 h3 => k v pd H3 (me.trans m3) i3 p3 h3) r nr
end
def scOf : List Stmt → Scope
  | .Return (some (.ListComp _ _ sc _)) _ :: _ => sc
  | _ => defScope sLawColumns
/-- the scope of a block within def d -/
def inSc (d : Stmt) (sc : Scope) : Scope := relabel sc { scope := defScope d, locals := 0, globals := 0, cells := [] }
theorem relabel_env {sc : Scope} {e e' : Env} (h : e.scope = e'.scope) : relabel sc e = relabel sc e' := by
  unfold relabel
  have k : ∀ n, e.kindOf n = e'.kindOf n := fun n => by unfold Env.kindOf; rw [h]
  simp only [h, k]
/-- a block within a block -/
theorem blkOk_in (d : Stmt) {N : List Str} {sc scope : Scope} {own : List (Str × Nat)} {cl : List (Str × Addr)} {C : Addr} {env : Env} (he : env.scope = defScope d) (h : blkC N (inSc d sc) scope own = true) : BlkOk N (compEnvC sc cl C env).scope scope own := by
  show BlkOk N (relabel sc env) scope own
  rw [relabel_env (e' := { scope := defScope d, locals := 0, globals := 0, cells := [] }) he]
  exact blkOk_by h
/-- the columns as rows -/
def trn (cols : Tb) (n : Nat) : Tb := (List.range n).map fun s => cols.map fun c => c.getD s 0
theorem trn_len (cols : Tb) (n : Nat) : (trn cols n).length = n := by simp [trn]
theorem trn_ok {cols : Tb} {n : Nat} (h0 : cols ≠ []) (hn : 0 < n) (h : ∀ c ∈ cols, c.length = n ∧ ∀ x ∈ c, x < n) : Ok (trn cols n) cols.length := by
  refine ⟨List.length_pos_iff.mpr h0, by rw [trn_len]; exact hn, fun r hr => ?_⟩
  obtain ⟨s, hs, rfl⟩ := List.mem_map.mp hr
  have hs' : s < n := List.mem_range.mp hs
  refine ⟨by simp, fun x hx => ?_⟩
  obtain ⟨c, hc, rfl⟩ := List.mem_map.mp hx
  obtain ⟨h1, h2⟩ := h c hc
  rw [trn_len]
  have hl : s < c.length := by omega
  have e : c.getD s 0 = c[s] := by simp [List.getD, hl]
  rw [e]
  exact h2 _ (List.getElem_mem hl)
section
variable {P : Program} {w : World} {K : PySem.W.Frag} {mg : Str → Option Value} {base : Heap} {M : Ad}
def F_lawCols (K : PySem.W.Frag) : List Pd → Pd → Prop := fun pds r => ∃ (cols : Tb) (n : Nat), pds = [dat K (rowsL cols)] ∧ cols ≠ [] ∧ (∀ c ∈ cols, c.length = n) ∧ n < 1000 ∧ cols.length ≤ 1000 ∧ r = dat K (rowsL (trn cols n))
theorem sc_lawCols : FnScope ["_law_columns_here", "_law_state", "_law_column_here"] ["_law_columns_here"] (defScope sLawColumns) := ⟨rfl, rfl, rfl, by decide +kernel, rfl, by decide +kernel, by decide +kernel⟩
theorem cl_lawCols (T : Tx K mg M) : Cl P w K mg base CX0 1 "_law_columns" ["_law_columns_here"] (spP (F_lawCols K)) := by
  refine Cl.mk' (d := dLawColumns) (T.df 27 _ rfl rfl rfl) (fun f fd F => fn_pure F sc_lawCols (fun pds r h => ?_) fun cdv A outer s H E hr S H0 pds r Q h q => ?_) (fun _ _ _ _ _ _ us hl => match us, hl with | [_], _ => rfl)
  · obtain ⟨cols, n, e1, _⟩ := h
    subst e1; rfl
  obtain ⟨cols, n, e1, h0, hc, hn, hl, e2⟩ := h
  subst e1
  have h0' : 0 < cols.length := List.length_pos_iff.mpr h0
  have c0 : (cols.map natsL)[0]? = some (.list (nats (cols.getD 0 []))) := rows_get (getD_some h0')
  have l0 : (nats (cols.getD 0 [])).length = n := by
    rw [nats_len]
    have e : cols.getD 0 [] = cols[0] := by simp [List.getD, h0']
    rw [e]
    exact hc _ (List.getElem_mem h0')
  refine rn_retP q .rfl' rfl (Xe.ret (v_lc (own := [("_law_state", 1)]) (ds := rangeD n) (ws := (trn cols n).map natsL) rfl sc_lawCols.nd (wi_range T.range (Xe.imp (v_len T.len (v_ix (ds := cols.map natsL) (nD 0) (cI 0) (.inl rfl) c0) (.inl rfl)) fun pd ⟨y, e1, e2⟩ => ⟨y, e1, by rw [e2, l0]⟩) (by omega)) (blkOk_by (N := ["_law_columns_here", "_law_state", "_law_column_here"]) (sc := defScope sLawColumns) (by decide +kernel))
    (fun _ _ _ _ _ => pg_name (i := 1) sc_lawCols.nd rfl (Or.inr rfl)) (tgr_name 1) (fun _ _ _ => trivial) (by rw [List.length_map, trn_len, rangeD_len]) (by rw [rangeD_len]; omega) (fun i x r hx' hr' w' _ _ => ?_)) e2)
  obtain ⟨hi, rfl⟩ := rangeD_get hx'
  obtain ⟨row, h2, rfl⟩ := rows_inv hr'
  have erow : row = cols.map fun c => c.getD i 0 := by
    unfold trn at h2
    rw [List.getElem?_map, List.getElem?_range hi] at h2
    exact (Option.some.inj h2).symm
  subst erow
  intro s1 H1 C1 cl1 fp1
  apply v_lc (own := [("_law_column_here", 2)]) (ds := cols.map natsL) (ws := nats (cols.map fun c => c.getD i 0))
  · rfl
  · exact sc_lawCols.nd
  · exact wi_list (nD 0)
  · exact blkOk_in (N := ["_law_columns_here", "_law_state", "_law_column_here"]) sLawColumns rfl (by decide +kernel)
  · exact fun _ _ _ _ _ => pg_name (i := 2) sc_lawCols.nd rfl (Or.inl rfl)
  · exact tgr_name 2
  · exact fun _ _ _ => trivial
  · rw [nats_len, List.length_map, List.length_map]
  · rw [List.length_map]; omega
  intro j x r hx2 hr2 w2 _ _
  obtain ⟨c, h3, rfl⟩ := rows_inv hx2
  obtain ⟨m, h4, rfl⟩ := nats_inv hr2
  have em : m = c.getD i 0 := by
    rw [List.getElem?_map, h3] at h4
    exact (Option.some.inj h4).symm
  have hlc : i < c.length := by rw [hc c (List.mem_of_getElem? h3)]; exact hi
  intro s2 H2 C2 cl2 fp2
  exact v_ix (nD 2) (nI 1) (.inl rfl) (nats_get (by rw [em]; exact getD_some hlc))
end
end Lt
namespace Lt
open PySem PySem.Spec PyProof.Rows L2
section
variable {X : Cx} {w : Vw} {e a b elt : Expr} {es : List Expr} {rest : List Stmt} {τ : Ty} {P : Pd → Prop} {pos p ppos tpos : Pos} {D : Ends}
theorem Xe.toJ {i j : Int} (h : Xe X w e τ (eI X.K i)) (q : i = j) : Xe X w e τ (eI X.K j) := by rw [← q]; exact h
theorem v_addN {x y : Nat} (ha : Xe X w a τ (eI X.K x)) (hb : Xe X w b τ (eI X.K y)) : Xe X w (.BinOp a .Add b pos) τ (eI X.K ((x + y : Nat) : Int)) := (v_add ha hb).toJ (by omega)
theorem v_modN {x y : Nat} (ha : Xe X w a τ (eI X.K x)) (hb : Xe X w b τ (eI X.K y)) (hy : 0 < y) : Xe X w (.BinOp a .Mod b pos) τ (eI X.K ((x % y : Nat) : Int)) :=
  x_mod ha hb (fun i j e1 e2 => by rw [e2]; omega) (fun i j e1 e2 => by rw [e1, e2]; exact (Int.natCast_emod x y).symm)
theorem v_divN {x y : Nat} (ha : Xe X w a τ (eI X.K x)) (hb : Xe X w b τ (eI X.K y)) (hy : 0 < y) (hz : y < 1000000) : Xe X w (.BinOp a .FloorDiv b pos) τ (eI X.K ((x / y : Nat) : Int)) :=
  x_fdiv ha hb (fun i j e1 e2 => by rw [e2]; exact ⟨by omega, by omega⟩) (fun i j e1 e2 => by rw [e1, e2]; exact (Int.natCast_ediv x y).symm)
theorem v_mulN {x y : Nat} (ha : Xe X w a τ (eI X.K x)) (hb : Xe X w b τ (eI X.K y)) (hx : x < 1000000) : Xe X w (.BinOp a .Mult b pos) τ (eI X.K ((x * y : Nat) : Int)) :=
  x_mul ha hb (fun i j e1 e2 => .inl (by
    rw [e1]
    have : ((1000000 : Nat) : Int) < 2 ^ 64 := by decide
    have n : -((2 : Int) ^ 64) < 0 := by decide
    exact ⟨by omega, by omega⟩)) (fun i j e1 e2 => by rw [e1, e2]; exact (Int.natCast_mul x y).symm)
/-- [e for x in range(n)] of numbers -/
theorem v_lcR {x : Str} {n j : Nat} {g : Nat → Nat} {scope : Scope} (hc : X.calm = true) (hN : X.N.Nodup) (hm : X.mg "range" = none) (ha : Xe X w a τ (eI X.K n)) (hn : n < 100000) (ok : BlkOk X.N X.env.scope scope [(x, j)])
    (hg : ∀ (s : Shared) (H : Hp) (C : Addr) (cl : List (Str × Addr)) (fp : List Addr), PG (X.blk s H scope (compEnvC scope cl C X.env) fp) (.Name x tpos) (gName j))
    (he : ∀ i : Nat, i < n → ∀ w' : Vw, w'.M = w.M → w'.ok = w.ok → Xeb X scope w' elt ((wipeT τ [j]).set j (some (dat X.K (.int i)))) (eI X.K (g i : Nat))) (hG : Gl X "range" := by rfl) (hst : starEach [a] X.env = [(false, eval a X.env)] := by rfl)
    (hs : ∀ x, foldedSetIterable (.Call (.Name "range" p) [a] [] ppos) X.env x = pure x := by intro _; rfl) :
    Xe X w (.ListComp elt [⟨.Name x tpos, .Call (.Name "range" p) [a] [] ppos, [], 0⟩] scope pos) τ (eD X.K (natsL ((List.range n).map g))) :=
  v_lc (own := [(x, j)]) (ws := nats ((List.range n).map g)) hc hN (wi_range hm ha (by omega) hG hst) ok hg (tgr_name j) (fun _ _ _ => trivial) (by rw [nats_len, List.length_map, List.length_range, rangeD_len]) (by rw [rangeD_len]; omega) (fun i x r hx' hr' w' m1 m2 => by
    obtain ⟨hi, rfl⟩ := rangeD_get hx'
    obtain ⟨m, h4, rfl⟩ := nats_inv hr'
    have em : m = g i := by
      rw [List.getElem?_map, List.getElem?_range hi] at h4
      exact (Option.some.inj h4).symm
    subst em
    exact fun s H C cl fp => (he i hi w' m1 m2 s H C cl fp).toD) hs
end
def natOf : PyData → Nat
  | .int i => i.toNat
  | _ => 0
theorem natOf_nats (xs : List Nat) : (nats xs).map natOf = xs := by
  unfold nats
  rw [List.map_map]
  conv => rhs; rw [← List.map_id xs]
  exact List.map_congr_left fun x _ => by simp [natOf]
theorem perm_nats {es : List PyData} {xs : List Nat} (h : es.Perm (nats xs)) : ∃ ys : List Nat, ys.Perm xs ∧ es = nats ys := by
  refine ⟨es.map natOf, ?_, ?_⟩
  · have z := h.map natOf
    rw [natOf_nats] at z
    exact z
  · have all : ∀ e ∈ es, PyData.int (natOf e : Nat) = e := fun e he => by
      obtain ⟨n, _, rfl⟩ := List.mem_map.mp (h.mem_iff.mp he)
      simp [natOf]
    unfold nats
    rw [List.map_map]
    conv => lhs; rw [← List.map_id es]
    exact List.map_congr_left fun e he => (all e he).symm
theorem Sh.mono {d : PyData} {n m : Nat} (h : Sh d n) (l : n ≤ m) : Sh d m := ⟨h.lay, Nat.le_trans h.dep l⟩
section
variable {P : Program} {w : World} {K : PySem.W.Frag} {mg : Str → Option Value} {base : Heap} {M : Ad}
/-- a column: what a command does to each of n states -/
structure Col (n : Nat) (c : List Nat) : Prop where
  len : c.length = n
  lt : ∀ x ∈ c, x < n
theorem Col.of {n : Nat} {g : Nat → Nat} (h : ∀ i, i < n → g i < n) : Col n ((List.range n).map g) := ⟨by simp, fun x hx => by
  obtain ⟨i, hi, rfl⟩ := List.mem_map.mp hx
  exact h i (List.mem_range.mp hi)⟩
def ar_col (K : PySem.W.Frag) (i : Nat × Nat) : List Pd := [dat K (.int i.1), dat K (.int i.2)]
def ok_col (i : Nat × Nat) : Prop := 0 < i.2 ∧ i.2 < 100
def B_col (K : PySem.W.Frag) (i : Nat × Nat) (r : Pd) : Prop := ∃ c, Col i.2 c ∧ r = dat K (natsL c)
abbrev NCol : List Str := ["_law_deal", "_law_form", "_law_many", "_law_to", "_law_half", "_law_state"]
theorem sc_lawCol : FnScope NCol ["_law_deal", "_law_form", "_law_many"] (defScope sLawColumn) := ⟨rfl, rfl, rfl, by decide +kernel, rfl, by decide +kernel, by decide +kernel⟩
theorem cl_lawCol (T : Tx K mg M) : Cl P w K mg base CX0 3 "_law_column" ["_law_deal", "_law_form", "_law_many"] (spDl (ar_col K) ok_col (B_col K)) := by
  refine Cl.mk' (d := dLawColumn) (T.df 28 _ rfl rfl rfl) (fun f fd F => fn_dl F sc_lawCol (fun i => rfl) fun cdv Ar outer s H E hr S d l hd hl H0 i Q h q => ?_) (fun _ _ _ _ _ _ us hl => match us, hl with | [_, _, _], _ => rfl)
  obtain ⟨form, n⟩ := i
  obtain ⟨hn0', hn'⟩ := h
  have hn0 : 0 < n := hn0'
  have hn : n < 100 := hn'
  refine rn_asg (i := 3) (P := B_any K n) (x_dl n (cl_lawAny T) hr (by decide) pass0 rfl rfl (ap_cons (nP 0) (ap_cons (nP 2) ap_nil)) ⟨hn0, by omega⟩ fun r hB => hB) (fun pd hp => ?_) sc_lawCol.nd rfl (Or.inr rfl)
  obtain ⟨t, e1, ht⟩ := hp
  subst e1
  have fin_ : ∀ {c : List Nat}, Col n c → ∀ pd, eD K (natsL c) pd → B_col K (form, n) pd := fun hc pd ⟨y, e1, e2⟩ => ⟨_, hc, by rw [e1, e2]⟩
  refine rn_if (T := eT (decide ((form : Int) = 0))) (t_eq (nI 1) (cI 0)) (fun _ => ?_) (fun _ => rn_out ?_)
  · exact rn_retDl q .rfl' rfl (Xe.imp (v_lcR (g := fun i => (i + t) % n) (j := 5) rfl sc_lawCol.nd T.range (nI 2) (by omega) (blkOk_by (N := NCol) (sc := defScope sLawColumn) (by decide +kernel)) (fun _ _ _ _ _ => pg_name (i := 5) sc_lawCol.nd rfl (Or.inl rfl)) (fun i hi w' _ _ s1 H1 C1 cl1 fp1 => v_modN (v_int T.int (v_addN (nI 5) (nI 3))) (nI 2) hn0)) (fin_ (Col.of fun i hi => Nat.mod_lt _ hn0)))
  refine rn_if (T := eT (decide ((form : Int) = 1))) (t_eq (nI 1) (cI 1)) (fun _ => ?_) (fun _ => rn_out ?_)
  · exact rn_retDl q .rfl' rfl (Xe.imp (x_repF (d := .int t) (m := n) (xf_lst (C := fun ds => ds = [.int t]) (a_cons (nD 3) a_nil) (fun ds e => by rw [e]; exact (by decide : 1 ≤ sizeLine)) fun ds e => by rw [e]) (fun w' _ _ => nI 2) (by omega)) (fun pd ⟨y, e1, e2⟩ => ⟨List.replicate n t, ⟨by simp, fun x hx => by rw [(List.mem_replicate.mp hx).2]; exact ht⟩, by rw [e1, e2]; simp [natsL, nats]; rfl⟩))
  refine rn_if (T := eT (decide ((form : Int) = 2))) (t_eq (nI 1) (cI 2)) (fun _ => ?_) (fun _ => rn_out ?_)
  · exact rn_retDl q .rfl' rfl (Xe.imp (v_lcR (g := fun i => if i = 0 then t else i) (j := 5) rfl sc_lawCol.nd T.range (nI 2) (by omega) (blkOk_by (N := NCol) (sc := defScope sLawColumn) (by decide +kernel)) (fun _ _ _ _ _ => pg_name (i := 5) sc_lawCol.nd rfl (Or.inl rfl)) (fun i hi w' _ _ s1 H1 C1 cl1 fp1 => v_if (u := decide ((i : Int) = 0)) (t_eq (nI 5) (cI 0)) (fun h => (nI 3).toJ (by have := of_decide_eq_true h; rw [if_pos (by omega)])) (fun h => (nI 5).toJ (by have := of_decide_eq_false h; rw [if_neg (by omega)])))) (fin_ (Col.of fun i hi => by show (if i = 0 then t else i) < n; split <;> omega)))
  refine rn_if (T := eT (decide ((form : Int) = 3))) (t_eq (nI 1) (cI 3)) (fun _ => ?_) (fun _ => rn_out ?_)
  · exact rn_retDl q .rfl' rfl (Xe.imp (v_lcR (g := fun i => min (n - 1) (i + t - 1)) (j := 5) rfl sc_lawCol.nd T.range (nI 2) (by omega) (blkOk_by (N := NCol) (sc := defScope sLawColumn) (by decide +kernel)) (fun _ _ _ _ _ => pg_name (i := 5) sc_lawCol.nd rfl (Or.inl rfl)) (fun i hi w' _ _ s1 H1 C1 cl1 fp1 => x_max2 rfl T.max (cI 0) (x_min2 (R := fun y => y = if ((i : Int) + t - 1) < (n : Int) - 1 then ((i : Int) + t - 1) else (n : Int) - 1) rfl T.min (v_sub (nI 2) (cI 1)) (v_sub (v_add (nI 5) (nI 3)) (cI 1)) (fun i j e1 e2 => by rw [e1, e2])) (fun x y e1 e2 => by
      rw [e1, e2]
      show _ = ((min (n - 1) (i + t - 1) : Nat) : Int)
      split <;> split <;> omega))) (fin_ (Col.of fun i hi => by show min (n - 1) (i + t - 1) < n; omega)))
  refine rn_if (T := eT (decide ((form : Int) = 4))) (t_eq (nI 1) (cI 4)) (fun _ => ?_) (fun _ => rn_out ?_)
  · refine rn_retDl q .rfl' rfl (x_dl (natsL (List.range n), nats (List.range n)) (cl_lawMixed T) hr (by decide) pass0 rfl rfl (ap_cons (nP 0) (ap_cons (Xe.eq (v_listRange rfl T.list T.range (nI 2) (by omega))) ap_nil)) ⟨⟨.inl rfl⟩, by rw [nats_len, List.length_range]; omega, fun x hx => (sh_nats x hx).mono (by decide)⟩ fun r ⟨es, pm, e⟩ => ?_)
    obtain ⟨ys, py, rfl⟩ := perm_nats pm
    exact ⟨ys, ⟨by rw [py.length_eq, List.length_range], fun x hx => List.mem_range.mp (py.mem_iff.mp hx)⟩, e⟩
  refine rn_if (T := eT (decide ((form : Int) = 5))) (t_eq (nI 1) (cI 5)) (fun _ => ?_) (fun _ => rn_out ?_)
  · exact rn_retDl q .rfl' rfl (Xe.imp (v_lcR (g := fun i => max i t) (j := 5) rfl sc_lawCol.nd T.range (nI 2) (by omega) (blkOk_by (N := NCol) (sc := defScope sLawColumn) (by decide +kernel)) (fun _ _ _ _ _ => pg_name (i := 5) sc_lawCol.nd rfl (Or.inl rfl)) (fun i hi w' _ _ s1 H1 C1 cl1 fp1 => x_max2 rfl T.max (nI 5) (nI 3) (fun x y e1 e2 => by
      rw [e1, e2]
      show _ = ((max i t : Nat) : Int)
      split <;> omega))) (fin_ (Col.of fun i hi => by show max i t < n; omega)))
  refine rn_if (T := eT (decide ((form : Int) = 6))) (t_eq (nI 1) (cI 6)) (fun _ => ?_) (fun _ => rn_out ?_)
  · refine rn_asg (i := 4) (P := eI K ((max 1 (n / 2) : Nat) : Int)) (x_max2 rfl T.max (cI 1) (v_divN (y := 2) (nI 2) (cI 2) (by decide) (by decide)) (fun x y e1 e2 => by rw [e1, e2]; split <;> omega)) (fun pd hp => ?_) sc_lawCol.nd rfl (Or.inr rfl)
    obtain ⟨z, rfl, rfl⟩ := hp
    have hh0 : 0 < max 1 (n / 2) := by omega
    have hh1 : max 1 (n / 2) ≤ n := by omega
    generalize max 1 (n / 2) = half at hh0 hh1 ⊢
    exact rn_retDl q .rfl' rfl (Xe.imp (v_lcR (g := fun i => (i + t) % half + (if half ≤ i ∧ 2 * half ≤ n then half else 0)) (j := 5) rfl sc_lawCol.nd T.range (nI 2) (by omega) (blkOk_by (N := NCol) (sc := defScope sLawColumn) (by decide +kernel)) (fun _ _ _ _ _ => pg_name (i := 5) sc_lawCol.nd rfl (Or.inl rfl)) (fun i hi w' _ _ s1 H1 C1 cl1 fp1 => v_addN (v_modN (v_int T.int (v_addN (nI 5) (nI 3))) (nI 4) hh0) (v_if (u := decide ((half : Int) ≤ i) && decide (((2 * half : Nat) : Int) ≤ n)) (xt_p (t_and (t_ge (nI 5) (nI 4)) (fun _ => xp_and1 (t_le (v_mulN (x := 2) (cI 2) (nI 4) (by decide)) (nI 2))))) (fun h => by
      obtain ⟨a1, a2⟩ := Bool.and_eq_true_iff.mp h
      have b1 := of_decide_eq_true a1
      have b2 := of_decide_eq_true a2
      exact (nI 4).toJ (by rw [if_pos ⟨by omega, by omega⟩])) (fun h => by
      have h' : ¬ (half ≤ i ∧ 2 * half ≤ n) := fun ⟨z1, z2⟩ => by
        rw [decide_eq_true (show (half : Int) ≤ i by omega), decide_eq_true (show ((2 * half : Nat) : Int) ≤ n by omega)] at h
        cases h
      exact (cI 0).toJ (by rw [if_neg h']; rfl))))) (fin_ (Col.of fun i hi => by
        show (i + t) % half + (if half ≤ i ∧ 2 * half ≤ n then half else 0) < n
        have := Nat.mod_lt (i + t) hh0
        split <;> omega)))
  · refine rn_retDl q .rfl' rfl (Xe.imp (x_lc (own := [("_law_state", 5)]) (A := fun y => y = rangeD n) (C := fun d => ∃ c, Col n c ∧ d = natsL c) rfl sc_lawCol.nd (wi_range T.range (nI 2) (by omega)) (blkOk_by (N := NCol) (sc := defScope sLawColumn) (by decide +kernel)) (fun _ _ _ _ _ => pg_name (i := 5) sc_lawCol.nd rfl (Or.inl rfl)) (tgr_name 5) (by simp)
      (fun _ i acc => ∃ c : List Nat, acc = nats c ∧ c.length = i ∧ (∀ x ∈ c, x < n) ∧ i ≤ n) (fun _ _ _ b => b = true) (fun ds e => ⟨[], rfl, rfl, fun _ h => (nomatch h), Nat.zero_le _⟩) (fun ds i acc ⟨c, e1, e2, e3, e4⟩ => ?_) (fun _ _ _ _ _ => trivial) (fun _ _ _ _ _ _ _ w' _ _ => rfl) (fun ds i acc x e hi hx hT w' m1 m2 => ?_) (fun _ _ _ _ _ _ _ h => by cases h) (fun ds acc e hi => ?_)) (fun pd ⟨y, e1, c, hc, e2⟩ => ⟨c, hc, by rw [e1, e2]; rfl⟩))
    · rw [e1, nats_len, e2]
      exact Nat.lt_of_le_of_lt e4 (Nat.lt_trans hn (by decide))
    · subst e
      obtain ⟨hi', rfl⟩ := rangeD_get hx
      obtain ⟨c, e1, e2, e3, e4⟩ := hi
      intro s1 H1 C1 cl1 fp1
      refine x_dl n (cl_lawAny T) hr (by decide) pass0 m1 m2 (ap_cons (nP 0) (ap_cons (nP 2) ap_nil)) ⟨hn0, by omega⟩ fun r ⟨k, e5, e6⟩ => ⟨_, e5, c ++ [k], ?_, ?_, ?_, hi'⟩
      · rw [e1, nats_app]; rfl
      · rw [List.length_append, e2]; rfl
      · intro x hx
        rcases List.mem_append.mp hx with hx | hx
        · exact e3 x hx
        · rw [List.mem_singleton.mp hx]; exact e6
    · subst e
      rw [rangeD_len] at hi
      obtain ⟨c, e1, e2, e3, e4⟩ := hi
      exact ⟨c, ⟨e2, e3⟩, by rw [e1]; rfl⟩
end
end Lt
namespace Lt
open PySem PySem.Spec PyProof.Rows L2
section
variable {X : Cx} {w v w0 : Vw} {e a b n o : Expr} {es : List Expr} {rest : List Stmt} {τ : Ty} {P : Pd → Prop} {pos p pos' apos : Pos} {D : Ends} {H : Hp} {σ : L2.St} {q : Addr} {ds es' : List PyData} {i j : Nat} {K : PySem.W.Frag}
/-! ### a view that knows less -/
theorem Sv.shrink (hS : ∀ a, a ∈ v.S → a ∈ w.S) (hJ : ∀ H, w.J H → v.J H) (ho : ∀ c, c ∈ v.own → c ∈ w.own) (s : Sv w H σ τ) : Sv v H σ τ :=
  ⟨fun a m => s.live a (hS a m), ⟨hJ _ s.inv.1, fun c m => let ⟨x, h1, h2⟩ := s.inv.2 c (ho c m); ⟨x, h1, c.2.st (hid_less hS) h2⟩⟩, s.len, fun i pd h => let ⟨x, h1, h2⟩ := s.at_ i pd h; ⟨x, h1, pd.st (hid_less hS) h2⟩⟩
/-- what slot i holds is known better -/
theorem Sv.know (s : Sv w H σ τ) {pd : Pd} (h : ∃ x, σ[i]? = some (some x) ∧ pd.p x (hid w.S H)) : Sv w H σ (τ.set i (some pd)) := by
  refine ⟨s.live, s.inv, by rw [List.length_set]; exact s.len, fun k c e => ?_⟩
  by_cases hk : i = k
  · subst hk
    by_cases hl : i < τ.length
    · rw [List.getElem?_set_self hl] at e
      cases e
      exact h
    · rw [List.getElem?_eq_none (by rw [List.length_set]; omega)] at e; cases e
  · rw [List.getElem?_set_ne hk] at e
    exact s.at_ k c e
/-- a list of one's own is shown: it is data from now on -/
theorem Sv.shown (hS : ∀ a, a ∈ v.S → a ∈ w.S) (hJ : ∀ H, w.J H → v.J H) (ho : ∀ c, c ∈ v.own → c ∈ w.own) (hw : w.own[j]? = some (q, Ct.lst K ds)) (nq : ¬ q ∈ v.S) (hi : τ[i]? = some (some (is (.ref q)))) (s : Sv w H σ τ) : Sv v H σ (τ.set i (some (dat K (.list ds)))) := by
  refine (s.shrink hS hJ ho).know ?_
  obtain ⟨x, h1, h2⟩ := s.at_ i _ hi
  have ex : x = .ref q := h2
  subst ex
  obtain ⟨ob, hob, vs, rfl, da⟩ := s.inv.2 (q, Ct.lst K ds) (List.mem_of_getElem? hw)
  exact ⟨_, h1, .lst (.inl (.inl (by rw [hid_ne nq]; exact hob))) (dpa_same (hid_less hS) _ _ da)⟩
theorem rn_shown (hS : ∀ a, a ∈ v.S → a ∈ w.S) (hJ : ∀ H, w.J H → v.J H) (ho : ∀ c, c ∈ v.own → c ∈ w.own) (hw : w.own[j]? = some (q, Ct.lst X.K ds)) (nq : ¬ q ∈ v.S) (i : Nat) (hi : τ[i]? = some (some (is (.ref q))))
    (k : Rn X v rest (τ.set i (some (dat X.K (.list ds)))) D) : Rn X w rest τ D := rn_view k fun σ H s => s.shown hS hJ ho hw nq hi
/-- back to where one began, the list shown -/
theorem rn_base (u : Up w0 w) (h0 : w0.own = []) (hw : w.own[j]? = some (q, Ct.lst X.K ds)) (nq : ¬ q ∈ w0.S) (i : Nat) (hi : τ[i]? = some (some (is (.ref q)))) (k : Rn X w0 rest (τ.set i (some (dat X.K (.list ds)))) D) : Rn X w rest τ D :=
  rn_shown u.S (fun _ h => u.J h) (fun c m => by rw [h0] at m; cases m) hw nq i hi k
/-! ### tuples, lists put together -/
theorem v_catT (ha : Xe X w a τ (eD X.K (.tuple ds))) (hb : Xe X w b τ (eD X.K (.tuple es'))) (hl : ds.length + es'.length ≤ 100000) : Xe X w (.BinOp a .Add b pos) τ (eD X.K (.tuple (ds ++ es'))) :=
  x_2 (t := fun ta tb => tOp (rCatA X.K) ta tb) (fun h1 h2 => pe_op op_catA h1 h2) (r := rCatA X.K) (fun _ _ _ _ _ h => h) ha hb fun va vb pa pb H lv i0 ⟨x, e1, e2⟩ ⟨y, e3, e4⟩ h1 h2 => by
    subst e1; subst e2; subst e3; subst e4
    obtain ⟨p, xs, rfl, hx, dx⟩ := dat_tup h1
    obtain ⟨q, ys, rfl, hy, dy⟩ := dat_tup h2
    have sz : xs.length + ys.length ≤ sizeLine := by
      rw [dpa_len dx, dpa_len dy]
      exact Nat.le_trans hl (by decide)
    by_cases x0 : xs = []
    · refine Ot.val (pd := dat X.K (.tuple (ds ++ es'))) i0 (fun Q k => ⟨p, q, xs, ys, rfl, rfl, sqt_same (hid_sub _ _) hx, sqt_same (hid_sub _ _) hy, sz, fun _ => k, fun z => absurd x0 z, fun z => absurd x0 z⟩) ⟨_, rfl, rfl⟩ ?_
      have d0 : ds = [] := by
        have z := dpa_len dx
        rw [x0] at z
        exact List.length_eq_zero_iff.mp z.symm
      subst d0
      exact h2
    · by_cases y0 : ys = []
      · refine Ot.val (pd := dat X.K (.tuple (ds ++ es'))) i0 (fun Q k => ⟨p, q, xs, ys, rfl, rfl, sqt_same (hid_sub _ _) hx, sqt_same (hid_sub _ _) hy, sz, fun z => absurd z x0, fun _ _ => k, fun _ z => absurd y0 z⟩) ⟨_, rfl, rfl⟩ ?_
        have d0 : es' = [] := by
          have z := dpa_len dy
          rw [y0] at z
          exact List.length_eq_zero_iff.mp z.symm
        subst d0
        rw [List.append_nil]
        exact h1
      · exact ot_tup lv i0 (dpa_app dx dy) rfl fun Q k => ⟨p, q, xs, ys, rfl, rfl, sqt_same (hid_sub _ _) hx, sqt_same (hid_sub _ _) hy, sz, fun z => absurd z x0, fun _ z => absurd z y0, fun _ _ => k⟩
/-- two new lists -/
theorem xf_cat (ha : Xf X w a τ (fun c => c = Ct.lst X.K ds)) (hb : ∀ w' : Vw, w'.M = w.M → w'.ok = w.ok → Xf X w' b τ (fun c => c = Ct.lst X.K es')) (hl : ds.length + es'.length ≤ 100000) : Xf X w (.BinOp a .Add b pos) τ (fun c => c = Ct.lst X.K (ds ++ es')) := fun σ H s Q k => by
  refine eSem_of (pe_op op_cat pe_sem pe_sem) (ha σ H s _ fun q o c H1 m1 i1 nq ec hco => ?_)
  subst ec
  have s1 := s.move m1 i1
  have n1 := s1.notin nq
  have n2 : ¬ q ∈ w.M ∧ ∀ {H : Hp} {o : HO}, w.J H → w.J (upd H q o) := w.jnw i1.1 nq
  have s2 : Sv (w.add q (Ct.lst X.K ds) n1 n2) (upd H1 q o) σ τ := s1.add nq ((Ct.lst X.K ds).st (hid_more nq (same_upd nq)) hco) n1 n2
  refine hb (w.add q (Ct.lst X.K ds) n1 n2) rfl rfl σ _ s2 _ fun r o2 c2 H2 m2 i2 nr ec2 hco2 => ?_
  subst ec2
  obtain ⟨ys, e5, dy⟩ := hco2
  subst e5
  have s3 := s2.move m2 i2
  obtain ⟨s5, o3, ho3, xs, e3, dx⟩ := s3.show
  subst e3
  have hq2 : H2 q = some (.lst xs) := hid_sub _ _ _ _ ho3
  have dy' : DpAll X.K (hid w.S H2) ys es' := dpa_same (hid_less fun x m => List.mem_cons_of_mem _ m) _ _ dy
  have sm : Same H2 (upd H2 r (.lst ys)) := same_upd nr
  have me : Exm w.M H (upd H2 r (.lst ys)) := ((m1.trans (Exm.upd (.inr nq))).trans m2).trans (Exm.same sm)
  have sml : Same (hid w.S H2) (hid w.S (upd H2 r (.lst ys))) := hid_move (Exm.same sm)
  refine ⟨q, r, xs, ys, rfl, rfl, sm _ _ hq2, upd_same, ?_, fun p np => ?_⟩
  · rw [dpa_len dx, dpa_len dy]
    exact Nat.le_trans hl (by decide)
  · exact k p _ (Ct.lst X.K (ds ++ es')) (upd H2 r (.lst ys)) me (Vw.st w sm s5.inv) np rfl ⟨xs ++ ys, rfl, dpa_app (dpa_same sml _ _ dx) (dpa_same sml _ _ dy')⟩
/-- something new, as data -/
theorem Xf.toD (h : Xf X w e τ (fun c => c = Ct.lst X.K ds)) : Xe X w e τ (eD X.K (.list ds)) := fun σ H s Q k =>
  h σ H s _ fun p o c H1 m1 i1 np ec hco => by
    subst ec
    obtain ⟨vs, e1, da⟩ := hco
    subst e1
    have z := ot_lst (X := X) (w := w) (H := H1) (t := fun Q => ∀ p, H1 p = none → Q (.ref p) (upd H1 p (.lst vs))) (A := fun y => y = .list ds) (s.live.move m1) i1 da rfl fun Q h => h
    exact z Q (fun v pd H2 m2 i2 p2 h2 => k v pd H2 (m1.trans m2) i2 p2 h2) p np
theorem v_lstF (h : Xa X w es τ (eDs X.K ds)) (hl : ds.length ≤ 1000 := by simp) : Xf X w (.List es pos) τ (fun c => c = Ct.lst X.K ds) := xf_lst h (fun y e => by rw [e]; exact Nat.le_of_lt (small1000 hl)) fun y e => by rw [e]
/-! ### slices -/
theorem v_front {k : Nat} {hi : Expr} {p2 : Pos} (ha : Xe X w a τ (eD X.K (.tuple ds))) (hh : Xe X w hi τ (eI X.K k)) (hk : k ≤ ds.length) : Xe X w (.Subscript a (.Slice none (some hi) none p2) pos) τ (eD X.K (.tuple (ds.take k))) :=
  x_slT (CL := fun o => o = none) (CH := fun o => o = some (k : Int)) ha (xo_no rfl) (xo_some hh fun i e => by rw [e]) fun d l u e1 e2 e3 => ⟨ds, e1, by
    rw [e2, e3]
    unfold cutD
    rw [HT.sIx_none, HT.sIx_nat, List.drop_zero, Nat.sub_zero, Nat.min_eq_left hk]⟩
theorem v_frontL {k : Nat} {hi : Expr} {p2 : Pos} (ha : Xe X w a τ (eD X.K (.list ds))) (hh : Xe X w hi τ (eI X.K k)) : Xe X w (.Subscript a (.Slice none (some hi) none p2) pos) τ (eD X.K (.list (ds.take k))) :=
  x_slL (CL := fun o => o = none) (CH := fun o => o = some (k : Int)) ha (xo_no rfl) (xo_some hh fun i e => by rw [e]) fun d l u e1 e2 e3 => ⟨ds, e1, by
    rw [e2, e3]
    unfold cutD
    rw [HT.sIx_none, HT.sIx_nat, List.drop_zero, Nat.sub_zero]
    congr 1
    by_cases h : k ≤ ds.length
    · rw [Nat.min_eq_left h]
    · rw [Nat.min_eq_right (by omega), List.take_of_length_le (Nat.le_refl _), List.take_of_length_le (by omega)]⟩
theorem v_backL {k : Nat} {lo : Expr} {p2 : Pos} (ha : Xe X w a τ (eD X.K (.list ds))) (hh : Xe X w lo τ (eI X.K k)) (hk : k ≤ ds.length) : Xe X w (.Subscript a (.Slice (some lo) none none p2) pos) τ (eD X.K (.list (ds.drop k))) :=
  x_slL (CL := fun o => o = some (k : Int)) (CH := fun o => o = none) ha (xo_some hh fun i e => by rw [e]) (xo_no rfl) fun d l u e1 e2 e3 => ⟨ds, e1, by
    rw [e2, e3]
    unfold cutD
    rw [HT.sIx_none, HT.sIx_nat, Nat.min_eq_left hk, List.take_of_length_le (by rw [List.length_drop]; omega)]⟩
/-! ### numbers: stored, sought -/
/-- x[i] = e on a list of numbers of one's own -/
theorem rn_setN {xs : List Nat} {i m : Nat} {value : Expr} (hv : Xe X w value τ (eI X.K m)) (ho : Xe X w o τ (fun pd => pd = is (.ref q))) (hw : w.own[j]? = some (q, Ct.lst X.K (nats xs))) (hi : Xe X w b τ (eI X.K i)) (hl : i < xs.length)
    (k : Rn X (w.put j q (Ct.lst X.K (nats (xs.set i m))) ⟨_, hw⟩) rest τ D) (hs : swapsWithSole [.Subscript o b pos'] value pos.line X.env = pure false := by rfl) (hsw : swappedStores [.Subscript o b pos'] value X.env = pure none := by rfl)
    (h1 : (assignEach [.Subscript o b pos'] X.env).map (·.2) = [assign (.Subscript o b pos') X.env] := by rfl)
    (ha : ∀ v, assign (.Subscript o b pos') X.env v = (do
      let ov ← holding [v] (eval o X.env)
      let iv ← holding [v, ov] (eval b X.env)
      standAt pos'
      holding [v, ov, iv] (setItem ov iv v)
      release [v, ov, iv] []) := by intro _; rfl) : Rn X w (.Assign [.Subscript o b pos'] value pos :: rest) τ D := fun σ H s =>
  cons_of (ps_asg pe_sem (pg_sub pe_sem pe_sem set_list ha) hs hsw h1) (hv σ H s _ fun v pd H1 m1 i1 ⟨z0, e1, c1⟩ hv1 => ho σ H1 (s.move m1 i1) _ fun u pd2 H2 m2 i2 e2 hu => hi σ H2 ((s.move m1 i1).move m2 i2) _ fun t pd3 H3 m3 i3 ⟨z, e3, c3⟩ ht => by
    subst e1; subst e2; subst e3; subst c3; subst c1
    have ev : v = .int m := dat_int hv1
    subst ev
    have eu : u = .ref q := hu
    subst eu
    have et : t = .int i := dat_int ht
    subst et
    obtain ⟨vs, hob, da⟩ := own_at i3 hw
    have hlen := dpa_len da
    rw [nats_len] at hlen
    have hix : ixN vs.length (i : Int) = some i := by
      unfold ixN
      rw [if_pos (by omega), if_pos (by omega)]
      simp
    refine ⟨q, vs, i, i, rfl, rfl, hob, hix, k σ _ ((((s.move m1 i1).move m2 i2).move m3 i3).put ⟨_, hw⟩ ⟨_, rfl, ?_⟩)⟩
    have z := dpa_set (K := X.K) (G := hid w.S H3) (v := .int (m : Int)) (d := .int m) (.int _) i da
    have e : (nats xs).set i (.int m) = nats (xs.set i m) := by unfold nats; rw [List.map_set]
    rw [e] at z
    exact z)
/-- x.index(n) of a list of numbers -/
theorem v_index {xs : List Nat} {m k : Nat} {pos' : Pos} (hu : X.A.units + 65 < cLine) (ha : Xe X w a τ (eD X.K (natsL xs))) (hb : Xe X w b τ (eI X.K m)) (hx : xs[k]? = some m) (hno : ∀ i, i < k → xs[i]? ≠ some m)
    (hbase : attributeBase a "index" X.env (eval a X.env) = eval a X.env := by rfl)
    (hfew : ((backTo pos' (starEach [b] X.env)).all (fun x => !x.1) && (backToKw pos' (keywordEach [] X.env)).all (fun x => x.1.isSome)
      && decide (([b] : List Expr).length + ([] : List Keyword).length + (if ([] : List Keyword).isEmpty then 0 else 1) < 30)) = true := by rfl)
    (hline : (apos.endLine == pos'.line) = true := by rfl) (hs : starEach [b] X.env = (false, eval b X.env) :: starEach [] X.env := by rfl) (hplain : (backTo pos' (starEach [] X.env)).any (·.1) = false := by rfl) :
    Xe X w (.Call (.Attribute a "index" apos) [b] [] pos') τ (eI X.K k) := fun σ H s Q q =>
  eSem_of (pe_bm PySem.F.plainAttrs_list PySem.F.slot_list_index PySem.F.type_list_index (mt_indexD hu) pe_sem (pa_cons pe_sem pa_nil hs) hbase hfew hline hs hplain)
    (ha σ H s _ fun v pd H1 m1 i1 ⟨y, e1, e2⟩ hv => by
      subst e1; subst e2
      obtain ⟨r, vs, rfl, hr, da⟩ := dat_lst hv
      refine ⟨.inl ⟨rfl, vs, sql_same (hid_sub _ _) hr⟩, hb σ H1 (s.move m1 i1) _ fun u pd2 H2 m2 i2 ⟨z, e3, e4⟩ hu2 => ?_⟩
      subst e3; subst e4
      have eu : u = .int m := dat_int hu2
      subst eu
      have hv2 := (dat X.K (natsL xs)).move m2 hv
      refine ⟨r, .int m, .int m, nats xs, k, .int m, rfl, rfl, dp_same (hid_sub _ _) _ _ hv2, .int _, (Sh.list (n := 0) sh_nats).shaped, (Sh.int (n := 0)).shaped, nats_get hx, by simp [PyData.eqv], fun t z' ht hz => ?_, ?_⟩
      · obtain ⟨n', hn', rfl⟩ := nats_inv hz
        have ne : n' ≠ m := fun z => hno t ht (by rw [hn', z])
        simp [PyData.eqv]
        omega
      · exact q _ (dat X.K (.int k)) H2 (m1.trans m2) i2 ⟨_, rfl, rfl⟩ (.int _))
end
end Lt
namespace Lt
open PySem PySem.Spec PyProof.Rows L2
section
variable {X : Cx} {w : Vw} {e : Expr} {es : List Expr} {rest : List Stmt} {τ : Ty} {P : Pd → Prop} {pos p : Pos} {D : Ends}
theorem x_tupA {A : List Pd → Prop} {n : Nat} {k} (h : Xa X w es τ A) (hl : ∀ qs, A qs → qs.length = n) (hn : n ≤ 1000 := by decide) : Xe X w (.Tuple es k pos) τ (fun pd => ∃ qs, A qs ∧ pd = tupP X.K qs) := fun σ H s Q q => by
  refine eSem_of (pe_tup pa_sem) (h σ H s _ fun vs pds H1 e1 i1 ed h1 => ?_)
  have ln : vs.length = pds.length := Paired.length h1
  have l2 := hl pds ed
  refine ⟨by rw [ln, sizeLine_eq]; omega, ?_⟩
  have z := Ot.new (w := w) (H := H1) (o := .tup vs) (P := fun pd => ∃ qs, A qs ∧ pd = tupP X.K qs) (pd := tupP X.K pds) (t := fun Q => ∀ p, H1 p = none → Q (.ref p) (upd H1 p (.tup vs))) (s.live.move e1) i1 (fun Q h => h) ⟨pds, ed, rfl⟩
    fun p n np sm hp => ⟨p, vs, rfl, .inl (.inl hp), pda_same sm h1⟩
  exact z Q fun v pd H2 e2 i2 p2 h2 => q v pd H2 (e1.trans e2) i2 p2 h2
theorem rn_unpA {A : List Pd → Prop} {ts : List Expr} {js : List Nat} {u : TGs} {k n : Nat} {tpos : Pos} (hc : X.calm = true) (he : Xe X w e τ (fun pd => ∃ qs, A qs ∧ pd = tupP X.K qs)) (hn : NmT X ts js u) (hj : js.length = n) (hq : ∀ qs, A qs → qs.length = n) (kk : ∀ qs, A qs → Rn X w rest (setAll τ js qs) D)
    (hn' : (assignEach ts X.env).length = n := by rfl) (hst : (assignEach ts X.env).findIdx? (·.1) = none := by rfl) (hs : swapsWithSole [.Tuple ts k tpos] e pos.line X.env = pure false := by rfl) (hw : swappedStores [.Tuple ts k tpos] e X.env = pure none := by rfl)
    (h1 : (assignEach [.Tuple ts k tpos] X.env).map (·.2) = [assign (.Tuple ts k tpos) X.env] := by rfl) : Rn X w (.Assign [.Tuple ts k tpos] e pos :: rest) τ D := fun σ H s =>
  cons_of (ps_asg pe_sem (pg_tup hc hn.pgs hn' hst) hs hw h1) (he σ H s _ fun v pd H1 m i ⟨qs, aq, e1⟩ hv => by
    subst e1
    obtain ⟨q, vs, rfl, hs', hp⟩ := hv
    have lv : vs.length = qs.length := Paired.length hp
    have l2 := hq qs aq
    exact ⟨q, vs, rfl, sqt_same (hid_sub _ _) hs', by omega, nm_run hn (by omega) hp (s.move m i) fun σ2 s2 => kk qs aq σ2 H1 s2⟩)
/-- a tuple of data, taken apart -/
theorem Xe.tupD {A : List PyData → Prop} (h : Xe X w e τ (isD X.K fun y => ∃ ds, y = .tuple ds ∧ A ds)) : Xe X w e τ (fun pd => ∃ qs, (∃ ds, qs = ds.map (dat X.K) ∧ A ds) ∧ pd = tupP X.K qs) := fun σ H s Q q =>
  h σ H s _ fun v pd H1 m i ⟨y, e1, ds, e2, a⟩ hv => by
    subst e1; subst e2
    exact q v _ H1 m i ⟨_, ⟨ds, rfl, a⟩, rfl⟩ (tupP_dat hv)
end
end Lt
set_option maxHeartbeats 400000
namespace Lt
open PySem PySem.Spec PyProof.Rows L2
section
variable {X : Cx} {w : Vw} {e : Expr} {es : List Expr} {τ : Ty} {pos : Pos}
theorem cN (n : Nat) {i : Int} {j} (h : i = (n : Int) := by rfl) : Xe X w (.Constant (.int i) j pos) τ (eI X.K n) := (cI i).toJ h
theorem aN_nil : Xa X w [] τ (eDs X.K (nats [])) := a_nil
theorem aN_cons {n : Nat} {xs : List Nat} (ha : Xe X w e τ (eI X.K n)) (hr : Xa X w es τ (eDs X.K (nats xs))) (hs : starEach (e :: es) X.env = (false, eval e X.env) :: starEach es X.env := by rfl) : Xa X w (e :: es) τ (eDs X.K (nats (n :: xs))) := a_cons ha.toD hr hs
theorem v_natsL {xs : List Nat} (h : Xa X w es τ (eDs X.K (nats xs))) (hl : xs.length ≤ 1000 := by decide) : Xe X w (.List es pos) τ (eD X.K (natsL xs)) := v_lst h (by rw [nats_len]; exact hl)
theorem v_natsT {xs : List Nat} {k} (h : Xa X w es τ (eDs X.K (nats xs))) (hl : xs.length ≤ 1000 := by decide) : Xe X w (.Tuple es k pos) τ (eD X.K (natsT xs)) := v_tup h (by rw [nats_len]; exact hl)
theorem aR_nil : Xa X w [] τ (eDs X.K (([] : Tb).map natsL)) := a_nil
theorem aR_cons {r : List Nat} {T : Tb} (ha : Xe X w e τ (eD X.K (natsL r))) (hr : Xa X w es τ (eDs X.K (T.map natsL))) (hs : starEach (e :: es) X.env = (false, eval e X.env) :: starEach es X.env := by rfl) : Xa X w (e :: es) τ (eDs X.K ((r :: T).map natsL)) := a_cons ha hr hs
theorem v_rowsL {T : Tb} (h : Xa X w es τ (eDs X.K (T.map natsL))) (hl : T.length ≤ 1000 := by decide) : Xe X w (.List es pos) τ (eD X.K (rowsL T)) := v_lst h (by rw [List.length_map]; exact hl)
theorem v_tbl {C : Nat} {T : Tb} {a b : Expr} {k} (ha : Xe X w a τ (eI X.K C)) (hb : Xe X w b τ (eD X.K (rowsL T))) (h1 : starEach [a, b] X.env = (false, eval a X.env) :: starEach [b] X.env := by rfl) (h2 : starEach [b] X.env = (false, eval b X.env) :: starEach [] X.env := by rfl) :
    Xe X w (.Tuple [a, b] k pos) τ (eD X.K (.tuple [.int C, rowsL T])) := v_tup (a_cons ha.toD (a_cons hb a_nil h2) h1)
end
section
variable {P : Program} {w : World} {K : PySem.W.Frag} {mg : Str → Option Value} {base : Heap} {M : Ad}
def tblD (C : Nat) (T : Tb) : PyData := .tuple [.int C, rowsL T]
def ar_1 (K : PySem.W.Frag) (n : Nat) : List Pd := [dat K (.int n)]
def B_mach (K : PySem.W.Frag) (m : Nat) (r : Pd) : Prop := ∃ T C, Ok T C ∧ C ≤ 3 ∧ T.length ≤ m ∧ r = dat K (tblD C T)
abbrev NMach : List Str := ["_law_deal", "_law_most", "_law_form", "_law_commands_here", "_law_one_here", "_law_other", "_law_many", "_law_columns_here", "_law_command", "_law_kind", "_law_s"]
theorem sc_lawMach : FnScope NMach ["_law_deal", "_law_most"] (defScope sLawMachine) := ⟨rfl, rfl, rfl, by decide +kernel, rfl, by decide +kernel, by decide +kernel⟩
/-- the machine of form 11 -/
def row11 (o r : Nat) (s : Nat) : List Nat := [2 * (s / 2) + o, if s % 2 = 0 then (s + r) % 4 else (s + 2) % 4]
theorem ok11 {o r : Nat} (ho : o < 2) : Ok ((List.range 4).map (row11 o r)) 2 := by
  refine ⟨by decide, by simp, fun row hr => ?_⟩
  obtain ⟨s, hs, rfl⟩ := List.mem_map.mp hr
  have hs' : s < 4 := List.mem_range.mp hs
  refine ⟨rfl, fun x hx => ?_⟩
  rw [List.length_map, List.length_range]
  rcases List.mem_cons.mp hx with rfl | hx
  · omega
  · have : x = if s % 2 = 0 then (s + r) % 4 else (s + 2) % 4 := by simpa using hx
    rw [this]
    split <;> omega
theorem ok10 : Ok [[0, 1], [2, 3], [0, 1], [2, 3]] 2 := ⟨by decide, by decide, by decide⟩
theorem dv_add_J {w w' : Vw} (h : w' = w) : True := trivial
theorem cl_lawMach (T : Tx K mg M) : Cl P w K mg base CX0 4 "_law_machine" ["_law_deal", "_law_most"] (spDl (ar_1 K) (fun m => 0 < m ∧ m < 100) (B_mach K)) := by
  refine Cl.mk' (d := dLawMachine) (T.df 29 _ rfl rfl rfl) (fun f0 fd F => fn_dl F sc_lawMach (fun i => rfl) fun cdv Ar outer s H E hr S d l hd hl H0 m Q h q => ?_) (fun _ _ _ _ _ _ us hl => match us, hl with | [_, _], _ => rfl)
  obtain ⟨hm0, hm⟩ := h
  refine rn_par (i := 2) (j := 3) (PA' := fun pd => ∃ f : Nat, pd = dat K (.int f) ∧ f < 12) (PB := fun pd => ∃ c : Nat, pd = dat K (.int c) ∧ 0 < c ∧ c ≤ 3) rfl (x_dl 12 (cl_lawAny T) hr (by decide) pass0 rfl rfl (ap_cons (nO 0) (ap_cons (Xe.eqI (cI 12)) ap_nil)) ⟨by decide, by decide⟩ fun r hB => hB)
    (x_dl (natsL [1, 2, 2, 2, 3], nats [1, 2, 2, 2, 3]) (cl_lawOf T) hr (by decide) pass0 rfl rfl (ap_cons (nO 0) (ap_cons (Xe.eq (v_natsL (aN_cons (cN 1) (aN_cons (cN 2) (aN_cons (cN 2) (aN_cons (cN 2) (aN_cons (cN 3) aN_nil))))))) ap_nil)) ⟨⟨.inl rfl⟩, by decide, by decide⟩ fun r ⟨x, hx, e⟩ => ?_) (fun p1 p2 e1 e2 => ?_) sc_lawMach.nd rfl rfl (by decide) rfl rfl rfl
  · obtain ⟨c, hc, rfl⟩ := List.mem_map.mp hx
    refine ⟨c, e, ?_⟩
    have z : c = 1 ∨ c = 2 ∨ c = 2 ∨ c = 2 ∨ c = 3 := by simpa using hc
    omega
  obtain ⟨f, rfl, hf⟩ := e1
  obtain ⟨c, rfl, hc0, hc3⟩ := e2
  refine rn_if (T := eT (decide ((f : Int) = 10) && decide (3 < (m : Int)))) (xt_p (t_and (t_eq (nI 2) (cI 10)) (fun _ => xp_and1 (t_gt (nI 1) (cI 3))))) (fun h => ?_) (fun _ => rn_out ?_)
  · have h3 : 3 < m := by
      have := of_decide_eq_true (Bool.and_eq_true_iff.mp h.symm).2
      omega
    refine rn_retDl q .rfl' rfl (Xe.imp (P := eD K (tblD 2 [[0, 1], [2, 3], [0, 1], [2, 3]])) (v_tbl (cN 2) (v_rowsL (aR_cons (v_natsL (aN_cons (cN 0) (aN_cons (cN 1) aN_nil))) (aR_cons (v_natsL (aN_cons (cN 2) (aN_cons (cN 3) aN_nil))) (aR_cons (v_natsL (aN_cons (cN 0) (aN_cons (cN 1) aN_nil))) (aR_cons (v_natsL (aN_cons (cN 2) (aN_cons (cN 3) aN_nil))) aR_nil)))))) fun pd ⟨y, e1, e2⟩ => ⟨_, 2, ok10, by decide, by show 4 ≤ m; omega, by rw [e1, e2]⟩)
  refine rn_if (T := eT (decide ((f : Int) = 11) && decide (3 < (m : Int)))) (xt_p (t_and (t_eq (nI 2) (cI 11)) (fun _ => xp_and1 (t_gt (nI 1) (cI 3))))) (fun h => ?_) (fun _ => rn_out ?_)
  · have h3 : 3 < m := by
      have := of_decide_eq_true (Bool.and_eq_true_iff.mp h.symm).2
      omega
    refine rn_unpA (A := fun qs => ∃ o r : Nat, qs = [dat K (.int o), dat K (.int r)] ∧ o < 2) rfl (x_tupA (n := 2) (xa_cons (PA' := fun pd => ∃ f : Nat, pd = dat K (.int f) ∧ f < 2) (PB := fun qs => ∃ c : Nat, qs = [dat K (.int c)]) (x_dl 2 (cl_lawAny T) hr (by decide) pass0 rfl rfl (ap_cons (nO 0) (ap_cons (Xe.eqI (cI 2)) ap_nil)) ⟨by decide, by decide⟩ fun r hB => hB)
      (xa_cons (PA' := fun pd => ∃ c : Nat, pd = dat K (.int c)) (PB := fun qs => qs = []) (x_dl (natsL [1, 3], nats [1, 3]) (cl_lawOf T) hr (by decide) pass0 rfl rfl (ap_cons (nO 0) (ap_cons (Xe.eq (v_natsL (aN_cons (cN 1) (aN_cons (cN 3) aN_nil)))) ap_nil)) ⟨⟨.inl rfl⟩, by decide, by decide⟩ fun r ⟨x, hx, e⟩ => ?_) ap_nil (fun p ps ⟨c, e⟩ e2 => ⟨c, by rw [e, e2]⟩)) (fun p ps ⟨o, e, ho⟩ ⟨c, e2⟩ => ⟨o, c, by rw [e, e2], ho⟩)) (fun qs ⟨o, r, e, _⟩ => by rw [e]; rfl)) (js := [4, 5]) (.cons (pg_name (i := 4) sc_lawMach.nd rfl (Or.inr rfl)) (.cons (pg_name (i := 5) sc_lawMach.nd rfl (Or.inr rfl)) .nil rfl) rfl) rfl (fun qs ⟨o, r, e, _⟩ => by rw [e]; rfl) (fun qs hqs => ?_)
    · obtain ⟨c, hc, rfl⟩ := List.mem_map.mp hx
      exact ⟨c, e⟩
    obtain ⟨o, r, rfl, ho⟩ := hqs
    refine rn_retDl q .rfl' rfl (Xe.imp (P := eD K (tblD 2 ((List.range 4).map (row11 o r)))) (v_tbl (cN 2) (v_lc (own := [("_law_s", 10)]) (ds := rangeD 4) (ws := ((List.range 4).map (row11 o r)).map natsL) rfl sc_lawMach.nd (wi_range (n := 4) T.range (cI 4) (by decide)) (blkOk_by (N := NMach) (sc := defScope sLawMachine) (by decide +kernel)) (fun _ _ _ _ _ => pg_name (i := 10) sc_lawMach.nd rfl (Or.inl rfl)) (tgr_name 10) (fun _ _ _ => trivial) rfl (by decide) (fun i x rr hx' hr' w' _ _ => ?_))) fun pd ⟨y, e1, e2⟩ => ⟨_, 2, ok11 (r := r) ho, by decide, by show 4 ≤ m; omega, by rw [e1, e2]⟩)
    obtain ⟨hi, rfl⟩ := rangeD_get hx'
    obtain ⟨row, h2, rfl⟩ := rows_inv hr'
    have er : row = row11 o r i := by
      rw [List.getElem?_map, List.getElem?_range hi] at h2
      exact (Option.some.inj h2).symm
    subst er
    intro s1 H1 C1 cl1 fp1
    exact v_natsL (aN_cons (v_addN (v_mulN (x := 2) (cI 2) (v_divN (y := 2) (nI 10) (cI 2) (by decide) (by decide)) (by decide)) (nI 4)) (aN_cons (v_if (P := eI K ((if i % 2 = 0 then (i + r) % 4 else (i + 2) % 4 : Nat) : Int)) (u := decide (((i % 2 : Nat) : Int) = 0)) (t_eq (v_modN (y := 2) (nI 10) (cI 2) (by decide)) (cI 0))
      (fun h => (v_modN (y := 4) (v_int T.int (v_addN (nI 10) (nI 5))) (cI 4) (by decide)).toJ (by have := of_decide_eq_true h; rw [if_pos (by omega)]))
      (fun h => (v_modN (y := 4) (v_int T.int (v_addN (y := 2) (nI 10) (cI 2))) (cI 4) (by decide)).toJ (by have := of_decide_eq_false h; rw [if_neg (by omega)]))) aN_nil)) (by show 2 ≤ 1000; decide)
  refine rn_parF (i := 6) (j := 7) (PA' := fun pd => ∃ n : Nat, pd = dat K (.int n) ∧ 0 < n ∧ n ≤ m) (C := fun c => c = Ct.lst K (([] : Tb).map natsL)) rfl (x_add (A := fun y => y = 1) (B := fun y => ∃ k : Nat, y = k ∧ k < m) (C := fun y => ∃ n : Nat, y = n ∧ 0 < n ∧ n ≤ m) (cI 1) (x_dl m (cl_lawAny T) hr (by decide) pass0 rfl rfl (ap_cons (nO 0) (ap_cons (nP 1) ap_nil)) ⟨hm0, by omega⟩ fun r ⟨k, e5, e6⟩ => ⟨k, e5, k, rfl, e6⟩)
    (fun i j e1 ⟨k, e2, e3⟩ => ⟨k + 1, by rw [e1, e2]; omega, by omega, by omega⟩) |>.imp fun pd ⟨i, e1, n, e2, e3⟩ => ⟨n, by rw [e1, e2]; rfl, e3⟩) (xf_nil rfl) (fun p1 ql cc n1 n2 ep ec => ?_) sc_lawMach.nd rfl rfl (by decide) rfl rfl rfl
  obtain ⟨n, rfl, hn0, hnm⟩ := ep
  subst ec
  refine rn_for (passes_of rfl) rfl (wi_range (n := c) T.range (nI 3) (by omega)) (pg_name (i := 8) sc_lawMach.nd rfl (Or.inl rfl)) (tgr_name 8) (fun _ _ _ _ _ => trivial)
    (fun wb ds i w' τ' => w'.S = wb.S ∧ (∀ H, w'.J H → wb.J H) ∧ w'.M = [d, l] ∧ w'.ok = DealAt d l ∧ i ≤ c ∧ ∃ cols : Tb, cols.length = i ∧ (∀ x ∈ cols, Col n x) ∧ w'.own[0]? = some (ql, Ct.lst K (cols.map natsL)) ∧ ∃ o1 o2, τ' = [some (is (.ref d)), some (dat K (.int m)), some (dat K (.int f)), some (dat K (.int c)), none, none, some (dat K (.int n)), some (is (.ref ql)), o1, o2, none])
    (fun wb ds lk e => ⟨rfl, fun _ h => h, lk.M, lk.ok, Nat.zero_le _, [], rfl, fun _ h => (nomatch h), by rw [lk.own]; rfl, none, none, rfl⟩) (fun wb ds i w' τ' lk h => ⟨by rw [h.1, lk.S], h.2.1⟩)
    (fun wb ds i x w' τ' lk e h hx => ?_) (fun wb ds w' τ' lk e h => ?_)
  · obtain ⟨eS, eJ, eM, ek, hi, cols, hlen, hcol, eo, o1, o2, rfl⟩ := h
    subst e
    obtain ⟨hi', rfl⟩ := rangeD_get hx
    refine rn_asg (i := 9) (P := fun pd => ∃ k : Nat, pd = dat K (.int k)) (v_if (u := decide (7 < (f : Int))) (t_gt (nI 2) (cI 7)) (fun _ => x_dl 8 (cl_lawAny T) hr (by decide) pass0 eM ek (ap_cons (nO 0) (ap_cons (Xe.eqI (cI 8)) ap_nil)) ⟨by decide, by decide⟩ fun r ⟨k, e5, e6⟩ => ⟨k, e5⟩) (fun _ => Xe.imp (nP 2) fun pd e => ⟨f, e⟩)) (fun pd hp => ?_) sc_lawMach.nd rfl (Or.inl rfl)
    obtain ⟨k, rfl⟩ := hp
    refine rn_appO (C := fun y => ∃ x, Col n x ∧ y = natsL x) (nO 7) eo (by rw [List.length_map]; omega) (x_dl (k, n) (cl_lawCol T) hr (by decide) pass0 eM ek (ap_cons (nO 0) (ap_cons (nP 9) (ap_cons (nP 6) ap_nil))) ⟨hn0, Nat.lt_of_le_of_lt hnm hm⟩ fun r ⟨x, h1, e⟩ => ⟨natsL x, e, x, h1, rfl⟩) (fun y hy => ?_)
    obtain ⟨x, hx1, rfl⟩ := hy
    refine rn_nil fun σ H s => ⟨_, _, ?_, s⟩
    refine ⟨eS, eJ, eM, ek, hi', cols ++ [x], by rw [List.length_append, hlen]; rfl, fun y hy => ?_, ?_, _, _, rfl⟩
    · rcases List.mem_append.mp hy with hy | hy
      · exact hcol y hy
      · rw [List.mem_singleton.mp hy]; exact hx1
    · have hown : 0 < w'.own.length := (List.getElem?_eq_some_iff.mp eo).1
      show (w'.own.set 0 _)[0]? = _
      rw [List.getElem?_set_self hown, List.map_append]; rfl
  · obtain ⟨eS, eJ, eM, ek, hi, cols, hlen, hcol, eo, o1, o2, rfl⟩ := h
    subst e
    rw [rangeD_len] at hlen
    have up : Up (Vw.deal S d l hd hl H0) w' := ⟨fun h => Up.rfl'.J (lk.J (eJ _ h)), fun a m => by rw [eS, lk.S]; exact List.mem_cons_of_mem _ m⟩
    refine rn_base up rfl eo (fun z => n1 z) 7 rfl ?_
    have hne : cols ≠ [] := fun z => by rw [z] at hlen; simp at hlen; omega
    refine rn_retDl q .rfl' rfl (Xe.imp (P := eD K (tblD c (trn cols n))) (v_tbl (nI 3) (Xe.ofP (x_clP (P := fun pd => pd = dat K (rowsL (trn cols n))) (cl_lawCols T) hr (by decide) pass0 (ap_cons (nP 7) ap_nil) fun pds e => ⟨_, ⟨cols, n, e, hne, fun x hx => (hcol x hx).len, by omega, by omega, rfl⟩, rfl⟩))) fun pd ⟨y, e1, e2⟩ => ⟨trn cols n, c, ?_, hc3, by rw [trn_len]; exact hnm, by rw [e1, e2]⟩)
    rw [← hlen]
    exact trn_ok hne hn0 fun x hx => ⟨(hcol x hx).len, (hcol x hx).lt⟩
end
end Lt
namespace Lt
open PySem PySem.Spec PyProof.Rows L2
section
variable {P : Program} {w : World} {K : PySem.W.Frag} {mg : Str → Option Value} {base : Heap} {M : Ad}
/-- slips in order of time, of a machine with C commands -/
structure Hp_ (C n : Nat) (l : List Slip) : Prop where
  asc : Asc l
  cm : Cmds C (cmds l)
  len : l.length = n
  tm : ∀ y ∈ l, y.1 < 1000
def ar_2 (K : PySem.W.Frag) (i : Nat × Nat) : List Pd := [dat K (.int i.1), dat K (.int i.2)]
def B_heap (K : PySem.W.Frag) (i : Nat × Nat) (r : Pd) : Prop := ∃ l, Hp_ i.1 i.2 l ∧ r = dat K (slipsT l)
abbrev NHeap : List Str := ["_law_deal", "_law_commands_here", "_law_many", "_law_time", "_law_found", "_law_turn"]
theorem sc_lawHeap : FnScope NHeap ["_law_deal", "_law_commands_here", "_law_many"] (defScope sLawHeap) := ⟨rfl, rfl, rfl, by decide +kernel, rfl, by decide +kernel, by decide +kernel⟩
theorem asc_snoc {l : List Slip} {x : Slip} (h : Asc l) (hx : ∀ y ∈ l, y.1 < x.1) : Asc (l ++ [x]) := List.pairwise_append.mpr ⟨h, List.pairwise_singleton _ _, fun a ha b hb => by rw [List.mem_singleton.mp hb]; exact hx a ha⟩
theorem cmds_app (l m : List Slip) : cmds (l ++ m) = cmds l ++ cmds m := by unfold cmds; rw [List.map_append]
theorem cl_lawHeap (T : Tx K mg M) : Cl P w K mg base CX0 2 "_law_heap" ["_law_deal", "_law_commands_here", "_law_many"] (spDl (ar_2 K) (fun i => 0 < i.1 ∧ i.1 < 1000 ∧ i.2 < 100) (B_heap K)) := by
  refine Cl.mk' (d := dLawHeap) (T.df 31 _ rfl rfl rfl) (fun f0 fd F => fn_dl F sc_lawHeap (fun i => rfl) fun cdv Ar outer s H E hr S d l hd hl H0 i Q h q => ?_) (fun _ _ _ _ _ _ us hl => match us, hl with | [_, _, _], _ => rfl)
  obtain ⟨C, n⟩ := i
  obtain ⟨hC0', hC', hn'⟩ := h
  have hC0 : 0 < C := hC0'
  have hC : C < 1000 := hC'
  have hn : n < 100 := hn'
  refine rn_parF (i := 3) (j := 4) (PA' := fun pd => ∃ f : Nat, pd = dat K (.int f) ∧ f < 4) (C := fun c => c = Ct.lst K (slips [])) rfl (x_dl 4 (cl_lawAny T) hr (by decide) pass0 rfl rfl (ap_cons (nO 0) (ap_cons (Xe.eqI (cI 4)) ap_nil)) ⟨by decide, by decide⟩ fun r ⟨k, e, hk⟩ => ⟨k, e, hk⟩) (xf_nil rfl) (fun p1 ql cc n1 n2 ep ec => ?_) sc_lawHeap.nd rfl rfl (by decide) rfl rfl rfl
  obtain ⟨t0, rfl, ht0⟩ := ep
  subst ec
  refine rn_for (passes_of rfl) rfl (wi_range (n := n) T.range (nI 2) (by omega)) (pg_name (i := 5) sc_lawHeap.nd rfl (Or.inl rfl)) (tgr_name 5) (fun _ _ _ _ _ => trivial)
    (fun wb ds i w' τ' => w'.S = wb.S ∧ (∀ H, w'.J H → wb.J H) ∧ w'.M = [d, l] ∧ w'.ok = DealAt d l ∧ i ≤ n ∧ ∃ (t : Nat) (h : List Slip), Hp_ C i h ∧ (∀ y ∈ h, y.1 < t) ∧ t ≤ 4 + 3 * i ∧ w'.own[0]? = some (ql, Ct.lst K (slips h)) ∧ ∃ o1, τ' = [some (is (.ref d)), some (dat K (.int C)), some (dat K (.int n)), some (dat K (.int t)), some (is (.ref ql)), o1])
    (fun wb ds lk e => ⟨rfl, fun _ h => h, lk.M, lk.ok, Nat.zero_le _, t0, [], ⟨List.Pairwise.nil, fun _ h => (nomatch h), rfl, fun _ h => (nomatch h)⟩, fun _ h => (nomatch h), by omega, by rw [lk.own]; rfl, none, rfl⟩) (fun wb ds i w' τ' lk h => ⟨by rw [h.1, lk.S], h.2.1⟩)
    (fun wb ds i x w' τ' lk e h hx => ?_) (fun wb ds w' τ' lk e h => ?_)
  · obtain ⟨eS, eJ, eM, ek, hi, t, h, hh, ht, htb, eo, o1, rfl⟩ := h
    subst e
    obtain ⟨hi', rfl⟩ := rangeD_get hx
    refine rn_appO (C := fun y => ∃ c : Nat, c < C ∧ y = slipD (t, c)) (nO 4) eo (by rw [slips_len, hh.len]; omega) (x_tup (xd_cons (C := fun ds => ∃ c : Nat, c < C ∧ ds = [.int t, .int c]) (D := fun ds => ∃ c : Nat, c < C ∧ ds = [.int c]) (nD 3) (xd_cons (A := fun y => ∃ c : Nat, c < C ∧ y = .int c) (D := fun ds => ds = []) (x_dl C (cl_lawAny T) hr (by decide) pass0 eM ek (ap_cons (nO 0) (ap_cons (nP 1) ap_nil)) ⟨hC0, by omega⟩ fun r ⟨k, e, hk⟩ => ⟨_, e, k, hk, rfl⟩) a_nil (fun y ys ⟨c, h1, h2⟩ h3 => ⟨c, h1, by rw [h2, h3]⟩))
      (fun y ys h1 ⟨c, h2, h3⟩ => ⟨c, h2, by rw [h1, h3]⟩)) (fun ds ⟨c, h1, h2⟩ => by rw [h2]; exact (by decide : 2 ≤ sizeLine)) (fun ds ⟨c, h1, h2⟩ => ⟨c, h1, by rw [h2]; rfl⟩)) (fun y hy => ?_)
    obtain ⟨c, hc, rfl⟩ := hy
    refine rn_asg (i := 3) (P := fun pd => ∃ k : Nat, pd = dat K (.int ((t + 1 + k : Nat) : Int)) ∧ k < 3) (Xe.imp (x_add (A := fun y => y = ((t + 1 : Nat) : Int)) (B := fun y => ∃ k : Nat, y = k ∧ k < 3) (C := fun y => ∃ k : Nat, y = ((t + 1 + k : Nat) : Int) ∧ k < 3) (v_addN (nI 3) (cN 1)) (x_dl 3 (cl_lawAny T) hr (by decide) pass0 eM ek (ap_cons (nO 0) (ap_cons (Xe.eqI (cI 3)) ap_nil)) ⟨by decide, by decide⟩ fun r ⟨k, e, hk⟩ => ⟨_, e, k, rfl, hk⟩) (fun x y e1 ⟨k, e2, hk⟩ => ⟨k, by rw [e1, e2]; omega, hk⟩)) fun pd ⟨y, e1, k, e2, hk⟩ => ⟨k, by rw [e1, e2]; rfl, hk⟩) (fun pd hp => ?_) sc_lawHeap.nd rfl (Or.inl rfl)
    obtain ⟨k, rfl, hk3⟩ := hp
    refine rn_nil fun σ H s => ⟨_, _, ?_, s⟩
    refine ⟨eS, eJ, eM, ek, hi', t + 1 + k, h ++ [(t, c)], ⟨asc_snoc hh.asc ht, fun z hz => ?_, by rw [List.length_append, hh.len]; rfl, fun y hy => ?_⟩, fun y hy => ?_, by omega, ?_, _, rfl⟩
    · rw [cmds_app] at hz
      rcases List.mem_append.mp hz with hz | hz
      · exact hh.cm z hz
      · have : z = c := by simpa [cmds] using hz
        rw [this]; exact hc
    · rcases List.mem_append.mp hy with hy | hy
      · exact hh.tm y hy
      · rw [List.mem_singleton.mp hy]; show t < 1000; omega
    · rcases List.mem_append.mp hy with hy | hy
      · have := ht y hy; omega
      · rw [List.mem_singleton.mp hy]; show t < t + 1 + k; omega
    · have hown : 0 < w'.own.length := (List.getElem?_eq_some_iff.mp eo).1
      show (w'.own.set 0 _)[0]? = _
      rw [List.getElem?_set_self hown, slips_app]; rfl
  · obtain ⟨eS, eJ, eM, ek, hi, t, h, hh, ht, htb, eo, o1, rfl⟩ := h
    subst e
    rw [rangeD_len] at hh
    have up : Up (Vw.deal S d l hd hl H0) w' := ⟨fun h => Up.rfl'.J (lk.J (eJ _ h)), fun a m => by rw [eS, lk.S]; exact List.mem_cons_of_mem _ m⟩
    refine rn_base up rfl eo (fun z => n1 z) 4 rfl ?_
    exact rn_retDl q .rfl' rfl (Xe.imp (v_tuple T.tuple (ds := slips h) (nD 4) (.inl rfl)) fun pd ⟨y, e1, e2⟩ => ⟨h, hh, by rw [e1, e2]; rfl⟩)
/-! ### _law_slips -/
/-- the last words of the slips are those of last -/
def lay (h : List Slip) (last : List Nat) : List Slip := h.take (h.length - last.length) ++ ((List.range last.length).map fun i => ((h.getD (h.length - last.length + i) (0, 0)).1, last.getD i 0))
theorem lay_times {h : List Slip} {last : List Nat} (hl : last.length ≤ h.length) : times (lay h last) = times h := by
  apply List.ext_getElem?
  intro i
  unfold lay times
  rw [List.map_append, List.map_map]
  by_cases hi : i < h.length - last.length
  · rw [List.getElem?_append_left (by simp; omega)]
    have h2 : i < h.length := by omega
    simp [List.getElem?_take, hi, h2]
  · rw [List.getElem?_append_right (by simp; omega)]
    have e : (List.map (fun x => x.1) (List.take (h.length - last.length) h)).length = h.length - last.length := by simp
    rw [e]
    by_cases h2 : i < h.length
    · rw [List.getElem?_map, List.getElem?_range (by omega)]
      have e2 : h.length - last.length + (i - (h.length - last.length)) = i := by omega
      simp [e2, List.getD, h2]
    · rw [List.getElem?_eq_none (by simp; omega), List.getElem?_eq_none (by simp; omega)]
theorem lay_ok {C n : Nat} {h : List Slip} {last : List Nat} (hh : Hp_ C n h) (hl : last.length ≤ h.length) (hc : Cmds C last) : Hp_ C n (lay h last) := by
  refine ⟨?_, fun c hm => ?_, ?_, ?_⟩
  · have z : (times h).Pairwise (· < ·) := by
      unfold times
      exact List.pairwise_map.mpr hh.asc
    rw [← lay_times hl] at z
    unfold times at z
    exact List.pairwise_map.mp z
  · unfold lay at hm
    rw [cmds_app] at hm
    rcases List.mem_append.mp hm with hm | hm
    · obtain ⟨y, hy, rfl⟩ := List.mem_map.mp hm
      exact hh.cm _ (List.mem_map.mpr ⟨y, List.mem_of_mem_take hy, rfl⟩)
    · obtain ⟨y, hy, rfl⟩ := List.mem_map.mp hm
      obtain ⟨i, hi, rfl⟩ := List.mem_map.mp hy
      have hi' : i < last.length := List.mem_range.mp hi
      have e : last.getD i 0 = last[i] := by simp [List.getD, hi']
      show last.getD i 0 < C
      rw [e]
      exact hc _ (List.getElem_mem hi')
  · have z := congrArg List.length (lay_times hl)
    rw [times_len, times_len] at z
    rw [z, hh.len]
  · intro y hy
    have z : y.1 ∈ times (lay h last) := List.mem_map.mpr ⟨y, hy, rfl⟩
    rw [lay_times hl] at z
    obtain ⟨x, hx, e⟩ := List.mem_map.mp z
    rw [← e]
    exact hh.tm x hx
def ar_slips (K : PySem.W.Frag) (i : Nat × List Nat × Nat) : List Pd := [dat K (.int i.1), dat K (natsT i.2.1), dat K (.int i.2.2)]
def B_slips (K : PySem.W.Frag) (i : Nat × List Nat × Nat) (r : Pd) : Prop := ∃ l, Hp_ i.1 i.2.2 l ∧ r = dat K (slipsT l)
abbrev NSlips : List Str := ["_law_deal", "_law_commands_here", "_law_last", "_law_many", "_law_heap_here", "_law_front", "_law_at"]
theorem sc_lawSlips : FnScope NSlips ["_law_deal", "_law_commands_here", "_law_last", "_law_many"] (defScope sLawSlips) := ⟨rfl, rfl, rfl, by decide +kernel, rfl, by decide +kernel, by decide +kernel⟩
theorem cl_lawSlips (T : Tx K mg M) : Cl P w K mg base CX0 3 "_law_slips" ["_law_deal", "_law_commands_here", "_law_last", "_law_many"] (spDl (ar_slips K) (fun i => 0 < i.1 ∧ i.1 < 1000 ∧ Cmds i.1 i.2.1 ∧ i.2.1.length < 100 ∧ i.2.2 < 100) (B_slips K)) := by
  refine Cl.mk' (d := dLawSlips) (T.df 42 _ rfl rfl rfl) (fun f0 fd F => fn_dl F sc_lawSlips (fun i => rfl) fun cdv Ar outer s H E hr S d l hd hl H0 i Q h q => ?_) (fun _ _ _ _ _ _ us hl => match us, hl with | [_, _, _, _], _ => rfl)
  obtain ⟨C, last, n⟩ := i
  obtain ⟨hC0', hC', hcl', hll', hn'⟩ := h
  have hC0 : 0 < C := hC0'
  have hC : C < 1000 := hC'
  have hn : n < 100 := hn'
  have hll : last.length < 100 := hll'
  have hcl : Cmds C last := hcl'
  refine rn_asg (i := 4) (P := B_heap K (C, n)) (x_dl (C, n) (cl_lawHeap T) hr (by decide) pass0 rfl rfl (ap_cons (nO 0) (ap_cons (nP 1) (ap_cons (nP 3) ap_nil))) ⟨hC0, hC, hn⟩ fun r h => h) (fun pd hp => ?_) sc_lawSlips.nd rfl (Or.inr rfl)
  obtain ⟨h, hh', rfl⟩ := hp
  have hh : Hp_ C n h := hh'
  refine rn_if (T := fun b => b = true ∨ (b = false ∧ last.length ≤ n)) (xt_p (xp_or (TA' := eT (decide ((n : Int) < (nats last).length))) (TB := fun _ => True) (t_lt (nI 3) (v_len T.len (nD 2) (.inr rfl))) (fun _ => xp_or1 (xt_eqI (A := fun _ => True) (B := fun _ => True) (x_dl (P := isI K fun _ => True) 4 (cl_lawAny T) hr (by decide) pass0 rfl rfl (ap_cons (nO 0) (ap_cons (Xe.eqI (cI 4)) ap_nil)) ⟨by decide, by decide⟩ fun r ⟨k, e, _⟩ => ⟨_, e, trivial⟩) (Xe.imp (cI 0) fun pd ⟨i, e, _⟩ => ⟨i, e, trivial⟩) fun _ _ _ _ => trivial)) (fun _ => .inl rfl) (fun z k _ => ?_))) (fun _ => ?_) (fun z => rn_out ?_)
  · have z' := of_decide_eq_false z.symm
    rw [nats_len] at z'
    cases k with
    | true => exact .inl rfl
    | false => exact .inr ⟨rfl, by omega⟩
  · exact rn_retDl q .rfl' rfl (Xe.imp (nP 4) fun pd e => ⟨h, hh, e⟩)
  · have hle : last.length ≤ n := by
      rcases z with z | z
      · cases z
      · exact z.2
    have hlen : h.length = n := hh.len
    refine rn_asg (i := 5) (P := eI K ((n - last.length : Nat) : Int)) ((v_sub (nI 3) (v_len T.len (nD 2) (.inr rfl))).toJ (by show (n : Int) - ((nats last).length : Nat) = _; rw [nats_len]; omega)) (fun pd hp => ?_) sc_lawSlips.nd rfl (Or.inr rfl)
    obtain ⟨y, rfl, rfl⟩ := hp
    refine rn_retDl q .rfl' rfl (Xe.imp (P := eD K (slipsT (lay h last))) ?_ fun pd ⟨y, e1, e2⟩ => ⟨lay h last, lay_ok hh (by omega) hcl, by rw [e1, e2]⟩)
    have e0 : slipsT (lay h last) = .tuple ((slips h).take (n - last.length) ++ slips ((List.range last.length).map fun i => ((h.getD (h.length - last.length + i) (0, 0)).1, last.getD i 0))) := by
      unfold slipsT lay
      rw [slips_app, hlen]
      unfold slips
      rw [List.map_take]
    rw [e0]
    refine v_catT (v_front (nD 4) (nI 5) (by rw [slips_len]; omega)) (v_tuple T.tuple (v_lc (own := [("_law_at", 6)]) (ds := rangeD last.length) (ws := slips ((List.range last.length).map fun i => ((h.getD (h.length - last.length + i) (0, 0)).1, last.getD i 0))) rfl sc_lawSlips.nd (wi_range T.range ((v_len T.len (nD 2) (.inr rfl)).toJ (by show (((nats last).length : Nat) : Int) = _; rw [nats_len])) (by omega)) (blkOk_by (N := NSlips) (sc := defScope sLawSlips) (by decide +kernel)) (fun _ _ _ _ _ => pg_name (i := 6) sc_lawSlips.nd rfl (Or.inl rfl)) (tgr_name 6) (fun _ _ _ => trivial) (by rw [slips_len, List.length_map, List.length_range, rangeD_len]) (by rw [rangeD_len]; omega) (fun i x r hx' hr' w' _ _ => ?_)) (.inl rfl)) ?_
    · obtain ⟨hi, rfl⟩ := rangeD_get hx'
      have hi2 : i < last.length := hi
      obtain ⟨y, hy, rfl⟩ := slips_inv hr'
      rw [List.getElem?_map, List.getElem?_range hi] at hy
      have ey := (Option.some.inj hy).symm
      subst ey
      intro s1 H1 C1 cl1 fp1
      have hlt : n - last.length + i < h.length := by omega
      refine v_tup (a_cons (v_ix (ds := [.int (h.getD (h.length - last.length + i) (0, 0)).1, .int (h.getD (h.length - last.length + i) (0, 0)).2]) (n := 0) (v_ix (f := slipD (h.getD (h.length - last.length + i) (0, 0))) (nD 4) (v_addN (nI 5) (nI 6)) (.inr rfl) ?_) (cI 0) (.inr rfl) rfl) (a_cons (v_ix (nD 2) (nI 6) (.inr rfl) (nats_get (getD_some hi))) a_nil)) (by show 2 ≤ 1000; decide)
      rw [hlen]
      unfold slips
      rw [List.getElem?_map, getD_some (d := (0, 0)) hlt]; rfl
    · rw [List.length_take, slips_len, slips_len, List.length_map, List.length_range]; omega
end
end Lt
set_option maxHeartbeats 4000000
namespace Lt
open PySem PySem.Spec PyProof.Rows L2
section
variable {X : Cx} {w : Vw} {e : Expr} {es : List Expr} {rest : List Stmt} {τ : Ty} {P : Pd → Prop} {pos p : Pos} {D : Ends}
/-- x, y = (new), e -/
theorem rn_parR {i j : Nat} {x y : Str} {e1 e2 : Expr} {px py pt : Pos} {kt k2 pt2} {PB : Pd → Prop} {C : Ct → Prop} (hc : X.calm = true) (h1 : Xf X w e1 τ C) (h2 : ∀ w' : Vw, w'.M = w.M → w'.ok = w.ok → Xe X w' e2 τ PB)
    (k : ∀ pd q c (n1 : ¬ q ∈ w.S) (n2 : ¬ q ∈ w.M ∧ ∀ {H : Hp} {o : HO}, w.J H → w.J (upd H q o)), C c → PB pd → Rn X (w.add q c n1 n2) rest ((τ.set i (some (is (.ref q)))).set j (some pd)) D)
    (hN : X.N.Nodup) (hi : X.N[i]? = some x) (hj : X.N[j]? = some y) (hij : i ≠ j) (hx : X.env.scope.names.lookup x = some .local) (hy : X.env.scope.names.lookup y = some .local)
    (hw : swappedStores [.Tuple [.Name x px, .Name y py] kt pt] (.Tuple [e1, e2] k2 pt2) X.env = pure (some [x, y])) (hs : swapsWithSole [.Tuple [.Name x px, .Name y py] kt pt] (.Tuple [e1, e2] k2 pt2) pos.line X.env = pure false := by rfl)
    (hs1 : starEach [e1, e2] X.env = (false, eval e1 X.env) :: starEach [e2] X.env := by rfl) (hs2 : starEach [e2] X.env = (false, eval e2 X.env) :: starEach [] X.env := by rfl) :
    Rn X w (.Assign [.Tuple [.Name x px, .Name y py] kt pt] (.Tuple [e1, e2] k2 pt2) pos :: rest) τ D := fun σ H s =>
  cons_of (ps_par hc hN hi hj hij hx hy (pa_cons pe_sem (pa_cons pe_sem pa_nil hs2) hs1) hw hs) (h1 σ H s _ fun q o c H1 m1 i1 nq hcc hco => by
    have s1 := s.move m1 i1
    have n1 := s1.notin nq
    have n2 : ¬ q ∈ w.M ∧ ∀ {H : Hp} {o : HO}, w.J H → w.J (upd H q o) := w.jnw i1.1 nq
    have s2 : Sv (w.add q c n1 n2) (upd H1 q o) σ τ := s1.add nq (c.st (hid_more nq (same_upd nq)) hco) n1 n2
    exact h2 (w.add q c n1 n2) rfl rfl σ _ s2 _ fun u pd H3 m3 i3 p3 hu => by
      have s3 := s2.move m3 i3
      exact ⟨.ref q, u, rfl, k pd q c n1 n2 hcc p3 _ _ ((s3.set i (pd := is (.ref q)) rfl).set j hu)⟩)
/-- x.index(n) of a list of numbers -/
theorem x_index {apos : Pos} {xs : List Nat} {a b : Expr} {C : Int → Prop} {R : Nat → Prop} {pos' : Pos} (hu : X.A.units + 65 < cLine) (ha : Xe X w a τ (eD X.K (natsL xs))) (hb : Xe X w b τ (isI X.K C)) (hC : ∀ i, C i → ∃ m k : Nat, i = m ∧ xs[k]? = some m ∧ (∀ i, i < k → xs[i]? ≠ some m) ∧ R k)
    (hbase : attributeBase a "index" X.env (eval a X.env) = eval a X.env := by rfl)
    (hfew : ((backTo pos' (starEach [b] X.env)).all (fun x => !x.1) && (backToKw pos' (keywordEach [] X.env)).all (fun x => x.1.isSome)
      && decide (([b] : List Expr).length + ([] : List Keyword).length + (if ([] : List Keyword).isEmpty then 0 else 1) < 30)) = true := by rfl)
    (hline : (apos.endLine == pos'.line) = true := by rfl) (hs : starEach [b] X.env = (false, eval b X.env) :: starEach [] X.env := by rfl) (hplain : (backTo pos' (starEach [] X.env)).any (·.1) = false := by rfl) :
    Xe X w (.Call (.Attribute a "index" apos) [b] [] pos') τ (isI X.K fun j => ∃ k : Nat, j = k ∧ R k) := fun σ H s Q q =>
  eSem_of (pe_bm PySem.F.plainAttrs_list PySem.F.slot_list_index PySem.F.type_list_index (mt_indexD hu) pe_sem (pa_cons pe_sem pa_nil hs) hbase hfew hline hs hplain)
    (ha σ H s _ fun v pd H1 m1 i1 ⟨y, e1, e2⟩ hv => by
      subst e1; subst e2
      obtain ⟨r, vs, rfl, hr, da⟩ := dat_lst hv
      refine ⟨.inl ⟨rfl, vs, sql_same (hid_sub _ _) hr⟩, hb σ H1 (s.move m1 i1) _ fun u pd2 H2 m2 i2 ⟨z, e3, e4⟩ hu2 => ?_⟩
      obtain ⟨m, k, e4, hx, hno, hR⟩ := hC z e4
      subst e3; subst e4
      have eu : u = .int m := dat_int hu2
      subst eu
      have hv2 := (dat X.K (natsL xs)).move m2 hv
      refine ⟨r, .int m, .int m, nats xs, k, .int m, rfl, rfl, dp_same (hid_sub _ _) _ _ hv2, .int _, (Sh.list (n := 0) sh_nats).shaped, (Sh.int (n := 0)).shaped, nats_get hx, by simp [PyData.eqv], fun t z' ht hz => ?_, ?_⟩
      · obtain ⟨n', hn', rfl⟩ := nats_inv hz
        have ne : n' ≠ m := fun z => hno t ht (by rw [hn', z])
        simp [PyData.eqv]
        omega
      · exact q _ (dat X.K (.int k)) H2 (m1.trans m2) i2 ⟨_, rfl, k, rfl, hR⟩ (.int _))
end
end Lt
set_option maxHeartbeats 400000
namespace Lt
open PySem PySem.Spec PyProof.Rows L2
section
variable {P : Program} {w : World} {K : PySem.W.Frag} {mg : Str → Option Value} {base : Heap} {M : Ad}
/-- a machine beside a lamp -/
def lampR (bits : Tb) (r : List Nat) (b : Nat) : List Nat := (List.range bits.length).map fun c => 2 * r.getD c 0 + (bits.getD c []).getD b 0
def beside (bits : Tb) : Tb → Tb
  | [] => []
  | r :: T => lampR bits r 0 :: lampR bits r 1 :: beside bits T
theorem beside_app (bits : Tb) : ∀ A B : Tb, beside bits (A ++ B) = beside bits A ++ beside bits B
  | [], _ => rfl
  | r :: A, B => by show _ :: _ :: beside bits (A ++ B) = _; rw [beside_app bits A B]; rfl
theorem beside_len (bits : Tb) : ∀ T : Tb, (beside bits T).length = 2 * T.length
  | [] => rfl
  | r :: T => by show (beside bits T).length + 1 + 1 = 2 * (T.length + 1); rw [beside_len bits T]; omega
theorem beside_mem {bits : Tb} {x : List Nat} : ∀ {T : Tb}, x ∈ beside bits T → ∃ r ∈ T, ∃ b, b < 2 ∧ x = lampR bits r b
  | [], h => by cases h
  | r :: T, h => by
    have h' : x = lampR bits r 0 ∨ x = lampR bits r 1 ∨ x ∈ beside bits T := by simpa [beside] using h
    rcases h' with h | h | h
    · exact ⟨r, List.mem_cons_self, 0, by decide, h⟩
    · exact ⟨r, List.mem_cons_self, 1, by decide, h⟩
    · obtain ⟨r', m, b, hb, e⟩ := beside_mem h
      exact ⟨r', List.mem_cons_of_mem _ m, b, hb, e⟩
structure Bits (C : Nat) (bits : Tb) : Prop where
  len : bits.length = C
  row : ∀ b ∈ bits, b.length = 2 ∧ ∀ x ∈ b, x < 2
theorem Bits.at {C : Nat} {bits : Tb} (h : Bits C bits) {c b : Nat} (hc : c < C) (hb : b < 2) : (bits.getD c []).length = 2 ∧ (bits.getD c []).getD b 0 < 2 := by
  have hl : c < bits.length := by rw [h.len]; exact hc
  have e : bits.getD c [] = bits[c] := by simp [List.getD, hl]
  obtain ⟨h1, h2⟩ := h.row _ (List.getElem_mem hl)
  rw [e]
  refine ⟨h1, ?_⟩
  have e2 : bits[c].getD b 0 = bits[c][b]'(by omega) := by simp [List.getD, h1, hb]
  rw [e2]
  exact h2 _ (List.getElem_mem _)
theorem beside_ok {T : Tb} {C : Nat} {bits : Tb} (ok : Ok T C) (hb : Bits C bits) : Ok (beside bits T) C := by
  refine ⟨ok.c0, by rw [beside_len]; have := ok.n0; omega, fun x hx => ?_⟩
  obtain ⟨r, hr, b, hb2, rfl⟩ := beside_mem hx
  obtain ⟨h1, h2⟩ := ok.row r hr
  refine ⟨by unfold lampR; rw [List.length_map, List.length_range, hb.len], fun y hy => ?_⟩
  obtain ⟨c, hc, rfl⟩ := List.mem_map.mp hy
  have hc' : c < C := by rw [← hb.len]; exact List.mem_range.mp hc
  have hl : c < r.length := by omega
  have e : r.getD c 0 = r[c] := by simp [List.getD, hl]
  have := h2 _ (List.getElem_mem hl)
  have := (hb.at hc' hb2).2
  rw [beside_len, e]
  omega
def F_lawBeside (K : PySem.W.Frag) : List Pd → Pd → Prop := fun pds r => ∃ (T : Tb) (C : Nat) (bits : Tb), pds = [dat K (rowsL T), dat K (rowsL bits)] ∧ Ok T C ∧ Bits C bits ∧ T.length < 100 ∧ C < 100 ∧ r = dat K (rowsL (beside bits T))
abbrev NBeside : List Str := ["_law_steps", "_law_bits", "_law_found", "_law_row", "_law_bit", "_law_command"]
theorem sc_lawBeside : FnScope NBeside ["_law_steps", "_law_bits"] (defScope sLawBeside) := ⟨rfl, rfl, rfl, by decide +kernel, rfl, by decide +kernel, by decide +kernel⟩
theorem cl_lawBeside (T : Tx K mg M) : Cl P w K mg base CX0 1 "_law_beside" ["_law_steps", "_law_bits"] (spP (F_lawBeside K)) := by
  refine Cl.mk' (d := dLawBeside) (T.df 33 _ rfl rfl rfl) (fun f0 fd F => fn_pure F sc_lawBeside (fun pds r h => ?_) fun cdv A outer s H E hr S H0 pds r Q h q => ?_) (fun _ _ _ _ _ _ us hl => match us, hl with | [_, _], _ => rfl)
  · obtain ⟨t, C, bits, e1, _⟩ := h
    subst e1; rfl
  obtain ⟨t, C, bits, e1, ok, hb, hn, hC, e2⟩ := h
  subst e1; subst e2
  refine rn_new (i := 2) (C := fun c => c = Ct.lst K (([] : Tb).map natsL)) (xf_nil rfl) (fun p c n1 n2 ec => ?_) sc_lawBeside.nd rfl (Or.inl rfl)
  subst ec
  refine rn_for (passes_of rfl) rfl (wi_list (nD 0)) (pg_name (i := 3) sc_lawBeside.nd rfl (Or.inr rfl)) (tgr_name 3) (fun _ _ _ _ _ => trivial)
    (fun wb ds i w' τ' => w'.S = wb.S ∧ (∀ H, w'.J H → wb.J H) ∧ w'.own[0]? = some (p, Ct.lst K ((beside bits (t.take i)).map natsL)) ∧ ∃ o1 o2, τ' = [some (dat K (rowsL t)), some (dat K (rowsL bits)), some (is (.ref p)), o1, o2, none])
    (fun wb ds lk e => ⟨rfl, fun _ h => h, by rw [lk.own]; rfl, none, none, rfl⟩) (fun wb ds i w' τ' lk h => ⟨by rw [h.1, lk.S], h.2.1⟩)
    (fun wb ds i x w' τ' lk e h hx => ?_) (fun wb ds w' τ' lk e h => ?_)
  · obtain ⟨eS, eJ, eo, o1, o2, rfl⟩ := h
    subst e
    obtain ⟨row, hrow, rfl⟩ := rows_inv hx
    have hrl : row.length = C := (ok.row row (List.mem_of_getElem? hrow)).1
    refine rn_for (passes_of rfl) rfl (wi_range (n := 2) T.range (cI 2) (by decide)) (pg_name (i := 4) sc_lawBeside.nd rfl (Or.inr rfl)) (tgr_name 4) (fun _ _ _ _ _ => trivial)
      (fun wb2 ds2 j w2 τ2 => w2.S = wb2.S ∧ (∀ H, w2.J H → wb2.J H) ∧ w2.own[0]? = some (p, Ct.lst K ((beside bits (t.take i) ++ (List.range j).map (lampR bits row)).map natsL)) ∧ ∃ o2, τ2 = [some (dat K (rowsL t)), some (dat K (rowsL bits)), some (is (.ref p)), some (dat K (natsL row)), o2, none])
      (fun wb2 ds2 lk2 e2 => ⟨rfl, fun _ h => h, by rw [lk2.own, eo]; simp, o2, rfl⟩) (fun wb2 ds2 j w2 τ2 lk2 h => ⟨by rw [h.1, lk2.S], h.2.1⟩)
      (fun wb2 ds2 j x w2 τ2 lk2 e2 h hx2 => ?_) (fun wb2 ds2 w2 τ2 lk2 e2 h => ?_)
    · obtain ⟨eS2, eJ2, eo2, o3, rfl⟩ := h
      subst e2
      obtain ⟨hj, rfl⟩ := rangeD_get hx2
      refine rn_appO (C := fun y => y = natsL (lampR bits row j)) (nO 2) eo2 (by rw [List.length_map, List.length_append, beside_len, List.length_map, List.length_range, List.length_take]; omega) (v_lcR (g := fun c => 2 * row.getD c 0 + (bits.getD c []).getD j 0) (j := 5) rfl sc_lawBeside.nd T.range ((v_len T.len (ds := bits.map natsL) (nD 1) (.inl rfl)).toJ (by rw [List.length_map])) (by rw [hb.len]; omega) (blkOk_by (N := NBeside) (sc := defScope sLawBeside) (by decide +kernel)) (fun _ _ _ _ _ => pg_name (i := 5) sc_lawBeside.nd rfl (Or.inl rfl)) (fun c hc w3 _ _ s1 H1 C1 cl1 fp1 => ?_)) (fun y hy => ?_)
      · have hc' : c < C := by rw [← hb.len]; exact hc
        have hcb : c < bits.length := hc
        have hl : c < row.length := by omega
        obtain ⟨b1, b2⟩ := hb.at hc' hj
        exact v_addN (v_mulN (x := 2) (cI 2) (Xe.toI (v_ix (nD 3) (nI 5) (.inl rfl) (nats_get (getD_some hl)))) (by decide)) (Xe.toI (v_ix (v_ix (f := natsL (bits.getD c [])) (nD 1) (nI 5) (.inl rfl) (rows_get (getD_some hcb))) (nI 4) (.inl rfl) (nats_get (getD_some (by omega)))))
      · subst hy
        refine rn_nil fun σ H s => ⟨_, _, ?_, s⟩
        refine ⟨eS2, eJ2, ?_, _, rfl⟩
        have hown : 0 < w2.own.length := (List.getElem?_eq_some_iff.mp eo2).1
        show (w2.own.set 0 _)[0]? = _
        rw [List.getElem?_set_self hown, List.range_succ, List.map_append, List.map_append, List.map_append]
        simp
        rfl
    · obtain ⟨eS2, eJ2, eo2, o3, rfl⟩ := h
      subst e2
      refine rn_nil fun σ H s => ⟨_, _, ?_, s⟩
      refine ⟨by rw [eS2, lk2.S, eS], fun H h => eJ _ (lk2.J (eJ2 _ h)), ?_, _, _, rfl⟩
      rw [eo2, List.take_add_one, hrow, beside_app, rangeD_len]
      rfl
  · obtain ⟨eS, eJ, eo, o1, o2, rfl⟩ := h
    subst e
    rw [List.length_map, List.take_length] at eo
    have up : Up (Vw.pure S H0) w' := ⟨fun h => Up.rfl'.J (lk.J (eJ _ h)), fun a m => by rw [eS, lk.S]; exact List.mem_cons_of_mem _ m⟩
    exact rn_retO q up rfl (nO 2) eo (fun z => n1 z) rfl
end
end Lt
namespace Lt
open PySem PySem.Spec PyProof.Rows L2
section
variable {P : Program} {w : World} {K : PySem.W.Frag} {mg : Str → Option Value} {base : Heap} {M : Ad}
/-- a machine with the last words of its slips -/
def stockD (C : Nat) (T : Tb) (last : List Nat) : PyData := .tuple [.int C, rowsL T, natsT last]
def B_stock (K : PySem.W.Frag) (r : Pd) : Prop := ∃ T C last, Ok T C ∧ C ≤ 4 ∧ T.length ≤ 6 ∧ Cmds C last ∧ last.length ≤ 3 ∧ r = dat K (stockD C T last)
abbrev NGuard : List Str := ["_law_deal", "_law_place", "_law_columns_here", "_law_kinds", "_law_command", "_law_column_here", "_law_state", "_law_lock", "_law_lamp", "_law_to", "_law_last"]
theorem sc_lawGuard : FnScope NGuard ["_law_deal"] (defScope sLawGuarded) := ⟨rfl, rfl, rfl, by decide +kernel, rfl, by decide +kernel, by decide +kernel⟩
/-- where lock and lamp go -/
def toTb (lock lamp : Nat) : Tb := [[if 0 < lock then 1 else 0, 1], [if 0 < lock then 2 else 0, lamp], [0, 0], [lock, 0]]
theorem toTb_at {lock lamp k : Nat} (h1 : lock < 3) (h2 : lamp < 2) (hk : k < 4) : ∃ a b, (toTb lock lamp)[k]? = some [a, b] ∧ a < 3 ∧ b < 2 := by
  have z : k = 0 ∨ k = 1 ∨ k = 2 ∨ k = 3 := by omega
  rcases z with rfl | rfl | rfl | rfl
  · exact ⟨_, _, rfl, by split <;> omega, by omega⟩
  · exact ⟨_, _, rfl, by split <;> omega, by omega⟩
  · exact ⟨_, _, rfl, by omega, by omega⟩
  · exact ⟨_, _, rfl, by omega, by omega⟩
theorem first_at {α : Type} [DecidableEq α] {m : α} : ∀ {xs : List α}, m ∈ xs → ∃ k : Nat, xs[k]? = some m ∧ ∀ i : Nat, i < k → xs[i]? ≠ some m
  | [], h => by cases h
  | x :: xs, h => by
    by_cases e : x = m
    · exact ⟨0, by simp [e], fun i hi => absurd hi (Nat.not_lt_zero _)⟩
    · have h' : m ∈ xs := by
        rcases List.mem_cons.mp h with h | h
        · exact absurd h.symm e
        · exact h
      obtain ⟨k, h1, h2⟩ := first_at h'
      refine ⟨k + 1, by simpa using h1, fun i hi => ?_⟩
      cases i with
      | zero => simpa using e
      | succ i => simpa using h2 i (by omega)
theorem cl_lawGuard (T : Tx K mg M) : Cl P w K mg base CX0 3 "_law_guarded" ["_law_deal"] (spDl (ι := Unit) (fun _ => []) (fun _ => True) (fun _ => B_stock K)) := by
  refine Cl.mk' (d := dLawGuarded) (T.df 34 _ rfl rfl rfl) (fun f0 fd F => fn_dl F sc_lawGuard (fun i => rfl) fun cdv Ar outer s H E hr S d l hd hl H0 i Q h q => ?_) (fun _ _ _ _ _ _ us hl => match us, hl with | [_], _ => rfl)
  have hu : Ar.units + 3 + 65 < cLine := by
    have z : Ar.units + 3 + 16 * 2 + 200 < cLine := hr.un
    omega
  refine rn_asg (i := 1) (P := fun pd => ∃ pl : List Nat, pd = dat K (natsL pl) ∧ pl.Perm [0, 1, 2, 3, 4, 5]) (x_dl (natsL [0, 1, 2, 3, 4, 5], nats [0, 1, 2, 3, 4, 5]) (cl_lawMixed T) hr (by decide) pass0 rfl rfl (ap_cons (nO 0) (ap_cons (Xe.eq (v_natsL (aN_cons (cN 0) (aN_cons (cN 1) (aN_cons (cN 2) (aN_cons (cN 3) (aN_cons (cN 4) (aN_cons (cN 5) aN_nil)))))))) ap_nil)) ⟨⟨.inl rfl⟩, by decide, fun x hx => (sh_nats x hx).mono (by decide)⟩ fun r ⟨es, pm, e⟩ => ?_) (fun pd hp => ?_) sc_lawGuard.nd rfl (Or.inl rfl)
  · obtain ⟨ys, py, rfl⟩ := perm_nats pm
    exact ⟨ys, e, py⟩
  obtain ⟨pl, rfl, hpl⟩ := hp
  have pll : pl.length = 6 := hpl.length_eq
  have pla : ∀ i, i < 6 → pl.getD i 0 < 6 := fun i hi => by
    have e : pl.getD i 0 = pl[i]'(by omega) := by simp [List.getD, pll, hi]
    rw [e]
    have m := hpl.mem_iff.mp (List.getElem_mem (l := pl) (n := i) (by omega))
    have z : pl[i] = 0 ∨ pl[i] = 1 ∨ pl[i] = 2 ∨ pl[i] = 3 ∨ pl[i] = 4 ∨ pl[i] = 5 := by simpa using m
    omega
  refine rn_parR (i := 2) (j := 3) (C := fun c => c = Ct.lst K (([] : Tb).map natsL)) (PB := fun pd => ∃ ks : List Nat, pd = dat K (natsL ks) ∧ ks.Perm [0, 1, 2, 3]) rfl (xf_nil rfl) (fun w' mM mk => x_dl (natsL [0, 1, 2, 3], nats [0, 1, 2, 3]) (cl_lawMixed T) hr (by decide) pass0 mM mk (ap_cons (nO 0) (ap_cons (Xe.eq (v_natsL (aN_cons (cN 0) (aN_cons (cN 1) (aN_cons (cN 2) (aN_cons (cN 3) aN_nil)))))) ap_nil)) ⟨⟨.inl rfl⟩, by decide, fun x hx => (sh_nats x hx).mono (by decide)⟩ fun r ⟨es, pm, e⟩ => ?_) (fun pd ql c n1 n2 ec hp => ?_) sc_lawGuard.nd rfl rfl (by decide) rfl rfl rfl
  · obtain ⟨ys, py, rfl⟩ := perm_nats pm
    exact ⟨ys, e, py⟩
  obtain ⟨ks, rfl, hks⟩ := hp
  subst ec
  have ksl : ks.length = 4 := hks.length_eq
  have ksa : ∀ k ∈ ks, k < 4 := fun k hk => by
    have z : k = 0 ∨ k = 1 ∨ k = 2 ∨ k = 3 := by simpa using hks.mem_iff.mp hk
    omega
  refine rn_for (passes_of rfl) rfl (wi_list (nD 3)) (pg_name (i := 4) sc_lawGuard.nd rfl (Or.inl rfl)) (tgr_name 4) (fun _ _ _ _ _ => trivial)
    (fun wb ds i w' τ' => w'.S = wb.S ∧ (∀ H, w'.J H → wb.J H) ∧ w'.M = [d, l] ∧ w'.ok = DealAt d l ∧ ∃ cols : Tb, cols.length = i ∧ (∀ x ∈ cols, Col 6 x) ∧ w'.own = [(ql, Ct.lst K (cols.map natsL))] ∧ ∃ o1 o2 o3 o4 o5 o6, τ' = [some (is (.ref d)), some (dat K (natsL pl)), some (is (.ref ql)), some (dat K (natsL ks)), o1, o2, o3, o4, o5, o6, none])
    (fun wb ds lk e => ⟨rfl, fun _ h => h, lk.M, lk.ok, [], rfl, fun _ h => (nomatch h), by rw [lk.own]; rfl, none, none, none, none, none, none, rfl⟩) (fun wb ds i w' τ' lk h => ⟨by rw [h.1, lk.S], h.2.1⟩)
    (fun wb ds i x w' τ' lk e h hx => ?_) (fun wb ds w' τ' lk e h => ?_)
  · obtain ⟨eS, eJ, eM, ek, cols, hlen, hcol, eo, o1, o2, o3, o4, o5, o6, rfl⟩ := h
    subst e
    obtain ⟨k, hk, rfl⟩ := nats_inv hx
    have hk4 : k < 4 := ksa k (List.mem_of_getElem? hk)
    have hi4 : i < 4 := by
      have := (List.getElem?_eq_some_iff.mp hk).1
      omega
    refine rn_new (i := 5) (C := fun c => c = Ct.lst K (nats [0, 0, 0, 0, 0, 0])) (xf_lst (C := fun ds => ds = nats [0, 0, 0, 0, 0, 0]) (aN_cons (cN 0) (aN_cons (cN 0) (aN_cons (cN 0) (aN_cons (cN 0) (aN_cons (cN 0) (aN_cons (cN 0) aN_nil)))))) (fun ds e => by rw [e]; exact (by decide : 6 ≤ sizeLine)) fun ds e => by rw [e]; rfl) (fun qc c m1 m2 ec => ?_) sc_lawGuard.nd rfl (Or.inl rfl)
    subst ec
    refine rn_for (passes_of rfl) rfl (wi_range (n := 6) T.range (cI 6) (by decide)) (pg_name (i := 6) sc_lawGuard.nd rfl (Or.inl rfl)) (tgr_name 6) (fun _ _ _ _ _ => trivial)
      (fun wb2 ds2 j w2 τ2 => w2.S = wb2.S ∧ (∀ H, w2.J H → wb2.J H) ∧ ∃ c : List Nat, Col 6 c ∧ w2.own = [(qc, Ct.lst K (nats c)), (ql, Ct.lst K (cols.map natsL))] ∧ ∃ o3 o4 o5 o6, τ2 = [some (is (.ref d)), some (dat K (natsL pl)), some (is (.ref ql)), some (dat K (natsL ks)), some (dat K (.int k)), some (is (.ref qc)), o3, o4, o5, o6, none])
      (fun wb2 ds2 lk2 e2 => ⟨rfl, fun _ h => h, [0, 0, 0, 0, 0, 0], ⟨rfl, by decide⟩, by rw [lk2.own]; show _ :: w'.own = _; rw [eo], o3, o4, o5, o6, rfl⟩) (fun wb2 ds2 j w2 τ2 lk2 h => ⟨by rw [h.1, lk2.S], h.2.1⟩)
      (fun wb2 ds2 j x w2 τ2 lk2 e2 h hx2 => ?_) (fun wb2 ds2 w2 τ2 lk2 e2 h => ?_)
    · obtain ⟨eS2, eJ2, c, hc, eo2, o3, o4, o5, o6, rfl⟩ := h
      subst e2
      obtain ⟨hj, rfl⟩ := rangeD_get hx2
      refine rn_par (i := 7) (j := 8) (PA' := eI K ((j / 2 : Nat) : Int)) (PB := eI K ((j % 2 : Nat) : Int)) rfl (v_divN (y := 2) (nI 6) (cI 2) (by decide) (by decide)) (v_modN (y := 2) (nI 6) (cI 2) (by decide)) (fun p1 p2 e1 e2 => ?_) sc_lawGuard.nd rfl rfl (by decide) rfl rfl rfl
      obtain ⟨_, rfl, rfl⟩ := e1
      obtain ⟨_, rfl, rfl⟩ := e2
      obtain ⟨a, b, hab, ha, hb⟩ := toTb_at (lock := j / 2) (lamp := j % 2) (k := k) (by omega) (by omega) hk4
      refine rn_asg (i := 9) (P := eD K (natsL [a, b])) (v_ix (f := natsL [a, b]) (v_rowsL (T := toTb (j / 2) (j % 2)) (aR_cons (v_natsL (aN_cons (v_if (u := decide ((0 : Int) < ((j / 2 : Nat) : Int))) (t_gt (nI 7) (cI 0)) (fun h => (cI 1).toJ (by have := of_decide_eq_true h; rw [if_pos (by omega)]; rfl)) (fun h => (cI 0).toJ (by have := of_decide_eq_false h; rw [if_neg (by omega)]; rfl))) (aN_cons (cN 1) aN_nil)) (by show 2 ≤ 1000; decide)) (aR_cons (v_natsL (aN_cons (v_if (u := decide ((0 : Int) < ((j / 2 : Nat) : Int))) (t_gt (nI 7) (cI 0)) (fun h => (cI 2).toJ (by have := of_decide_eq_true h; rw [if_pos (by omega)]; rfl)) (fun h => (cI 0).toJ (by have := of_decide_eq_false h; rw [if_neg (by omega)]; rfl))) (aN_cons (nI 8) aN_nil)) (by show 2 ≤ 1000; decide))
        (aR_cons (v_natsL (aN_cons (cN 0) (aN_cons (cN 0) aN_nil))) (aR_cons (v_natsL (aN_cons (nI 7) (aN_cons (cN 0) aN_nil)) (by show 2 ≤ 1000; decide)) aR_nil)))) (by show 4 ≤ 1000; decide)) (nI 4) (.inl rfl) (rows_get hab)) (fun pd hp => ?_) sc_lawGuard.nd rfl (Or.inl rfl)
      obtain ⟨_, rfl, rfl⟩ := hp
      have hown : w2.own[0]? = some (qc, Ct.lst K (nats c)) := by rw [eo2]; rfl
      refine rn_setN (i := pl.getD j 0) (m := pl.getD (2 * a + b) 0) (Xe.toI (v_ix (nD 1) (v_addN (v_mulN (x := 2) (cI 2) (Xe.toI (v_ix (ds := nats [a, b]) (n := 0) (nD 9) (cI 0) (.inl rfl) rfl)) (by decide)) (Xe.toI (v_ix (ds := nats [a, b]) (n := 1) (nD 9) (cI 1) (.inl rfl) rfl))) (.inl rfl) (nats_get (getD_some (by omega))))) (nO 5) hown (Xe.toI (v_ix (nD 1) (nI 6) (.inl rfl) (nats_get (getD_some (by omega))))) (by rw [hc.len]; exact pla j hj) ?_
      refine rn_nil fun σ H s => ⟨_, _, ?_, s⟩
      refine ⟨eS2, eJ2, c.set (pl.getD j 0) (pl.getD (2 * a + b) 0), ⟨by rw [List.length_set, hc.len], fun x hx => ?_⟩, ?_, _, _, _, _, rfl⟩
      · rcases List.mem_or_eq_of_mem_set hx with hx | rfl
        · exact hc.lt x hx
        · exact pla _ (by omega)
      · show w2.own.set 0 _ = _
        rw [eo2]; rfl
    · obtain ⟨eS2, eJ2, c, hc, eo2, o3, o4, o5, o6, rfl⟩ := h
      subst e2
      have hown : w2.own[0]? = some (qc, Ct.lst K (nats c)) := by rw [eo2]; rfl
      have sub : ∀ a, a ∈ w'.S → a ∈ w2.S := fun a m => by rw [eS2, lk2.S]; exact List.mem_cons_of_mem _ m
      refine rn_shown (v := w') sub (fun H h => lk2.J (eJ2 _ h)) (fun o ho => by
        rw [eo] at ho
        rw [eo2]
        exact List.mem_cons_of_mem _ ho) hown (fun z => m1 z) 5 rfl ?_
      have hown2 : w'.own[0]? = some (ql, Ct.lst K (cols.map natsL)) := by rw [eo]; rfl
      refine rn_appO (C := fun y => y = natsL c) (nO 2) hown2 (by rw [List.length_map]; omega) (nD 5) (fun y hy => ?_)
      subst hy
      refine rn_nil fun σ H s => ⟨_, _, ?_, s⟩
      refine ⟨eS, eJ, eM, ek, cols ++ [c], by rw [List.length_append, hlen]; rfl, fun x hx => ?_, ?_, _, _, _, _, _, _, rfl⟩
      · rcases List.mem_append.mp hx with hx | hx
        · exact hcol x hx
        · rw [List.mem_singleton.mp hx]; exact hc
      · show w'.own.set 0 _ = _
        rw [eo, List.map_append]; rfl
  · obtain ⟨eS, eJ, eM, ek, cols, hlen, hcol, eo, o1, o2, o3, o4, o5, o6, rfl⟩ := h
    subst e
    rw [nats_len, ksl] at hlen
    have hown : w'.own[0]? = some (ql, Ct.lst K (cols.map natsL)) := by rw [eo]; rfl
    have up : Up (Vw.deal S d l hd hl H0) w' := ⟨fun h => Up.rfl'.J (lk.J (eJ _ h)), fun a m => by rw [eS, lk.S]; exact List.mem_cons_of_mem _ m⟩
    refine rn_base up rfl hown (fun z => n1 z) 2 rfl ?_
    have at_ : ∀ m, m < 4 → ∃ j, j < 4 ∧ ks[j]? = some m ∧ ∀ i, i < j → ks[i]? ≠ some m := fun m hm => by
      have hm' : m ∈ ks := hks.mem_iff.mpr (by
        have z : m = 0 ∨ m = 1 ∨ m = 2 ∨ m = 3 := by omega
        rcases z with rfl | rfl | rfl | rfl <;> decide)
      obtain ⟨j, h1, h2⟩ := first_at hm'
      have := (List.getElem?_eq_some_iff.mp h1).1
      exact ⟨j, by omega, h1, h2⟩
    obtain ⟨j2, a1, a2, a3⟩ := at_ 2 (by decide)
    obtain ⟨j3, b1, b2, b3⟩ := at_ 3 (by decide)
    refine rn_asg (i := 10) (P := fun pd => ∃ j, j < 4 ∧ pd = dat K (natsT [j, j2, j3])) (x_tup (C := fun ds => ∃ j, j < 4 ∧ ds = nats [j, j2, j3]) (A := fun y => ∃ j, j < 4 ∧ y = natsT [j, j2, j3]) (xd_cons (A := fun y => ∃ j : Nat, j < 4 ∧ y = .int j) (D := fun ds => ds = nats [j2, j3]) ?_ (aN_cons (v_index hu (nD 3) (cI 2) a2 a3) (aN_cons (v_index hu (nD 3) (cI 3) b2 b3) aN_nil)) (fun y ys ⟨j, h1, h2⟩ h3 => ⟨j, h1, by rw [h2, h3]; rfl⟩)) (fun ds ⟨j, h1, h2⟩ => by rw [h2]; exact (by decide : 3 ≤ sizeLine)) (fun ds ⟨j, h1, h2⟩ => ⟨j, h1, by rw [h2]; rfl⟩) |>.imp fun pd ⟨y, e1, j, h1, e2⟩ => ⟨j, h1, by rw [e1, e2]; rfl⟩) (fun pd hp => ?_) sc_lawGuard.nd rfl (Or.inl rfl)
    · exact Xe.imp (x_index (C := fun i => ∃ m : Nat, i = m ∧ m < 2) (R := fun k => k < 4) hu (nD 3) (x_dl 2 (cl_lawAny T) hr (by decide) pass0 rfl rfl (ap_cons (nO 0) (ap_cons (Xe.eqI (cI 2)) ap_nil)) ⟨by decide, by decide⟩ fun r ⟨k, e, hk⟩ => ⟨_, e, k, rfl, hk⟩) fun i ⟨m, e, hm⟩ => by
        obtain ⟨j, h1, h2, h3⟩ := at_ m (by omega)
        exact ⟨m, j, e, h2, h3, h1⟩) fun pd ⟨i, e1, j, e2, h⟩ => ⟨_, e1, j, h, by rw [e2]⟩
    obtain ⟨j1, hj1, rfl⟩ := hp
    have hne : cols ≠ [] := fun z => by rw [z] at hlen; simp at hlen
    refine rn_retDl q .rfl' rfl (Xe.imp (P := eD K (stockD 4 (trn cols 6) [j1, j2, j3])) (v_tup (a_cons (cN 4).toD (a_cons (Xe.ofP (x_clP (P := fun pd => pd = dat K (rowsL (trn cols 6))) (cl_lawCols T) hr (by decide) pass0 (ap_cons (nP 2) ap_nil) fun pds e => ⟨_, ⟨cols, 6, e, hne, fun x hx => (hcol x hx).len, by omega, by omega, rfl⟩, rfl⟩)) (a_cons (nD 10) a_nil))) (by show 3 ≤ 1000; decide)) fun pd ⟨y, e1, e2⟩ => ⟨trn cols 6, 4, [j1, j2, j3], ?_, by decide, by rw [trn_len]; decide, ?_, by show 3 ≤ 3; decide, by rw [e1, e2]⟩)
    · rw [← hlen]
      exact trn_ok hne (by decide) fun x hx => ⟨(hcol x hx).len, (hcol x hx).lt⟩
    · intro c hc
      have z : c = j1 ∨ c = j2 ∨ c = j3 := by simpa using hc
      omega
end
end Lt
namespace Lt
open PySem PySem.Spec PyProof.Rows L2
section
variable {X : Cx} {w : Vw} {e a : Expr} {τ : Ty} {pos p pos2 : Pos}
/-- len(steps), len(steps[0]) -/
theorem v_lenRows {T : Tb} (hm : X.mg "len" = none) (h : Xe X w e τ (eD X.K (rowsL T))) (hg : Gl X "len" := by rfl) (hs : starEach [e] X.env = [(false, eval e X.env)] := by rfl) : Xe X w (.Call (.Name "len" p) [e] [] pos) τ (eI X.K T.length) :=
  (v_len (ds := T.map natsL) hm h (.inl rfl) hg hs).toJ (by rw [List.length_map])
theorem v_lenRow0 {T : Tb} {C : Nat} (ok : Ok T C) (hm : X.mg "len" = none) (h : Xe X w e τ (eD X.K (rowsL T))) (h0 : Xe X w a τ (eI X.K (0 : Nat))) (hg : Gl X "len" := by rfl) (hp : PlainIx a := by exact fun _ _ => rfl)
    (hs : starEach [.Subscript e a pos2] X.env = [(false, eval (.Subscript e a pos2) X.env)] := by rfl) : Xe X w (.Call (.Name "len" p) [.Subscript e a pos2] [] pos) τ (eI X.K C) :=
  (v_len (ds := nats (T.getD 0 [])) hm (v_ix (ds := T.map natsL) (f := natsL (T.getD 0 [])) h h0 (.inl rfl) (rows_get (getD_some ok.n0)) hp) (.inl rfl) hg hs).toJ (by rw [nats_len, ok.row_len ok.n0])
end
section
variable {P : Program} {w : World} {K : PySem.W.Frag} {mg : Str → Option Value} {base : Heap} {M : Ad}
def F_lawLed (K : PySem.W.Frag) : List Pd → Pd → Prop := fun pds r => ∃ (T : Tb) (C s : Nat) (row : List Nat), pds = [dat K (rowsL T), dat K (.int s), dat K (natsL row)] ∧ Ok T C ∧ s < T.length ∧ Cmds C row ∧ r = dat K (.int (led T s row))
theorem sc_lawLed : FnScope ["_law_steps", "_law_state", "_law_row", "_law_command"] ["_law_steps", "_law_state", "_law_row"] (defScope sLawLed) := ⟨rfl, rfl, rfl, by decide +kernel, rfl, by decide +kernel, by decide +kernel⟩
theorem cl_lawLed (T : Tx K mg M) : Cl P w K mg base CX0 1 "_law_led" ["_law_steps", "_law_state", "_law_row"] (spP (F_lawLed K)) := by
  refine Cl.mk' (d := dLawLed) (T.df 30 _ rfl rfl rfl) (fun f fd F => fn_pure F sc_lawLed (fun pds r h => ?_) fun cdv A outer s H E hr S H0 pds r Q h q => ?_) (fun _ _ _ _ _ _ us hl => match us, hl with | [_, _, _], _ => rfl)
  · obtain ⟨t, C, s0, row, e1, _⟩ := h
    subst e1; rfl
  obtain ⟨t, C, s0, row, e1, ok, hs, hc, e2⟩ := h
  subst e1
  refine rn_for (passes_of rfl) rfl (wi_list (nD 2)) (pg_name (i := 3) sc_lawLed.nd rfl (Or.inl rfl)) (tgr_name 3) (fun _ _ _ _ _ => trivial)
    (fun wb ds i w' τ' => w' = wb ∧ ∃ o, τ' = [some (dat K (rowsL t)), some (dat K (.int (led t s0 (row.take i)))), some (dat K (natsL row)), o])
    (fun wb ds l e => ⟨rfl, none, rfl⟩) (fun wb ds i w' τ' l h => ⟨by rw [h.1]; exact l.S, fun H h' => by rw [h.1] at h'; exact h'⟩)
    (fun wb ds i x w' τ' l e h hx => ?_) (fun wb ds w' τ' l e h => ?_)
  · obtain ⟨rfl, o, rfl⟩ := h
    subst e
    obtain ⟨c, h1, rfl⟩ := nats_inv hx
    have hcc : c < C := hc c (List.mem_of_getElem? h1)
    have hl := ok.led_lt hs (cmds_take hc i)
    refine rn_asg (i := 1) (v_stp ok hl hcc (nD 0) (.inr rfl) (nI 1) (nI 3)) (fun pd hp => ?_) sc_lawLed.nd rfl (Or.inl rfl)
    obtain ⟨y, rfl, rfl⟩ := hp
    refine rn_nil fun σ H s => ⟨_, _, ⟨rfl, some (dat K (.int c)), ?_⟩, s⟩
    rw [led_take h1]; rfl
  · obtain ⟨rfl, o, rfl⟩ := h
    subst e
    refine rn_retP q (Up.rfl'.lk l) rfl (Xe.retI (nI 1) ?_)
    rw [nats_len, List.take_length]
    exact e2
def F_lawCmds (K : PySem.W.Frag) : List Pd → Pd → Prop := fun pds r => ∃ (l : List Slip) (d : PyData), pds = [dat K d] ∧ (d = slipsL l ∨ d = slipsT l) ∧ Apart l ∧ l.length ≤ 1000 ∧ r = dat K (natsL (cmds (sortS l)))
theorem sc_lawCmds : FnScope ["_law_heap_here", "_law_slip"] ["_law_heap_here"] (defScope sLawCommands) := ⟨rfl, rfl, rfl, by decide +kernel, rfl, by decide +kernel, by decide +kernel⟩
theorem cl_lawCmds (T : Tx K mg M) : Cl P w K mg base CX0 1 "_law_commands" ["_law_heap_here"] (spP (F_lawCmds K)) := by
  refine Cl.mk' (d := dLawCommands) (T.df 39 _ rfl rfl rfl) (fun f fd F => fn_pure F sc_lawCmds (fun pds r h => ?_) fun cdv A outer s H E hr S H0 pds r Q h q => ?_) (fun _ _ _ _ _ _ us hl => match us, hl with | [_], _ => rfl)
  · obtain ⟨l, d, e1, _⟩ := h
    subst e1; rfl
  obtain ⟨l, d, e1, hd, hp, hl, e2⟩ := h
  subst e1; subst e2
  refine rn_retP q .rfl' rfl (Xe.ret (v_lc (own := [("_law_slip", 1)]) (ds := slips (sortS l)) (ws := nats (cmds (sortS l))) rfl sc_lawCmds.nd (wi_list (v_sorted T.sorted (nD 0) hd (sortS_perm l) (sortS_asc hp))) (blkOk_by (N := ["_law_heap_here", "_law_slip"]) (sc := defScope sLawCommands) (by decide +kernel))
    (fun _ _ _ _ _ => pg_name (i := 1) sc_lawCmds.nd rfl (Or.inl rfl)) (tgr_name 1) (fun _ _ _ => trivial) (by rw [nats_len, slips_len]; unfold cmds; rw [List.length_map]) (by rw [slips_len, sortS_len]; omega) (fun i x r hx' hr' w' _ _ => ?_)) rfl)
  obtain ⟨y, hy, rfl⟩ := slips_inv hx'
  obtain ⟨n, hn, rfl⟩ := nats_inv hr'
  have en : n = y.2 := by
    unfold cmds at hn
    rw [List.getElem?_map, hy] at hn
    exact (Option.some.inj hn).symm
  subst en
  intro s1 H1 C1 cl1 fp1
  exact v_ix (ds := [.int y.1, .int y.2]) (n := 1) (nD 1) (cI 1) (.inr rfl) rfl
def F_lawClash (K : PySem.W.Frag) : List Pd → Pd → Prop := fun pds r => ∃ (T : Tb) (C c : Nat) (f : List Nat) (d : PyData), pds = [dat K (rowsL T), dat K (.int c), dat K d] ∧ (d = natsT f ∨ d = natsL f) ∧ Ok T C ∧ c < C ∧ f.length = T.length ∧ T.length ≤ 1000 ∧ C ≤ 1000 ∧ r = clashP K (freeB T C c f)
abbrev NClash : List Str := ["_law_steps", "_law_command", "_law_found", "_law_state", "_law_other"]
theorem sc_lawClash : FnScope NClash ["_law_steps", "_law_command", "_law_found"] (defScope sLawClash) := ⟨rfl, rfl, rfl, by decide +kernel, rfl, by decide +kernel, by decide +kernel⟩
theorem cl_lawClash (T : Tx K mg M) : Cl P w K mg base CX0 1 "_law_clash" ["_law_steps", "_law_command", "_law_found"] (spP (F_lawClash K)) := by
  refine Cl.mk' (d := dLawClash) (T.df 37 _ rfl rfl rfl) (fun f fd F => fn_pure F sc_lawClash (fun pds r h => ?_) fun cdv A outer s H E hr S H0 pds r Q h q => ?_) (fun _ _ _ _ _ _ us hl => match us, hl with | [_, _, _], _ => rfl)
  · obtain ⟨t, C, c, f, d, e1, _⟩ := h
    subst e1; rfl
  obtain ⟨t, C, c, f, d, e1, hd, ok, hc, hf, hn, hC, e2⟩ := h
  subst e1; subst e2
  refine rn_for (passes_of rfl) rfl (wi_range T.range (v_lenRows T.len (nD 0)) (by omega)) (pg_name (i := 3) sc_lawClash.nd rfl (Or.inl rfl)) (tgr_name 3) (fun _ _ _ _ _ => trivial)
    (fun wb ds i w' τ' => w' = wb ∧ noClash t C c f i ∧ ∃ o1 o2, τ' = [some (dat K (rowsL t)), some (dat K (.int c)), some (dat K d), o1, o2])
    (fun wb ds l e => ⟨rfl, fun s hs => absurd hs (Nat.not_lt_zero s), none, none, rfl⟩) (fun wb ds i w' τ' l h => ⟨by rw [h.1]; exact l.S, fun H h' => by rw [h.1] at h'; exact h'⟩)
    (fun wb ds i x w' τ' l e h hx => ?_) (fun wb ds w' τ' l e h => ?_)
  · obtain ⟨rfl, nc, o1, o2, rfl⟩ := h
    subst e
    obtain ⟨hi, rfl⟩ := rangeD_get hx
    refine rn_for (passes_of rfl) rfl (wi_range T.range (v_lenRow0 ok T.len (nD 0) (cN 0)) (by omega)) (pg_name (i := 4) sc_lawClash.nd rfl (Or.inl rfl)) (tgr_name 4) (fun _ _ _ _ _ => trivial)
      (fun wb' ds j w'' τ'' => w'' = wb' ∧ (∀ x, x < j → f.getD (stp t (stp t i c) x) 0 = f.getD (stp t (stp t i x) c) 0) ∧ ∃ o2, τ'' = [some (dat K (rowsL t)), some (dat K (.int c)), some (dat K d), some (dat K (.int i)), o2])
      (fun wb ds l e => ⟨rfl, fun s hs => absurd hs (Nat.not_lt_zero s), _, rfl⟩) (fun wb ds i w' τ' l h => ⟨by rw [h.1]; exact l.S, fun H h' => by rw [h.1] at h'; exact h'⟩)
      (fun wb' ds j x w'' τ'' l' e h hx => ?_) (fun wb' ds w'' τ'' l' e h => ?_)
    · obtain ⟨rfl, nj, o2, rfl⟩ := h
      subst e
      obtain ⟨hj, rfl⟩ := rangeD_get hx
      have h1 := ok.stp_lt hi hc
      have h2 := ok.stp_lt hi hj
      have h3 := ok.stp_lt h1 hj
      have h4 := ok.stp_lt h2 hc
      refine rn_if (t_ne (v_at (f := f) (s := stp t (stp t i c) j) (by omega) (nD 2) hd (v_stp ok h1 hj (nD 0) (.inr rfl) (v_stp ok hi hc (nD 0) (.inr rfl) (nI 3) (nI 1)) (nI 4))) (v_at (f := f) (s := stp t (stp t i j) c) (by omega) (nD 2) hd (v_stp ok h2 hc (nD 0) (.inr rfl) (v_stp ok hi hj (nD 0) (.inr rfl) (nI 3) (nI 4)) (nI 1)))) (fun h => ?_) (fun h => ?_)
      · have ne : ¬ f.getD (stp t (stp t i c) j) 0 = f.getD (stp t (stp t i j) c) 0 := fun z => by
          rw [z] at h
          have h' : true = !decide True := by simpa using h
          cases h'
        refine rn_retP q ((Up.rfl'.lk l).lk l') rfl ?_
        rw [clash_not hi hj ne]
        exact Xe.pair (i := i) (j := j) (v_tup (a_cons (Xe.toD (nI 3)) (a_cons (Xe.toD (nI 4)) a_nil)) (by show 2 ≤ 1000; decide))
      · have eq : f.getD (stp t (stp t i c) j) 0 = f.getD (stp t (stp t i j) c) 0 := by
          have h' : (false : Bool) = !decide (((f.getD (stp t (stp t i c) j) 0 : Nat) : Int) = ((f.getD (stp t (stp t i j) c) 0 : Nat) : Int)) := h
          cases q2 : decide (((f.getD (stp t (stp t i c) j) 0 : Nat) : Int) = ((f.getD (stp t (stp t i j) c) 0 : Nat) : Int)) with
          | true => have := of_decide_eq_true q2; omega
          | false => rw [q2] at h'; cases h'
        refine rn_out (rn_nil fun σ H s => ⟨_, _, ⟨rfl, fun x hx => ?_, _, rfl⟩, s⟩)
        by_cases e : x = j
        · subst e; exact eq
        · exact nj x (by omega)
    · obtain ⟨rfl, nj, o2, rfl⟩ := h
      subst e
      rw [rangeD_len] at nj
      refine rn_nil fun σ H s => ⟨_, _, ⟨rfl, fun s1 hs1 x1 hx1 => ?_, _, _, rfl⟩, s.unlk l'⟩
      by_cases e : s1 = i
      · subst e; exact nj x1 hx1
      · exact nc s1 (by omega) x1 hx1
  · obtain ⟨rfl, nc, o1, o2, rfl⟩ := h
    subst e
    rw [rangeD_len] at nc
    refine rn_retP q (Up.rfl'.lk l) rfl ?_
    rw [noClash_all nc]
    exact x_non rfl
end
end Lt
namespace Lt
open PySem PySem.Spec PyProof.Rows L2
section
variable {P : Program} {w : World} {K : PySem.W.Frag} {mg : Str → Option Value} {base : Heap} {M : Ad}
def F_lawTray (K : PySem.W.Frag) : List Pd → Pd → Prop := fun pds r => ∃ (T : Tb) (C : Nat) (l : List Slip) (d : PyData), pds = [dat K (rowsL T), dat K d] ∧ (d = slipsT l ∨ d = slipsL l) ∧ Ok T C ∧ T.length < 1000 ∧ C ≤ 1000 ∧ Cmds C (cmds l) ∧ l.length ≤ 1000 ∧ r = dat K (slipsT (tray T C l))
abbrev NTray : List Str := ["_law_steps", "_law_heap_here", "_law_found", "_law_kept", "_law_slip", "_law_row"]
theorem sc_lawTray : FnScope NTray ["_law_steps", "_law_heap_here"] (defScope sLawTray) := ⟨rfl, rfl, rfl, by decide +kernel, rfl, by decide +kernel, by decide +kernel⟩
theorem cl_lawTray (T : Tx K mg M) : Cl P w K mg base CX0 2 "_law_tray" ["_law_steps", "_law_heap_here"] (spP (F_lawTray K)) := by
  refine Cl.mk' (d := dLawTray) (T.df 40 _ rfl rfl rfl) (fun f fd F => fn_pure F sc_lawTray (fun pds r h => ?_) fun cdv A outer s H E hr S H0 pds r Q h q => ?_) (fun _ _ _ _ _ _ us hl => match us, hl with | [_, _], _ => rfl)
  · obtain ⟨t, C, l, d, e1, _⟩ := h
    subst e1; rfl
  obtain ⟨t, C, l, d, e1, hd, ok, hn, hC, hc, hl, e2⟩ := h
  subst e1; subst e2
  refine rn_unpF (i := 2) (j := 3) (PA' := eD K (natsL (List.range t.length))) (C := fun c => c = Ct.lst K (slips [])) rfl (v_listRange rfl T.list T.range (v_lenRows T.len (nD 0)) (by omega)) (xf_nil rfl) (.cons (pg_name (i := 2) sc_lawTray.nd rfl (Or.inr rfl)) (.cons (pg_name (i := 3) sc_lawTray.nd rfl (Or.inl rfl)) .nil rfl) rfl) (fun p1 p c n1 n2 e1 ec => ?_)
  obtain ⟨_, rfl, rfl⟩ := e1
  subst ec
  have src : ∀ {w' : Vw} {τ : Ty} {e : Expr} {tg : Expr}, True := trivial
  refine rn_for (A := fun y => y = slips l.reverse) (passes_of rfl) rfl ?_ (pg_name (i := 4) sc_lawTray.nd rfl (Or.inr rfl)) (tgr_name 4) (fun _ _ _ _ _ => trivial)
    (fun wb ds i w' τ' => w'.S = wb.S ∧ (∀ H, w'.J H → wb.J H) ∧ w'.own[0]? = some (p, Ct.lst K (slips (tray t C (lastS l i)).reverse)) ∧ ∃ o1, τ' = [some (dat K (rowsL t)), some (dat K d), some (dat K (natsL (eff t (cmds (lastS l i))))), some (is (.ref p)), o1, none])
    (fun wb ds lk e => ⟨rfl, fun _ h => h, by rw [lk.own]; rfl, none, by rw [lastS_zero]; show _ = [_, _, some (dat K (natsL (eff t []))), _, _, _]; rw [eff_nil]; rfl⟩) (fun wb ds i w' τ' lk h => ⟨by rw [h.1, lk.S], h.2.1⟩)
    (fun wb ds i x w' τ' lk e h hx => ?_) (fun wb ds w' τ' lk e h => ?_)
  · rcases hd with rfl | rfl
    · rw [← slips_rev]
      exact wi_tup (v_revT (nD 1))
    · rw [← slips_rev]
      exact wi_list (v_revL (nD 1))
  · obtain ⟨eS, eJ, eo, o1, rfl⟩ := h
    subst e
    obtain ⟨y, hy, rfl⟩ := slips_inv hx
    have hyl : y ∈ l := List.mem_reverse.mp (List.mem_of_getElem? hy)
    have hyc : y.2 < C := hc _ (List.mem_map.mpr ⟨y, hyl, rfl⟩)
    have es : lastS l (i + 1) = y :: lastS l i := lastS_succ hy
    have trx := tray_cons (T := t) (C := C) (x := y) (r := lastS l i)
    have slip1 : ∀ {X : Cx} {w1 : Vw} {τ : Ty} {a b : Expr} {pos : Pos}, X.K = K → True := fun _ => trivial
    refine rn_ifJ (fun w1 => w1.S = wb.S ∧ (∀ H, w1.J H → wb.J H) ∧ w1.own[0]? = some (p, Ct.lst K (slips (tray t C (lastS l (i + 1))).reverse))) (t_notNP (b := freeB t C y.2 (eff t (cmds (lastS l i)))) (x_clP (cl_lawClash T) hr (by decide) pass0 (ap_cons (nP 0) (ap_cons (Xe.eq (v_ix (ds := [.int y.1, .int y.2]) (n := 1) (nD 4) (cI 1) (.inr rfl) rfl)) (ap_cons (nP 2) ap_nil)))
      fun pds e => ⟨_, ⟨t, C, y.2, eff t (cmds (lastS l i)), _, e, .inr rfl, ok, hyc, eff_len _ _, by omega, hC, rfl⟩, rfl⟩)) (fun h k => ?_) (fun h k => ?_) (fun w1 hw1 => ?_)
    · have hf : freeB t C y.2 (eff t (cmds (lastS l i))) = false := by
        cases z : freeB t C y.2 (eff t (cmds (lastS l i))) with
        | true => rw [z] at h; cases h
        | false => rfl
      rw [if_neg (by rw [hf]; exact Bool.false_ne_true)] at trx
      have lt : (tray t C (lastS l i)).length ≤ 1000 := by
        have l1 := tray_len (T := t) (C := C) (lastS l i)
        have l2 : (lastS l i).length ≤ l.length := by
          unfold lastS
          rw [List.length_reverse]
          have l3 : (l.reverse.take i).length ≤ l.reverse.length := by rw [List.length_take]; omega
          rw [List.length_reverse] at l3
          exact l3
        omega
      refine rn_appO (C := fun d => d = slipD y) (nO 3) eo (by rw [slips_len, List.length_reverse]; omega) (nD 4) (fun d hd => ?_)
      subst hd
      refine k _ ⟨eS, eJ, ?_⟩
      have hown : 0 < w'.own.length := (List.getElem?_eq_some_iff.mp eo).1
      show (w'.own.set 0 _)[0]? = _
      rw [List.getElem?_set_self hown, es, trx, List.reverse_cons, slips_app]
      rfl
    · have hf : freeB t C y.2 (eff t (cmds (lastS l i))) = true := by
        cases z : freeB t C y.2 (eff t (cmds (lastS l i))) with
        | true => rfl
        | false => rw [z] at h; cases h
      rw [if_pos hf] at trx
      exact k _ ⟨eS, eJ, by rw [es, trx]; exact eo⟩
    · obtain ⟨a1, a2, a3⟩ := hw1
      refine rn_asg (i := 2) (P := eD K (natsL (eff t (cmds (lastS l (i + 1)))))) (v_lc (own := [("_law_row", 5)]) (ds := t.map natsL) (ws := nats (eff t (cmds (lastS l (i + 1))))) rfl sc_lawTray.nd (wi_list (nD 0)) (blkOk_by (N := NTray) (sc := defScope sLawTray) (by decide +kernel)) (fun _ _ _ _ _ => pg_name (i := 5) sc_lawTray.nd rfl (Or.inl rfl)) (tgr_name 5) (fun _ _ _ => trivial) (by rw [nats_len, eff_len, List.length_map]) (by rw [List.length_map]; omega) (fun j x r hx' hr' w2 _ _ => ?_)) (fun pd hp => ?_) sc_lawTray.nd rfl (Or.inr rfl)
      · obtain ⟨row, hrow, rfl⟩ := rows_inv hx'
        obtain ⟨m, hm, rfl⟩ := nats_inv hr'
        have hj : j < t.length := (List.getElem?_eq_some_iff.mp hrow).1
        have er : row = t.getD j [] := by simp [List.getD, hrow]
        have hrl : row.length = C := (ok.row row (List.mem_of_getElem? hrow)).1
        have est : row.getD y.2 0 = stp t j y.2 := by rw [er]; rfl
        have hlt := ok.stp_lt hj hyc
        have em : m = (eff t (cmds (lastS l i))).getD (stp t j y.2) 0 := by
          have z : (eff t (cmds (lastS l (i + 1))))[j]? = some (led t j (cmds (lastS l (i + 1)))) := by simp [eff, hj]
          rw [z] at hm
          have hm' := Option.some.inj hm
          rw [← hm', es, eff_at hlt]
          rfl
        intro s1 H1 C1 cl1 fp1
        refine Xe.toD (Xe.toJ (v_at (f := eff t (cmds (lastS l i))) (s := row.getD y.2 0) (by rw [est, eff_len]; exact hlt) (nD 2) (.inr rfl) (Xe.toI (v_ix (nD 5) (Xe.toI (v_ix (ds := [.int y.1, .int y.2]) (n := 1) (nD 4) (cI 1) (.inr rfl) rfl)) (.inl rfl) (nats_get (getD_some (by omega)))))) (by rw [em, est]))
      obtain ⟨_, rfl, rfl⟩ := hp
      exact rn_nil fun σ H s => ⟨_, _, ⟨a1, a2, a3, _, rfl⟩, s⟩
  · obtain ⟨eS, eJ, eo, o1, rfl⟩ := h
    subst e
    rw [slips_len, List.length_reverse, lastS_all] at eo
    have up : Up (Vw.pure S H0) w' := ⟨fun h => Up.rfl'.J (lk.J (eJ _ h)), fun a m => by rw [eS, lk.S]; exact List.mem_cons_of_mem _ m⟩
    exact rn_retP q up rfl (Xe.ret (v_tuple T.tuple (v_revO (nO 3) eo) (.inl rfl)) (by rw [slips_rev, List.reverse_reverse]; rfl))
end
end Lt
set_option maxHeartbeats 4000000
namespace Lt
open PySem PySem.Spec PyProof.Rows L2
/-- e, a comprehension, goes into a local name on its line -/
def Xl (X : Cx) (w : Vw) (e : Expr) (τ : Ty) (P : Pd → Prop) : Prop := ∀ (i : Nat) (y : Str) (py spos : Pos), X.N.Nodup → X.N[i]? = some y → X.env.scope.names.lookup y = some .local → swapsWith e (some (.Name y py)) spos.line X.env = pure true →
  ∃ t : TE, PS X (.Assign [.Name y py] e spos) (tAsg t (gName i)) ∧ ∀ (σ : L2.St) (H : Hp), Sv w H σ τ → ∀ Q : VK, (∀ v pd H', Exm w.M H H' → w.I H' → P pd → pd.p v (hid w.S H') → Q v H') → t σ H Q
theorem Xl.imp {X : Cx} {w : Vw} {e : Expr} {τ : Ty} {P P' : Pd → Prop} (h : Xl X w e τ P) (f : ∀ pd, P pd → P' pd) : Xl X w e τ P' := fun i y py sp h1 h2 h3 h4 => by
  obtain ⟨t, a, b⟩ := h i y py sp h1 h2 h3 h4
  exact ⟨t, a, fun σ H s Q q => b σ H s Q fun v pd H' m i p hp => q v pd H' m i (f pd p) hp⟩
theorem rn_asgL {X : Cx} {w : Vw} {e : Expr} {τ : Ty} {P : Pd → Prop} {i : Nat} {x : Str} {pos pos' : Pos} {rest : List Stmt} {D : Ends} (he : Xl X w e τ P) (k : ∀ pd, P pd → Rn X w rest (τ.set i (some pd)) D) (hN : X.N.Nodup) (hi : X.N[i]? = some x) (hx : X.env.scope.names.lookup x = some .local)
    (hs : swapsWith e (some (.Name x pos')) pos.line X.env = pure true) : Rn X w (.Assign [.Name x pos'] e pos :: rest) τ D := fun σ H s => by
  obtain ⟨t, h1, h2⟩ := he i x pos' pos hN hi hx hs
  exact cons_of h1 (h2 σ H s _ fun v pd H1 e1 i1 p1 hv => k pd p1 _ H1 ((s.move e1 i1).set i hv))
/-- a list comprehension that goes into a name on the same line -/
theorem x_lcL {X : Cx} {w : Vw} {elt tg iter : Expr} {ifs : List Expr} {scope : Scope} {own : List (Str × Nat)} {pos : Pos} {τ : Ty} {A : List PyData → Prop} {g : TG} {D : PyData → Prop} {f : PyData → Ty → Ty} {C : PyData → Prop} (hc : X.calm = true) (hN : X.N.Nodup)
    (hi : Xi X w tg iter τ A) (ok : BlkOk X.N X.env.scope scope own) (hg : ∀ (s : Shared) (H : Hp) (C : Addr) (cl : List (Str × Addr)) (fp : List Addr), PG (X.blk s H scope (compEnvC scope cl C X.env) fp) tg g) (ht : TgR X.K g (own.map (·.2)) D f) (hl : ifs.length ≤ 1)
    (inv : List PyData → Nat → List PyData → Prop) (T : List PyData → Nat → List PyData → Bool → Prop) (h0 : ∀ ds, A ds → inv ds 0 []) (hz : ∀ ds i acc, inv ds i acc → acc.length < sizeLine) (hD : ∀ (ds : List PyData) (i : Nat) (x : PyData), A ds → ds[i]? = some x → D x)
    (hT : ∀ (ds : List PyData) (i : Nat) (acc : List PyData) (x : PyData), A ds → inv ds i acc → ds[i]? = some x → ∀ w' : Vw, w'.M = w.M → w'.ok = w.ok → Xis X scope w' ifs (f x (wipeT τ (own.map (·.2)))) (T ds i acc))
    (he : ∀ (ds : List PyData) (i : Nat) (acc : List PyData) (x : PyData), A ds → inv ds i acc → ds[i]? = some x → T ds i acc true → ∀ w' : Vw, w'.M = w.M → w'.ok = w.ok → Xeb X scope w' elt (f x (wipeT τ (own.map (·.2)))) (isD X.K fun r => inv ds (i + 1) (acc ++ [r])))
    (hno : ∀ (ds : List PyData) (i : Nat) (acc : List PyData) (x : PyData), A ds → inv ds i acc → ds[i]? = some x → T ds i acc false → inv ds (i + 1) acc) (hC : ∀ ds acc, A ds → inv ds ds.length acc → C (.list acc)) (hs : ∀ x, foldedSetIterable iter X.env x = pure x := by intro _; rfl) :
    Xl X w (.ListComp elt [⟨tg, iter, ifs, 0⟩] scope pos) τ (isD X.K C) := fun ii yy pyy spos hNN hyy hyl hsw => by
  obtain ⟨wi, hpi, hsrc⟩ := hi
  refine ⟨_, ps_setLc (te := fun σ H Q => ∀ (s : Shared) (H0 : Hp) (C : Addr) (cl : List (Str × Addr)) (fp : List Addr), eSem (X.blk s H0 scope (compEnvC scope cl C X.env) fp) elt σ H Q) hc hN hyy hyl hsw hpi ok hg (pts_sem hl)
    (fun s0 H0 C0 cl fp => ⟨fun pins s' σ' H' Q' I h => (h s0 H0 C0 cl fp).go pins s' I⟩) hs, fun σ H s Q q => ?_⟩
  refine hsrc σ H s _ fun J H1 ds hA e1 i1 wk => ?_
  intro Dl hDl
  have s1 := s.move e1 i1
  have n1 := s1.notin hDl
  have nw := w.jnw s1.inv.1 hDl
  have n2 : ¬ Dl ∈ w.M ∧ ∀ {H : Hp} {o : HO}, w.J H → w.J (upd H Dl o) := nw
  have wide : ∀ {H2 : Hp}, Exm w.M H1 H2 → Exm w.S H1 H2 := fun m => m.mono w.sub
  let Pv : Nat → Hp → Prop := fun i H2 => ∃ acc, inv ds i acc ∧ Exm w.M H1 H2 ∧ Sv (w.add Dl (Ct.lst X.K acc) n1 n2) H2 (L2.wipe σ (own.map (·.2))) (wipeT τ (own.map (·.2)))
  have hS : ∀ a, a ∈ Dl :: w.S → a ∈ w.S ∨ H1 a = none := fun a m => (List.mem_cons.mp m).elim (fun e => .inr (e ▸ hDl)) .inl
  have wideD : ∀ {H2 : Hp}, Exm w.M H1 H2 → Exm (Dl :: w.S) H1 H2 := fun m => m.mono fun a h => List.mem_cons_of_mem _ (w.sub a h)
  have wkk : Walk J ds.length (fun H2 => Exm w.M H1 H2 ∧ Live (Dl :: w.S) H2) (fun i H2 x H3 => ∃ d, ds[i]? = some d ∧ Same H2 H3 ∧ Dp X.K (hid (Dl :: w.S) H3) x d) :=
    ⟨fun i H2 hi m => wk.goes i H2 hi (wide m.1), fun H2 m => wk.stops H2 (wide m.1), fun i H2 x H3 hi m y => by
      have hd : ds[i]? = some ds[i] := by simp [hi]
      exact ⟨_, hd, wk.yields i H2 x H3 _ (Dl :: w.S) hd hS (wide m.1) (wideD m.1) m.2 y⟩⟩
  refine lc_it wkk (g := g) (tt := isSem X scope ifs) (te := fun σ H Q => ∀ (s : Shared) (H0 : Hp) (C : Addr) (cl : List (Str × Addr)) (fp : List Addr), eSem (X.blk s H0 scope (compEnvC scope cl C X.env) fp) elt σ H Q)
    (vs := own.map (·.2)) (σ := σ) (H1 := H1) (D := Dl) (Qd := fun H2 => Q (.ref Dl) H2) Pv ?_ ?_ ?_ ?_
  · refine ⟨[], h0 ds hA, Exm.upd (.inr hDl), ?_⟩
    exact (s1.wipe _).add (o := .lst []) (c := Ct.lst X.K []) hDl ⟨[], rfl, .nil⟩ n1 n2
  · rintro i H2 _ ⟨acc, _, m, sv⟩
    exact ⟨m, sv.live⟩
  · rintro i x H2 H3 hi ⟨acc, hinv, m, sv⟩ ⟨d, hd, sm, dv⟩
    have m3 : Exm (w.add Dl (Ct.lst X.K acc) n1 n2).M H2 H3 := Exm.same sm
    have sv3 := sv.move m3 (Vw.st _ sm sv.inv)
    refine ht.run _ _ _ H3 d x (hD ds i d hA hd) sv3 dv _ fun σ2 hw2 s2 => ?_
    refine ⟨by rw [hw2, wipe_wipe], ?_⟩
    refine is_run (hT ds i acc d hA hinv hd (w.add Dl (Ct.lst X.K acc) n1 n2) rfl rfl) σ2 H3 s2 _ fun b H4 e4 i4 tb => ?_
    have s4 := s2.move e4 i4
    have sv4 := sv3.move e4 i4
    cases b with
    | true =>
      rw [if_pos rfl]
      intro s0 H0 C0 cl fp
      refine he ds i acc d hA hinv hd tb (w.add Dl (Ct.lst X.K acc) n1 n2) rfl rfl s0 H0 C0 cl fp σ2 H4 s4 _ fun v pd H5 e5 i5 ⟨r, er, hr⟩ hv => ?_
      subst er
      have sv5 := sv4.move e5 i5
      obtain ⟨o, ho, vs, rfl, da⟩ := i5.2 (Dl, Ct.lst X.K acc) List.mem_cons_self
      refine ⟨vs, ho, by rw [dpa_len da]; exact hz ds i acc hinv, acc ++ [r], hr, ?_, ?_⟩
      · exact (((m.trans (Exm.same sm)).trans e4).trans e5).upd_new hDl
      · exact sv5.put (i := 0) (p := Dl) (c := Ct.lst X.K (acc ++ [r])) ⟨_, rfl⟩ ⟨_, rfl, dpa_app da (.cons hv .nil)⟩
    | false =>
      rw [if_neg Bool.false_ne_true]
      exact ⟨acc, hno ds i acc d hA hinv hd tb, (m.trans (Exm.same sm)).trans e4, sv4⟩
  · rintro H2 ⟨acc, hinv, m, sv⟩
    obtain ⟨s5, o, ho, vs, rfl, da⟩ := sv.show
    exact q (.ref Dl) (dat X.K (.list acc)) H2 (e1.trans m) s5.inv ⟨_, rfl, hC ds acc hA hinv⟩ (.lst (.inl (.inl ho)) da)
section
variable {X : Cx} {w : Vw} {elt tg iter : Expr} {scope : Scope} {own : List (Str × Nat)} {pos : Pos} {τ : Ty} {g : TG} {Dt : PyData → Prop} {f : PyData → Ty → Ty}
/-- [e for x in xs], each item known: ws -/
theorem v_lcL {ds ws : List PyData} (hc : X.calm = true) (hN : X.N.Nodup) (hi : Xi X w tg iter τ (fun y => y = ds)) (ok : BlkOk X.N X.env.scope scope own) (hg : ∀ (s : Shared) (H : Hp) (C : Addr) (cl : List (Str × Addr)) (fp : List Addr), PG (X.blk s H scope (compEnvC scope cl C X.env) fp) tg g)
    (ht : TgR X.K g (own.map (·.2)) Dt f) (hD : ∀ (i : Nat) (x : PyData), ds[i]? = some x → Dt x) (hl : ws.length = ds.length) (hz : ds.length ≤ 100000)
    (he : ∀ (i : Nat) (x r : PyData), ds[i]? = some x → ws[i]? = some r → ∀ w' : Vw, w'.M = w.M → w'.ok = w.ok → Xeb X scope w' elt (f x (wipeT τ (own.map (·.2)))) (eD X.K r)) (hs : ∀ x, foldedSetIterable iter X.env x = pure x := by intro _; rfl) :
    Xl X w (.ListComp elt [⟨tg, iter, [], 0⟩] scope pos) τ (eD X.K (.list ws)) :=
  x_lcL hc hN hi ok hg ht (by simp) (fun _ i acc => acc = ws.take i ∧ i ≤ ds.length) (fun _ _ _ b => b = true) (fun _ _ => ⟨rfl, Nat.zero_le _⟩) (fun _ i acc ⟨e, h⟩ => by
    rw [e]
    exact Nat.lt_of_le_of_lt (Nat.le_trans (List.length_take_le _ _) (Nat.le_trans h hz)) (by decide)) (fun d i x e h => hD i x (by rw [← e]; exact h)) (fun _ _ _ _ _ _ _ w' _ _ => rfl)
    (fun d i acc x e ⟨ea, hi⟩ hx _ w' h1 h2 => by
      subst e
      have l := (List.getElem?_eq_some_iff.mp hx).1
      have hr : ws[i]? = some (ws[i]'(by omega)) := by simp [hl, l]
      intro s H C cl fp
      refine (he i x _ hx hr w' h1 h2 s H C cl fp).imp fun pd ⟨y, e1, e2⟩ => ⟨y, e1, ?_, by omega⟩
      rw [e2, ea, List.take_add_one, hr]; rfl) (fun _ _ _ _ _ _ _ h => by cases h)
    (fun d acc e ⟨ea, _⟩ => by rw [ea, e, ← hl, List.take_length]) hs
end
end Lt
set_option maxHeartbeats 400000
namespace Lt
open PySem PySem.Spec PyProof.Rows L2
def optD : Option (Nat × List Slip) → PyData
  | none => .none
  | some p => pairD p
section
variable {P : Program} {w : World} {K : PySem.W.Frag} {mg : Str → Option Value} {base : Heap} {M : Ad}
def F_lawAfter (K : PySem.W.Frag) : List Pd → Pd → Prop := fun pds r => ∃ (T : Tb) (C now : Nat) (k : List Slip) (x : Slip) (b : Nat), pds = [dat K (rowsL T), dat K (.int now), dat K (slipsT k), dat K (slipD x), dat K (.int b)] ∧ Ok T C ∧ T.length < 1000 ∧ C ≤ 1000 ∧ Asc k ∧ Cmds C (cmds k) ∧ k.length ≤ 400 ∧ x.2 < C ∧ (∀ y ∈ k, y.1 ≠ x.1) ∧ r = dat K (optD (after T C now k x b))
abbrev NAfter : List Str := ["_law_steps", "_law_now", "_law_kept", "_law_slip", "_law_by", "_law_ways", "_law_more", "_law_one_here"]
theorem sc_lawAfter : FnScope NAfter ["_law_steps", "_law_now", "_law_kept", "_law_slip", "_law_by"] (defScope sLawAfter) := ⟨rfl, rfl, rfl, by decide +kernel, rfl, by decide +kernel, by decide +kernel⟩
theorem cl_lawAfter (T : Tx K mg M) : Cl P w K mg base CX0 3 "_law_after" ["_law_steps", "_law_now", "_law_kept", "_law_slip", "_law_by"] (spP (F_lawAfter K)) := by
  refine Cl.mk' (d := dLawAfter) (T.df 45 _ rfl rfl rfl) (fun f fd F => fn_pure F sc_lawAfter (fun pds r h => ?_) fun cdv A outer s H E hr S H0 pds r Q h q => ?_) (fun _ _ _ _ _ _ us hl => match us, hl with | [_, _, _, _, _], _ => rfl)
  · obtain ⟨t, C, now, k, x, b, e1, _⟩ := h
    subst e1; rfl
  obtain ⟨t, C, now, k, x, b, e1, ok, hn, hC, ha, hc, hl, hx, new, e2⟩ := h
  subst e1; subst e2
  have hu : A.units + 3 + 64 < cLine := by
    have z : A.units + 3 + 16 * 2 + 200 < cLine := hr.un
    omega
  have sk : sortS k = k := sortS_asc_eq ha
  have ea : waysT t now k t.length = waysB t now k := rfl
  refine rn_asgL (i := 5) (P := eD K (natsL (waysB t now k))) (x_lcL (own := [("_law_one_here", 7)]) (A := fun y => y = rangeD t.length) rfl sc_lawAfter.nd (wi_range T.range (v_lenRows T.len (nD 0)) (by omega)) (blkOk_by (N := NAfter) (sc := defScope sLawAfter) (by decide +kernel))
    (fun _ _ _ _ _ => pg_name (i := 7) sc_lawAfter.nd rfl (Or.inl rfl)) (tgr_name 7) (by simp) (fun _ i acc => acc = nats (waysT t now k i) ∧ i ≤ t.length) (fun _ i _ b => b = decide (led t i (cmds k) = now)) (fun ds e => ⟨rfl, Nat.zero_le _⟩) (fun ds i acc e => ?_) (fun _ _ _ _ _ => trivial) (fun ds i acc x e hi hx w' _ _ => ?_) (fun ds i acc x e hi hx hT w' _ _ => ?_) (fun ds i acc x e hi hx hT => ?_)
    (fun ds acc e hi => ?_)) (fun pd hp => ?_) sc_lawAfter.nd rfl rfl (sw_true rfl rfl rfl (by decide +kernel))
  · have := waysT_len t now k i
    have h2 := e.2
    rw [e.1, nats_len]
    exact Nat.lt_of_le_of_lt this (Nat.lt_of_le_of_lt h2 (Nat.lt_trans hn (by decide)))
  · subst e
    obtain ⟨hi', rfl⟩ := rangeD_get hx
    intro s H C' cl fp
    exact Xt.imp' (t_eq (Xe.toI (Xe.ofP (x_clP (P := fun pd => pd = dat K (.int (led t i (cmds k) : Nat))) (cl_lawLed T) hr (by decide) pass0 (ap_cons (nP 0) (ap_cons (nP 7) (ap_cons (x_clP (P := fun pd => pd = dat K (natsL (cmds k))) (cl_lawCmds T) hr (by decide) pass0 (ap_cons (nP 2) ap_nil) fun pds e => ⟨_, ⟨k, _, e, .inr rfl, asc_apart ha, by omega, rfl⟩, by rw [sk]; rfl⟩) ap_nil))) fun pds e => ⟨_, ⟨t, C, i, cmds k, e, ok, hi', hc, rfl⟩, rfl⟩))) (nI 1)) (decide_eq_decide.mpr (by omega))
  · subst e
    obtain ⟨hi', rfl⟩ := rangeD_get hx
    have hT' : led t i (cmds k) = now := of_decide_eq_true hT.symm
    intro s H C' cl fp
    refine Xe.imp (P := eD K (.int (i : Nat))) (nD 7) fun pd ⟨y, e1, e2⟩ => ⟨y, e1, ?_, hi'⟩
    rw [e2, hi.1, waysT_succ, if_pos hT']
    simp [nats]
  · subst e
    obtain ⟨hi', rfl⟩ := rangeD_get hx
    have hT' : ¬ led t i (cmds k) = now := of_decide_eq_false hT.symm
    refine ⟨?_, hi'⟩
    rw [hi.1, waysT_succ, if_neg hT', List.append_nil]
  · subst e
    rw [rangeD_len] at hi
    rw [hi.1]; rfl
  obtain ⟨_, rfl, rfl⟩ := hp
  refine rn_if (T := eT (PyData.eqv (natsL (waysB t now k)) (.list []))) (xt_eqD hu (nD 5) (v_lst a_nil (by show 0 ≤ 1000; decide)) (fun d f e1 e2 => by rw [e1, e2]; exact ⟨(Sh.list (n := 0) sh_nats).shaped, (Sh.list (xs := []) (n := 0) fun x h => by cases h).shaped⟩) (fun d f e1 e2 => by rw [e1, e2])) (fun h => ?_) (fun h => rn_out ?_)
  · have h0 : waysB t now k = [] := by
      have z := h.symm
      unfold natsL at z
      rw [eqv_nil] at z
      have z' := of_decide_eq_true z
      unfold nats at z'
      exact List.map_eq_nil_iff.mp z'
    have ef : after t C now k x b = none := by
      unfold after
      rw [if_pos h0]
    rw [ef] at q
    exact rn_retP q .rfl' rfl (x_non rfl)
  · have h0 : waysB t now k ≠ [] := fun z => by
      rw [z] at h
      unfold natsL at h
      rw [show nats [] = [] from rfl, eqv_nil] at h
      cases h
    have hpos : 0 < (waysB t now k).length := List.length_pos_iff.mpr h0
    have ef : after t C now k x b = some (led t ((waysB t now k).getD (b % (waysB t now k).length) 0) (cmds (ins x k)), tray t C (ins x k)) := by
      unfold after
      rw [if_neg h0]
    rw [ef] at q
    have e3 : slips k ++ [slipD x] = slips (k ++ [x]) := by rw [slips_app]; rfl
    have il := ins_len x k
    have ia : Asc (ins x k) := ins_asc ha new
    have ic : Cmds C (cmds (ins x k)) := ins_cmds hx hc
    have si : sortS (ins x k) = ins x k := sortS_asc_eq ia
    have wlt := ways_lt (T := t) (now := now) (by_ := b) (k := k) h0
    have wl : (waysB t now k).length ≤ t.length := waysT_len t now k t.length
    refine rn_asg (i := 6) (P := eD K (slipsL (ins x k))) (v_sorted (l := k ++ [x]) T.sorted (Xf.toD (xf_cat (ds := slips k) (es' := [slipD x]) (xf_listOf T.list (nD 2) fun y e => ⟨slips k, .inr e, rfl⟩) (fun w' _ _ => v_lstF (a_cons (nD 3) a_nil) (by show 1 ≤ 1000; decide)) (by rw [slips_len]; show k.length + 1 ≤ 100000; omega))) (.inl (by rw [e3]; rfl)) ((ins_perm x k).trans (List.perm_append_comm (l₁ := [x]) (l₂ := k))) ia) (fun pd hp => ?_) sc_lawAfter.nd rfl (Or.inl rfl)
    obtain ⟨_, rfl, rfl⟩ := hp
    refine rn_retP q .rfl' rfl (Xe.ret (v_tup (ds := [.int (led t ((waysB t now k).getD (b % (waysB t now k).length) 0) (cmds (ins x k)) : Nat), slipsT (tray t C (ins x k))]) (a_cons (Xe.ofP (x_clP (P := fun pd => pd = dat K (.int (led t ((waysB t now k).getD (b % (waysB t now k).length) 0) (cmds (ins x k)) : Nat))) (cl_lawLed T) hr (by decide) pass0 (ap_cons (nP 0) (ap_cons (Xe.eq (v_ix (ds := nats (waysB t now k)) (f := .int ((waysB t now k).getD (b % (waysB t now k).length) 0 : Nat)) (nD 5) (v_modN (nI 4) ((v_len T.len (nD 5) (.inl rfl)).toJ (by rw [nats_len])) hpos) (.inl rfl) (nats_get (getD_some (Nat.mod_lt _ hpos))))) (ap_cons (x_clP (P := fun pd => pd = dat K (natsL (cmds (ins x k)))) (cl_lawCmds T) hr (by decide) pass0 (ap_cons (nP 6) ap_nil) fun pds e => ⟨_, ⟨ins x k, _, e, .inl rfl, asc_apart ia, by omega, rfl⟩, by rw [si]; rfl⟩) ap_nil))) fun pds e => ⟨_, ⟨t, C, _, cmds (ins x k), e, ok, wlt, ic, rfl⟩, rfl⟩))
      (a_cons (Xe.ofP (x_clP (P := fun pd => pd = dat K (slipsT (tray t C (ins x k)))) (cl_lawTray T) hr (by decide) pass0 (ap_cons (nP 0) (ap_cons (nP 6) ap_nil)) fun pds e => ⟨_, ⟨t, C, ins x k, _, e, .inr rfl, ok, hn, hC, ic, by omega, rfl⟩, rfl⟩)) a_nil)) (by show 2 ≤ 1000; decide)) rfl)
end
end Lt
set_option maxHeartbeats 4000000
namespace Lt
open PySem PySem.Spec PyProof.Rows L2
/-! ### a dict of one pair whose key is a tuple -/
def tOneT (tk tv : TE) : TE := fun σ H Q => ∀ p, H p = none → tk σ (upd H p (.dT [])) fun x H1 => tv σ H1 fun y H2 => ∃ (b : Addr) (k : List Key), x = .ref b ∧ H2 p = some (.dT []) ∧ H2 b = some (.tup (k.map kV)) ∧ Q (.ref p) (upd H2 p (.dT [(k, y)]))
theorem pe_oneT {X : Cx} {kx vx : Expr} {pos : Pos} {tk tv : TE} (hu : X.A.units + 1 < cLine) (hk : PE X kx tk) (hv : PE X vx tv) : PE X (.Dict [some kx] [vx] pos) (tOneT tk tv) := by
  refine ⟨fun pins s σ H Q I q => ?_⟩
  have hn := I.hok.fresh (Nat.le_refl s.heap.objs.size)
  have I1 := I.laid (a := s.heap.objs.size) (o := .dT []) (h' := s.heap.push { cls := .type "dict", data := .dict #[] }) (t' := s.toks) (fun _ _ q => Heap.get?_push_of_some _ q) (Nat.le_refl _) (dt_empty s.heap I.big)
  have hp0 : pairTrees [some kx] [vx] X.env pos ≠ [] := fun z => by
    have l := pairTrees_length [some kx] [vx] X.env pos rfl rfl
    rw [z] at l; cases l
  have hp1 : (pairTrees [some kx] [vx] X.env pos).length ≤ 15 := by
    rw [pairTrees_length [some kx] [vx] X.env pos rfl rfl]; show 1 ≤ 15; decide
  rw [arm_eval_Dict, zip_pairTrees [some kx] [vx] X.env pos rfl rfl, dictDisplay_pairs _ hp0 (by omega)]
  refine wpAny_bind (wpAny_standAt (wpAny_bind (wpAny_subDictH (knd := tupleKind (mixKind X.prog X.w)) (Q := fun d s' => wpAny (model X.prog X.w) X.A (pure (Value.ref d)) (fun v s'' => ∃ x H', Inv X pins σ H' s'' ∧ RelV x v ∧ Q x H') X.xe s') (show X.A.units < cLine by omega) hp1 ?_)))
  refine pairTrees_cons_walk (thn (hk.run pins _ σ _ _ I1 (q _ hn)) fun u s1 ⟨x, H1, J1, rx, q1⟩ => thn (hv.run pins s1 σ H1 _ J1 q1) fun w2 s2 ⟨y, H2, J2, ry, b, k, ex, ep, eb, q2⟩ => pairTrees_nil_walk ?_)
  subst ex
  cases (show u = Value.ref b from rx)
  obtain ⟨z, hd, xs, rel, dd⟩ := dt_of J2.hok ep
  cases rel
  refine ⟨[(k, b, w2)], ⟨rfl, rfl, key_of J2.hok eb, True.intro⟩, dd, fun h' tk' dd' hs => wpAny_pure ⟨.ref s.heap.objs.size, _, ?_, rfl, q2⟩⟩
  obtain ⟨o, es, ep', hq, h2, h3, h4, h4', h5⟩ := dd'
  refine d_write J2 (by rw [ep]; exact True.intro) hs ⟨o, hq⟩ ⟨by show 1 ≤ sizeLine; decide, hd, [(k, b, w2)], ?_, o, es, ep', hq, h2, h3, h4, h5⟩
  refine .cons ⟨rfl, ?_, ry⟩ .nil
  rw [upd_ne (ne_of eb ep fun z => nomatch z)]
  exact eb
end Lt
namespace Lt
open PySem PySem.Spec PyProof.Rows L2
/-! ### tuples of numbers as keys -/
def keyK (xs : List Nat) : List Key := xs.map fun (n : Nat) => Sum.inl (n : Int)
theorem keyK_kV (xs : List Nat) : (keyK xs).map kV = natV xs := by
  unfold keyK natV
  rw [List.map_map]
  exact List.map_congr_left fun n _ => rfl
theorem keyK_inj : ∀ {xs ys : List Nat}, keyK xs = keyK ys → xs = ys
  | [], [], _ => rfl
  | [], _ :: _, h => by cases h
  | _ :: _, [], h => by cases h
  | x :: xs, y :: ys, h => by
    have h' : Sum.inl (x : Int) :: keyK xs = Sum.inl (y : Int) :: keyK ys := h
    injection h' with h1 h2
    have e : (x : Int) = y := by injection h1
    rw [keyK_inj h2, show x = y by omega]
/-- a tuple made here, of numbers -/
def keyP (xs : List Nat) : Pd := ⟨fun v G => ∃ b, v = .ref b ∧ G b = some (.tup (natV xs)), fun e ⟨b, h1, h2⟩ => ⟨b, h1, e _ _ h2⟩⟩
theorem keyP_dat {K : PySem.W.Frag} {xs : List Nat} {v : V} {G : Hp} (h : (keyP xs).p v G) : (dat K (natsT xs)).p v G := by
  obtain ⟨b, rfl, hb⟩ := h
  exact .tup (.inl (.inl hb)) natV_dpa
/-- a dict: keys, and what stands there -/
abbrev Ent := List Nat × List Nat
def entR (K : PySem.W.Frag) (G : Hp) (kv : List Key × V) (e : Ent) : Prop := kv.1 = keyK e.1 ∧ Dp K G kv.2 (natsT e.2)
theorem ent_same {K : PySem.W.Frag} {G G' : Hp} (s : Same G G') {kvs : List (List Key × V)} {es : List Ent} (h : Paired (entR K G) kvs es) : Paired (entR K G') kvs es := by
  induction h with
  | nil => exact .nil
  | cons h t ih => exact .cons ⟨h.1, dp_same s _ _ h.2⟩ ih
def Ct.dT (K : PySem.W.Frag) (es : List Ent) : Ct := ⟨fun o G => ∃ kvs, o = .dT kvs ∧ Paired (entR K G) kvs es, fun s ⟨kvs, a, b⟩ => ⟨kvs, a, ent_same s b⟩⟩
def dctP (K : PySem.W.Frag) (es : List Ent) : Pd := ⟨fun v G => ∃ b kvs, v = .ref b ∧ G b = some (.dT kvs) ∧ Paired (entR K G) kvs es, fun s ⟨b, kvs, h1, h2, h3⟩ => ⟨b, kvs, h1, s _ _ h2, ent_same s h3⟩⟩
/-- lists of anything -/
def Ct.lp (qs : List Pd) : Ct := ⟨fun o G => ∃ vs, o = .lst vs ∧ PdAll G vs qs, fun s ⟨vs, a, b⟩ => ⟨vs, a, pda_same s b⟩⟩
def lstP (K : PySem.W.Frag) (qs : List Pd) : Pd := ⟨fun v G => ∃ a vs, v = .ref a ∧ SqL K G a vs ∧ PdAll G vs qs, fun s ⟨a, vs, h1, h2, h3⟩ => ⟨a, vs, h1, sql_same s h2, pda_same s h3⟩⟩
theorem valV_ent {K : PySem.W.Frag} {G : Hp} {kvs : List (List Key × V)} {es : List Ent} (h : Paired (entR K G) kvs es) (xs : List Nat) : (valV kvs (keyK xs) = none ∧ ¬ xs ∈ es.map (·.1)) ∨ ∃ v w, valV kvs (keyK xs) = some v ∧ (xs, w) ∈ es ∧ Dp K G v (natsT w) := by
  induction h with
  | nil => exact .inl ⟨rfl, by simp⟩
  | @cons kv e kvs es h t ih =>
    by_cases e1 : e.1 = xs
    · refine .inr ⟨kv.2, e.2, valV_pos (by rw [h.1, e1]), ?_, h.2⟩
      subst e1
      exact List.mem_cons_self
    · have ne : kv.1 ≠ keyK xs := fun z => e1 (keyK_inj (by rw [← h.1, z]))
      rcases ih with ⟨i1, i2⟩ | ⟨v, w, i1, i2, i3⟩
      · refine .inl ⟨by rw [valV_neg ne]; exact i1, fun m => ?_⟩
        rcases List.mem_cons.mp m with m | m
        · exact e1 m.symm
        · exact i2 m
      · exact .inr ⟨v, w, by rw [valV_neg ne]; exact i1, List.mem_cons_of_mem _ i2, i3⟩
theorem putK_new {κ : Type} [DecidableEq κ] {kvs : List (κ × V)} {k : κ} {v : V} (h : valV kvs k = none) : putK kvs k v = kvs ++ [(k, v)] := by
  unfold putK
  rw [if_neg]
  intro z
  obtain ⟨p, hp, e⟩ := List.any_eq_true.mp z
  unfold valV at h
  have h' := Option.map_eq_none_iff.mp h
  have := List.find?_eq_none.mp h' p hp
  exact this e
theorem paired_app {α β : Type} {R : α → β → Prop} {as bs : List α} {cs ds : List β} (h : Paired R as cs) (k : Paired R bs ds) : Paired R (as ++ bs) (cs ++ ds) := by
  induction h with
  | nil => exact k
  | cons h t ih => exact .cons h ih
end Lt
namespace Lt
open PySem PySem.Spec PyProof.Rows L2
section
variable {X : Cx} {w v : Vw} {e a b o i value kx vx : Expr} {es : List Expr} {rest : List Stmt} {τ : Ty} {P : Pd → Prop} {pos p pos' apos : Pos} {D : Ends} {q : Addr} {j : Nat} {ents : List Ent} {xs : List Nat}
theorem ownT_at {H : Hp} (i : w.I H) (hw : w.own[j]? = some (q, Ct.dT X.K ents)) : ∃ kvs, H q = some (.dT kvs) ∧ Paired (entR X.K (hid w.S H)) kvs ents := by
  obtain ⟨ob, ho, kvs, rfl, da⟩ := i.2 (q, Ct.dT X.K ents) (List.mem_of_getElem? hw)
  exact ⟨kvs, ho, da⟩
/-- e makes something new, which is known now -/
def Xg (X : Cx) (w : Vw) (e : Expr) (τ : Ty) (C : Ct → Prop) : Prop := ∀ (σ : L2.St) (H : Hp), Sv w H σ τ → ∀ Q : VK, (∀ p c H' (n1 : ¬ p ∈ w.S) (n2 : ¬ p ∈ w.M ∧ ∀ {H : Hp} {o : HO}, w.J H → w.J (upd H p o)), Exm w.M H H' → C c → Sv (w.add p c n1 n2) H' σ τ → Q (.ref p) H') → eSem X e σ H Q
/-- {key: word}, new -/
theorem xg_oneT {d : List Nat} (hu : X.A.units + 1 < cLine) (hk : ∀ w' : Vw, w'.M = w.M → w'.ok = w.ok → Xe X w' kx τ (fun pd => pd = keyP xs)) (hv : ∀ w' : Vw, w'.M = w.M → w'.ok = w.ok → Xe X w' vx τ (eD X.K (natsT d))) : Xg X w (.Dict [some kx] [vx] pos) τ (fun c => c = Ct.dT X.K [(xs, d)]) := fun σ H s Q k =>
  eSem_of (pe_oneT hu pe_sem pe_sem) fun p np => by
    have n1 := s.notin np
    have n2 : ¬ p ∈ w.M ∧ ∀ {H : Hp} {o : HO}, w.J H → w.J (upd H p o) := w.jnw s.inv.1 np
    have s2 : Sv (w.add p (Ct.eq (.dT [])) n1 n2) (upd H p (.dT [])) σ τ := s.add np rfl n1 n2
    refine hk (w.add p (Ct.eq (.dT [])) n1 n2) rfl rfl σ _ s2 _ fun x pd H1 m1 i1 e1 hx => ?_
    subst e1
    refine hv (w.add p (Ct.eq (.dT [])) n1 n2) rfl rfl σ _ (s2.move m1 i1) _ fun y pd2 H2 m2 i2 ⟨z, e2, e3⟩ hy => ?_
    subst e2; subst e3
    have s3 := (s2.move m1 i1).move m2 i2
    obtain ⟨bb, rfl, hb⟩ := (keyP xs).move m2 hx
    obtain ⟨s5, ob, hob, hco⟩ := s3.show
    have hco' : ob = .dT [] := hco
    subst hco'
    have hbb : H2 bb = some (.tup ((keyK xs).map kV)) := by rw [keyK_kV]; exact hid_sub _ _ _ _ hb
    have hq : H2 p = some (.dT []) := hid_sub _ _ _ _ hob
    refine ⟨bb, keyK xs, rfl, hq, hbb, ?_⟩
    have s6 := s3.put (i := 0) (p := p) (o := .dT [(keyK xs, y)]) (c := Ct.dT X.K [(xs, d)]) ⟨_, rfl⟩ ⟨_, rfl, .cons ⟨rfl, hy⟩ .nil⟩
    exact k p _ _ n1 n2 ((((Exm.upd (.inr np)).trans m1).trans m2).upd_new np) rfl s6
/-- x, y = (new, known), e -/
theorem rn_parG {i j : Nat} {x y : Str} {e1 e2 : Expr} {px py pt : Pos} {kt k2 pt2} {PB : Pd → Prop} {C : Ct → Prop} (hc : X.calm = true) (h1 : Xg X w e1 τ C) (h2 : ∀ w' : Vw, w'.M = w.M → w'.ok = w.ok → Xe X w' e2 τ PB)
    (k : ∀ pd q c (n1 : ¬ q ∈ w.S) (n2 : ¬ q ∈ w.M ∧ ∀ {H : Hp} {o : HO}, w.J H → w.J (upd H q o)), C c → PB pd → Rn X (w.add q c n1 n2) rest ((τ.set i (some (is (.ref q)))).set j (some pd)) D)
    (hN : X.N.Nodup) (hi : X.N[i]? = some x) (hj : X.N[j]? = some y) (hij : i ≠ j) (hx : X.env.scope.names.lookup x = some .local) (hy : X.env.scope.names.lookup y = some .local)
    (hw : swappedStores [.Tuple [.Name x px, .Name y py] kt pt] (.Tuple [e1, e2] k2 pt2) X.env = pure (some [x, y])) (hs : swapsWithSole [.Tuple [.Name x px, .Name y py] kt pt] (.Tuple [e1, e2] k2 pt2) pos.line X.env = pure false := by rfl)
    (hs1 : starEach [e1, e2] X.env = (false, eval e1 X.env) :: starEach [e2] X.env := by rfl) (hs2 : starEach [e2] X.env = (false, eval e2 X.env) :: starEach [] X.env := by rfl) :
    Rn X w (.Assign [.Tuple [.Name x px, .Name y py] kt pt] (.Tuple [e1, e2] k2 pt2) pos :: rest) τ D := fun σ H s =>
  cons_of (ps_par hc hN hi hj hij hx hy (pa_cons pe_sem (pa_cons pe_sem pa_nil hs2) hs1) hw hs) (h1 σ H s _ fun q c H1 n1 n2 m1 hcc s2 =>
    h2 (w.add q c n1 n2) rfl rfl σ _ s2 _ fun u pd H3 m3 i3 p3 hu => by
      have s3 := s2.move m3 i3
      exact ⟨.ref q, u, rfl, k pd q c n1 n2 hcc p3 _ _ ((s3.set i (pd := is (.ref q)) rfl).set j hu)⟩)
/-- key not in found -/
theorem t_notinT (hu : X.A.units + 1 < cLine) (hi : Xe X w a τ (fun pd => pd = keyP xs)) (ho : Xe X w o τ (fun pd => pd = is (.ref q))) (hw : w.own[j]? = some (q, Ct.dT X.K ents)) (hm : behindInMarks .NotIn o = false := by rfl) :
    Xt X w (.Compare a [.NotIn] [o] pos) τ (eT (!decide (xs ∈ ents.map (·.1)))) := fun σ H s Q k =>
  tSem_of (pt_cmp (pc_dnotin hu pe_sem pe_sem) hm) (hi σ H s _ fun v pd H1 m1 i1 e1 hv => ho σ H1 (s.move m1 i1) _ fun u pd2 H2 m2 i2 e2 hu' => by
    subst e1; subst e2
    obtain ⟨bb, rfl, hb⟩ := (keyP xs).move m2 hv
    have eu : u = V.ref q := hu'
    subst eu
    obtain ⟨kvs, hq, da⟩ := ownT_at i2 hw
    have hbb : H2 bb = some (.tup ((keyK xs).map kV)) := by rw [keyK_kV]; exact hid_sub _ _ _ _ hb
    refine ⟨q, _, rfl, DGet.t hq hbb, _, rfl, k _ H2 (m1.trans m2) i2 ?_⟩
    rcases valV_ent da xs with ⟨h1, h2⟩ | ⟨v, w0, h1, h2, _⟩
    · rw [h1, decide_eq_false h2]; rfl
    · rw [h1, decide_eq_true (List.mem_map.mpr ⟨_, h2, rfl⟩)]; rfl)
/-- found[key] = word, the key new -/
theorem rn_dputT {d : List Nat} (hu : X.A.units + 1 < cLine) (hv : Xe X w value τ (eD X.K (natsT d))) (ho : Xe X w o τ (fun pd => pd = is (.ref q))) (hi : Xe X w i τ (fun pd => pd = keyP xs)) (hw : w.own[j]? = some (q, Ct.dT X.K ents)) (hn : ¬ xs ∈ ents.map (·.1)) (hz : ents.length < 1000000)
    (k : Rn X (w.put j q (Ct.dT X.K (ents ++ [(xs, d)])) ⟨_, hw⟩) rest τ D) (hs : swapsWith value (some (.Subscript o i pos')) pos.line X.env = pure false := by rfl) : Rn X w (.Assign [.Subscript o i pos'] value pos :: rest) τ D := fun σ H s =>
  cons_of (ps_dput hu pe_sem pe_sem pe_sem hs) (hv σ H s _ fun v pd H1 m1 i1 ⟨y0, e1, e1'⟩ hv1 => ho σ H1 (s.move m1 i1) _ fun u pd2 H2 m2 i2 e2 hu' => hi σ H2 ((s.move m1 i1).move m2 i2) _ fun y pd3 H3 m3 i3 e3 hy => by
    subst e1; subst e2; subst e3; subst e1'
    have eu : u = V.ref q := hu'
    subst eu
    obtain ⟨bb, rfl, hb⟩ := hy
    obtain ⟨kvs, hq, da⟩ := ownT_at i3 hw
    have hbb : H3 bb = some (.tup ((keyK xs).map kV)) := by rw [keyK_kV]; exact hid_sub _ _ _ _ hb
    have hlen := Paired.length da
    have hno : valV kvs (keyK xs) = none := by
      rcases valV_ent da xs with ⟨h1, h2⟩ | ⟨v, w0, h1, h2, _⟩
      · exact h1
      · exact absurd (List.mem_map.mpr ⟨_, h2, rfl⟩) hn
    refine ⟨q, _, rfl, DPut.t hq hbb (Nat.lt_of_lt_of_le (by rw [hlen]; exact hz) (by decide)), k σ _ ((((s.move m1 i1).move m2 i2).move m3 i3).put ⟨_, hw⟩ ⟨_, rfl, ?_⟩)⟩
    rw [putK_new hno]
    exact paired_app da (.cons ⟨rfl, (dat X.K (natsT d)).move m3 ((dat X.K (natsT d)).move m2 hv1)⟩ .nil))
/-- found[key], there -/
theorem x_dgetT {R : PyData → Prop} (hu : X.A.units + 1 < cLine) (ho : Xe X w o τ (fun pd => pd = is (.ref q))) (hi : Xe X w i τ (fun pd => pd = keyP xs)) (hw : w.own[j]? = some (q, Ct.dT X.K ents)) (hn : xs ∈ ents.map (·.1)) (hR : ∀ d, (xs, d) ∈ ents → R (natsT d)) (hs : NoSl i := by exact fun _ _ => rfl) :
    Xe X w (.Subscript o i pos) τ (isD X.K R) := fun σ H s Q k =>
  eSem_of (pe_dget hu pe_sem pe_sem hs) (ho σ H s _ fun u pd2 H2 m2 i2 e2 hu' => hi σ H2 (s.move m2 i2) _ fun y pd3 H3 m3 i3 e3 hy => by
    subst e2; subst e3
    have eu : u = V.ref q := hu'
    subst eu
    obtain ⟨bb, rfl, hb⟩ := hy
    obtain ⟨kvs, hq, da⟩ := ownT_at i3 hw
    have hbb : H3 bb = some (.tup ((keyK xs).map kV)) := by rw [keyK_kV]; exact hid_sub _ _ _ _ hb
    rcases valV_ent da xs with ⟨h1, h2⟩ | ⟨v, w0, h1, h2, h3⟩
    · exact absurd hn h2
    · exact ⟨q, v, rfl, by rw [← h1]; exact DGet.t hq hbb, k v (dat X.K (natsT w0)) H3 (m2.trans m3) i3 ⟨_, rfl, hR _ h2⟩ h3⟩)
/-- .. of a dict that is shown -/
theorem x_dgetP {R : PyData → Prop} (hu : X.A.units + 1 < cLine) (ho : Xe X w o τ (fun pd => pd = dctP X.K ents)) (hi : Xe X w i τ (fun pd => pd = keyP xs)) (hn : xs ∈ ents.map (·.1)) (hR : ∀ d, (xs, d) ∈ ents → R (natsT d)) (hs : NoSl i := by exact fun _ _ => rfl) :
    Xe X w (.Subscript o i pos) τ (isD X.K R) := fun σ H s Q k =>
  eSem_of (pe_dget hu pe_sem pe_sem hs) (ho σ H s _ fun u pd2 H2 m2 i2 e2 hu' => hi σ H2 (s.move m2 i2) _ fun y pd3 H3 m3 i3 e3 hy => by
    subst e2; subst e3
    obtain ⟨q, kvs, rfl, hq, da⟩ := (dctP X.K ents).move m3 hu'
    obtain ⟨bb, rfl, hb⟩ := hy
    have hbb : H3 bb = some (.tup ((keyK xs).map kV)) := by rw [keyK_kV]; exact hid_sub _ _ _ _ hb
    rcases valV_ent da xs with ⟨h1, h2⟩ | ⟨v, w0, h1, h2, h3⟩
    · exact absurd hn h2
    · exact ⟨q, v, rfl, by rw [← h1]; exact DGet.t (hid_sub _ _ _ _ hq) hbb, k v (dat X.K (natsT w0)) H3 (m2.trans m3) i3 ⟨_, rfl, hR _ h2⟩ h3⟩)
end
end Lt
namespace Lt
open PySem PySem.Spec PyProof.Rows L2
section
variable {X : Cx} {w v : Vw} {e a b o i value kx vx tg iter : Expr} {es : List Expr} {rest body : List Stmt} {τ : Ty} {P : Pd → Prop} {pos p pos' apos : Pos} {D : Ends} {q : Addr} {j : Nat} {ents : List Ent} {xs : List Nat} {qs : List Pd} {K : PySem.W.Frag} {σ : L2.St} {H : Hp}
/-- [..] of anything -/
theorem x_lstP (h : Xa X w es τ (fun pds => pds = qs)) (hl : qs.length ≤ 1000 := by simp) : Xe X w (.List es pos) τ (fun pd => pd = lstP X.K qs) := fun σ H s Q q => by
  refine eSem_of (pe_lst pa_sem) (h σ H s _ fun vs pds H1 e1 i1 ed h1 => ?_)
  subst ed
  have ln : vs.length = pds.length := Paired.length h1
  refine ⟨by rw [ln, sizeLine_eq]; omega, ?_⟩
  have z := Ot.new (w := w) (H := H1) (o := .lst vs) (P := fun pd => pd = lstP X.K pds) (pd := lstP X.K pds) (t := fun Q => ∀ p, H1 p = none → Q (.ref p) (upd H1 p (.lst vs))) (s.live.move e1) i1 (fun Q h => h) rfl
    fun p n np sm hp => ⟨p, vs, rfl, .inl (.inl hp), pda_same sm h1⟩
  exact z Q fun v pd H2 e2 i2 p2 h2 => q v pd H2 (e1.trans e2) i2 p2 h2
/-- tuple(a list of numbers), as a key -/
theorem x_tupKey (hm : X.mg "tuple" = none) (ha : Xe X w e τ (eD X.K (natsL xs))) (hg : Gl X "tuple" := by rfl) (hs : starEach [e] X.env = [(false, eval e X.env)] := by rfl) : Xe X w (.Call (.Name "tuple" p) [e] [] pos) τ (fun pd => pd = keyP xs) :=
  x_cT call_tuple_of hg hm boot_tuple' (xa_1 ha hs) (fun vs pds H lv i0 hp hv => by
    obtain ⟨v, d, rfl, hd, hv⟩ := one_of hp hv
    subst hd
    obtain ⟨r, ws, rfl, hr, da⟩ := dat_lst hv
    have ew := dpa_natV (K := X.K) da
    subst ew
    have z := Ot.new (w := w) (H := H) (o := .tup (natV xs)) (P := fun pd => pd = keyP xs) (pd := keyP xs) (t := fun Q => ∀ p, H p = none → Q (.ref p) (upd H p (.tup (natV xs)))) lv i0 (fun Q h => h) rfl
      fun p n np sm hp => ⟨p, rfl, hp⟩
    exact fun Q k => ⟨r, _, rfl, .inl ⟨sql_same (hid_sub _ _) hr, z Q k⟩⟩) (by decide) (by decide) hs rfl
/-- x.append(e), e anything -/
theorem rn_appPd {n : Expr} {pd0 : Pd} (hn : Xe X w n τ (fun pd => pd = is (.ref q))) (hw : w.own[j]? = some (q, Ct.lp qs)) (hz : qs.length < 1000000) (he : Xe X w e τ (fun pd => pd = pd0)) (k : Rn X (w.put j q (Ct.lp (qs ++ [pd0])) ⟨_, hw⟩) rest τ D)
    (hbase : attributeBase n "append" X.env (eval n X.env) = eval n X.env := by rfl)
    (hfew : ((backTo pos' (starEach [e] X.env)).all (fun x => !x.1) && (backToKw pos' (keywordEach [] X.env)).all (fun x => x.1.isSome)
      && decide (([e] : List Expr).length + ([] : List Keyword).length + (if ([] : List Keyword).isEmpty then 0 else 1) < 30)) = true := by rfl)
    (hline : (apos.endLine == pos'.line) = true := by rfl) (hs : starEach [e] X.env = (false, eval e X.env) :: starEach [] X.env := by rfl) (hplain : (backTo pos' (starEach [] X.env)).any (·.1) = false := by rfl)
    (hsw : swapsWith (.Call (.Attribute n "append" apos) [e] [] pos') none pos.line X.env = pure false := by rfl) :
    Rn X w (.Expr (.Call (.Attribute n "append" apos) [e] [] pos') pos :: rest) τ D := fun σ H s =>
  cons_of (ps_expr (pe_bm PySem.F.plainAttrs_list PySem.F.slot_list_append PySem.F.type_list_append mt_append pe_sem (pa_cons pe_sem pa_nil hs) hbase hfew hline hs hplain) hsw) (hn σ H s _ fun v pd H1 m1 i1 e1 hv => by
    subst e1
    have ev : v = .ref q := hv
    subst ev
    have s1 := s.move m1 i1
    obtain ⟨ob, ho, vs, rfl, da⟩ := i1.2 (q, Ct.lp qs) (List.mem_of_getElem? hw)
    refine ⟨.inl ⟨rfl, _, .inl (.inl ho)⟩, he σ H1 s1 _ fun u pd H2 m2 i2 ed hu => ?_⟩
    subst ed
    have s2 := s1.move m2 i2
    obtain ⟨ob, ho, vs, rfl, da⟩ := i2.2 (q, Ct.lp qs) (List.mem_of_getElem? hw)
    have ln : vs.length = qs.length := Paired.length da
    exact ⟨q, vs, u, rfl, rfl, ho, Nat.lt_of_lt_of_le (by rw [ln]; exact hz) (by decide), k _ _ (s2.put (o := .lst (vs ++ [u])) ⟨_, hw⟩ ⟨_, rfl, paired_app da (.cons hu .nil)⟩)⟩)
/-- a list, a dict of one's own are shown -/
theorem Sv.shownL (hS : ∀ a, a ∈ v.S → a ∈ w.S) (hJ : ∀ H, w.J H → v.J H) (ho : ∀ c, c ∈ v.own → c ∈ w.own) (hw : w.own[j]? = some (q, Ct.lp qs)) (nq : ¬ q ∈ v.S) {n : Nat} (hi : τ[n]? = some (some (is (.ref q)))) (s : Sv w H σ τ) : Sv v H σ (τ.set n (some (lstP K qs))) := by
  refine (s.shrink hS hJ ho).know ?_
  obtain ⟨x, h1, h2⟩ := s.at_ n _ hi
  have ex : x = .ref q := h2
  subst ex
  obtain ⟨ob, hob, vs, rfl, da⟩ := s.inv.2 (q, Ct.lp qs) (List.mem_of_getElem? hw)
  exact ⟨_, h1, q, vs, rfl, .inl (.inl (by rw [hid_ne nq]; exact hob)), pda_same (hid_less hS) da⟩
theorem Sv.shownT (hS : ∀ a, a ∈ v.S → a ∈ w.S) (hJ : ∀ H, w.J H → v.J H) (ho : ∀ c, c ∈ v.own → c ∈ w.own) (hw : w.own[j]? = some (q, Ct.dT K ents)) (nq : ¬ q ∈ v.S) {n : Nat} (hi : τ[n]? = some (some (is (.ref q)))) (s : Sv w H σ τ) : Sv v H σ (τ.set n (some (dctP K ents))) := by
  refine (s.shrink hS hJ ho).know ?_
  obtain ⟨x, h1, h2⟩ := s.at_ n _ hi
  have ex : x = .ref q := h2
  subst ex
  obtain ⟨ob, hob, kvs, rfl, da⟩ := s.inv.2 (q, Ct.dT K ents) (List.mem_of_getElem? hw)
  exact ⟨_, h1, q, kvs, rfl, by rw [hid_ne nq]; exact hob, ent_same (hid_less hS) da⟩
/-! ### for x in a list of anything -/
structure WkP (K : PySem.W.Frag) (w : Vw) (J : It) (qs : List Pd) (H0 : Hp) : Prop where
  goes : ∀ i H, i < qs.length → Exm w.S H0 H → J.go i H
  stops : ∀ H, Exm w.S H0 H → J.stop qs.length H
  yields : ∀ i H x H' d, qs[i]? = some d → Exm w.S H0 H → Live w.S H → J.yld i H x H' → Same H H' ∧ d.p x (hid w.S H')
def XiP (X : Cx) (w : Vw) (tg iter : Expr) (τ : Ty) (qs : List Pd) : Prop := ∃ wi, PI X tg iter wi ∧ ∀ (σ : L2.St) (H : Hp), Sv w H σ τ → ∀ R : It → Hp → Prop, (∀ J H', Exm w.M H H' → w.I H' → WkP X.K w J qs H' → R J H') → wi σ H R
theorem xiP_list (ha : Xe X w e τ (fun pd => pd = lstP X.K qs)) : XiP X w tg e τ qs := ⟨_, pi_list pe_sem, fun σ H s R q => ha σ H s _ fun v pd H1 e1 i1 ed hv => by
  subst ed
  obtain ⟨p, vs, rfl, hs, da⟩ := hv
  have ln : vs.length = qs.length := Paired.length da
  refine ⟨p, rfl, ⟨vs, sql_same (hid_sub _ _) hs⟩, q _ H1 e1 i1 ⟨fun i H2 hi m => ?_, fun H2 m => ?_, fun i H2 x H3 d hd m l y => ?_⟩⟩
  · exact walk_list.goes i H2 (by rw [ln]; exact hi) (sql_wide hs m)
  · have z := (walk_list (K := X.K) (a := p) (xs := vs)).stops H2 (sql_wide hs m)
    rw [ln] at z; exact z
  · obtain ⟨v, hv, dv⟩ := pda_at da hd
    have hl : i < vs.length := (List.getElem?_eq_some_iff.mp hv).1
    obtain ⟨rfl, e2⟩ := (walk_list (K := X.K) (a := p) (xs := vs)).yields i H2 x H3 hl (sql_wide hs m) y
    rw [hv] at e2; cases e2
    exact ⟨fun _ _ z => z, d.st (hid_move m) dv⟩⟩
theorem rn_forP {n : Nat} {x : Str} {tpos : Pos} (hp : PassesOwn (model X.prog X.w) X.A X.env X.xe) (hc : X.calm = true) (hi : XiP X w (.Name x tpos) iter τ qs) (hg : PG X (.Name x tpos) (gName n)) (inv : Vw → Nat → Vw → Ty → Prop)
    (h0 : ∀ wb, Lk w wb → inv wb 0 wb τ) (hI : ∀ wb i w' τ', Lk w wb → inv wb i w' τ' → w'.S = w.S ∧ ∀ H, w'.J H → wb.J H)
    (hb : ∀ wb i (d : Pd) w' τ', Lk w wb → inv wb i w' τ' → qs[i]? = some d →
      Rn X w' body (τ'.set n (some d)) { D with nx := fun σ H => ∃ w2 τ2, inv wb (i + 1) w2 τ2 ∧ Sv w2 H σ τ2, ct := fun σ H => ∃ w2 τ2, inv wb (i + 1) w2 τ2 ∧ Sv w2 H σ τ2, bk := ssSem X rest D })
    (he : ∀ wb w' τ', Lk w wb → inv wb qs.length w' τ' → Rn X w' rest τ' D) (hs : ∀ x, foldedSetIterable iter X.env x = pure x := by intro _; rfl) : Rn X w (.For (.Name x tpos) iter body [] pos :: rest) τ D := fun σ H s => by
  obtain ⟨wi, hpi, hsrc⟩ := hi
  refine cons_of (ps_for hp hc hpi hg pss_sem hs) (hsrc σ H s _ fun J H1 e1 i1 wk => ?_)
  have s1 := s.move e1 i1
  have sb : Sv (w.since H1) H1 σ τ := ⟨s1.live, ⟨⟨i1.1, .rfl'⟩, i1.2⟩, s1.len, s1.at_⟩
  let Pv : Nat → L2.St → Hp → Prop := fun i σ H2 => ∃ w' τ', inv (w.since H1) i w' τ' ∧ Sv w' H2 σ τ'
  have since : ∀ {i : Nat} {w' : Vw} {τ' : Ty} {H2 : Hp} {σ : L2.St}, inv (w.since H1) i w' τ' → Sv w' H2 σ τ' → Exm w.S H1 H2 ∧ Live w.S H2 := fun q s2 => by
    obtain ⟨eS, hJ⟩ := hI _ _ _ _ Lk.since q
    exact ⟨(hJ _ s2.inv.1).2, by rw [← eS]; exact s2.live⟩
  have wkk : Walk J qs.length (fun H2 => Exm w.S H1 H2 ∧ Live w.S H2) (fun i H2 x H3 => ∃ d, qs[i]? = some d ∧ Same H2 H3 ∧ d.p x (hid w.S H3)) :=
    ⟨fun i H2 hi m => wk.goes i H2 hi m.1, fun H2 m => wk.stops H2 m.1, fun i H2 x H3 hi m y => by
      have hd : qs[i]? = some qs[i] := by simp [hi]
      exact ⟨_, hd, wk.yields i H2 x H3 _ hd m.1 m.2 y⟩⟩
  refine for_it wkk (g := gName n) (tb := ssSem X body) (D := aft X rest D) (σ := σ) (H := H1) Pv ⟨_, _, h0 _ Lk.since, sb⟩ ?_ ?_ ?_
  · rintro i σ2 H2 _ ⟨w', τ', q, s2⟩
    exact since q s2
  · rintro i x σ2 H2 H3 hi ⟨w', τ', q, s2⟩ ⟨d, hd, sm, dv⟩
    have s3 := s2.move (Exm.same sm) (Vw.st _ sm s2.inv)
    exact hb _ i d w' τ' Lk.since q hd _ H3 (s3.set n (by rw [(hI _ _ _ _ Lk.since q).1]; exact dv))
  · rintro σ2 H2 ⟨w', τ', q, s2⟩
    exact he _ w' τ' Lk.since q σ2 H2 s2
end
end Lt
namespace Lt
/-! # The keys of a search, and how many there are -/
def enc (n : Nat) : List Nat → Nat
  | [] => 0
  | x :: r => x + n * enc n r
theorem enc_lt {n : Nat} : ∀ {k : List Nat}, (∀ x ∈ k, x < n) → enc n k < n ^ k.length
  | [], _ => by simp [enc]
  | x :: r, h => by
    have h1 := h x List.mem_cons_self
    have h2 := enc_lt (k := r) fun y hy => h y (List.mem_cons_of_mem _ hy)
    show x + n * enc n r < n ^ (r.length + 1)
    rw [Nat.pow_succ]
    have : n * (enc n r + 1) ≤ n * n ^ r.length := Nat.mul_le_mul_left n h2
    rw [Nat.mul_add, Nat.mul_one] at this
    rw [Nat.mul_comm (n ^ r.length) n]
    omega
theorem enc_inj {n : Nat} : ∀ {k l : List Nat}, k.length = l.length → (∀ x ∈ k, x < n) → (∀ x ∈ l, x < n) → enc n k = enc n l → k = l
  | [], [], _, _, _, _ => rfl
  | [], _ :: _, h, _, _, _ => by cases h
  | _ :: _, [], h, _, _, _ => by cases h
  | x :: k, y :: l, h, hk, hl, e => by
    have hx := hk x List.mem_cons_self
    have hy := hl y List.mem_cons_self
    have e' : x + n * enc n k = y + n * enc n l := e
    have m1 : (x + n * enc n k) % n = x := by rw [Nat.add_mul_mod_self_left, Nat.mod_eq_of_lt hx]
    have m2 : (y + n * enc n l) % n = y := by rw [Nat.add_mul_mod_self_left, Nat.mod_eq_of_lt hy]
    have exy : x = y := by rw [← m1, ← m2, e']
    subst exy
    have e2 : n * enc n k = n * enc n l := by omega
    have e3 : enc n k = enc n l := Nat.eq_of_mul_eq_mul_left (by omega) e2
    rw [enc_inj (by simpa using h) (fun z hz => hk z (List.mem_cons_of_mem _ hz)) (fun z hz => hl z (List.mem_cons_of_mem _ hz)) e3]
theorem nodup_lt : ∀ {N : Nat} {l : List Nat}, l.Nodup → (∀ x ∈ l, x < N) → l.length ≤ N
  | 0, [], _, _ => Nat.le_refl _
  | 0, x :: _, _, b => absurd (b x List.mem_cons_self) (Nat.not_lt_zero _)
  | N + 1, l, h, b => by
    have h2 : (l.erase N).Nodup := h.erase N
    have b2 : ∀ x ∈ l.erase N, x < N := fun x hx => by
      obtain ⟨h3, h4⟩ := (List.Nodup.mem_erase_iff h).mp hx
      have := b x h4
      omega
    have z := nodup_lt h2 b2
    have l1 := List.length_erase (a := N) (l := l)
    split at l1 <;> omega
/-- keys: all of length n, of numbers below n, none twice -/
structure Keys (n : Nat) (ks : List (List Nat)) : Prop where
  nd : ks.Nodup
  ok : ∀ k ∈ ks, k.length = n ∧ ∀ x ∈ k, x < n
theorem Keys.few {n : Nat} {ks : List (List Nat)} (h : Keys n ks) : ks.length ≤ n ^ n := by
  have z : (ks.map (enc n)).Nodup := by
    refine List.pairwise_map.mpr (List.Pairwise.imp_of_mem (fun {a b} ha hb ne e => ?_) h.nd)
    obtain ⟨a1, a2⟩ := h.ok a ha
    obtain ⟨b1, b2⟩ := h.ok b hb
    exact ne (enc_inj (by omega) a2 b2 e)
  have := nodup_lt (N := n ^ n) z fun x hx => by
    obtain ⟨k, hk, rfl⟩ := List.mem_map.mp hx
    obtain ⟨a1, a2⟩ := h.ok k hk
    rw [← a1]
    rw [a1]
    have := enc_lt a2
    rwa [a1] at this
  rwa [List.length_map] at this
end Lt
namespace Lt
/-! # The search, step by step: ks the keys found, later those of the next round -/
structure Bfs (T : Tb) (C : Nat) (ks : List (List Nat)) (open_ : List (List Nat)) : Prop where
  keys : Keys T.length ks
  start : List.range T.length ∈ ks
  sub : ∀ k ∈ open_, k ∈ ks
  closed : ∀ k ∈ ks, k ∈ open_ ∨ ∀ c, c < C → ahead T c k ∈ ks
theorem Bfs.full {T : Tb} {C : Nat} {ks : List (List Nat)} (b : Bfs T C ks []) : Full T C ks := ⟨b.start, fun k hk c hc => by
  rcases b.closed k hk with h | h
  · cases h
  · exact h c hc⟩
theorem range_key (n : Nat) : (List.range n).length = n ∧ ∀ x ∈ List.range n, x < n := ⟨List.length_range, fun x hx => List.mem_range.mp hx⟩
theorem Bfs.init (T : Tb) (C : Nat) : Bfs T C [List.range T.length] [List.range T.length] := ⟨⟨List.pairwise_singleton _ _, fun k hk => by rw [List.mem_singleton.mp hk]; exact range_key _⟩, List.mem_singleton.mpr rfl, fun _ h => h, fun k hk => .inl hk⟩
theorem ahead_len (T : Tb) (c : Nat) (k : List Nat) : (ahead T c k).length = T.length := by unfold ahead; rw [canon_len, List.length_map]
theorem canon_lt {l : List Nat} : ∀ x ∈ canon l, x < l.length := fun x hx => by
  unfold canon at hx
  obtain ⟨y, hy, rfl⟩ := List.mem_map.mp hx
  exact List.idxOf_lt_length_of_mem hy
theorem ahead_key (T : Tb) (c : Nat) (k : List Nat) : (ahead T c k).length = T.length ∧ ∀ x ∈ ahead T c k, x < T.length := ⟨ahead_len T c k, fun x hx => by
  have := canon_lt x hx
  rwa [List.length_map] at this⟩
/-- within a round: the first i of the round are done, and c commands of the next one -/
structure Mid (T : Tb) (C : Nat) (ks fresh later : List (List Nat)) (i c : Nat) : Prop where
  keys : Keys T.length ks
  start : List.range T.length ∈ ks
  sub : ∀ k ∈ fresh, k ∈ ks
  subL : ∀ k ∈ later, k ∈ ks
  closed : ∀ k ∈ ks, k ∈ later ∨ (∃ j, i ≤ j ∧ fresh[j]? = some k) ∨ ∀ c, c < C → ahead T c k ∈ ks
  part : ∀ k, fresh[i]? = some k → ∀ x, x < c → ahead T x k ∈ ks
theorem Bfs.mid {T : Tb} {C : Nat} {ks fresh : List (List Nat)} (b : Bfs T C ks fresh) : Mid T C ks fresh [] 0 0 := ⟨b.keys, b.start, b.sub, fun _ h => (nomatch h), fun k hk => by
  rcases b.closed k hk with h | h
  · obtain ⟨j, hj, e⟩ := List.getElem_of_mem h
    exact .inr (.inl ⟨j, Nat.zero_le _, by rw [List.getElem?_eq_getElem hj, e]⟩)
  · exact .inr (.inr h), fun _ _ _ h => absurd h (Nat.not_lt_zero _)⟩
theorem Mid.next {T : Tb} {C : Nat} {ks fresh later : List (List Nat)} {i : Nat} {k : List Nat} (m : Mid T C ks fresh later i C) (hk : fresh[i]? = some k) : Mid T C ks fresh later (i + 1) 0 := ⟨m.keys, m.start, m.sub, m.subL, fun l hl => by
  rcases m.closed l hl with h | ⟨j, hj, e⟩ | h
  · exact .inl h
  · by_cases q : j = i
    · subst q
      exact .inr (.inr fun c hc => m.part l e c hc)
    · exact .inr (.inl ⟨j, by omega, e⟩)
  · exact .inr (.inr h), fun _ _ _ h => absurd h (Nat.not_lt_zero _)⟩
theorem Mid.done {T : Tb} {C : Nat} {ks fresh later : List (List Nat)} {c : Nat} (m : Mid T C ks fresh later fresh.length c) : Bfs T C ks later := ⟨m.keys, m.start, m.subL, fun k hk => by
  rcases m.closed k hk with h | ⟨j, hj, e⟩ | h
  · exact .inl h
  · have := (List.getElem?_eq_some_iff.mp e).1
    omega
  · exact .inr h⟩
theorem Mid.old {T : Tb} {C : Nat} {ks fresh later : List (List Nat)} {i c : Nat} {k : List Nat} (m : Mid T C ks fresh later i c) (hk : fresh[i]? = some k) (h : ahead T c k ∈ ks) : Mid T C ks fresh later i (c + 1) := ⟨m.keys, m.start, m.sub, m.subL, m.closed, fun l hl x hx => by
  rw [hk] at hl
  cases hl
  by_cases e : x = c
  · subst e; exact h
  · exact m.part k hk x (by omega)⟩
theorem Mid.new {T : Tb} {C : Nat} {ks fresh later : List (List Nat)} {i c : Nat} {k : List Nat} (m : Mid T C ks fresh later i c) (hk : fresh[i]? = some k) (h : ¬ ahead T c k ∈ ks) : Mid T C (ks ++ [ahead T c k]) fresh (later ++ [ahead T c k]) i (c + 1) := by
  have l : ∀ {x}, x ∈ ks → x ∈ ks ++ [ahead T c k] := fun h => List.mem_append_left _ h
  have r : ahead T c k ∈ ks ++ [ahead T c k] := List.mem_append_right _ (List.mem_singleton.mpr rfl)
  refine ⟨⟨?_, fun x hx => ?_⟩, l m.start, fun x hx => l (m.sub x hx), fun x hx => ?_, fun x hx => ?_, fun x hx y hy => ?_⟩
  · refine List.nodup_append.mpr ⟨m.keys.nd, List.pairwise_singleton _ _, fun a ha b hb e => ?_⟩
    rw [List.mem_singleton.mp hb] at e
    subst e
    exact h ha
  · rcases List.mem_append.mp hx with hx | hx
    · exact m.keys.ok x hx
    · rw [List.mem_singleton.mp hx]; exact ahead_key T c k
  · rcases List.mem_append.mp hx with hx | hx
    · exact l (m.subL x hx)
    · rw [List.mem_singleton.mp hx]; exact r
  · rcases List.mem_append.mp hx with hx | hx
    · rcases m.closed x hx with h | h | h
      · exact .inl (List.mem_append_left _ h)
      · exact .inr (.inl h)
      · exact .inr (.inr fun c hc => l (h c hc))
    · exact .inl (List.mem_append_right _ hx)
  · rw [hk] at hx
    cases hx
    by_cases e : y = c
    · subst e; exact r
    · exact l (m.part k hk y (by omega))
end Lt
namespace Lt
open PySem PySem.Spec PyProof.Rows L2
section
variable {X : Cx} {w : Vw} {e : Expr} {τ : Ty} {pos : Pos} {ks : List (List Nat)} {xs : List Nat}
def keysL (ks : List (List Nat)) : PyData := .list (ks.map natsT)
theorem lstP_dat {K : PySem.W.Frag} {v : V} {G : Hp} (h : (lstP K (ks.map keyP)).p v G) : (dat K (keysL ks)).p v G := by
  obtain ⟨a, vs, rfl, hs, da⟩ := h
  refine .lst hs ?_
  have go : ∀ {ks : List (List Nat)} {vs : List V}, PdAll G vs (ks.map keyP) → DpAll K G vs (ks.map natsT) := by
    intro ks
    induction ks with
    | nil => intro vs h; cases h; exact .nil
    | cons k ks ih =>
      intro vs h
      cases h with
      | cons h1 h2 => exact .cons (keyP_dat h1) (ih h2)
  exact go da
theorem Xe.keys (h : Xe X w e τ (fun pd => pd = lstP X.K (ks.map keyP))) : Xe X w e τ (eD X.K (keysL ks)) := fun σ H s Q q =>
  h σ H s Q fun v pd H1 m i1 e1 hv => q v _ H1 m i1 ⟨_, rfl, rfl⟩ (by subst e1; exact lstP_dat hv)
theorem Xe.key (h : Xe X w e τ (fun pd => pd = keyP xs)) : Xe X w e τ (eD X.K (natsT xs)) := fun σ H s Q q =>
  h σ H s Q fun v pd H1 m i1 e1 hv => q v _ H1 m i1 ⟨_, rfl, rfl⟩ (by subst e1; exact keyP_dat hv)
theorem xf_nilP {A : Ct → Prop} (hc : A (Ct.lp [])) : Xf X w (.List [] pos) τ A := fun σ H s Q q =>
  xf_nil (A := fun c => c = Ct.lst X.K []) rfl σ H s Q fun p o c H1 m i n ec hco => by
    subst ec
    obtain ⟨vs, e1, da⟩ := hco
    cases da
    exact q p o (Ct.lp []) H1 m i n hc ⟨[], e1, .nil⟩
end
end Lt
namespace Lt
open PySem PySem.Spec PyProof.Rows L2
abbrev ksOf (es : List Ent) : List (List Nat) := es.map (·.1)
structure Words (es : List Ent) : Prop where
  len : ∀ e ∈ es, e.2.length ≤ es.length
/-- what a search tells -/
def fewP (K : PySem.W.Frag) (T : Tb) (C : Nat) : Pd := ⟨fun v G => ∃ es, Bfs T C (ksOf es) [] ∧ Words es ∧ (dctP K es).p v G, fun s ⟨es, a, b, c⟩ => ⟨es, a, b, (dctP K es).st s c⟩⟩
section
variable {X : Cx} {w : Vw} {e : Expr} {rest : List Stmt} {τ : Ty} {pos : Pos} {T : Tb} {C : Nat} {D : Ends}
theorem Xe.few (h : Xe X w e τ (fun pd => pd = fewP X.K T C)) : Xe X w e τ (fun pd => ∃ es, Bfs T C (ksOf es) [] ∧ Words es ∧ pd = dctP X.K es) := fun σ H s Q q =>
  h σ H s Q fun v pd H1 m i1 e1 hv => by
    subst e1
    obtain ⟨es, a, b, c⟩ := hv
    exact q v (dctP X.K es) H1 m i1 ⟨es, a, b, rfl⟩ c
theorem Xe.toFew {es : List Ent} (h : Xe X w e τ (fun pd => pd = dctP X.K es)) (a : Bfs T C (ksOf es) []) (b : Words es) : Xe X w e τ (fun pd => pd = fewP X.K T C) := fun σ H s Q q =>
  h σ H s Q fun v pd H1 m i1 e1 hv => by
    subst e1
    exact q v (fewP X.K T C) H1 m i1 rfl ⟨es, a, b, hv⟩
theorem rn_keysL {q : Addr} {j : Nat} {v : Vw} {qs : List Pd} (hS : ∀ a, a ∈ v.S → a ∈ w.S) (hJ : ∀ H, w.J H → v.J H) (ho : ∀ c, c ∈ v.own → c ∈ w.own) (hw : w.own[j]? = some (q, Ct.lp qs)) (nq : ¬ q ∈ v.S) (n : Nat) (hi : τ[n]? = some (some (is (.ref q))))
    (k : Rn X v rest (τ.set n (some (lstP X.K qs))) D) : Rn X w rest τ D := rn_view k fun σ H s => s.shownL hS hJ ho hw nq hi
theorem rn_keysT {q : Addr} {j : Nat} {v : Vw} {ents : List Ent} (hS : ∀ a, a ∈ v.S → a ∈ w.S) (hJ : ∀ H, w.J H → v.J H) (ho : ∀ c, c ∈ v.own → c ∈ w.own) (hw : w.own[j]? = some (q, Ct.dT X.K ents)) (nq : ¬ q ∈ v.S) (n : Nat) (hi : τ[n]? = some (some (is (.ref q))))
    (k : Rn X v rest (τ.set n (some (dctP X.K ents))) D) : Rn X w rest τ D := rn_view k fun σ H s => s.shownT hS hJ ho hw nq hi
end
end Lt
set_option maxHeartbeats 400000
namespace Lt
open PySem PySem.Spec PyProof.Rows L2
section
variable {P : Program} {w : World} {K : PySem.W.Frag} {mg : Str → Option Value} {base : Heap} {M : Ad}
def F_lawFew (K : PySem.W.Frag) : List Pd → Pd → Prop := fun pds r => ∃ (T : Tb) (C : Nat), pds = [dat K (rowsL T)] ∧ Ok T C ∧ T.length ≤ 6 ∧ C ≤ 100 ∧ r = fewP K T C
abbrev NFew : List Str := ["_law_steps", "_law_idle", "_law_found", "_law_fresh", "_law_later", "_law_one_here", "_law_command", "_law_led_here", "_law_longer", "_law_row", "_law_state"]
theorem sc_lawFew : FnScope NFew ["_law_steps"] (defScope sLawFew) := ⟨rfl, rfl, rfl, by decide +kernel, rfl, by decide +kernel, by decide +kernel⟩
theorem six {n : Nat} (h : n ≤ 6) (h0 : 0 < n) : n ^ n ≤ 46656 := by
  have z : n = 1 ∨ n = 2 ∨ n = 3 ∨ n = 4 ∨ n = 5 ∨ n = 6 := by omega
  rcases z with rfl | rfl | rfl | rfl | rfl | rfl <;> decide
theorem eqv_keys (ks : List (List Nat)) : PyData.eqv (keysL ks) (.list []) = decide (ks = []) := by
  unfold keysL
  rw [eqv_nil]
  cases ks <;> simp
theorem sh_keys {ks : List (List Nat)} : Sh (keysL ks) 3 := .list fun x hx => by
  obtain ⟨k, _, rfl⟩ := List.mem_map.mp hx
  exact (Sh.tuple (n := 0) sh_nats).mono (by decide)
/-- what a command's column makes of a kernel, before it is made canonical -/
def preA (T : Tb) (c : Nat) (k : List Nat) : List Nat := T.map fun r => k.getD (r.getD c 0) 0
theorem preA_len (T : Tb) (c : Nat) (k : List Nat) : (preA T c k).length = T.length := by simp [preA]
theorem preA_at {T : Tb} {C c j m : Nat} {k row : List Nat} (ok : Ok T C) (hc : c < C) (hr : T[j]? = some row) (hm : (preA T c k)[j]? = some m) : c < row.length ∧ row.getD c 0 < T.length ∧ m = k.getD (row.getD c 0) 0 := by
  have h1 := ok.row row (List.mem_of_getElem? hr)
  have hc' : c < row.length := by omega
  refine ⟨hc', h1.2 _ (by rw [List.getD, List.getElem?_eq_getElem hc']; exact List.getElem_mem hc'), ?_⟩
  unfold preA at hm
  rw [List.getElem?_map, hr] at hm
  exact (Option.some.inj hm).symm
theorem canon_look {L : List Nat} {j m m2 : Nat} (hm : L[j]? = some m) (hm2 : (canon L)[j]? = some m2) : L[m2]? = some m ∧ ∀ i, i < m2 → L[i]? ≠ some m := by
  unfold canon at hm2
  rw [List.getElem?_map, hm] at hm2
  have e : L.idxOf m = m2 := Option.some.inj hm2
  have mem : m ∈ L := List.mem_of_getElem? hm
  subst e
  have l : L.idxOf m < L.length := List.idxOf_lt_length_of_mem mem
  refine ⟨by rw [List.getElem?_eq_getElem l, List.getElem_idxOf l], fun i hi z => ?_⟩
  obtain ⟨h1, h2⟩ := List.getElem?_eq_some_iff.mp z
  have q : (L[i] == m) = false := List.not_of_lt_findIdx (p := (· == m)) hi
  rw [h2] at q
  simp at q
theorem ent_there {es : List Ent} {k : List Nat} (h : k ∈ ksOf es) : ∃ d, (k, d) ∈ es := by
  obtain ⟨e, he, rfl⟩ := List.mem_map.mp h
  exact ⟨e.2, he⟩
theorem ent_uniq {es : List Ent} {k d d' : List Nat} (n : (ksOf es).Nodup) (h : (k, d) ∈ es) (h' : (k, d') ∈ es) : d' = d := by
  obtain ⟨i, hi, e1⟩ := List.getElem_of_mem h
  obtain ⟨j, hj, e2⟩ := List.getElem_of_mem h'
  have a1 : (ksOf es)[i]'(by simpa [ksOf] using hi) = k := by simp [ksOf, e1]
  have a2 : (ksOf es)[j]'(by simpa [ksOf] using hj) = k := by simp [ksOf, e2]
  have ij : i = j := (List.getElem_inj n).mp (a1.trans a2.symm)
  subst ij
  rw [e1] at e2
  exact (Prod.mk.inj e2).2.symm
theorem cl_lawFew (T : Tx K mg M) : Cl P w K mg base CX0 1 "_law_few" ["_law_steps"] (spP (F_lawFew K)) := by
  refine Cl.mk' (d := dLawFew) (T.df 35 _ rfl rfl rfl) (fun f fd F => fn_pure F sc_lawFew (fun pds r h => ?_) fun cdv A outer s H E hr S H0 pds r Q h q => ?_) (fun _ _ _ _ _ _ us hl => match us, hl with | [_], _ => rfl)
  · obtain ⟨t, C, e1, _⟩ := h
    subst e1; rfl
  obtain ⟨t, C, e1, ok, hn, hC, e2⟩ := h
  subst e1; subst e2
  have n0 := ok.n0
  have hu : A.units + 3 + 66 < cLine := by
    have z : A.units + 3 + 16 * 0 + 200 < cLine := hr.un
    omega
  refine rn_asg (i := 1) (P := fun pd => pd = keyP (List.range t.length)) (x_tupKey T.tuple (v_listRange rfl T.list T.range (v_lenRows T.len (nD 0)) (by omega))) (fun pd hp => ?_) sc_lawFew.nd rfl (Or.inl rfl)
  subst hp
  refine rn_parG (i := 2) (j := 3) (C := fun c => c = Ct.dT K [(List.range t.length, [])]) (PB := fun pd => pd = lstP K ([List.range t.length].map keyP)) rfl (xg_oneT (xs := List.range t.length) (d := []) (by show A.units + 3 + 1 < cLine; omega) (fun w' _ _ => nP 1) (fun w' _ _ => v_natsT aN_nil)) (fun w' _ _ => x_lstP (ap_cons (nP 1) ap_nil) (by show 1 ≤ 1000; decide)) (fun pd qf c n1 n2 ec ep => ?_) sc_lawFew.nd rfl rfl (by decide) rfl rfl rfl
  subst ec; subst ep
  refine rn_while (passes_of rfl) (fun m w' τ' => ∃ (es : List Ent) (fresh : List (List Nat)), m = 2 * (46656 - es.length) + (if fresh = [] then 0 else 1) ∧ Bfs t C (ksOf es) fresh ∧ Words es ∧ w'.S = qf :: S ∧ (∀ H, w'.J H → Same H0 H) ∧ w'.own = [(qf, Ct.dT K es)] ∧
      ∃ o4 o5 o6 o7 o8, τ' = [some (dat K (rowsL t)), some (keyP (List.range t.length)), some (is (.ref qf)), some (lstP K (fresh.map keyP)), o4, o5, o6, o7, o8, none, none])
    ⟨_, [(List.range t.length, [])], [List.range t.length], rfl, Bfs.init t C, ⟨fun e he => by rw [List.mem_singleton.mp he]; exact Nat.zero_le _⟩, rfl, fun _ h => h, rfl, none, none, none, none, none, rfl⟩ (fun m w' τ' h => ?_)
  obtain ⟨es, fresh, rfl, bf, wd, eS, eJ, eo, o4, o5, o6, o7, o8, rfl⟩ := h
  refine ⟨eT (!PyData.eqv (keysL fresh) (.list [])), xt_neD (by show A.units + 3 + 64 < cLine; omega) (Xe.keys (nP 3)) (v_lst a_nil (by show 0 ≤ 1000; decide)) (fun d f e1 e2 => by rw [e1, e2]; exact ⟨sh_keys.shaped, (Sh.list (xs := []) (n := 0) fun x h => by cases h).shaped⟩) (fun d f e1 e2 => by rw [e1, e2]), fun h => ?_, fun h => ?_⟩
  · have hne : fresh ≠ [] := fun z => by rw [eqv_keys, z] at h; cases h
    have k0 := bf.keys.few
    have s0 := six hn n0
    have el : es.length = (ksOf es).length := by simp [ksOf]
    refine rn_new (i := 4) (C := fun c => c = Ct.lp []) (xf_nilP rfl) (fun q4 c4 n41 n42 ec4 => ?_) sc_lawFew.nd rfl (Or.inl rfl)
    subst ec4
    refine rn_forP (qs := fresh.map keyP) (n := 5) (passes_of rfl) rfl (xiP_list (nP 3)) (pg_name (i := 5) sc_lawFew.nd rfl (Or.inr rfl))
      (fun wb i w2 τ2 => ∃ (es2 : List Ent) (later : List (List Nat)), w2.S = wb.S ∧ (∀ H, w2.J H → wb.J H) ∧ w2.own = [(q4, Ct.lp (later.map keyP)), (qf, Ct.dT K es2)] ∧ Mid t C (ksOf es2) fresh later i 0 ∧ Words es2 ∧ es2.length = es.length + later.length ∧
        ∃ o5 o6 o7 o8, τ2 = [some (dat K (rowsL t)), some (keyP (List.range t.length)), some (is (.ref qf)), some (lstP K (fresh.map keyP)), some (is (.ref q4)), o5, o6, o7, o8, none, none])
      (fun wb lk => ⟨es, [], rfl, fun _ h => h, by rw [lk.own]; show (q4, Ct.lp []) :: w'.own = _; rw [eo]; rfl, bf.mid, wd, rfl, o5, o6, o7, o8, rfl⟩) (fun wb i w2 τ2 lk h => ?_) (fun wb i d w2 τ2 lk h hd => ?_) (fun wb w2 τ2 lk h => ?_)
    · obtain ⟨es2, later, e1, e2, _⟩ := h
      exact ⟨by rw [e1, lk.S], e2⟩
    · obtain ⟨es2, later, eS2, eJ2, eo2, mid, wd2, el2, p5, p6, p7, p8, rfl⟩ := h
      obtain ⟨k, hk, rfl⟩ : ∃ k, fresh[i]? = some k ∧ d = keyP k := by
        rw [List.getElem?_map] at hd
        cases z : fresh[i]? with
        | none => rw [z] at hd; cases hd
        | some k => rw [z] at hd; exact ⟨k, rfl, (Option.some.inj hd).symm⟩
      refine rn_for (A := fun y => y = rangeD C) (passes_of rfl) rfl (wi_range T.range (v_lenRow0 ok T.len (nD 0) (cN 0)) (by omega)) (pg_name (i := 6) sc_lawFew.nd rfl (Or.inr rfl)) (tgr_name 6) (fun _ _ _ _ _ => trivial)
        (fun wb3 ds c w3 τ3 => ∃ (es3 : List Ent) (later3 : List (List Nat)), w3.S = wb3.S ∧ (∀ H, w3.J H → wb3.J H) ∧ w3.own = [(q4, Ct.lp (later3.map keyP)), (qf, Ct.dT K es3)] ∧ Mid t C (ksOf es3) fresh later3 i c ∧ Words es3 ∧ es3.length = es.length + later3.length ∧
          ∃ o6 o7 o8, τ3 = [some (dat K (rowsL t)), some (keyP (List.range t.length)), some (is (.ref qf)), some (lstP K (fresh.map keyP)), some (is (.ref q4)), some (keyP k), o6, o7, o8, none, none])
        (fun wb3 ds lk3 e => ⟨es2, later, rfl, fun _ h => h, by rw [lk3.own]; exact eo2, mid, wd2, el2, p6, p7, p8, rfl⟩) (fun wb3 ds c w3 τ3 lk3 h => ?_) (fun wb3 ds c x w3 τ3 lk3 e h hx => ?_) (fun wb3 ds w3 τ3 lk3 e h => ?_)
      · obtain ⟨es3, later3, e1, e2, _⟩ := h
        exact ⟨by rw [e1, lk3.S], e2⟩
      · obtain ⟨es3, later3, eS3, eJ3, eo3, mid3, wd3, el3, p6, p7, p8, rfl⟩ := h
        subst e
        obtain ⟨hc, rfl⟩ := rangeD_get hx
        have kk := mid3.keys.ok k (mid3.sub k (List.mem_of_getElem? hk))
        have hown1 : w3.own[1]? = some (qf, Ct.dT K es3) := by rw [eo3]; rfl
        have hown0 : w3.own[0]? = some (q4, Ct.lp (later3.map keyP)) := by rw [eo3]; rfl
        refine rn_asg (i := 7) (P := eD K (natsL (preA t c k))) (v_lc (own := [("_law_row", 9)]) (ds := t.map natsL) (ws := nats (preA t c k)) rfl sc_lawFew.nd (wi_list (nD 0)) (blkOk_by (N := NFew) (sc := defScope sLawFew) (by decide +kernel)) (fun _ _ _ _ _ => pg_name (i := 9) sc_lawFew.nd rfl (Or.inl rfl)) (tgr_name 9) (fun _ _ _ => trivial) (by rw [nats_len, preA_len, List.length_map]) (by rw [List.length_map]; omega) (fun j x r hx' hr' w4 _ _ => ?_)) (fun pd hp => ?_) sc_lawFew.nd rfl (Or.inr rfl)
        · obtain ⟨row, hrow, rfl⟩ := rows_inv hx'
          obtain ⟨m, hm, rfl⟩ := nats_inv hr'
          obtain ⟨r1, r2, r3⟩ := preA_at ok hc hrow hm
          intro s1 H1 C1 cl1 fp1
          exact Xe.toD (Xe.toJ (v_at (f := k) (s := row.getD c 0) (by omega) (Xe.key (nP 5)) (.inl rfl) (Xe.toI (v_ix (nD 9) (nI 6) (.inl rfl) (nats_get (getD_some r1))))) (by rw [r3]))
        obtain ⟨_, rfl, rfl⟩ := hp
        refine rn_asg (i := 8) (P := fun pd => pd = keyP (ahead t c k)) (x_tupKey T.tuple (v_lc (own := [("_law_state", 10)]) (ds := nats (preA t c k)) (ws := nats (ahead t c k)) rfl sc_lawFew.nd (wi_list (nD 7)) (blkOk_by (N := NFew) (sc := defScope sLawFew) (by decide +kernel)) (fun _ _ _ _ _ => pg_name (i := 10) sc_lawFew.nd rfl (Or.inl rfl)) (tgr_name 10) (fun _ _ _ => trivial) (by rw [nats_len, nats_len, ahead_len, preA_len]) (by rw [nats_len, preA_len]; omega) (fun j x r hx' hr' w4 _ _ => ?_))) (fun pd hp => ?_) sc_lawFew.nd rfl (Or.inl rfl)
        · obtain ⟨m, hm, rfl⟩ := nats_inv hx'
          obtain ⟨m2, hm2, rfl⟩ := nats_inv hr'
          obtain ⟨r1, r2⟩ := canon_look hm hm2
          intro s1 H1 C1 cl1 fp1
          exact Xe.toD (v_index (xs := preA t c k) (m := m) (k := m2) (by show A.units + 3 + 65 < cLine; omega) (nD 7) (nI 10) r1 r2)
        subst hp
        have fk := mid3.keys.few
        have l3 : es3.length = (ksOf es3).length := by simp [ksOf]
        refine rn_if (t_notinT (j := 1) (q := qf) (ents := es3) (xs := ahead t c k) (by show A.units + 3 + 1 < cLine; omega) (nP 8) (nO 2) hown1) (fun h => ?_) (fun h => ?_)
        · have new : ¬ ahead t c k ∈ ksOf es3 := fun z => by
            rw [decide_eq_true z] at h
            cases h
          obtain ⟨d0, hd0⟩ := ent_there (mid3.sub k (List.mem_of_getElem? hk))
          have dl : d0.length ≤ es3.length := wd3.len _ hd0
          refine rn_dputT (j := 1) (q := qf) (ents := es3) (xs := ahead t c k) (d := c :: d0) (by show A.units + 3 + 1 < cLine; omega) (v_catT (ds := [.int c]) (es' := nats d0) (v_tup (a_cons (Xe.toD (nI 6)) a_nil) (by show 1 ≤ 1000; decide)) (x_dgetT (j := 1) (q := qf) (ents := es3) (xs := k) (R := fun y => y = natsT d0) (by show A.units + 3 + 1 < cLine; omega) (nO 2) (nP 5) hown1 (mid3.sub k (List.mem_of_getElem? hk)) (fun d hd => by rw [ent_uniq mid3.keys.nd hd0 hd])) (by rw [nats_len]; show 1 + d0.length ≤ 100000; omega)) (nO 2) (nP 8) hown1 new (by omega) ?_
          refine rn_appPd (j := 0) (q := q4) (qs := later3.map keyP) (pd0 := keyP (ahead t c k)) (nO 4) (by show (w3.own.set 1 _)[0]? = _; rw [eo3]; rfl) (by rw [List.length_map]; omega) (nP 8) ?_
          refine rn_out (rn_nil fun σ H s => ⟨_, _, ?_, s⟩)
          refine ⟨es3 ++ [(ahead t c k, c :: d0)], later3 ++ [ahead t c k], eS3, eJ3, ?_, ?_, ?_, ?_, _, _, _, rfl⟩
          · show (w3.own.set 1 _).set 0 _ = _
            rw [eo3, List.map_append]; rfl
          · have z := mid3.new hk new
            rw [show ksOf es3 ++ [ahead t c k] = ksOf (es3 ++ [(ahead t c k, c :: d0)]) by simp [ksOf]] at z
            exact z
          · exact ⟨fun e he => by
              rw [List.length_append]
              rcases List.mem_append.mp he with he | he
              · have := wd3.len e he
                omega
              · rw [List.mem_singleton.mp he]
                show d0.length + 1 ≤ es3.length + 1
                have dl' : d0.length ≤ es3.length := dl
                omega⟩
          · rw [List.length_append, List.length_append, el3]
            show es.length + later3.length + 1 = es.length + (later3.length + 1)
            omega
        · have old : ahead t c k ∈ ksOf es3 := by
            cases z : decide (ahead t c k ∈ ksOf es3) with
            | true => exact of_decide_eq_true z
            | false => rw [show decide (ahead t c k ∈ es3.map (·.1)) = false from z] at h; cases h
          exact rn_out (rn_nil fun σ H s => ⟨_, _, ⟨es3, later3, eS3, eJ3, eo3, mid3.old hk old, wd3, el3, _, _, _, rfl⟩, s⟩)
      · obtain ⟨es3, later3, eS3, eJ3, eo3, mid3, wd3, el3, p6, p7, p8, rfl⟩ := h
        subst e
        rw [rangeD_len] at mid3
        exact rn_nil fun σ H s => ⟨_, _, ⟨es3, later3, eS3.trans (lk3.S.trans eS2), fun H h => eJ2 H (lk3.J (eJ3 H h)), eo3, mid3.next hk, wd3, el3, _, _, _, _, rfl⟩, s⟩
    · obtain ⟨es2, later, eS2, eJ2, eo2, mid, wd2, el2, p5, p6, p7, p8, rfl⟩ := h
      rw [List.length_map] at mid
      have bf2 := mid.done
      have k2 := bf2.keys.few
      have l2 : es2.length = (ksOf es2).length := by simp [ksOf]
      have hown : w'.own[0]? = some (qf, Ct.dT K es) := by rw [eo]; rfl
      refine rn_keysL (v := w'.put 0 qf (Ct.dT K es2) ⟨_, hown⟩) (qs := later.map keyP) (q := q4) (j := 0) (fun a m => by rw [eS2, lk.S]; exact List.mem_cons_of_mem _ m) (fun H h => lk.J (eJ2 H h)) (fun c m => by
        have m' : c ∈ w'.own.set 0 (qf, Ct.dT K es2) := m
        rw [eo] at m'
        have z : c = (qf, Ct.dT K es2) := by simpa using m'
        rw [eo2, z]; simp) (by rw [eo2]; rfl) n41 4 rfl ?_
      refine rn_asg (i := 3) (nP 4) (fun pd hp => ?_) sc_lawFew.nd rfl (Or.inl rfl)
      subst hp
      refine rn_nil fun σ H s => ⟨2 * (46656 - es2.length) + (if later = [] then 0 else 1), _, _, ?_, ?_, s⟩
      rotate_left
      · exact ⟨es2, later, rfl, bf2, wd2, eS, eJ, by show w'.own.set 0 _ = _; rw [eo]; rfl, _, _, _, _, _, rfl⟩
      · rw [if_neg hne]
        by_cases hl : later = []
        · rw [if_pos hl, el2, hl]
          show 2 * (46656 - (es.length + 0)) + 0 < _
          omega
        · rw [if_neg hl]
          have : 0 < later.length := List.length_pos_iff.mpr hl
          omega
  · have h0 : fresh = [] := by
      rw [eqv_keys] at h
      cases z : decide (fresh = []) with
      | true => exact of_decide_eq_true z
      | false => rw [z] at h; cases h
    subst h0
    have hown : w'.own[0]? = some (qf, Ct.dT K es) := by rw [eo]; rfl
    refine rn_keysT (v := Vw.pure S H0) (fun a m => by rw [eS]; exact List.mem_cons_of_mem _ m) (fun H h => eJ H h) (fun c m => nomatch m) hown (fun z => n1 z) 2 rfl ?_
    exact rn_retP q .rfl' rfl ((nP 2).toFew bf wd)
end
end Lt
set_option maxHeartbeats 4000000
namespace Lt
open PySem PySem.Spec PyProof.Rows L2
section
variable {X : Cx} {w : Vw} {e a : Expr} {τ : Ty} {pos p : Pos} {es : List Ent}
theorem keys_pd {K : PySem.W.Frag} {S : List Addr} {H : Hp} {G : Hp} {kvs : List (List Key × V)} {bs : List Addr} (hS : ∀ b ks, H b = some (.tup ks) → ¬ b ∈ S) : ∀ {es : List Ent}, Paired (entR K G) kvs es → IsKeys H kvs bs → PdAll (hid S H) (bs.map V.ref) ((ksOf es).map keyP) := by
  intro es r
  induction r generalizing bs with
  | nil => intro k; cases k; exact .nil
  | @cons kv e kvs es h t ih =>
    intro k
    cases k with
    | @cons _ b _ bs h1 h2 =>
      have hb : H b = some (.tup (natV e.1)) := by rw [← keyK_kV, ← h.1]; exact h1
      exact .cons ⟨b, rfl, by rw [hid_ne (hS b _ hb)]; exact hb⟩ (ih h2)
/-- list(d), d a dict with tuple keys: its keys -/
theorem x_listKeys (hc : X.calm = true) (hS : ∀ H, w.I H → ∀ b ks, H b = some (.tup ks) → ¬ b ∈ w.S) (hm : X.mg "list" = none) (ha : Xe X w e τ (fun pd => pd = dctP X.K es)) (hg : Gl X "list" := by rfl) (hs : starEach [e] X.env = (false, eval e X.env) :: starEach [] X.env := by rfl) :
    Xe X w (.Call (.Name "list" p) [e] [] pos) τ (fun pd => pd = lstP X.K ((ksOf es).map keyP)) := fun σ H s Q q =>
  eSem_of (pe_callTy (call_list_dT hc) hg hm boot_list' (pa_cons pe_sem pa_nil hs) (by decide) (by decide) hs rfl) (ha σ H s _ fun v pd H1 m1 i1 e1 hv => by
    subst e1
    obtain ⟨d, kvs, rfl, hd, da⟩ := hv
    refine ⟨d, kvs, rfl, .inl (hid_sub _ _ _ _ hd), fun l bs hl hk => ?_⟩
    have s1 := s.move m1 i1
    have sm : Same H1 (upd H1 l (.lst (bs.map V.ref))) := same_upd hl
    have nl : ¬ l ∈ w.S := s1.notin hl
    refine q (.ref l) _ _ (m1.trans (Exm.same sm)) (w.st sm i1) rfl ⟨l, _, rfl, .inl (.inl (by rw [hid_ne nl, upd_same])), ?_⟩
    exact pda_same (hid_move (Exm.same sm)) (keys_pd (hS H1 i1) da hk))
end
/-- a def that only tells, told of what is held with nothing hidden, whose answer is free of the heap -/
theorem fn_open {P : Program} {w : World} {K : PySem.W.Frag} {mg : Str → Option Value} {base : Heap} {x qual : Str} {params : Arguments} {body : List Stmt} {scope : Scope} {dvs : List V} {kws : List (Str × V)} {f : Addr} {fd : FuncData} {CX : CXT} {N ps : List Str} {k : Nat} {F' F2 : List Pd → Pd → Prop}
    (F : FunD K x qual params body scope dvs kws f fd) (S : FnScope N ps scope) (hl : ∀ pds r, F' pds r → pds.length = ps.length) (hfree : ∀ pds r, F' pds r → ∀ v G G', r.p v G → r.p v G') (ho : ∀ G vs pds r, F' pds r → PdAll G vs pds → ∃ pds', PdAll G vs pds' ∧ F2 pds' r)
    (hb : ∀ (cdv : Value) (A : Around) (outer : List Env) (s : Shared) (H : Hp) (E : XK), Room k (A.deeper (envOfC qual scope s.heap.objs.size f cdv)) → ∀ (H0 : Hp) (pds : List Pd) (r : Pd) (Q : VK), F2 pds r → (∀ v H', Same H0 H' → r.p v (hid [] H') → Q v H') →
      Rn (cxOf CX P w K mg base N qual scope f cdv A outer s H E) (Vw.pure [] H0) body (startT N.length pds) (fin Q)) : FnOk P w K mg base CX (k + 1) f fd ps (spP F') := by
  refine F.ok S (spP_len hl) (fun cdv A outer s H vs Q E hr h => ⟨_, pss_sem, ?_⟩)
  obtain ⟨Sd, pds, r, lv, hv, hf, q⟩ := h
  have hv' : PdAll (hid [] H) vs pds := pda_same (hid_less fun _ h => by cases h) hv
  obtain ⟨pds', hv2, hf2⟩ := ho _ _ _ _ hf hv'
  exact hb cdv A outer s H E hr H pds' r Q hf2 (fun v H' sm hr => q v H' sm (hfree _ _ hf _ _ _ hr)) _ H (sv_start (fun _ h => by cases h) i_pure hv2)
theorem pure_open {w : Vw} (hw : w.S = []) : ∀ H : Hp, w.I H → ∀ (b : Addr) (ks : List V), H b = some (.tup ks) → ¬ b ∈ w.S := fun _ _ _ _ _ m => by
  rw [hw] at m
  cases m
end Lt
set_option maxHeartbeats 400000
namespace Lt
open PySem PySem.Spec PyProof.Rows L2
/-- what _law_blind tells: a bool; False: the machine is not blind -/
def blindP (T : Tb) (C : Nat) : Pd := ⟨fun v _ => ∃ b, v = .bl b ∧ (b = false → NonBlind T C), fun _ h => h⟩
def okB (T : Tb) (C : Nat) (k : List Nat) (i : Nat) : Prop := ∀ s, s < i → ∀ c, c < C → k.getD (stp T s c) 0 = k.getD (stp T (k.getD s 0) c) 0
theorem okB_all {T : Tb} {C : Nat} {ks : List (List Nat)} (h : ∀ k ∈ ks, okB T C k T.length) : blind T C ks = false := by
  unfold blind
  refine List.any_eq_false.mpr fun k hk => ?_
  rw [Bool.not_eq_true]
  refine List.any_eq_false.mpr fun s hs => ?_
  rw [Bool.not_eq_true]
  refine List.any_eq_false.mpr fun c hc => ?_
  rw [decide_eq_true (h k hk s (List.mem_range.mp hs) c (List.mem_range.mp hc))]
  decide
section
variable {X : Cx} {w : Vw} {e : Expr} {rest : List Stmt} {τ : Ty} {pos : Pos} {T : Tb} {C : Nat} {D : Ends}
theorem Xe.blindT (h : Xe X w e τ (eB X.K true)) : Xe X w e τ (fun pd => pd = blindP T C) := fun σ H s Q q =>
  h σ H s Q fun v pd H1 m i1 ⟨b, e1, e2⟩ hv => q v (blindP T C) H1 m i1 rfl (by subst e1; subst e2; exact ⟨true, dat_bl hv, fun z => by cases z⟩)
theorem Xe.blindF (h : Xe X w e τ (eB X.K false)) (nb : NonBlind T C) : Xe X w e τ (fun pd => pd = blindP T C) := fun σ H s Q q =>
  h σ H s Q fun v pd H1 m i1 ⟨b, e1, e2⟩ hv => q v (blindP T C) H1 m i1 rfl (by subst e1; subst e2; exact ⟨false, dat_bl hv, fun _ => nb⟩)
end
section
variable {P : Program} {w : World} {K : PySem.W.Frag} {mg : Str → Option Value} {base : Heap} {M : Ad}
def F_lawBlind (K : PySem.W.Frag) : List Pd → Pd → Prop := fun pds r => ∃ (T : Tb) (C : Nat), pds = [dat K (rowsL T), fewP K T C] ∧ Ok T C ∧ T.length < 1000 ∧ C ≤ 100 ∧ r = blindP T C
def F_lawBlind2 (K : PySem.W.Frag) : List Pd → Pd → Prop := fun pds r => ∃ (T : Tb) (C : Nat) (es : List Ent), pds = [dat K (rowsL T), dctP K es] ∧ Bfs T C (ksOf es) [] ∧ Ok T C ∧ T.length < 1000 ∧ C ≤ 100 ∧ r = blindP T C
abbrev NBlind : List Str := ["_law_steps", "_law_rows", "_law_one_here", "_law_state", "_law_least", "_law_command"]
theorem sc_lawBlind : FnScope NBlind ["_law_steps", "_law_rows"] (defScope sLawBlind) := ⟨rfl, rfl, rfl, by decide +kernel, rfl, by decide +kernel, by decide +kernel⟩
theorem eB_true {b : Bool} (h : eT b true) : b = true := Eq.symm h
theorem eB_false {b : Bool} (h : eT b false) : b = false := Eq.symm h
theorem cl_lawBlind (T : Tx K mg M) : Cl P w K mg base CX0 1 "_law_blind" ["_law_steps", "_law_rows"] (spP (F_lawBlind K)) := by
  refine Cl.mk' (d := dLawBlind) (T.df 36 _ rfl rfl rfl) (fun f fd F => fn_open (F2 := F_lawBlind2 K) F sc_lawBlind (fun pds r h => ?_) (fun pds r h => ?_) (fun G vs pds r h hv => ?_) fun cdv A outer s H E hr H0 pds r Q h q => ?_) (fun _ _ _ _ _ _ us hl => match us, hl with | [_, _], _ => rfl)
  · obtain ⟨t, C, e1, _⟩ := h
    subst e1; rfl
  · obtain ⟨t, C, e1, _, _, _, e2⟩ := h
    subst e2
    exact fun v G G' h => h
  · obtain ⟨t, C, e1, a, b, c, e2⟩ := h
    subst e1
    cases hv with
    | cons h1 h2 =>
      cases h2 with
      | cons h2 h3 =>
        cases h3
        obtain ⟨es, b1, b2, b3⟩ := h2
        exact ⟨_, .cons h1 (.cons b3 .nil), t, C, es, rfl, b1, a, b, c, e2⟩
  obtain ⟨t, C, es, e1, bf, ok, hn, hC, e2⟩ := h
  subst e1; subst e2
  refine rn_forP (qs := (ksOf es).map keyP) (n := 2) (passes_of rfl) rfl (xiP_list (x_listKeys rfl (pure_open rfl) T.list (nP 1))) (pg_name (i := 2) sc_lawBlind.nd rfl (Or.inl rfl))
    (fun wb i w' τ' => w' = wb ∧ (∀ j k, j < i → (ksOf es)[j]? = some k → okB t C k t.length) ∧ ∃ o2 o3 o4 o5, τ' = [some (dat K (rowsL t)), some (dctP K es), o2, o3, o4, o5])
    (fun wb lk => ⟨rfl, fun j k hj => absurd hj (Nat.not_lt_zero j), none, none, none, none, rfl⟩) (fun wb i w' τ' lk h => ⟨by rw [h.1]; exact lk.S, fun H h' => by rw [h.1] at h'; exact h'⟩)
    (fun wb i d w' τ' lk h hd => ?_) (fun wb w' τ' lk h => ?_)
  · obtain ⟨rfl, hj, o2, o3, o4, o5, rfl⟩ := h
    obtain ⟨k, hk, rfl⟩ : ∃ k, (ksOf es)[i]? = some k ∧ d = keyP k := by
      rw [List.getElem?_map] at hd
      cases z : (ksOf es)[i]? with
      | none => rw [z] at hd; cases hd
      | some k => rw [z] at hd; exact ⟨k, rfl, (Option.some.inj hd).symm⟩
    obtain ⟨kl, kb⟩ := bf.keys.ok k (List.mem_of_getElem? hk)
    refine rn_for (passes_of rfl) rfl (wi_range T.range (v_lenRows T.len (nD 0)) (by omega)) (pg_name (i := 3) sc_lawBlind.nd rfl (Or.inl rfl)) (tgr_name 3) (fun _ _ _ _ _ => trivial)
      (fun wb2 ds x w2 τ2 => w2 = wb2 ∧ okB t C k x ∧ ∃ o3 o4 o5, τ2 = [some (dat K (rowsL t)), some (dctP K es), some (keyP k), o3, o4, o5])
      (fun wb2 ds lk2 e => ⟨rfl, fun s hs => absurd hs (Nat.not_lt_zero s), _, _, _, rfl⟩) (fun wb i w' τ' t lk h => ⟨by rw [h.1]; exact lk.S, fun H h' => by rw [h.1] at h'; exact h'⟩)
      (fun wb2 ds x y w2 τ2 lk2 e h hx => ?_) (fun wb2 ds w2 τ2 lk2 e h => ?_)
    · obtain ⟨rfl, hb, o3, o4, o5, rfl⟩ := h
      subst e
      obtain ⟨hxn, rfl⟩ := rangeD_get hx
      have klt : k.getD x 0 < t.length := kb _ (by rw [List.getD, List.getElem?_eq_getElem (by omega)]; exact List.getElem_mem (by omega))
      refine rn_asg (i := 4) (P := eI K (k.getD x 0 : Nat)) (v_at (f := k) (by omega) (Xe.key (nP 2)) (.inl rfl) (nI 3)) (fun pd hp => ?_) sc_lawBlind.nd rfl (Or.inl rfl)
      obtain ⟨_, rfl, rfl⟩ := hp
      refine rn_for (A := fun y => y = rangeD C) (passes_of rfl) rfl (wi_range T.range (v_lenRow0 ok T.len (nD 0) (cN 0)) (by omega)) (pg_name (i := 5) sc_lawBlind.nd rfl (Or.inl rfl)) (tgr_name 5) (fun _ _ _ _ _ => trivial)
        (fun wb3 ds c w3 τ3 => w3 = wb3 ∧ (∀ c', c' < c → k.getD (stp t x c') 0 = k.getD (stp t (k.getD x 0) c') 0) ∧ ∃ o5, τ3 = [some (dat K (rowsL t)), some (dctP K es), some (keyP k), some (dat K (.int x)), some (dat K (.int (k.getD x 0 : Nat))), o5])
        (fun wb3 ds lk3 e => ⟨rfl, fun c hc => absurd hc (Nat.not_lt_zero c), _, rfl⟩) (fun wb i w' τ' t lk h => ⟨by rw [h.1]; exact lk.S, fun H h' => by rw [h.1] at h'; exact h'⟩)
        (fun wb3 ds c y w3 τ3 lk3 e h hx2 => ?_) (fun wb3 ds w3 τ3 lk3 e h => ?_)
      · obtain ⟨rfl, hb3, o5, rfl⟩ := h
        subst e
        obtain ⟨hc, rfl⟩ := rangeD_get hx2
        have h1 := ok.stp_lt hxn hc
        have h2 := ok.stp_lt klt hc
        refine rn_if (t_ne (v_at (f := k) (s := stp t x c) (by omega) (Xe.key (nP 2)) (.inl rfl) (v_stp ok hxn hc (nD 0) (.inr rfl) (nI 3) (nI 5))) (v_at (f := k) (s := stp t (k.getD x 0) c) (by omega) (Xe.key (nP 2)) (.inl rfl) (v_stp ok klt hc (nD 0) (.inr rfl) (nI 4) (nI 5)))) (fun h => ?_) (fun h => ?_)
        · exact rn_retP q ((((Up.rfl'.lk lk).lk lk2)).lk lk3) rfl (Xe.blindT (x_bl ⟨true, rfl, rfl⟩))
        · have h' := eB_false h
          have eq : k.getD (stp t x c) 0 = k.getD (stp t (k.getD x 0) c) 0 := by
            cases q2 : decide (((k.getD (stp t x c) 0 : Nat) : Int) = ((k.getD (stp t (k.getD x 0) c) 0 : Nat) : Int)) with
            | true => have := of_decide_eq_true q2; omega
            | false => rw [q2] at h'; cases h'
          refine rn_out (rn_nil fun σ H s => ⟨_, _, ⟨rfl, fun c' hc' => ?_, _, rfl⟩, s⟩)
          by_cases e : c' = c
          · subst e; exact eq
          · exact hb3 c' (by omega)
      · obtain ⟨rfl, hb3, o5, rfl⟩ := h
        subst e
        rw [rangeD_len] at hb3
        refine rn_nil fun σ H s => ⟨_, _, ⟨rfl, fun s1 hs1 c1 hc1 => ?_, _, _, _, rfl⟩, s.unlk lk3⟩
        by_cases e : s1 = x
        · subst e; exact hb3 c1 hc1
        · exact hb s1 (by omega) c1 hc1
    · obtain ⟨rfl, hb, o3, o4, o5, rfl⟩ := h
      subst e
      rw [rangeD_len] at hb
      refine rn_nil fun σ H s => ⟨_, _, ⟨rfl, fun j k' hj' hk' => ?_, _, _, _, _, rfl⟩, s.unlk lk2⟩
      by_cases e : j = i
      · subst e
        rw [hk] at hk'
        cases hk'
        exact hb
      · exact hj j k' (by omega) hk'
  · obtain ⟨rfl, hj, o2, o3, o4, o5, rfl⟩ := h
    rw [List.length_map] at hj
    refine rn_retP q (Up.rfl'.lk lk) rfl (Xe.blindF (x_bl ⟨false, rfl, rfl⟩) (nonblind_of ok bf.full (okB_all fun k hk => ?_)))
    obtain ⟨j, hjl, e⟩ := List.getElem_of_mem hk
    exact hj j k hjl (by rw [List.getElem?_eq_getElem hjl, e])
end
end Lt
namespace Lt
open PySem PySem.Spec PyProof.Rows L2
/-- few slips are kept: each command that changes no kernel ahead of it is free behind it -/
def Light (T : Tb) (C : Nat) : Prop := ∃ ks, Full T C ks ∧ heavy T C ks = false
/-- what _law_heavy tells: None only of a light machine -/
def heavyP (T : Tb) (C : Nat) : Pd := ⟨fun v _ => v = .non → Light T C, fun _ h => h⟩
def okH (T : Tb) (C : Nat) (k : List Nat) (i : Nat) : Prop := ∀ c, c < i → ahead T c k = k → freeB T C c k = true
theorem okH_all {T : Tb} {C : Nat} {ks : List (List Nat)} (h : ∀ k ∈ ks, okH T C k C) : heavy T C ks = false := by
  unfold heavy
  refine List.any_eq_false.mpr fun k hk => ?_
  rw [Bool.not_eq_true]
  refine List.any_eq_false.mpr fun c hc => ?_
  have h1 := h k hk c (List.mem_range.mp hc)
  by_cases e : ahead T c k = k
  · rw [h1 e]; simp
  · rw [decide_eq_false e]; simp
section
variable {X : Cx} {w : Vw} {e : Expr} {rest : List Stmt} {τ : Ty} {pos : Pos} {T : Tb} {C : Nat} {D : Ends}
theorem Xe.heavyT (h : Xe X w e τ (isD X.K fun d => ∃ ds, d = .tuple ds)) : Xe X w e τ (fun pd => pd = heavyP T C) := fun σ H s Q q =>
  h σ H s Q fun v pd H1 m i1 ⟨b, e1, ds, e2⟩ hv => q v (heavyP T C) H1 m i1 rfl (by
    subst e1; subst e2
    obtain ⟨p, vs, rfl, _⟩ := dat_tup hv
    exact fun z => by cases z)
theorem Xe.heavyF (h : Xe X w e τ (eD X.K .none)) (l : Light T C) : Xe X w e τ (fun pd => pd = heavyP T C) := fun σ H s Q q =>
  h σ H s Q fun v pd H1 m i1 _ hv => q v (heavyP T C) H1 m i1 rfl fun _ => l
/-- .. is None -/
theorem xt_isHv {k pos'} (ha : Xe X w e τ (fun pd => pd = heavyP T C)) : Xt X w (.Compare e [.Is] [.Constant .none k pos'] pos) τ (fun b => b = true → Light T C) := fun σ H s Q q =>
  tSem_of (pt_cmp (pc_isN pe_sem)) (ha σ H s _ fun va pa H1 e1 i1 ed h1 => by
    subst ed
    exact ⟨_, rfl, q _ H1 e1 i1 fun z => h1 (of_decide_eq_true z)⟩)
end
section
variable {P : Program} {w : World} {K : PySem.W.Frag} {mg : Str → Option Value} {base : Heap} {M : Ad}
def F_lawHeavy (K : PySem.W.Frag) : List Pd → Pd → Prop := fun pds r => ∃ (T : Tb) (C : Nat), pds = [dat K (rowsL T), fewP K T C] ∧ Ok T C ∧ T.length < 1000 ∧ C ≤ 100 ∧ r = heavyP T C
def F_lawHeavy2 (K : PySem.W.Frag) : List Pd → Pd → Prop := fun pds r => ∃ (T : Tb) (C : Nat) (es : List Ent), pds = [dat K (rowsL T), dctP K es] ∧ Bfs T C (ksOf es) [] ∧ Ok T C ∧ T.length < 1000 ∧ C ≤ 100 ∧ r = heavyP T C
abbrev NHeavy : List Str := ["_law_steps", "_law_rows", "_law_one_here", "_law_command", "_law_led_here", "_law_row", "_law_state"]
theorem sc_lawHeavy : FnScope NHeavy ["_law_steps", "_law_rows"] (defScope sLawHeavy) := ⟨rfl, rfl, rfl, by decide +kernel, rfl, by decide +kernel, by decide +kernel⟩
theorem cl_lawHeavy (T : Tx K mg M) : Cl P w K mg base CX0 2 "_law_heavy" ["_law_steps", "_law_rows"] (spP (F_lawHeavy K)) := by
  refine Cl.mk' (d := dLawHeavy) (T.df 38 _ rfl rfl rfl) (fun f fd F => fn_open (F2 := F_lawHeavy2 K) F sc_lawHeavy (fun pds r h => ?_) (fun pds r h => ?_) (fun G vs pds r h hv => ?_) fun cdv A outer s H E hr H0 pds r Q h q => ?_) (fun _ _ _ _ _ _ us hl => match us, hl with | [_, _], _ => rfl)
  · obtain ⟨t, C, e1, _⟩ := h
    subst e1; rfl
  · obtain ⟨t, C, e1, _, _, _, e2⟩ := h
    subst e2
    exact fun v G G' h => h
  · obtain ⟨t, C, e1, a, b, c, e2⟩ := h
    subst e1
    cases hv with
    | cons h1 h2 =>
      cases h2 with
      | cons h2 h3 =>
        cases h3
        obtain ⟨es, b1, b2, b3⟩ := h2
        exact ⟨_, .cons h1 (.cons b3 .nil), t, C, es, rfl, b1, a, b, c, e2⟩
  obtain ⟨t, C, es, e1, bf, ok, hn, hC, e2⟩ := h
  subst e1; subst e2
  have hu : A.units + 3 + 66 < cLine := by
    have z : A.units + 3 + 16 * 1 + 200 < cLine := hr.un
    omega
  refine rn_forP (qs := (ksOf es).map keyP) (n := 2) (passes_of rfl) rfl (xiP_list (x_listKeys rfl (pure_open rfl) T.list (nP 1))) (pg_name (i := 2) sc_lawHeavy.nd rfl (Or.inr rfl))
    (fun wb i w' τ' => w' = wb ∧ (∀ j k, j < i → (ksOf es)[j]? = some k → okH t C k C) ∧ ∃ o2 o3 o4, τ' = [some (dat K (rowsL t)), some (dctP K es), o2, o3, o4, none, none])
    (fun wb lk => ⟨rfl, fun j k hj => absurd hj (Nat.not_lt_zero j), none, none, none, rfl⟩) (fun wb i w' τ' lk h => ⟨by rw [h.1]; exact lk.S, fun H h' => by rw [h.1] at h'; exact h'⟩)
    (fun wb i d w' τ' lk h hd => ?_) (fun wb w' τ' lk h => ?_)
  · obtain ⟨rfl, hj, o2, o3, o4, rfl⟩ := h
    obtain ⟨k, hk, rfl⟩ : ∃ k, (ksOf es)[i]? = some k ∧ d = keyP k := by
      rw [List.getElem?_map] at hd
      cases z : (ksOf es)[i]? with
      | none => rw [z] at hd; cases hd
      | some k => rw [z] at hd; exact ⟨k, rfl, (Option.some.inj hd).symm⟩
    have hkm : k ∈ ksOf es := List.mem_of_getElem? hk
    obtain ⟨kl, kb⟩ := bf.keys.ok k hkm
    refine rn_for (A := fun y => y = rangeD C) (passes_of rfl) rfl (wi_range T.range (v_lenRow0 ok T.len (nD 0) (cN 0)) (by omega)) (pg_name (i := 3) sc_lawHeavy.nd rfl (Or.inr rfl)) (tgr_name 3) (fun _ _ _ _ _ => trivial)
      (fun wb2 ds c w2 τ2 => w2 = wb2 ∧ okH t C k c ∧ ∃ o3 o4, τ2 = [some (dat K (rowsL t)), some (dctP K es), some (keyP k), o3, o4, none, none])
      (fun wb2 ds lk2 e => ⟨rfl, fun s hs => absurd hs (Nat.not_lt_zero s), _, _, rfl⟩) (fun wb i w' τ' t lk h => ⟨by rw [h.1]; exact lk.S, fun H h' => by rw [h.1] at h'; exact h'⟩)
      (fun wb2 ds c y w2 τ2 lk2 e h hx => ?_) (fun wb2 ds w2 τ2 lk2 e h => ?_)
    · obtain ⟨rfl, hb, o3, o4, rfl⟩ := h
      subst e
      obtain ⟨hc, rfl⟩ := rangeD_get hx
      refine rn_asg (i := 4) (P := eD K (natsL (preA t c k))) (v_lc (own := [("_law_row", 5)]) (ds := t.map natsL) (ws := nats (preA t c k)) rfl sc_lawHeavy.nd (wi_list (nD 0)) (blkOk_by (N := NHeavy) (sc := defScope sLawHeavy) (by decide +kernel)) (fun _ _ _ _ _ => pg_name (i := 5) sc_lawHeavy.nd rfl (Or.inl rfl)) (tgr_name 5) (fun _ _ _ => trivial) (by rw [nats_len, preA_len, List.length_map]) (by rw [List.length_map]; omega) (fun j x r hx' hr' w4 _ _ => ?_)) (fun pd hp => ?_) sc_lawHeavy.nd rfl (Or.inr rfl)
      · obtain ⟨row, hrow, rfl⟩ := rows_inv hx'
        obtain ⟨m, hm, rfl⟩ := nats_inv hr'
        obtain ⟨r1, r2, r3⟩ := preA_at ok hc hrow hm
        intro s1 H1 C1 cl1 fp1
        exact Xe.toD (Xe.toJ (v_at (f := k) (s := row.getD c 0) (by omega) (Xe.key (nP 2)) (.inl rfl) (Xe.toI (v_ix (nD 5) (nI 3) (.inl rfl) (nats_get (getD_some r1))))) (by rw [r3]))
      obtain ⟨_, rfl, rfl⟩ := hp
      refine rn_if (T := eT (PyData.eqv (natsT (ahead t c k)) (natsT k) && !freeB t C c k)) (xt_p (t_and (xt_eqD (X := cxOf CX0 P w K mg base NHeavy dLawHeavy.qual dLawHeavy.scope f cdv A outer s H E) (A := fun y => y = natsT (ahead t c k)) (B := fun y => y = natsT k) (by show A.units + 3 + 64 < cLine; omega) (Xe.key (x_tupKey T.tuple (v_lc (own := [("_law_state", 6)]) (ds := nats (preA t c k)) (ws := nats (ahead t c k)) rfl sc_lawHeavy.nd (wi_list (nD 4)) (blkOk_by (N := NHeavy) (sc := defScope sLawHeavy) (by decide +kernel)) (fun _ _ _ _ _ => pg_name (i := 6) sc_lawHeavy.nd rfl (Or.inl rfl)) (tgr_name 6) (fun _ _ _ => trivial) (by rw [nats_len, nats_len, ahead_len, preA_len]) (by rw [nats_len, preA_len]; omega) (fun j x r hx' hr' w4 _ _ => ?_)))) (Xe.key (nP 2))
        (fun d f e1 e2 => by rw [e1, e2]; exact ⟨(Sh.tuple (n := 0) sh_nats).shaped, (Sh.tuple (n := 0) sh_nats).shaped⟩) (fun d f e1 e2 => by rw [e1, e2])) (fun _ => xp_and1 (t_notNP (x_clP (cl_lawClash T) hr (by decide) pass0 (ap_cons (nP 0) (ap_cons (nP 3) (ap_cons (Xe.eq (Xe.key (nP 2))) ap_nil))) fun pds e => ⟨_, ⟨t, C, c, k, natsT k, e, .inl rfl, ok, hc, kl, by omega, by omega, rfl⟩, rfl⟩))))) (fun h => ?_) (fun h => ?_)
      · obtain ⟨m, hm, rfl⟩ := nats_inv hx'
        obtain ⟨m2, hm2, rfl⟩ := nats_inv hr'
        obtain ⟨r1, r2⟩ := canon_look hm hm2
        intro s1 H1 C1 cl1 fp1
        exact Xe.toD (v_index (xs := preA t c k) (m := m) (k := m2) (by show A.units + 3 + 65 < cLine; omega) (nD 4) (nI 6) r1 r2)
      · exact rn_retP q ((Up.rfl'.lk lk).lk lk2) rfl (Xe.heavyT (x_tup (C := fun ds => ds.length = 2) (xd_cons (D := fun ds => ds.length = 1) (nD 3) (xd_cons (A := fun _ => True) (D := fun ds => ds.length = 0) (x_dgetP (X := cxOf CX0 P w K mg base NHeavy dLawHeavy.qual dLawHeavy.scope f cdv A outer s H E) (R := fun _ => True) (by show A.units + 3 + 1 < cLine; omega) (nP 1) (nP 2) hkm (fun _ _ => trivial)) (xd_nil rfl) (fun d ds _ e => by rw [List.length_cons, e])) (fun d ds _ e => by rw [List.length_cons, e])) (fun ds e => by rw [e]; decide) (fun ds e => ⟨ds, rfl⟩)))
      · have h' := eB_false h
        refine rn_out (rn_nil fun σ H s => ⟨_, _, ⟨rfl, fun c' hc' ea => ?_, _, _, rfl⟩, s⟩)
        by_cases e : c' = c
        · subst e
          have er : (natsT k).eqv (natsT k) = true := SeqAt.eqv_refl _ (Sh.tuple (n := 0) sh_nats).lay
          rw [ea, er] at h'
          cases z : freeB t C c' k with
          | true => rfl
          | false => rw [z] at h'; cases h'
        · exact hb c' (by omega) ea
    · obtain ⟨rfl, hb, o3, o4, rfl⟩ := h
      subst e
      rw [rangeD_len] at hb
      refine rn_nil fun σ H s => ⟨_, _, ⟨rfl, fun j k' hj' hk' => ?_, _, _, _, rfl⟩, s.unlk lk2⟩
      by_cases e : j = i
      · subst e
        rw [hk] at hk'
        cases hk'
        exact hb
      · exact hj j k' (by omega) hk'
  · obtain ⟨rfl, hj, o2, o3, o4, rfl⟩ := h
    rw [List.length_map] at hj
    refine rn_retP q (Up.rfl'.lk lk) rfl (Xe.heavyF (x_non ⟨_, rfl, rfl⟩) ⟨ksOf es, bf.full, okH_all fun k hk => ?_⟩)
    obtain ⟨j, hjl, e⟩ := List.getElem_of_mem hk
    exact hj j k hjl (by rw [List.getElem?_eq_getElem hjl, e])
end
end Lt
set_option maxHeartbeats 4000000
namespace Lt
open PySem PySem.Spec PyProof.Rows L2
section
variable {X : Cx} {w : Vw} {c e : Expr} {a b rest : List Stmt} {τ : Ty} {pos : Pos} {D : Ends} {t : Tb} {C : Nat}
/-- an if behind which the slots may differ -/
theorem rn_ifT {T : Bool → Prop} (J : Ty → Prop) (hc : Xt X w c τ T) (h1 : T true → (∀ τ1, J τ1 → Rn X w [] τ1 (aft X rest D)) → Rn X w a τ (aft X rest D)) (h2 : T false → (∀ τ1, J τ1 → Rn X w [] τ1 (aft X rest D)) → Rn X w b τ (aft X rest D)) (k : ∀ τ1, J τ1 → Rn X w rest τ1 D) : Rn X w (.If c a b pos :: rest) τ D :=
  rn_if hc (fun t => h1 t fun τ1 j => rn_out (k τ1 j)) fun t => h2 t fun τ1 j => rn_out (k τ1 j)
/-- what _law_blind tells, as a test -/
theorem xt_blind (h : Xe X w e τ (fun pd => pd = blindP t C)) (he : ∀ whole, isTrue e X.env whole = (do let v ← whole; standAt e.pos; holding [v] (truthy v)) := by intro _; rfl) : Xt X w e τ (fun b => b = false → NonBlind t C) := fun σ H s Q q =>
  tSem_of (pt_val pe_sem he) (h σ H s _ fun v pd H1 e1 i1 ek h1 => by
    subst ek
    obtain ⟨k, rfl, hk⟩ := h1
    exact ⟨k, rfl, q k H1 e1 i1 hk⟩)
/-- a number drawn, compared: nothing is known of the answer -/
theorem xt_eqAny {d : Expr} (h1 : Xe X w c τ (isI X.K fun _ => True)) (h2 : Xe X w d τ (isI X.K fun _ => True)) : Xt X w (.Compare c [.Eq] [d] pos) τ (fun _ => True) := xt_eqI h1 h2 fun _ _ _ _ => trivial
end
end Lt
set_option maxHeartbeats 400000
namespace Lt
open PySem PySem.Spec PyProof.Rows L2
def cols3 (pl : List Nat) : Tb := (pl.drop 1).map fun to => (List.range 3).map fun s => if s = pl.getD 0 0 then to else s
theorem cols3_ok {pl : List Nat} (h : pl.Perm [0, 1, 2]) : (cols3 pl).length = 2 ∧ ∀ c ∈ cols3 pl, c.length = 3 ∧ ∀ x ∈ c, x < 3 := by
  have l := h.length_eq
  refine ⟨by simp [cols3]; simp at l; omega, fun c hc => ?_⟩
  obtain ⟨to, hto, rfl⟩ := List.mem_map.mp hc
  have h3 : to < 3 := by
    have z : to = 0 ∨ to = 1 ∨ to = 2 := by simpa using h.mem_iff.mp (List.mem_of_mem_drop hto)
    omega
  refine ⟨by simp, fun x hx => ?_⟩
  obtain ⟨s, hs, rfl⟩ := List.mem_map.mp hx
  have := List.mem_range.mp hs
  split <;> omega
theorem bits4 {r : List Nat} (h : natsL r ∈ ([[0, 1], [0, 0], [1, 1], [1, 0]] : Tb).map natsL) : r.length = 2 ∧ ∀ x ∈ r, x < 2 := by
  have inj : ∀ {a b : List Nat}, natsL a = natsL b → a = b := by
    intro a b e
    have e' : nats a = nats b := by injection e
    have g : ∀ {a b : List Nat}, nats a = nats b → a = b := by
      intro a
      induction a with
      | nil => intro b e; cases b with
        | nil => rfl
        | cons _ _ => cases e
      | cons x a ih => intro b e; cases b with
        | nil => cases e
        | cons y b =>
          have e1 : PyData.int x :: nats a = PyData.int y :: nats b := e
          injection e1 with e2 e3
          injection e2 with e4
          rw [ih e3, show x = y by omega]
    exact g e'
  obtain ⟨q, hq, e⟩ := List.mem_map.mp h
  rw [← inj e]
  have z : q = [0, 1] ∨ q = [0, 0] ∨ q = [1, 1] ∨ q = [1, 0] := by simpa using hq
  rcases z with rfl | rfl | rfl | rfl <;> exact by decide
section
variable {P : Program} {w : World} {K : PySem.W.Frag} {mg : Str → Option Value} {base : Heap} {M : Ad}
abbrev NStock : List Str := ["_law_deal", "_law_most", "_law_odds", "_law_place", "_law_columns_here", "_law_turn", "_law_commands_here", "_law_steps", "_law_to", "_law_state", "_law_command"]
theorem sc_lawStock : FnScope NStock ["_law_deal", "_law_most", "_law_odds"] (defScope sLawStock) := ⟨rfl, rfl, rfl, by decide +kernel, rfl, by decide +kernel, by decide +kernel⟩
theorem cl_lawStock (T : Tx K mg M) : Cl P w K mg base CX0 5 "_law_stock" ["_law_deal", "_law_most", "_law_odds"] (spDl (ι := Unit) (fun _ => [dat K (.int 4), dat K (.int 3)]) (fun _ => True) (fun _ => B_stock K)) := by
  refine Cl.mk' (d := dLawStock) (T.df 32 _ rfl rfl rfl) (fun f0 fd F => fn_dl F sc_lawStock (fun i => rfl) fun cdv Ar outer s H E hr S d l hd hl H0 i Q h q => ?_) (fun _ _ _ _ _ _ us hl => match us, hl with | [_, _, _], _ => rfl)
  refine rn_if (xt_eqAny (x_dl (P := isI K fun _ => True) 4 (cl_lawAny T) hr (by decide) pass0 rfl rfl (ap_cons (nO 0) (ap_cons (Xe.eqI (cI 4)) ap_nil)) ⟨by decide, by decide⟩ fun r ⟨k, e, _⟩ => ⟨_, e, trivial⟩) (Xe.imp (cI 0) fun pd ⟨i, e, _⟩ => ⟨i, e, trivial⟩)) (fun _ => ?_) (fun _ => rn_out ?_)
  · exact rn_retDl q .rfl' rfl (x_dl () (cl_lawGuard T) hr (by decide) pass0 rfl rfl (ap_cons (nO 0) ap_nil) trivial fun r h => h)
  refine rn_if (xt_eqAny (x_dl (P := isI K fun _ => True) 3 (cl_lawAny T) hr (by decide) pass0 rfl rfl (ap_cons (nO 0) (ap_cons (nP 2) ap_nil)) ⟨by decide, by decide⟩ fun r ⟨k, e, _⟩ => ⟨_, e, trivial⟩) (Xe.imp (cI 0) fun pd ⟨i, e, _⟩ => ⟨i, e, trivial⟩)) (fun _ => ?_) (fun _ => rn_out ?_)
  · refine rn_asg (i := 3) (P := fun pd => ∃ pl : List Nat, pd = dat K (natsL pl) ∧ pl.Perm [0, 1, 2]) (x_dl (natsL [0, 1, 2], nats [0, 1, 2]) (cl_lawMixed T) hr (by decide) pass0 rfl rfl (ap_cons (nO 0) (ap_cons (Xe.eq (v_natsL (aN_cons (cN 0) (aN_cons (cN 1) (aN_cons (cN 2) aN_nil))))) ap_nil)) ⟨⟨.inl rfl⟩, by decide, fun x hx => (sh_nats x hx).mono (by decide)⟩ fun r ⟨es, pm, e⟩ => ?_) (fun pd hp => ?_) sc_lawStock.nd rfl (Or.inr rfl)
    · obtain ⟨ys, py, rfl⟩ := perm_nats pm
      exact ⟨ys, e, py⟩
    obtain ⟨pl, rfl, hpl⟩ := hp
    have pll : pl.length = 3 := hpl.length_eq
    obtain ⟨c2, c3⟩ := cols3_ok hpl
    refine rn_asgL (i := 4) (P := eD K (rowsL (cols3 pl))) (v_lcL (own := [("_law_to", 8)]) (ds := (nats pl).drop 1) (ws := (cols3 pl).map natsL) rfl sc_lawStock.nd (wi_list (v_backL (nD 3) (cN 1) (by rw [nats_len]; omega))) (blkOk_by (N := NStock) (sc := defScope sLawStock) (by decide +kernel)) (fun _ _ _ _ _ => pg_name (i := 8) sc_lawStock.nd rfl (Or.inr rfl)) (tgr_name 8) (fun _ _ _ => trivial) (by rw [List.length_map, List.length_drop, nats_len]; omega) (by rw [List.length_drop, nats_len]; omega) (fun j x r hx' hr' w' _ _ => ?_)) (fun pd hp => ?_) sc_lawStock.nd rfl rfl (sw_true rfl rfl rfl (by decide +kernel))
    · rw [List.getElem?_drop] at hx'
      obtain ⟨to, hto, rfl⟩ := nats_inv hx'
      obtain ⟨row, hrow, rfl⟩ := rows_inv hr'
      have er : row = (List.range 3).map fun s => if s = pl.getD 0 0 then to else s := by
        unfold cols3 at hrow
        rw [List.getElem?_map, List.getElem?_drop, hto] at hrow
        exact (Option.some.inj hrow).symm
      subst er
      intro s1 H1 C1 cl1 fp1
      exact v_lcR (g := fun s => if s = pl.getD 0 0 then to else s) (j := 9) rfl sc_lawStock.nd T.range (cN 3) (by omega) (blkOk_in (N := NStock) sLawStock rfl (by decide +kernel)) (fun _ _ _ _ _ => pg_name (i := 9) sc_lawStock.nd rfl (Or.inl rfl)) (fun i hi w2 _ _ s2 H2 C2 cl2 fp2 => v_if (u := decide ((i : Int) = (pl.getD 0 0 : Nat))) (t_eq (nI 9) (v_at (f := pl) (s := 0) (by omega) (nD 3) (.inr rfl) (cN 0))) (fun h => (nI 8).toJ (by have := of_decide_eq_true h; rw [if_pos (by omega)])) (fun h => (nI 9).toJ (by have := of_decide_eq_false h; rw [if_neg (by omega)])))
    obtain ⟨_, rfl, rfl⟩ := hp
    have hne : cols3 pl ≠ [] := fun z => by rw [z] at c2; simp at c2
    refine rn_retDl q .rfl' rfl (Xe.imp (P := eD K (stockD 2 (trn (cols3 pl) 3) [0, 1])) (v_tup (a_cons (cN 2).toD (a_cons (Xe.ofP (x_clP (P := fun pd => pd = dat K (rowsL (trn (cols3 pl) 3))) (cl_lawCols T) hr (by decide) pass0 (ap_cons (nP 4) ap_nil) fun pds e => ⟨_, ⟨cols3 pl, 3, e, hne, fun x hx => (c3 x hx).1, by omega, by omega, rfl⟩, rfl⟩)) (a_cons (v_natsT (aN_cons (cN 0) (aN_cons (cN 1) aN_nil))) a_nil))) (by show 3 ≤ 1000; decide)) fun pd ⟨y, e1, e2⟩ => ⟨trn (cols3 pl) 3, 2, [0, 1], ?_, by decide, by rw [trn_len]; decide, fun c hc => by
      have z : c = 0 ∨ c = 1 := by simpa using hc
      omega, by decide, by rw [e1, e2]⟩)
    rw [← c2]
    exact trn_ok hne (by decide) c3
  refine rn_for (passes_of rfl) rfl (wi_range (n := 4) T.range (cI 4) (by decide)) (pg_name (i := 5) sc_lawStock.nd rfl (Or.inl rfl)) (tgr_name 5) (fun _ _ _ _ _ => trivial)
    (fun wb ds i w' τ' => w' = wb ∧ ∃ o5 o6 o7, τ' = [some (is (.ref d)), some (dat K (.int 4)), some (dat K (.int 3)), none, none, o5, o6, o7, none, none, none])
    (fun wb ds lk e => ⟨rfl, none, none, none, rfl⟩) (fun wb ds i w' τ' lk h => ⟨by rw [h.1]; exact lk.S, fun H h' => by rw [h.1] at h'; exact h'⟩)
    (fun wb ds i x w' τ' lk e h hx => ?_) (fun wb ds w' τ' lk e h => ?_)
  · obtain ⟨rfl, o5, o6, o7, rfl⟩ := h
    have dM : w'.M = [d, l] := lk.M
    have dk : w'.ok = DealAt d l := lk.ok
    refine rn_unpA (A := fun qs => ∃ ds, qs = ds.map (dat K) ∧ ∃ t C, Ok t C ∧ C ≤ 3 ∧ t.length ≤ 4 ∧ ds = [.int (C : Nat), rowsL t]) rfl (Xe.tupD (x_dl 4 (cl_lawMach T) hr (by decide) pass0 dM dk (ap_cons (nO 0) (ap_cons (nP 1) ap_nil)) ⟨by decide, by decide⟩ fun r ⟨t, C, h1, h2, h3, e⟩ => ⟨_, e, _, rfl, t, C, h1, h2, h3, rfl⟩)) (js := [6, 7]) (.cons (pg_name (i := 6) sc_lawStock.nd rfl (Or.inl rfl)) (.cons (pg_name (i := 7) sc_lawStock.nd rfl (Or.inl rfl)) .nil rfl) rfl) rfl (fun qs ⟨ds, e, t, C, _, _, _, e2⟩ => by rw [e, e2]; rfl) (fun qs hqs => ?_)
    obtain ⟨_, rfl, t, C, ok, hC, hn, rfl⟩ := hqs
    refine rn_ifT (fun τ1 => ∃ t2, Ok t2 C ∧ t2.length ≤ 6 ∧ ∃ o5, τ1 = [some (is (.ref d)), some (dat K (.int 4)), some (dat K (.int 3)), none, none, o5, some (dat K (.int C)), some (dat K (rowsL t2)), none, none, none]) (T := fun b => b = true → t.length < 4) (xt_p (xp_and (TA' := eT (decide ((t.length : Int) < 4))) (TB := fun _ => True) (t_lt (v_lenRows T.len (nD 7)) (cI 4)) (fun _ => xp_and1 (xt_eqAny (x_dl (P := isI K fun _ => True) 2 (cl_lawAny T) hr (by decide) pass0 dM dk (ap_cons (nO 0) (ap_cons (Xe.eqI (cI 2)) ap_nil)) ⟨by decide, by decide⟩ fun r ⟨k, e, _⟩ => ⟨_, e, trivial⟩) (Xe.imp (cI 0) fun pd ⟨i, e, _⟩ => ⟨i, e, trivial⟩))) (fun _ z => by cases z) (fun z k _ _ => by have := of_decide_eq_true z.symm; omega))) (fun h j => ?_) (fun _ j => ?_) (fun τ1 h1 => ?_)
    · have hn4 := h rfl
      refine rn_asg (i := 7) (P := fun pd => ∃ t2, Ok t2 C ∧ t2.length ≤ 6 ∧ pd = dat K (rowsL t2)) (x_clP (PA' := fun pds => ∃ bits, Bits C bits ∧ pds = [dat K (rowsL t), dat K (rowsL bits)]) (cl_lawBeside T) hr (by decide) pass0 (xa_cons (PB := fun qs => ∃ bits, Bits C bits ∧ qs = [dat K (rowsL bits)]) (nP 7) (xa_cons (PA' := fun pd => ∃ bits, Bits C bits ∧ pd = dat K (rowsL bits)) (PB := fun qs => qs = []) (Xe.imp (x_lc (own := [("_law_command", 10)]) (A := fun y => y = rangeD C) (C := fun d => ∃ bits, Bits C bits ∧ d = rowsL bits) rfl sc_lawStock.nd (wi_range T.range (nI 6) (by omega)) (blkOk_by (N := NStock) (sc := defScope sLawStock) (by decide +kernel)) (fun _ _ _ _ _ => pg_name (i := 10) sc_lawStock.nd rfl (Or.inl rfl)) (tgr_name 10) (by simp)
        (fun _ i acc => ∃ c : Tb, acc = c.map natsL ∧ c.length = i ∧ (∀ x ∈ c, x.length = 2 ∧ ∀ y ∈ x, y < 2) ∧ i ≤ C) (fun _ _ _ b => b = true) (fun ds e => ⟨[], rfl, rfl, fun _ h => (nomatch h), Nat.zero_le _⟩) (fun ds i acc ⟨c, e1, e2, e3, e4⟩ => ?_) (fun _ _ _ _ _ => trivial) (fun _ _ _ _ _ _ _ w' _ _ => rfl) (fun ds i acc x e hi hx hT w2 m1 m2 => ?_) (fun _ _ _ _ _ _ _ h => by cases h) (fun ds acc e hi => ?_)) (fun pd ⟨y, e1, c, hc, e2⟩ => ⟨c, hc, by rw [e1, e2]; rfl⟩)) ap_nil (fun p ps ⟨c, h1, e⟩ e2 => ⟨c, h1, by rw [e, e2]⟩)) (fun p ps e1 ⟨c, h1, e⟩ => ⟨c, h1, by rw [e1, e]⟩)) fun pds ⟨bits, hb, e⟩ => ⟨_, ⟨t, C, bits, e, ok, hb, by omega, by omega, rfl⟩, beside bits t, beside_ok ok hb, by rw [beside_len]; omega, rfl⟩) (fun pd hp => ?_) sc_lawStock.nd rfl (Or.inl rfl)
      · rw [e1, List.length_map, e2]
        exact Nat.lt_of_le_of_lt (Nat.le_trans e4 hC) (by decide)
      · subst e
        obtain ⟨hi', rfl⟩ := rangeD_get hx
        obtain ⟨c, e1, e2, e3, e4⟩ := hi
        intro s1 H1 C1 cl1 fp1
        refine x_dl (rowsL [[0, 1], [0, 0], [1, 1], [1, 0]], ([[0, 1], [0, 0], [1, 1], [1, 0]] : Tb).map natsL) (cl_lawOf T) hr (by decide) pass0 (m1.trans dM) (m2.trans dk) (ap_cons (nO 0) (ap_cons (Xe.eq (v_rowsL (aR_cons (v_natsL (aN_cons (cN 0) (aN_cons (cN 1) aN_nil))) (aR_cons (v_natsL (aN_cons (cN 0) (aN_cons (cN 0) aN_nil))) (aR_cons (v_natsL (aN_cons (cN 1) (aN_cons (cN 1) aN_nil))) (aR_cons (v_natsL (aN_cons (cN 1) (aN_cons (cN 0) aN_nil))) aR_nil)))))) ap_nil)) ⟨⟨.inl rfl⟩, by decide, by decide⟩ fun r ⟨y, hy, e5⟩ => ?_
        obtain ⟨b, hb, rfl⟩ := List.mem_map.mp hy
        have hb' := bits4 hy
        refine ⟨_, e5, c ++ [b], by rw [e1, List.map_append]; rfl, by rw [List.length_append, e2]; rfl, fun x hx => ?_, hi'⟩
        rcases List.mem_append.mp hx with hx | hx
        · exact e3 x hx
        · rw [List.mem_singleton.mp hx]; exact hb'
      · subst e
        rw [rangeD_len] at hi
        obtain ⟨c, e1, e2, e3, e4⟩ := hi
        exact ⟨c, ⟨e2, e3⟩, by rw [e1]; rfl⟩
      · obtain ⟨t2, h2, h3, rfl⟩ := hp
        exact j _ ⟨t2, h2, h3, _, rfl⟩
    · exact j _ ⟨t, ok, by omega, _, rfl⟩
    · obtain ⟨t2, ok2, hn2, o5', rfl⟩ := h1
      refine rn_if (T := fun _ => True) (xt_p (xp_or (TA' := fun _ => True) (TB := fun _ => True) (xt_eqAny (x_dl (P := isI K fun _ => True) 8 (cl_lawAny T) hr (by decide) pass0 dM dk (ap_cons (nO 0) (ap_cons (Xe.eqI (cI 8)) ap_nil)) ⟨by decide, by decide⟩ fun r ⟨k, e, _⟩ => ⟨_, e, trivial⟩) (Xe.imp (cI 0) fun pd ⟨i, e, _⟩ => ⟨i, e, trivial⟩)) (fun _ => xp_or1 (xt_not (xt_blind (t := t2) (C := C) (x_clP (cl_lawBlind T) hr (by decide) pass0 (ap_cons (nP 7) (ap_cons (x_clP (P := fun pd => pd = fewP K t2 C) (cl_lawFew T) hr (by decide) pass0 (ap_cons (nP 7) ap_nil) fun pds e => ⟨_, ⟨t2, C, e, ok2, hn2, by omega, rfl⟩, rfl⟩) ap_nil)) fun pds e => ⟨_, ⟨t2, C, e, ok2, by omega, by omega, rfl⟩, rfl⟩)) fun _ _ => trivial)) (fun _ => trivial) (fun _ _ _ => trivial))) (fun _ => ?_) (fun _ => rn_out ?_)
      · refine rn_retDl q (Up.rfl'.lk lk) rfl (Xe.imp (P := eD K (stockD C t2 [])) (v_tup (a_cons (nD 6) (a_cons (nD 7) (a_cons (v_natsT aN_nil) a_nil))) (by show 3 ≤ 1000; decide)) fun pd ⟨y, e1, e2⟩ => ⟨t2, C, [], ok2, by omega, hn2, fun _ h => (nomatch h), by decide, by rw [e1, e2]⟩)
      · exact rn_nil fun σ H s => ⟨_, _, ⟨rfl, _, _, _, rfl⟩, s⟩
  · obtain ⟨rfl, o5, o6, o7, rfl⟩ := h
    refine rn_retDl q (Up.rfl'.lk lk) rfl (Xe.imp (P := eD K (stockD 2 [[0, 1], [0, 1]] [])) (v_tup (a_cons (cN 2).toD (a_cons (v_rowsL (aR_cons (v_natsL (aN_cons (cN 0) (aN_cons (cN 1) aN_nil))) (aR_cons (v_natsL (aN_cons (cN 0) (aN_cons (cN 1) aN_nil))) aR_nil))) (a_cons (v_natsT aN_nil) a_nil))) (by show 3 ≤ 1000; decide)) fun pd ⟨y, e1, e2⟩ => ⟨[[0, 1], [0, 1]], 2, [], ⟨by decide, by decide, by decide⟩, by decide, by decide, fun _ h => (nomatch h), by decide, by rw [e1, e2]⟩)
end
end Lt
namespace Lt
open PySem PySem.Spec PyProof.Rows L2
def intsD (ns : List Int) : List PyData := ns.map .int
def cellsN (ns : List Int) : List Nat := (ns.take 48).map Int.natAbs
/-- a new deal -/
def spDraw (K : PySem.W.Frag) : Sp := fun vs H Q _ => ∃ (S : List Addr) (ns : List Int), Live S H ∧ PdAll (hid S H) vs [dat K (.list (intsD ns)), dat K (.int 24)] ∧ ns.length ≤ 1000 ∧
  ∀ d l H', Same H H' → H d = none → H l = none → DealAt d l H' → Q (.ref d) H'
section
variable {X : Cx} {w : Vw} {e a : Expr} {τ : Ty} {pos : Pos} {ds : List PyData} {rest : List Stmt} {D : Ends}
/-- xs[::-1], new -/
theorem xf_revL {k : Nat} {p1 p2 p3 : Pos} (ha : Xe X w a τ (eD X.K (.list ds))) : Xf X w (.Subscript a (.Slice none none (some (.UnaryOp .USub (.Constant (.int 1) k p1) p2)) p3) pos) τ (fun c => c = Ct.lst X.K ds.reverse) := fun σ H s Q q =>
  eSem_of (pe_revL pe_sem) (ha σ H s _ fun v pd H1 e1 i1 ⟨y, ey, ec⟩ hv => by
    subst ey; subst ec
    obtain ⟨p, vs, rfl, hs, da⟩ := dat_lst hv
    exact ⟨p, vs, rfl, sql_same (hid_sub _ _) hs, fun p np => q p _ _ H1 e1 i1 np rfl ⟨_, rfl, dpa_rev da⟩⟩)
/-- return [(new), a number] -/
theorem rn_retDraw {S : List Addr} {H0 : Hp} {Q : VK} {ns : List Nat} {b : Nat} {e1 e2 : Expr} {p2 : Pos} (hl : ns.length ≤ 1000) (q : ∀ d l H', Same H0 H' → H0 d = none → H0 l = none → DealAt d l H' → Q (.ref d) H') (u : Up (Vw.pure S H0) w) (hD : D.rt = Q) (h1 : Xf X w e1 τ (fun c => c = Ct.lst X.K (nats ns)))
    (h2 : ∀ w' : Vw, Xe X w' e2 τ (eI X.K b)) (hs1 : starEach [e1, e2] X.env = (false, eval e1 X.env) :: starEach [e2] X.env := by rfl) (hs2 : starEach [e2] X.env = (false, eval e2 X.env) :: starEach [] X.env := by rfl) :
    Rn X w (.Return (some (.List [e1, e2] p2)) pos :: rest) τ D := fun σ H s =>
  cons_of (ps_ret (pe_lst (pa_cons pe_sem (pa_cons pe_sem pa_nil hs2) hs1))) (h1 σ H s _ fun l o c H1 m1 i1 nl ec hco => by
    subst ec
    have s1 := s.move m1 i1
    have n1 := s1.notin nl
    have n2 : ¬ l ∈ w.M ∧ ∀ {H : Hp} {o : HO}, w.J H → w.J (upd H l o) := w.jnw i1.1 nl
    have s2 : Sv (w.add l (Ct.lst X.K (nats ns)) n1 n2) (upd H1 l o) σ τ := s1.add nl ((Ct.lst X.K (nats ns)).st (hid_more nl (same_upd nl)) hco) n1 n2
    refine h2 (w.add l (Ct.lst X.K (nats ns)) n1 n2) σ _ s2 _ fun v pd H2 m2 i2 ⟨z, e3, e4⟩ hv => ?_
    subst e3; subst e4
    have ev : v = .int b := dat_int hv
    subst ev
    refine ⟨by show 2 ≤ sizeLine; decide, fun d nd => ?_⟩
    obtain ⟨ob, hob, vs, rfl, da⟩ := i2.2 (l, Ct.lst X.K (nats ns)) List.mem_cons_self
    have evs := dpa_natV (K := X.K) da
    subst evs
    have sm1 : Same H0 H1 := u.J i1.1
    have sm2 : Same H0 H2 := u.J i2.1
    have no : ∀ {p : Addr} {H' : Hp}, Same H0 H' → H' p = none → H0 p = none := fun {p H'} sm n => by
      cases z : H0 p with
      | none => rfl
      | some o => rw [sm _ _ z] at n; cases n
    rw [hD]
    have dl : l ≠ d := fun z => by rw [z, nd] at hob; cases hob
    refine q d l _ (sm2.trans (same_upd nd)) (no sm2 nd) (no sm1 nl) ⟨b, ns, upd_same, by rw [upd_ne dl]; exact hob, hl⟩)
end
theorem rn_run {X : Cx} {w : Vw} {sts : List Stmt} {τ : Ty} {D : Ends} {σ : L2.St} {H : Hp} (h : Rn X w sts τ D) (s : Sv w H σ τ) : ssSem X sts D σ H := h σ H s
section
variable {P : Program} {w : World} {K : PySem.W.Frag} {mg : Str → Option Value} {base : Heap} {M : Ad}
abbrev NDraw : List Str := ["_law_script", "_law_salt", "_law_cell", "_law_cells", "_law_blend"]
theorem sc_lawDraw : FnScope NDraw ["_law_script", "_law_salt"] (defScope sLawDraw) := ⟨rfl, rfl, rfl, by decide +kernel, rfl, by decide +kernel, by decide +kernel⟩
theorem take_snocN {l : List Nat} {i m : Nat} (h : l[i]? = some m) : l.take (i + 1) = l.take i ++ [m] := by rw [List.take_add_one, h]; rfl
theorem ten18 : ((10 : Int) ^ (18 : Int).toNat) = ((1000000000000000000 : Nat) : Int) := by decide
theorem cl_lawDraw (T : Tx K mg M) : Cl P w K mg base CX0 1 "_law_draw" ["_law_script", "_law_salt"] (spDraw K) := by
  refine Cl.mk' (d := dLawDraw) (T.df 23 _ rfl rfl rfl) (fun f fd F => F.ok sc_lawDraw (fun vs H Q E ⟨S, ns, _, hv, _⟩ => by
    have z : vs.length = 2 := Paired.length hv
    exact z) (fun cdv A outer s H vs Q E hr h => ⟨_, pss_sem, ?_⟩)) (fun _ _ _ _ _ _ us hl => match us, hl with | [_, _], _ => rfl)
  obtain ⟨S, ns, lv, hv, hl, q⟩ := h
  refine rn_run (X := cxOf CX0 P w K mg base NDraw dLawDraw.qual dLawDraw.scope f cdv A outer s H E) (w := Vw.pure S H) (sts := dLawDraw.body) (τ := startT NDraw.length [dat K (.list (intsD ns)), dat K (.int 24)]) (D := fin Q) ?_ (sv_start lv i_pure hv)
  have cl : (cellsN ns).length ≤ 48 := by unfold cellsN; rw [List.length_map, List.length_take]; omega
  refine rn_asgL (i := 3) (P := eD K (natsL (cellsN ns))) (v_lcL (own := [("_law_cell", 2)]) (ds := (intsD ns).take 48) (ws := nats (cellsN ns)) rfl sc_lawDraw.nd (wi_list (v_frontL (nD 0) (cN 48))) (blkOk_by (N := NDraw) (sc := defScope sLawDraw) (by decide +kernel)) (fun _ _ _ _ _ => pg_name (i := 2) sc_lawDraw.nd rfl (Or.inl rfl)) (tgr_name 2) (fun _ _ _ => trivial) (by rw [nats_len]; unfold cellsN intsD; rw [List.length_map, List.length_take, List.length_take, List.length_map]) (by rw [List.length_take]; omega) (fun j x r hx' hr' w' _ _ => ?_)) (fun pd hp => ?_) sc_lawDraw.nd rfl rfl (sw_true rfl rfl rfl (by decide +kernel))
  · obtain ⟨m, hm, rfl⟩ := nats_inv hr'
    unfold cellsN at hm
    unfold intsD at hx'
    rw [← List.map_take, List.getElem?_map] at hx'
    rw [List.getElem?_map] at hm
    cases z : (ns.take 48)[j]? with
    | none => rw [z] at hm; cases hm
    | some i =>
      rw [z] at hm hx'
      have e1 := Option.some.inj hm
      have e2 := Option.some.inj hx'
      subst e2
      intro s1 H1 C1 cl1 fp1
      exact Xe.toD (x_absOf T.abs (x_intOf T.int (nI 2) (fun y h => h)) (fun y e => by
        rw [e, ← e1]
        split <;> omega))
  obtain ⟨_, rfl, rfl⟩ := hp
  refine rn_asg (i := 4) (P := eI K ((2521415 : Nat) : Int)) ((v_add (cI 7919) (x_mul (C := fun y => y = 2513496) (cI 104729) (nI 1) (fun i j e1 e2 => .inl (by rw [e1]; decide)) (fun i j e1 e2 => by rw [e1, e2]; rfl))).toJ (by decide)) (fun pd hp => ?_) sc_lawDraw.nd rfl (Or.inl rfl)
  obtain ⟨_, rfl, rfl⟩ := hp
  refine rn_for (passes_of rfl) rfl (wi_list (ds := nats (cellsN ns)) (nD 3)) (pg_name (i := 2) sc_lawDraw.nd rfl (Or.inl rfl)) (tgr_name 2) (fun _ _ _ _ _ => trivial)
    (fun wb ds i w' τ' => w' = wb ∧ ∃ (b : Nat) (o2 : Option Pd), b < 2147483647 ∧ τ' = [some (dat K (.list (intsD ns))), some (dat K (.int 24)), o2, some (dat K (natsL (cellsN ns))), some (dat K (.int b))])
    (fun wb ds lk e => ⟨rfl, 2521415, none, by decide, rfl⟩) (fun wb ds i w' τ' lk h => ⟨by rw [h.1]; exact lk.S, fun H h' => by rw [h.1] at h'; exact h'⟩)
    (fun wb ds i x w' τ' lk e h hx => ?_) (fun wb ds w' τ' lk e h => ?_)
  · obtain ⟨rfl, b, o2, hb, rfl⟩ := h
    subst e
    obtain ⟨m, hm, rfl⟩ := nats_inv hx
    refine rn_asg (i := 4) (P := eI K (((b * 48271 + m % 2147483549 + 11) % 2147483647 : Nat) : Int)) (v_modN (y := 2147483647) (v_int T.int (v_addN (y := 11) (v_addN (x_mul (C := fun y => y = ((b * 48271 : Nat) : Int)) (nI 4) (cI 48271) (fun i j e1 e2 => .inr (by rw [e2]; decide)) (fun i j e1 e2 => by rw [e1, e2]; omega)) (v_modN (y := 2147483549) (nI 2) (cI 2147483549) (by decide))) (cI 11))) (cI 2147483647) (by decide)) (fun pd hp => ?_) sc_lawDraw.nd rfl (Or.inl rfl)
    obtain ⟨_, rfl, rfl⟩ := hp
    exact rn_nil fun σ H s => ⟨_, _, ⟨rfl, _, _, Nat.mod_lt _ (by decide), rfl⟩, s⟩
  · obtain ⟨rfl, b, o2, hb, rfl⟩ := h
    refine rn_retDraw (X := cxOf CX0 P w K mg base NDraw dLawDraw.qual dLawDraw.scope f cdv A outer s H E) (ns := ((cellsN ns).filter fun m => decide (1000000000000000000 ≤ m)).reverse) (b := b) (by rw [List.length_reverse]; exact Nat.le_trans (List.length_filter_le _ _) (by omega)) q (Up.rfl'.lk lk) rfl ?_ (fun w' => nI 4)
    have er : nats ((cellsN ns).filter fun m => decide (1000000000000000000 ≤ m)).reverse = (nats ((cellsN ns).filter fun m => decide (1000000000000000000 ≤ m))).reverse := by simp [nats]
    rw [er]
    refine xf_revL (x_lc (own := [("_law_cell", 2)]) (A := fun y => y = nats (cellsN ns)) (C := fun d => d = .list (nats ((cellsN ns).filter fun m => decide (1000000000000000000 ≤ m)))) rfl sc_lawDraw.nd (wi_list (nD 3)) (blkOk_by (N := NDraw) (sc := defScope sLawDraw) (by decide +kernel)) (fun _ _ _ _ _ => pg_name (i := 2) sc_lawDraw.nd rfl (Or.inl rfl)) (tgr_name 2) (by simp)
      (fun _ i acc => acc = nats (((cellsN ns).take i).filter fun m => decide (1000000000000000000 ≤ m))) (fun ds i _ b => ∃ m, (cellsN ns)[i]? = some m ∧ b = decide (1000000000000000000 ≤ m)) (fun ds e => by rw [List.take_zero]; rfl) (fun ds i acc e => ?_) (fun _ _ _ _ _ => trivial) (fun ds i acc x e hi hx w2 _ _ => ?_) (fun ds i acc x e hi hx hT w2 _ _ => ?_) (fun ds i acc x e hi hx hT => ?_) (fun ds acc e hi => ?_))
    · rw [e, nats_len]
      have z : ((cellsN ns).take i).length ≤ 48 := by rw [List.length_take]; omega
      exact Nat.lt_of_le_of_lt (Nat.le_trans (List.length_filter_le _ _) z) (by decide)
    · subst e
      obtain ⟨m, hm, rfl⟩ := nats_inv hx
      intro s1 H1 C1 cl1 fp1
      refine Xt.imp (t_ge (nI 2) (x_pow (C := fun y => y = ((1000000000000000000 : Nat) : Int)) (cI 10) (cI 18) (fun i j e1 e2 => by rw [e1, e2]; exact ⟨by decide, by decide, by decide⟩) (fun i j e1 e2 => by rw [e1, e2]; exact ten18))) fun b hb => ⟨m, hm, ?_⟩
      rw [hb]
      exact decide_eq_decide.mpr (by omega)
    · subst e
      obtain ⟨m, hm, rfl⟩ := nats_inv hx
      obtain ⟨m', hm', hd⟩ := hT
      rw [hm] at hm'
      cases hm'
      intro s1 H1 C1 cl1 fp1
      refine Xe.imp (P := eD K (.int (m : Nat))) (nD 2) fun pd ⟨y, e1, e2⟩ => ⟨y, e1, ?_⟩
      rw [e2, hi, take_snocN hm, List.filter_append, nats_app]
      simp [hd.symm, nats]
    · obtain ⟨m', hm', hd⟩ := hT
      rw [hi, take_snocN hm', List.filter_append]
      simp [hd.symm]
    · subst e
      rw [nats_len, List.take_length] at hi
      rw [hi]
end
end Lt
set_option maxHeartbeats 4000000
namespace Lt
open PySem PySem.Spec PyProof.Rows L2
/-! ### an instance of one's own -/
def Ct.ins (C dx : Addr) (ns : List Str) (pds : List Pd) : Ct := ⟨fun o G => ∃ vs, o = .ins C dx (ns.zip vs) ∧ PdAll G vs pds, fun e ⟨vs, a, b⟩ => ⟨vs, a, pda_same e b⟩⟩
theorem putF_new {f : Str} {y : V} : ∀ {ns : List Str} {vs : List V}, ¬ f ∈ ns → ns.length = vs.length → putF f y (ns.zip vs) = (ns ++ [f]).zip (vs ++ [y])
  | [], [], _, _ => rfl
  | n :: ns, v :: vs, h, l => by
    show (if n = f then (n, y) :: ns.zip vs else (n, v) :: putF f y (ns.zip vs)) = (n, v) :: (ns ++ [f]).zip (vs ++ [y])
    rw [if_neg (fun z => h (by rw [z]; exact List.mem_cons_self)), putF_new (fun z => h (List.mem_cons_of_mem _ z)) (by simpa using l)]
def Vw.own1 (S : List Addr) (x : Addr) (hx : x ∈ S) (H0 : Hp) (c : Ct) : Vw where
  S := S
  M := []
  J := fun H => Exm [x] H0 H
  ok := fun _ => True
  own := [(x, c)]
  sub := fun _ h => nomatch h
  jst := fun e h => h.trans (Exm.same e)
  jok := fun _ => trivial
  jmv := fun e _ h => h.trans (Exm.same e.toSame)
  jnw := fun {H p} h n => ⟨fun z => (nomatch z), fun h' => h'.upd_new (by
    cases q : H0 p with
    | none => rfl
    | some o => exact absurd n (h.there _ (by rw [q]; intro z; cases z)))⟩
  ow := fun q m => by
    have z : q = (x, c) := by simpa using m
    subst z
    exact ⟨hx, fun z => (nomatch z), fun h => h.trans (Exm.upd (.inl (by simp)))⟩
  nd := by simp
section
variable {X : Cx} {w : Vw} {e o a b c : Expr} {es rest : List Stmt} {τ : Ty} {pos p pos' : Pos} {D : Ends} {P : Pd → Prop}
/-- o.f = e, o an instance of one's own -/
theorem rn_fld {C dx x : Addr} {ns : List Str} {pds : List Pd} {f : Str} {j : Nat} (cl : Cls X.K C) (na : NoAttr X.K C f) (he : Xe X w e τ P) (ho : Xe X w o τ (fun pd => pd = is (.ref x))) (hw : w.own[j]? = some (x, Ct.ins C dx ns pds)) (hf : ¬ f ∈ ns) (hl : ns.length = pds.length) (h1 : pds.length < 1000)
    (k : ∀ pd, P pd → Rn X (w.put j x (Ct.ins C dx (ns ++ [f]) (pds ++ [pd])) ⟨_, hw⟩) rest τ D) (hs : swapsWith e (some (.Attribute o f pos')) pos.line X.env = pure false := by rfl) : Rn X w (.Assign [.Attribute o f pos'] e pos :: rest) τ D := fun σ H s =>
  cons_of (ps_fld pe_sem pe_sem hs) (he σ H s _ fun v pd H1 m1 i1 p1 hv => ho σ H1 (s.move m1 i1) _ fun u pd2 H2 m2 i2 e2 hu => by
    subst e2
    have eu : u = V.ref x := hu
    subst eu
    obtain ⟨ob, hob, vs, rfl, da⟩ := i2.2 (x, Ct.ins C dx ns pds) (List.mem_of_getElem? hw)
    have lv : vs.length = pds.length := Paired.length da
    refine ⟨x, C, dx, _, rfl, hob, cl, na, by rw [List.length_zip]; omega, ?_⟩
    rw [putF_new hf (by omega)]
    exact k pd p1 σ _ (((s.move m1 i1).move m2 i2).put ⟨_, hw⟩ ⟨vs ++ [v], rfl, pdAll_app da (.cons (pd.move m2 hv) .nil)⟩))
/-- anything -/
def anyP : Pd := ⟨fun _ _ => True, fun _ h => h⟩
theorem Xf.any {A : Ct → Prop} (h : Xf X w e τ A) : Xe X w e τ (fun pd => pd = anyP) := fun σ H s Q q =>
  h σ H s _ fun p o c H1 m1 i1 np ec hco => q (.ref p) anyP _ (m1.trans (Exm.same (same_upd np))) (w.st (same_upd np) i1) rfl trivial
/-- a raise that is never reached -/
theorem rn_dead {sts : List Stmt} (h : False) : Rn X w sts τ D := h.elim
end
/-- what is asked of an own __init__ of Machine -/
def spMach (K : PySem.W.Frag) (C : Addr) : Sp := fun vs H Q _ => ∃ (S : List Addr) (x dx : Addr) (us : List V) (T : Tb) (c : Nat), vs = .ref x :: us ∧ ¬ x ∈ S ∧ Live S H ∧ H x = some (.ins C dx []) ∧ PdAll (hid (x :: S) H) us [dat K (.int c), dat K (rowsL T)] ∧ Ok T c ∧ T.length < 1000 ∧ c < 1000 ∧
  ∀ H', Exm [x] H H' → (mach K C T c).p (.ref x) (hid S H') → Q .non H'
end Lt
set_option maxHeartbeats 400000
namespace Lt
open PySem PySem.Spec PyProof.Rows L2
section
variable {X : Cx} {w : Vw} {e a b c : Expr} {es rest : List Expr} {τ : Ty} {pos p : Pos} {u v : Bool}
theorem t_or2 (h1 : Xt X w a τ (eT u)) (h2 : Xt X w b τ (eT v)) : Xt X w (.BoolOp .Or [a, b] pos) τ (eT (u || v)) := xt_p (t_or h1 (fun _ => xp_or1 h2))
theorem t_or3 {t : Bool} (h1 : Xt X w a τ (eT u)) (h2 : Xt X w b τ (eT v)) (h3 : Xt X w c τ (eT t)) : Xt X w (.BoolOp .Or [a, b, c] pos) τ (eT (u || (v || t))) := xt_p (t_or h1 (fun _ => t_or h2 (fun _ => xp_or1 h3)))
/-- Machine(c, steps) -/
theorem x_mkMach {K : PySem.W.Frag} {C f : Addr} {fd : FuncData} {ps : List Str} {k : Nat} {x : Str} {T : Tb} {n : Nat} (hK : X.K = K) (Mk' : Mk X.K C f) (F : FnOk X.prog X.w X.K X.mg X.base CX0 k f fd ps (spMach X.K C)) (hr : Room (k + 1) X.A) (hm : X.mg x = some (.ref C)) (hb : Binds X.K fd ps [])
    (ha : Xa X w (e :: es) τ (fun pds => pds = [dat X.K (.int n), dat X.K (rowsL T)])) (ok : Ok T n) (hT : T.length < 1000) (hn : n < 1000) (hg : Gl X x := by rfl) (hdb : (x == ("__debug__" : Str)) = false := by decide) (he : starEach (e :: es) X.env = (false, eval e X.env) :: starEach es X.env := by rfl)
    (hpl : (backTo pos (starEach es X.env)).any (·.1) = false := by rfl) : Xe X w (.Call (.Name x p) (e :: es) [] pos) τ (fun pd => pd = mach X.K C T n) := fun σ H s Q q =>
  eSem_of (pe_make Mk' F hr hg hm hb .nil pass0 pa_sem hdb he hpl) (ha σ H s _ fun vs pds H1 m1 i1 ep hv y dy ny ndy ne => by
    subst ep
    rw [List.append_nil]
    have s1 := s.move m1 i1
    have nS : ¬ y ∈ w.S := s1.notin ny
    have sm1 : Same H1 (upd H1 dy (.own y)) := same_upd ndy
    have ny2 : upd H1 dy (.own y) y = none := by rw [upd_ne (Ne.symm ne)]; exact ny
    have sm2 : Same (upd H1 dy (.own y)) (upd (upd H1 dy (.own y)) y (.ins C dy [])) := same_upd ny2
    have sm : Same H1 (upd (upd H1 dy (.own y)) y (.ins C dy [])) := sm1.trans sm2
    have smh : Same (hid w.S H1) (hid (y :: w.S) (upd (upd H1 dy (.own y)) y (.ins C dy []))) := hid_more ny sm
    refine ⟨w.S, y, dy, vs, T, n, rfl, nS, s1.live.move (Exm.same (M := []) sm), upd_same, pda_same smh hv, ok, hT, hn, fun H' m hy => ⟨rfl, ?_⟩⟩
    have e0 : Same H1 H' := fun b o hb => m.keep b o (fun z => by
      have z' : b = y := by simpa using z
      rw [z', ny] at hb; cases hb) (sm _ _ hb)
    exact q (.ref y) (mach X.K C T n) H' (m1.trans (Exm.same e0)) (w.st e0 i1) rfl hy)
/-- the end of such an __init__ -/
theorem rn_endMach {S : List Addr} {x dx C : Addr} {H0 : Hp} {Q : VK} {T : Tb} {n : Nat} (q : ∀ H', Exm [x] H0 H' → (mach X.K C T n).p (.ref x) (hid S H') → Q .non H') (nx : ¬ x ∈ S) (hS : w.S = x :: S) (hJ : ∀ H, w.J H → Exm [x] H0 H)
    (hw : w.own[0]? = some (x, Ct.ins C dx ["commands", "states", "steps", "_found"] [dat X.K (.int n), dat X.K (.int T.length), dat X.K (rowsT T), anyP])) : Rn X w [] τ (fin Q) :=
  rn_nil fun σ H s => by
    obtain ⟨ob, hob, vs, rfl, da⟩ := s.inv.2 _ (List.mem_of_getElem? hw)
    cases da with
    | cons h1 da =>
      cases da with
      | cons h2 da =>
        cases da with
        | cons h3 da =>
          cases da with
          | cons h4 da =>
            cases da
            have e1 := dat_int h1
            have e2 := dat_int h2
            subst e1; subst e2
            refine q H (hJ H s.inv.1) ⟨x, dx, _, _, rfl, by rw [hid_ne nx]; exact hob, rfl, rfl, rfl, rfl, ?_⟩
            rw [hS] at h3
            exact dp_same (hid_less fun a m => List.mem_cons_of_mem _ m) _ _ h3
end
section
variable {P : Program} {w : World} {K : PySem.W.Frag} {mg : Str → Option Value} {base : Heap} {M : Ad}
abbrev NInit : List Str := ["self", "commands", "steps", "state", "row", "to"]
theorem sc_machineInit : FnScope NInit ["self", "commands", "steps"] (defScope sMachineInit) := ⟨rfl, rfl, rfl, by decide +kernel, rfl, by decide +kernel, by decide +kernel⟩
theorem isIdx_row {T : Tb} {n : Nat} {row : List Nat} (ok : Ok T n) (h : row ∈ T) : (row.map fun (x : Nat) => isIdxD (.int x) T.length).all id = true := by
  rw [List.all_eq_true]
  intro b hb
  obtain ⟨x, hx, rfl⟩ := List.mem_map.mp hb
  have := (ok.row row h).2 x hx
  show id (isIdxD (.int x) T.length) = true
  simp [isIdxD]
  omega
theorem ok_init (T : Tx K mg M) : ∃ f fd, FnOk P w K mg base CX0 4 f fd ["self", "commands", "steps"] (spMach K M.cm) ∧ Binds K fd ["self", "commands", "steps"] [] ∧ Mk K M.cm f := by
  obtain ⟨f, fd, F, hm⟩ := T.init
  refine ⟨f, fd, F.ok sc_machineInit (fun vs H Q E h => ?_) (fun cdv A outer s H vs Q E hr h => ⟨_, pss_sem, ?_⟩), F.bindsN fun _ _ _ _ _ _ us hl => match us, hl with | [_, _, _], _ => rfl, hm⟩
  · obtain ⟨S, x, dx, us, t, c, rfl, _, _, _, hv, _⟩ := h
    have z : us.length = 2 := Paired.length hv
    rw [List.length_cons, z]; rfl
  obtain ⟨S, x, dx, us, t, c, rfl, nx, lv, hx, hv, ok, hT, hc, q⟩ := h
  have c0 := ok.c0
  have n0 := ok.n0
  refine rn_run (X := cxOf CX0 P w K mg base NInit dMachineInit.qual dMachineInit.scope f cdv A outer s H E) (w := Vw.own1 (x :: S) x List.mem_cons_self H (Ct.ins M.cm dx [] [])) (sts := dMachineInit.body) (τ := startT NInit.length [is (.ref x), dat K (.int c), dat K (rowsL t)]) (D := fin Q) ?_
    (sv_start (fun a m => by
      rcases List.mem_cons.mp m with rfl | m
      · rw [hx]; intro z; cases z
      · exact lv a m) ⟨.rfl', fun q' m => by
      have z : q' = (x, Ct.ins M.cm dx [] []) := by simpa [Vw.own1] using m
      subst z
      exact ⟨_, hx, [], rfl, .nil⟩⟩ (.cons rfl hv))
  refine rn_if (T := eT false) (Xt.imp' (t_or2 (u := false) (v := decide ((c : Int) = 0)) (t_not (u := true) (t_val (Xe.toB (Xe.ofP (x_clP (cl_isNumber T) hr (by decide) pass0 (ap_cons (nP 1) ap_nil) fun pds e => ⟨_, ⟨_, e, rfl⟩, by show dat K (.bool (isNumD (.int c))) = _; simp [isNumD]; rfl⟩))))) (t_eq (nI 1) (cI 0))) (by rw [decide_eq_false (by omega)]; rfl)) (fun z => rn_dead (by cases z)) (fun _ => rn_out ?_)
  refine rn_if (T := eT false) (Xt.imp' (t_or2 (u := false) (v := decide ((t.length : Int) = 0)) (t_not (u := true) (t_val (Xe.toB (Xe.ofP (x_clP (cl_isSequence T) hr (by decide) pass0 (ap_cons (nP 2) ap_nil) fun pds e => ⟨_, ⟨_, e, rfl⟩, rfl⟩))))) (t_eq (v_lenRows T.len (nD 2)) (cI 0))) (by rw [decide_eq_false (by omega)]; rfl)) (fun z => rn_dead (by cases z)) (fun _ => rn_out ?_)
  refine rn_for (passes_of rfl) rfl (wi_enum (ds := t.map natsL) T.enum (nD 2) (.inl rfl)) (pg_tup rfl (pgs_cons (pg_name (i := 3) sc_machineInit.nd rfl (Or.inl rfl)) (pgs_cons (pg_name (i := 4) sc_machineInit.nd rfl (Or.inl rfl)) pgs_nil))) (tgr_pair (i := 3) (j := 4) (by decide)) (fun ds i x e h => by
      subst e
      obtain ⟨y, _, rfl⟩ := numD_get h
      exact ⟨_, _, rfl⟩)
    (fun wb ds i w' τ' => w' = wb ∧ ∃ o3 o4, τ' = [some (is (.ref x)), some (dat K (.int c)), some (dat K (rowsL t)), o3, o4, none])
    (fun wb ds lk e => ⟨rfl, none, none, rfl⟩) (fun wb ds i w' τ' lk h => ⟨by rw [h.1]; exact lk.S, fun H h' => by rw [h.1] at h'; exact h'⟩)
    (fun wb ds i y w' τ' lk e h hx' => ?_) (fun wb ds w' τ' lk e h => ?_)
  · obtain ⟨rfl, o3, o4, rfl⟩ := h
    subst e
    obtain ⟨y, hy, rfl⟩ := numD_get hx'
    obtain ⟨row, hrow, rfl⟩ := rows_inv hy
    have hm' : row ∈ t := List.mem_of_getElem? hrow
    obtain ⟨r1, r2⟩ := ok.row row hm'
    refine rn_if (T := eT false) (Xt.imp' (t_or3 (u := false) (v := !decide ((row.length : Int) = c)) (t := false) (t_not (u := true) (t_val (Xe.toB (Xe.ofP (x_clP (cl_isSequence T) hr (by decide) pass0 (ap_cons (nP 4) ap_nil) fun pds e => ⟨_, ⟨_, e, rfl⟩, rfl⟩))))) (t_ne ((v_len T.len (ds := nats row) (nD 4) (.inl rfl)).toJ (by rw [nats_len])) (nI 1)) (t_not (u := true) (t_val (Xe.imp (v_all (bs := row.map fun (x : Nat) => isIdxD (.int x) t.length) rfl T.all (v_lc (own := [("to", 5)]) (ds := nats row) (ws := (row.map fun (x : Nat) => isIdxD (.int x) t.length).map PyData.bool) rfl sc_machineInit.nd (wi_list (nD 4)) (blkOk_by (N := NInit) (sc := defScope sMachineInit) (by decide +kernel)) (fun _ _ _ _ _ => pg_name (i := 5) sc_machineInit.nd rfl (Or.inl rfl)) (tgr_name 5) (fun _ _ _ => trivial) (by rw [nats_len, List.length_map, List.length_map]) (by rw [nats_len]; omega) (fun j xx r hx2 hr2 w2 _ _ => ?_))) fun pd ⟨b, e1, e2⟩ => ⟨b, e1, by rw [e2, isIdx_row ok hm']⟩))))
      (by rw [decide_eq_true (by omega)]; rfl)) (fun z => rn_dead (by cases z)) (fun _ => rn_out (rn_nil fun σ H s => ⟨_, _, ⟨rfl, _, _, rfl⟩, s⟩))
    obtain ⟨m, hm1, rfl⟩ := nats_inv hx2
    have er : r = .bool (isIdxD (.int m) t.length) := by
      rw [List.getElem?_map, List.getElem?_map, hm1] at hr2
      exact (Option.some.inj hr2).symm
    subst er
    intro s1 H1 C1 cl1 fp1
    exact Xe.ofP (x_clP (P := fun pd => pd = dat K (.bool (isIdxD (.int m) t.length))) (cl_isIndex T) hr (by decide) pass0 (ap_cons (nP 5) (ap_cons (Xe.eqI (v_lenRows T.len (nD 2))) ap_nil)) fun pds e => ⟨_, ⟨.int m, (t.length : Int), e, rfl⟩, rfl⟩)
  · obtain ⟨rfl, o3, o4, rfl⟩ := h
    have eo : w'.own = [(x, Ct.ins M.cm dx [] [])] := lk.own
    have eS : w'.S = x :: S := lk.S
    refine rn_fld (x := x) (j := 0) (dx := dx) (ns := []) (pds := []) T.cls T.na1 (nP 1) (nO 0) (by rw [eo]; rfl) (by simp) rfl (by decide) (fun pd e1 => ?_)
    subst e1
    refine rn_fld (x := x) (j := 0) (dx := dx) (ns := ["commands"]) (pds := [dat K (.int c)]) T.cls T.na2 (Xe.eqI (v_lenRows T.len (nD 2))) (nO 0) (by show (w'.own.set 0 _)[0]? = _; rw [eo]; rfl) (by decide) rfl (by simp) (fun pd e1 => ?_)
    subst e1
    refine rn_fld (x := x) (j := 0) (dx := dx) (ns := ["commands", "states"]) (pds := [dat K (.int c), dat K (.int t.length)]) (P := fun pd => pd = dat K (rowsT t)) T.cls T.na3 (Xe.eq (v_tuple T.tuple (ds := t.map natsT) (v_lc (own := [("row", 4)]) (ds := t.map natsL) (ws := t.map natsT) rfl sc_machineInit.nd (wi_list (nD 2)) (blkOk_by (N := NInit) (sc := defScope sMachineInit) (by decide +kernel)) (fun _ _ _ _ _ => pg_name (i := 4) sc_machineInit.nd rfl (Or.inl rfl)) (tgr_name 4) (fun _ _ _ => trivial) (by rw [List.length_map, List.length_map]) (by rw [List.length_map]; omega) (fun j xx r hx2 hr2 w2 _ _ => ?_)) (.inl rfl))) (nO 0) (by show ((w'.own.set 0 _).set 0 _)[0]? = _; rw [eo]; rfl) (by decide) rfl (by simp) (fun pd e1 => ?_)
    · obtain ⟨row, h1, rfl⟩ := rows_inv hx2
      obtain ⟨row2, h2, rfl⟩ := rows_inv hr2
      rw [h1] at h2
      cases h2
      intro s1 H1 C1 cl1 fp1
      exact v_tuple T.tuple (ds := nats row) (nD 4) (.inl rfl)
    subst e1
    refine rn_fld (x := x) (j := 0) (dx := dx) (ns := ["commands", "states", "steps"]) (pds := [dat K (.int c), dat K (.int t.length), dat K (rowsT t)]) T.cls T.na4 (Xf.any (xf_dK (A := fun _ => True) trivial)) (nO 0) (by show (((w'.own.set 0 _).set 0 _).set 0 _)[0]? = _; rw [eo]; rfl) (by decide) rfl (by simp) (fun pd e1 => ?_)
    subst e1
    exact rn_endMach (X := cxOf CX0 P w K mg base NInit dMachineInit.qual dMachineInit.scope f cdv A outer s H E) (dx := dx) q nx eS (fun H h => lk.J h) (by show ((((w'.own.set 0 _).set 0 _).set 0 _).set 0 _)[0]? = _; rw [eo]; rfl)
end
end Lt
set_option maxHeartbeats 4000000
namespace Lt
open PySem PySem.Spec PyProof.Rows L2
/-! ### try with clauses that name the exception -/
abbrev SuT := Addr → Value → Option Addr → TS
def ndT (D : Ends) (i : Nat) : Ends := { nx := fun σ H => D.nx (σ.set i none) H, rt := D.rt, bk := fun σ H => D.bk (σ.set i none) H, ct := fun σ H => D.ct (σ.set i none) H }
/-- what the clauses wish; what no clause takes is not wished for -/
def wA (K : PySem.W.Frag) (i : Nat) (D : Ends) : List (Value × SuT) → WX
  | [] => fun _ _ _ _ => False
  | q :: r => fun cl d σ H => ∃ b, PySem.W.exmOne K cl q.1 = some b ∧ (b = true → ∀ a, H a = none → q.2 a cl d (ndT D i) (σ.set i (some (.ref a))) H) ∧ (b = false → wA K i D r cl d σ H)
inductive HdA (X : Cx) (n : Str) : List ExceptHandler → List (Value × SuT) → Prop
  | nil : HdA X n [] []
  | cons {x : Str} {c : Value} {ts : SuT} {b0 : Stmt} {su : List Stmt} {p1 p2 : Pos} {hs : List ExceptHandler} {qs : List (Value × SuT)} (h1 : Names X x c)
      (h2 : ∀ (a : Addr) (oe : Obj) (cl : Value) (d : Option Addr) (pn : List (Addr × Obj)), Zc cl d oe → (∃ vs, oe.data = .fields vs) → PSs (X.suite a ((a, oe) :: pn)) (b0 :: su) (ts a cl d)) (r : HdA X n hs qs) :
      HdA X n (.ExceptHandler (some (.Name x p1)) (some n) (b0 :: su) p2 :: hs) ((c, ts) :: qs)
section
variable {X : Cx} {n : Str} {i : Nat} {body : List Stmt} {h0 : ExceptHandler} {hs : List ExceptHandler} {qs : List (Value × SuT)} {pos : Pos} {tb : WX → TS}
theorem ps_tryA (st : X.stack = X.env :: X.outer) (fr : X.env.frame = some X.env.locals) (hN : X.N.Nodup) (hi : X.N[i]? = some n) (hln : X.env.kindOf n = some .local)
    (hb : ∀ (W : WX) (pn : List (Addr × Obj)) (xe : Value → Shared → Prop), Takes (X.tr pn xe) W → PassesOwn (model X.prog X.w) X.A X.env xe → PSs (X.tr pn xe) body (tb W)) (hh : HdA X n (h0 :: hs) qs) :
    PS X (.Try body (h0 :: hs) [] [] pos) (fun D σ H => tb (wA X.K i D qs) D σ H) := by
  refine ⟨fun pins s σ H D I goal => ?_⟩
  have okX := I.ok
  have frames : X.A.frames = some (X.env :: X.outer) := okX.frames.trans (congrArg some st)
  have loc : Loc X.env.scope n := Or.inl hln
  refine wpAny_Try_except (wpAny_mono ((hb (wA X.K i D qs) (X.pn ++ pins) (fun e s1 => wpAny (model X.prog X.w) X.A (noteFrame e X.env) (fun _ s2 => wpAny (model X.prog X.w) X.A (setFlight e none) (fun _ s3 => wpAny (model X.prog X.w) X.A (handleBy e X.env (h0 :: hs)) (SP X pins D) X.xe s3) X.xe s2) X.xe s1) (fun u s' caught => ?_) PassesOwn.looking).run [] s σ H D (I.toTry _) goal) (fun f s1 q => ?_) (fun _ _ z => z))
  · obtain ⟨a, B, sI, pins', σ', H', cl, d, rfl, J', nb, up, sky, na, os, ag, wish⟩ := caught
    have J : Inv X pins σ' H' sI := Inv.ofTry J' okX
    have sky2 : Sky B (X.env :: X.outer) a (Zc cl d) X.env.locals s'.heap := st ▸ sky
    show wpAny (model X.prog X.w) X.A (noteFrame (Value.ref a) X.env) _ _ _
    refine Sky.land Zc.steady frames fr sky2 fun g3 fl up3 => ?_
    have J3 : Inv X pins σ' H' { s' with heap := g3 } := Inv.landed J nb fl.1 (up.trans up3) os ag
    obtain ⟨o3, v3, get3, z3, fld3⟩ := fl.there
    have away : a ∉ frs (X.env :: X.outer) := fun hm => by
      obtain ⟨_, o', e', hnf⟩ := fl.2.2.1.mem hm
      rw [get3] at e'; cases e'; exact hnf _ fld3
    have aL : a ≠ X.env.locals := fun z => away (List.mem_filterMap.mpr ⟨X.env, List.mem_cons_self, fr.trans (congrArg some z.symm)⟩)
    have aF : a ∉ X.fs := fun hm => by
      obtain ⟨e, he, q⟩ := List.mem_filterMap.mp hm
      exact away (List.mem_filterMap.mpr ⟨e, List.mem_cons_of_mem _ he, q⟩)
    have S3 := Inv.suite J3 get3 fld3 na aL aF
    have walk : ∀ {hs' : List ExceptHandler} {qs' : List (Value × SuT)}, HdA X n hs' qs' → wA X.K i D qs' cl d σ' H' → wpAny (model X.prog X.w) X.A (handleBy (Value.ref a) X.env hs') (SP X pins D) X.xe { s' with heap := g3 } := by
      intro hs' qs' hk
      induction hk with
      | nil => exact fun z => False.elim z
      | @cons x c ts b0 su p1 p2 hs2 qs2 h1 h2 r ih =>
        intro wsh
        obtain ⟨b, eb, yes, no⟩ := wsh
        refine wpAny_handleBy_cons (codeAny_handlers_test ?_) (fun q => nomatch q)
        have typ : PySem.W.Looks (model X.prog X.w) g3 (typeOf (Value.ref a)) cl := fun A Q E s k q => wpAny_typeOf_ref (k _ _ get3) (z3.1.symm ▸ q)
        have look := PySem.W.exm_one (M := model X.prog X.w) (Inv.kIn J3) typ eb
        have name : ∀ {Q E : Value → Shared → Prop}, Q c { s' with heap := g3 } → wpAny (model X.prog X.w) (X.A.mark (some (Value.ref a))) (eval (.Name x p1) X.env) Q E { s' with heap := g3 } := fun {Q E} q => by
          rcases h1 with ⟨g, db, m | ⟨m, v, nn⟩⟩
          · exact ld_glob (X := X.suite a ((a, o3) :: (X.pn ++ pins))) S3 g m q db
          · exact ld_blt (X := X.suite a ((a, o3) :: (X.pn ++ pins))) S3 g m v q nn db
        refine name (look.here ?_)
        cases b with
        | false => exact ih (no rfl)
        | true =>
          refine codeAny_handlers_suite_as (HandSPX.lands_againZ fl fun g4 fl4 up4 => ?_)
          have J4 : Inv X pins σ' H' { s' with heap := g4 } := Inv.landed J nb fl4.1 ((up.trans up3).trans up4) os ag
          obtain ⟨o4, v4, get4, z4, fld4⟩ := fl4.there
          refine store_ok (X := X.suite a ((a, o4) :: (X.pn ++ pins))) (v := V.ref a) (Inv.suite J4 get4 fld4 na aL aF) hN hi loc rfl (fun s5 S5 => ?_) (Or.inr hln)
          refine wpAny_mono ((h2 a o4 cl d (X.pn ++ pins) z4 ⟨_, fld4⟩).run [] s5 _ H' _ S5 (yes rfl a na)) (fun f s6 q => ?_) (fun _ _ z => nomatch z)
          have gone : ∀ {σ6 : L2.St} {H6 : Hp} {R : Shared → Prop}, Inv (X.suite a ((a, o4) :: (X.pn ++ pins))) [] σ6 H6 s6 → (∀ s7, Inv X pins (σ6.set i none) H6 s7 → R s7) → wpAny (model X.prog X.w) X.A (do bindName X.env n .none; unbindBehindTheSuite X.env n p2) (fun _ s7 => R s7) X.xe s6 := fun {σ6 H6 R} S6 hq => gone_ok (Inv.unsuite S6 okX) hN hi hln hq
          cases f with
          | next => exact let ⟨σ6, H6, S6, q6⟩ := q; gone S6 fun s7 J7 => ⟨_, _, J7, q6⟩
          | brk => exact let ⟨σ6, H6, S6, q6⟩ := q; gone S6 fun s7 J7 => ⟨_, _, J7, q6⟩
          | cont => exact let ⟨σ6, H6, S6, q6⟩ := q; gone S6 fun s7 J7 => ⟨_, _, J7, q6⟩
          | ret u => exact let ⟨v6, σ6, H6, S6, r6, q6⟩ := q; gone S6 fun s7 J7 => ⟨_, _, _, J7, r6, q6⟩
    exact walk hh wish
  · cases f with
    | next => exact let ⟨σ', H', J', q'⟩ := q; wpAny_execs_nil ⟨σ', H', Inv.ofTry J' okX, q'⟩
    | brk => exact let ⟨σ', H', J', q'⟩ := q; ⟨σ', H', Inv.ofTry J' okX, q'⟩
    | cont => exact let ⟨σ', H', J', q'⟩ := q; ⟨σ', H', Inv.ofTry J' okX, q'⟩
    | ret u => exact let ⟨v, σ', H', J', r, q'⟩ := q; ⟨v, σ', H', Inv.ofTry J' okX, r, q'⟩
end
end Lt
namespace Lt
open PySem PySem.Spec PyProof.Rows L2
section
variable {K : PySem.W.Frag}
/-- some keywords lack: their defaults fill up (no other defaults) -/
theorem kb_lack {x qual : Str} {params : Arguments} {body : List Stmt} {scope : Scope} {kws : List (Str × V)} {f : Addr} {fd : FuncData} {ps : List Str} (F : FunD K x qual params body scope [] kws f fd) (n : Nat) (ks : List Str) (g : {α : Type} → List α → List α → List α → List α) (hk : kws ≠ [])
    (hrel : ∀ {vs mz zs : List V} {us mv ws : List Value}, vs.length = n → zs.length = ks.length → mz.length = kws.length → Vals vs us → Vals mz mv → Vals zs ws → Vals (g vs mz zs) (g us mv ws))
    (h : ∀ (D : Addr) (doc pm : Value) (an : Option Addr) (cdv ct : Value) (us mv ws : List Value), us.length = n → mv.length = kws.length → ws.length = ks.length →
      KwChain D ((kws.map (·.1)).zip mv) (bindArgs (PySem.W.fnOf x qual params body scope .none (.ref D) doc pm an cdv ct) ⟨us, ks.zip ws⟩) (ps.zip (g us mv ws))) :
    ∃ mv : List Value, Vals (kws.map (·.2)) mv ∧ (∀ (s : Shared) (us ws : List Value), K.In s.heap → us.length = n → ws.length = ks.length → BindsTo s fd ⟨us, ks.zip ws⟩ (ps.zip (g us mv ws))) := by
  obtain ⟨oc, od, dV, kV, doc, pm, an, cdv, ct, osl, rfl, lk, hcd, hD, hK⟩ := F.ex
  rcases hD with ⟨_, rfl⟩ | ⟨e, _⟩
  · rcases hK with e | ⟨D, rfl, hq⟩
    · exact absurd e hk
    · obtain ⟨mv, hl, rk, hks⟩ := kwd_vals hq
      exact ⟨mv, rk, fun s us ws X l1 l2 => BindsTo.of_looks fun M => KwChain.looks X hks (h D doc pm an cdv ct us mv ws l1 hl l2)⟩
  · exact absurd rfl e
/-- the machine, state, slips of receive_all by keywords; by lacks -/
abbrev gAll : List V → List V → List V := fun vs zs => match zs with
  | [a, b, c] => [c, b, a, .int 0]
  | _ => vs ++ zs
theorem kb_all0 (f : Addr) (fd : FuncData) (F : FunD K dReceiveAll.name dReceiveAll.qual dReceiveAll.params dReceiveAll.body dReceiveAll.scope [] by0 f fd) : ∃ g, KBn K fd ["machine", "state", "slips", "by"] 0 ["slips", "state", "machine"] g gAll := by
  obtain ⟨oc, od, dV, kV, doc, pm, an, cdv, ct, osl, rfl, lk, hcd, hD, hK⟩ := F.ex
  rcases hD with ⟨_, rfl⟩ | ⟨e, _⟩
  case inr => exact absurd rfl e
  rcases hK with e | ⟨D, rfl, hq⟩
  · exact absurd e (by decide)
  obtain ⟨mv, hl, rk, hks⟩ := kwd_vals hq
  obtain ⟨m, rfl⟩ : ∃ m, mv = [m] := match mv, hl with | [m], _ => ⟨m, rfl⟩
  have rm : RelV (.int 0) m := by cases rk; assumption
  refine ⟨fun us ws => match ws with | [a, b, c] => [c, b, a, m] | _ => us ++ ws, fun s us ws X l1 l2 => ?_, fun {vs us zs ws} r1 r2 => ?_⟩
  · match us, ws, l1, l2 with
    | [], [a, b, c], _, _ => exact BindsTo.of_looks fun M => KwChain.looks (l := [("by", m)]) X (fun q hq' => hks q hq') ⟨_, _, _, _, _, _, rfl, rfl, rfl⟩
  · cases r2 with
    | nil => exact r1.append .nil
    | cons h1 r2 =>
      cases r2 with
      | nil => exact r1.append (.cons h1 .nil)
      | cons h2 r2 =>
        cases r2 with
        | nil => exact r1.append (.cons h1 (.cons h2 .nil))
        | cons h3 r2 =>
          cases r2 with
          | nil => exact .cons h3 (.cons h2 (.cons h1 (.cons rm .nil)))
          | cons h4 r2 => exact r1.append (.cons h1 (.cons h2 (.cons h3 (.cons h4 r2))))
theorem kb_all3 (f : Addr) (fd : FuncData) (F : FunD K dReceiveAll.name dReceiveAll.qual dReceiveAll.params dReceiveAll.body dReceiveAll.scope [] by0 f fd) : ∃ g, KBn K fd ["machine", "state", "slips", "by"] 3 ["by"] g gApp := by
  obtain ⟨oc, od, dV, kV, doc, pm, an, cdv, ct, osl, rfl, lk, hcd, hD, _⟩ := F.ex
  rcases hD with ⟨_, rfl⟩ | ⟨z, _⟩
  case inr => exact absurd rfl z
  exact ⟨fun us ws => us ++ ws, fun s us ws _ h1 h2 => match us, ws, h1, h2 with | [_, _, _], [_], _, _ => BindsTo.of_eq rfl, fun r1 r2 => r1.append r2⟩
/-- all of receive's by keywords -/
abbrev gOne : List V → List V → List V := fun vs zs => match zs with
  | [a, b, c, d, e] => [d, c, b, a, e]
  | _ => vs ++ zs
theorem kb_one5 (f : Addr) (fd : FuncData) (F : FunD K dReceive.name dReceive.qual dReceive.params dReceive.body dReceive.scope [] by0 f fd) : ∃ g, KBn K fd ["machine", "now", "kept", "slip", "by"] 0 ["slip", "kept", "now", "machine", "by"] g gOne := by
  obtain ⟨oc, od, dV, kV, doc, pm, an, cdv, ct, osl, rfl, lk, hcd, hD, _⟩ := F.ex
  rcases hD with ⟨_, rfl⟩ | ⟨z, _⟩
  case inr => exact absurd rfl z
  refine ⟨fun us ws => match ws with | [a, b, c, d, e] => [d, c, b, a, e] | _ => us ++ ws, fun s us ws _ h1 h2 => match us, ws, h1, h2 with | [], [_, _, _, _, _], _, _ => BindsTo.of_eq rfl, fun {vs us zs ws} r1 r2 => ?_⟩
  match zs, ws, r2 with
  | [], [], _ => exact r1.append .nil
  | [_], [_], r2 => exact r1.append r2
  | [_, _], [_, _], r2 => exact r1.append r2
  | [_, _, _], [_, _, _], r2 => exact r1.append r2
  | [_, _, _, _], [_, _, _, _], r2 => exact r1.append r2
  | [_, _, _, _, _], [_, _, _, _, _], .cons h1 (.cons h2 (.cons h3 (.cons h4 (.cons h5 .nil)))) => exact .cons h4 (.cons h3 (.cons h2 (.cons h1 (.cons h5 .nil))))
  | _ :: _ :: _ :: _ :: _ :: _ :: _, _ :: _ :: _ :: _ :: _ :: _ :: _, r2 => exact r1.append r2
theorem kb_one4 (f : Addr) (fd : FuncData) (F : FunD K dReceive.name dReceive.qual dReceive.params dReceive.body dReceive.scope [] by0 f fd) : ∃ ds, Vals [V.int 0] ds ∧ Binds K fd ["machine", "now", "kept", "slip", "by"] ds :=
  F.binds0 4 (by decide) rfl fun D doc pm an cdv ct us ks l1 l2 => match us, ks, l1, l2 with | [_, _, _, _], [_], _, _ => ⟨_, _, _, _, _, _, rfl, rfl, rfl⟩
end
end Lt
namespace Lt
open PySem PySem.Spec PyProof.Rows L2
def suS (X : Cx) (su : List Stmt) : SuT := fun a cl d D σ H => ∀ (oe : Obj) (pn : List (Addr × Obj)), Zc cl d oe → (∃ vs, oe.data = .fields vs) → ssSem (X.suite a ((a, oe) :: pn)) su D σ H
def trS (X : Cx) (body : List Stmt) (W : WX) : TS := fun D σ H => ∀ (pn : List (Addr × Obj)) (xe : Value → Shared → Prop), Takes (X.tr pn xe) W → PassesOwn (model X.prog X.w) X.A X.env xe → ssSem (X.tr pn xe) body D σ H
section
variable {X : Cx} {w : Vw} {n : Str} {i : Nat} {body rest su : List Stmt} {h0 : ExceptHandler} {hs : List ExceptHandler} {qs : List (Value × SuT)} {pos p1 p2 : Pos} {τ : Ty} {D : Ends}
theorem hdA_cons {x : Str} {c : Value} {b0 : Stmt} (h1 : Names X x c) (r : HdA X n hs qs) : HdA X n (.ExceptHandler (some (.Name x p1)) (some n) (b0 :: su) p2 :: hs) ((c, suS X (b0 :: su)) :: qs) :=
  .cons h1 (fun a oe cl d pn hz hf => ⟨fun pins s σ H D I h => (h oe pn hz hf).go pins s I⟩) r
theorem rn_tryA (st : X.stack = X.env :: X.outer) (fr : X.env.frame = some X.env.locals) (hN : X.N.Nodup) (hi : X.N[i]? = some n) (hln : X.env.kindOf n = some .local) (hh : HdA X n (h0 :: hs) qs)
    (hb : ∀ (pn : List (Addr × Obj)) (xe : Value → Shared → Prop), Takes (X.tr pn xe) (wA X.K i (aft X rest D) qs) → Rn (X.tr pn xe) w body τ (aft X rest D)) : Rn X w (.Try body (h0 :: hs) [] [] pos :: rest) τ D := fun σ H s =>
  cons_of (ps_tryA (tb := trS X body) st fr hN hi hln (fun W pn xe tk po => ⟨fun pins s σ H D I h => (h pn xe tk po).go pins s I⟩) hh) (fun pn xe tk po => hb pn xe tk σ H s)
/-- what is raised by a call, to the clauses -/
theorem passW {X : Cx} {W : WX} (tk : Takes X W) : Passes (L2.CX X.prog X.w) X (fun cl d H => ∀ σ, σ.length = X.N.length → W cl d σ H) := fun pins σ H s e s' I c =>
  tk e s' (XE.of_call I (fun cl d H' h => h σ I.len) c)
/-- e.at of the caught exception -/
theorem x_at {a C dd : Addr} {oe : Obj} {pn : List (Addr × Obj)} {S : List Addr} {H0 : Hp} {k : Int} {e : Expr} {f : Str} (T : XfC X.K C) (hno : PySem.W.findIn X.K (.ref C) f = some none) (hz : Zc (.ref C) (some dd) oe) (hf : ∃ vs, oe.data = .fields vs) (hd : H0 dd = some (.xd [(f, .int k)]))
    (he : Xe (X.suite a ((a, oe) :: pn)) (Vw.pure S H0) e τ (fun pd => pd = is (.ref a))) (hb : attributeBase e f X.env (eval e X.env) = eval e X.env := by rfl) : Xe (X.suite a ((a, oe) :: pn)) (Vw.pure S H0) (.Attribute e f pos) τ (eI X.K k) := fun σ H s Q q =>
  eSem_of (pe_xf T hno hz hf pe_sem hb) (he σ H s _ fun v pd H1 m1 i1 e1 hv => by
    subst e1
    have ev : v = V.ref a := hv
    subst ev
    exact ⟨rfl, rfl, dd, _, .int k, rfl, i1.1 _ _ hd, by simp [List.lookup], q _ (dat X.K (.int k)) H1 m1 i1 ⟨_, rfl, rfl⟩ (.int _)⟩)
end
/-- like fn_pure; the body may use that what is hidden is there -/
theorem fn_pureL {P : Program} {w : World} {K : PySem.W.Frag} {mg : Str → Option Value} {base : Heap} {x qual : Str} {params : Arguments} {body : List Stmt} {scope : Scope} {dvs : List V} {kws : List (Str × V)} {f : Addr} {fd : FuncData} {CX : CXT} {N ps : List Str} {k : Nat} {F' : List Pd → Pd → Prop}
    (F : FunD K x qual params body scope dvs kws f fd) (S : FnScope N ps scope) (hl : ∀ pds r, F' pds r → pds.length = ps.length)
    (hb : ∀ (cdv : Value) (A : Around) (outer : List Env) (s : Shared) (H : Hp) (E : XK), Room k (A.deeper (envOfC qual scope s.heap.objs.size f cdv)) → ∀ (S : List Addr) (H0 : Hp) (pds : List Pd) (r : Pd) (Q : VK), Live S H0 → F' pds r → (∀ v H', Same H0 H' → r.p v (hid S H') → Q v H') →
      Rn (cxOf CX P w K mg base N qual scope f cdv A outer s H E) (Vw.pure S H0) body (startT N.length pds) (fin Q)) : FnOk P w K mg base CX (k + 1) f fd ps (spP F') := by
  refine F.ok S (spP_len hl) (fun cdv A outer s H vs Q E hr h => ⟨_, pss_sem, ?_⟩)
  obtain ⟨Sd, pds, r, lv, hv, hf, q⟩ := h
  exact hb cdv A outer s H E hr Sd H pds r Q lv hf q _ H (sv_start lv i_pure hv)
/-- an exception class of the text, caught and read -/
structure Exf (P : Program) (K : PySem.W.Frag) (M : Ad) : Prop where
  rr : PySem.W.exmOne K (.ref M.cr) (.ref M.cr) = some true
  ir : PySem.W.exmOne K (.ref M.ci) (.ref M.cr) = some false
  ii : PySem.W.exmOne K (.ref M.ci) (.ref M.ci) = some true
  xr : XfC K M.cr
  xi : XfC K M.ci
  nr : PySem.W.findIn K (.ref M.cr) "at" = some none
  ni : PySem.W.findIn K (.ref M.ci) "at" = some none
theorem Exf.ne {P : Program} {K : PySem.W.Frag} {M : Ad} (h : Exf P K M) : M.ci ≠ M.cr := fun z => by
  have a := h.rr
  have b := h.ir
  rw [z, a] at b
  cases b
/-- what an outcome is, told by the law -/
def excD (M : Ad) (C : Addr) (n : Int) : PyData := .tuple [.str (if C = M.cr then "Refused" else "InvalidSlip"), .int n]
def lawR (K : PySem.W.Frag) (M : Ad) : Oc → Pd
  | .val r => r
  | .exc C n => dat K (excD M C n)
def OkOc (M : Ad) : Oc → Prop
  | .val _ => True
  | .exc C _ => C = M.cr ∨ C = M.ci
/-- the suites: return (name, e.at) -/
theorem su_ok {X : Cx} {S : List Addr} {H1 : Hp} {C dd a : Addr} {i : Nat} {k : Int} {nm ex at_ : Str} {D : Ends} {Q : VK} {σ : L2.St} {p1 p2 p3 p4 p5 : Pos} {k1 k2 : Nat} {r : Pd} (hi : X.N[i]? = some ex) (hv : Vis X.env.scope ex) (T : XfC X.K C) (hno : PySem.W.findIn X.K (.ref C) at_ = some none) (hd : H1 dd = some (.xd [(at_, .int k)])) (lv : Live S H1)
    (hl : σ.length = X.N.length) (q : ∀ v H', Same H1 H' → r.p v (hid S H') → Q v H') (hD : D.rt = Q) (hr : r = dat X.K (.tuple [.str nm, .int k])) (hb : attributeBase (.Name ex p3) at_ X.env (eval (.Name ex p3) X.env) = eval (.Name ex p3) X.env := by rfl)
    (hs1 : starEach [.Constant (.str nm) k1 p2, .Attribute (.Name ex p3) at_ p4] X.env = (false, eval (.Constant (.str nm) k1 p2) X.env) :: starEach [.Attribute (.Name ex p3) at_ p4] X.env := by rfl) (hs2 : starEach [.Attribute (.Name ex p3) at_ p4] X.env = (false, eval (.Attribute (.Name ex p3) at_ p4) X.env) :: starEach [] X.env := by rfl)
    (hdb : (ex == ("__debug__" : Str)) = false := by decide) (hcd : (ex == ("__classdict__" : Str)) = false := by decide) :
    suS X [.Return (some (.Tuple [.Constant (.str nm) k1 p2, .Attribute (.Name ex p3) at_ p4] k2 p1)) p5] a (.ref C) (some dd) (ndT D i) (σ.set i (some (.ref a))) H1 := fun oe pn hz hf => by
  have hil : i < X.N.length := (List.getElem?_eq_some_iff.mp hi).1
  have sv : Sv (Vw.pure S H1) H1 (σ.set i (some (.ref a))) ((List.replicate X.N.length none).set i (some (is (.ref a)))) := ⟨lv, i_pure, by rw [List.length_set, List.length_set, List.length_replicate]; exact hl, fun j pd e => by
    by_cases hij : i = j
    · subst hij
      rw [List.getElem?_set_self (by rw [List.length_replicate]; exact hil)] at e
      cases e
      exact ⟨_, List.getElem?_set_self (by rw [hl]; exact hil), rfl⟩
    · rw [List.getElem?_set_ne hij, List.getElem?_replicate] at e
      split at e <;> cases e⟩
  have main : Rn (X.suite a ((a, oe) :: pn)) (Vw.pure S H1) [.Return (some (.Tuple [.Constant (.str nm) k1 p2, .Attribute (.Name ex p3) at_ p4] k2 p1)) p5] ((List.replicate X.N.length none).set i (some (is (.ref a)))) (ndT D i) :=
    rn_retP q .rfl' hD (Xe.ret (v_tup (a_cons (x_str ⟨_, rfl, rfl⟩) (a_cons (Xe.toD (x_at T hno hz hf hd (x_nm i (pd := is (.ref a)) (by rw [List.getElem?_set_self (by rw [List.length_replicate]; exact hil)]) rfl hi hv hdb hcd) hb)) a_nil hs2) hs1) (by show 2 ≤ 1000; decide)) hr)
  exact main _ H1 sv
end Lt
set_option maxHeartbeats 400000
namespace Lt
open PySem PySem.Spec PyProof.Rows L2
/-- the text, and what is known of its exceptions when they are caught -/
structure Tu (P : Program) (w : World) (K : PySem.W.Frag) (mg : Str → Option Value) (base : Heap) (M : Ad) : Prop where
  tt : Tt P w K mg base M
  xf : Exf P K M
section
variable {K : PySem.W.Frag} {M : Ad}
theorem pre_oc {n C : Nat} {nd kd x : PyData} {o : Oc} {R : Nat → List Slip → Slip → Prop} (h : Pre M n C nd kd x o R) (hR : ∀ a l y, R a l y → OkOc M o) : OkOc M o := by
  rcases h with ⟨_, rfl⟩ | ⟨now, _, _, ⟨l, _, rfl⟩ | ⟨l, _, ⟨_, rfl⟩ | ⟨y, _, _, ⟨_, rfl⟩ | ⟨_, r⟩⟩⟩⟩
  · exact .inl rfl
  · exact .inr rfl
  · exact .inr rfl
  · exact .inl rfl
  · exact hR _ _ _ r
theorem recv_oc {pds : List Pd} {o : Oc} (h : F_receive K M pds o) : OkOc M o := by
  obtain ⟨T, C, nd, kd, x, b, _, _, _, _, hp⟩ := h
  refine pre_oc hp fun a l y ⟨_, e⟩ => ?_
  rw [e]
  cases after T C a (sortS l) y b with
  | none => exact .inl rfl
  | some p => trivial
theorem recvAll_oc {pds : List Pd} {o : Oc} (h : F_recvAll K M pds o) : OkOc M o := by
  obtain ⟨T, C, sd, d, b, _, _, _, _, hp⟩ := h
  rcases hp with ⟨_, rfl⟩ | ⟨s, _, _, ⟨l, _, rfl⟩ | ⟨l, _, _, e⟩⟩
  · exact .inl rfl
  · exact .inr rfl
  · rw [e]
    cases runA T C b (s, []) l with
    | none => exact .inl rfl
    | some p => trivial
def F_lawOne (K : PySem.W.Frag) (M : Ad) : List Pd → Pd → Prop := fun pds r => ∃ (p1 p2 p3 p4 : Pd) (b : Nat) (o : Oc), pds = [p1, p2, p3, p4, dat K (.int b)] ∧ F_receive K M pds o ∧ r = lawR K M o
def F_lawAll (K : PySem.W.Frag) (M : Ad) : List Pd → Pd → Prop := fun pds r => ∃ (p1 p2 p3 : Pd) (b : Nat) (o : Oc), pds = [p1, p2, p3, dat K (.int b)] ∧ F_recvAll K M pds o ∧ r = lawR K M o
end
theorem lawR_cr {K : PySem.W.Frag} {M : Ad} {k : Int} : lawR K M (.exc M.cr k) = dat K (.tuple [.str "Refused", .int k]) := by
  show dat K (excD M M.cr k) = _
  unfold excD
  rw [if_pos rfl]
theorem lawR_ci {K : PySem.W.Frag} {M : Ad} {k : Int} (h : M.ci ≠ M.cr) : lawR K M (.exc M.ci k) = dat K (.tuple [.str "InvalidSlip", .int k]) := by
  show dat K (excD M M.ci k) = _
  unfold excD
  rw [if_neg h]
theorem perm5 {G : Hp} {vs : List V} {a b c d e : Pd} (h : PdAll G vs [a, b, c, d, e]) : PdAll G (gOne [] vs) [d, c, b, a, e] := by
  cases h with
  | cons h1 h =>
    cases h with
    | cons h2 h =>
      cases h with
      | cons h3 h =>
        cases h with
        | cons h4 h =>
          cases h with
          | cons h5 h =>
            cases h
            exact .cons h4 (.cons h3 (.cons h2 (.cons h1 (.cons h5 .nil))))
theorem perm3 {K : PySem.W.Frag} {G : Hp} {vs : List V} {a b c : Pd} (h : PdAll G vs [a, b, c]) : PdAll G (gAll [] vs) [c, b, a, dat K (.int 0)] := by
  cases h with
  | cons h1 h =>
    cases h with
    | cons h2 h =>
      cases h with
      | cons h3 h =>
        cases h
        exact .cons h3 (.cons h2 (.cons h1 (.cons (.int 0) .nil)))
section
variable {X : Cx} {P : Program} {w : World} {K : PySem.W.Frag} {mg : Str → Option Value} {base : Heap} {M : Ad}
/-- what the clauses of _law_one make of an exception -/
theorem wish_two {S : List Addr} {H1 : Hp} {C dd : Addr} {i : Nat} {k : Int} {D : Ends} {Q : VK} {σ : L2.St} {p1 p2 p3 p4 p5 q1 q2 q3 q4 q5 : Pos} {j1 j2 j3 j4 : Nat} (hK : X.K = K) (hN : X.N[i]? = some ("e" : Str)) (hv : Vis X.env.scope "e") (T : Exf P K M) (hC : C = M.cr ∨ C = M.ci) (hd : H1 dd = some (.xd [("at", .int k)])) (lv : Live S H1) (hl : σ.length = X.N.length)
    (q : ∀ v H', Same H1 H' → (lawR K M (.exc C k)).p v (hid S H') → Q v H') (hD : D.rt = Q) (hb1 : attributeBase (.Name "e" p3) "at" X.env (eval (.Name "e" p3) X.env) = eval (.Name "e" p3) X.env := by rfl) (hb2 : attributeBase (.Name "e" q3) "at" X.env (eval (.Name "e" q3) X.env) = eval (.Name "e" q3) X.env := by rfl)
    (hs1 : starEach [.Constant (.str "Refused") j1 p2, .Attribute (.Name "e" p3) "at" p4] X.env = (false, eval (.Constant (.str "Refused") j1 p2) X.env) :: starEach [.Attribute (.Name "e" p3) "at" p4] X.env := by rfl) (hs2 : starEach [.Attribute (.Name "e" p3) "at" p4] X.env = (false, eval (.Attribute (.Name "e" p3) "at" p4) X.env) :: starEach [] X.env := by rfl)
    (ht1 : starEach [.Constant (.str "InvalidSlip") j3 q2, .Attribute (.Name "e" q3) "at" q4] X.env = (false, eval (.Constant (.str "InvalidSlip") j3 q2) X.env) :: starEach [.Attribute (.Name "e" q3) "at" q4] X.env := by rfl) (ht2 : starEach [.Attribute (.Name "e" q3) "at" q4] X.env = (false, eval (.Attribute (.Name "e" q3) "at" q4) X.env) :: starEach [] X.env := by rfl) :
    wA X.K i D [(.ref M.cr, suS X [.Return (some (.Tuple [.Constant (.str "Refused") j1 p2, .Attribute (.Name "e" p3) "at" p4] j2 p1)) p5]), (.ref M.ci, suS X [.Return (some (.Tuple [.Constant (.str "InvalidSlip") j3 q2, .Attribute (.Name "e" q3) "at" q4] j4 q1)) q5])] (.ref C) (some dd) σ H1 := by
  subst hK
  rcases hC with rfl | rfl
  · refine ⟨true, T.rr, fun _ a ha => ?_, fun z => by cases z⟩
    exact su_ok (at_ := "at") hN hv T.xr T.nr hd lv hl q hD lawR_cr hb1 hs1 hs2
  · refine ⟨false, T.ir, fun z => (by cases z), fun _ => ⟨true, T.ii, fun _ a ha => ?_, fun z => by cases z⟩⟩
    exact su_ok (at_ := "at") hN hv T.xi T.ni hd lv hl q hD (lawR_ci T.ne) hb2 ht1 ht2
end
section
variable {P : Program} {w : World} {K : PySem.W.Frag} {mg : Str → Option Value} {base : Heap} {M : Ad}
abbrev NOne : List Str := ["_law_machine_here", "_law_now", "_law_kept", "_law_slip", "_law_by", "e"]
theorem sc_lawOne : FnScope NOne ["_law_machine_here", "_law_now", "_law_kept", "_law_slip", "_law_by"] (defScope sLawOne) := ⟨rfl, rfl, rfl, by decide +kernel, rfl, by decide +kernel, by decide +kernel⟩
theorem cl_lawOne (T : Tu P w K mg base M) : Cl P w K mg base CX0 11 "_law_one" ["_law_machine_here", "_law_now", "_law_kept", "_law_slip", "_law_by"] (spP (F_lawOne K M)) := by
  refine Cl.mk' (d := dLawOne) (T.tt.tx.df 43 _ rfl rfl rfl) (fun f fd F => fn_pureL F sc_lawOne (fun pds r h => ?_) fun cdv A outer s H E hr S H0 pds r Q lv h q => ?_) (fun _ _ _ _ _ _ us hl => match us, hl with | [_, _, _, _, _], _ => rfl)
  · obtain ⟨a1, a2, a3, a4, b, o, e1, _⟩ := h
    subst e1; rfl
  obtain ⟨a1, a2, a3, a4, b, o, e1, hF, e2⟩ := h
  subst e1; subst e2
  refine rn_tryA (i := 5) rfl rfl sc_lawOne.nd rfl rfl (hdA_cons ⟨by rfl, by decide, .inl T.tt.ecR.mg⟩ (hdA_cons ⟨by rfl, by decide, .inl T.tt.ecI.mg⟩ .nil)) (fun pn xe tk => ?_)
  by_cases hb : b = 0
  · subst hb
    refine rn_if (T := eT true) (Xt.imp' (t_eq (nI 4) (cI 0)) (decide_eq_true rfl)) (fun _ => ?_) (fun z => rn_dead (by cases z))
    refine rn_retP q .rfl' rfl (x_kP (dv := [V.int 0]) (cl_receive T.tt) hr (by decide) (passW tk) rfl kb_one4 (ap_cons (nP 0) (ap_cons (nP 1) (ap_cons (nP 2) (ap_cons (nP 3) ap_nil)))) [dat K (.int 0)] (fun G => .cons (.int 0) .nil) ⟨o, hF, ?_⟩)
    cases o with
    | val r => exact rfl
    | exc C k => exact fun d H' i hd σ hl => wish_two (X := cxOf CX0 P w K mg base NOne dLawOne.qual dLawOne.scope f cdv A outer s H E) (P := P) rfl rfl (Or.inl rfl) T.xf (recv_oc hF) hd (lv.move (Exm.same (M := []) i.1)) hl (fun v H'' sm h => q v H'' (i.1.trans sm) h) rfl
  · refine rn_if (T := eT false) (Xt.imp' (t_eq (nI 4) (cI 0)) (decide_eq_false (by omega))) (fun z => rn_dead (by cases z)) (fun _ => rn_out ?_)
    refine rn_retP q .rfl' rfl (x_k0 (gV := gOne) (zs := [a4, a3, a2, a1, dat K (.int b)]) (cl_receive T.tt) hr (by decide) (passW tk) rfl kb_one5 (kp_cons (nP 3) (kp_cons (nP 2) (kp_cons (nP 1) (kp_cons (nP 0) (kp_cons (nP 4) kp_nil))))) rfl [a1, a2, a3, a4, dat K (.int b)] (fun G vs h => perm5 h) ⟨o, hF, ?_⟩)
    cases o with
    | val r => exact rfl
    | exc C k => exact fun d H' i hd σ hl => wish_two (X := cxOf CX0 P w K mg base NOne dLawOne.qual dLawOne.scope f cdv A outer s H E) (P := P) rfl rfl (Or.inl rfl) T.xf (recv_oc hF) hd (lv.move (Exm.same (M := []) i.1)) hl (fun v H'' sm h => q v H'' (i.1.trans sm) h) rfl
abbrev NAll : List Str := ["_law_machine_here", "_law_state", "_law_slips_here", "_law_by", "e"]
theorem sc_lawAll : FnScope NAll ["_law_machine_here", "_law_state", "_law_slips_here", "_law_by"] (defScope sLawAll) := ⟨rfl, rfl, rfl, by decide +kernel, rfl, by decide +kernel, by decide +kernel⟩
theorem cl_lawAll (T : Tu P w K mg base M) : Cl P w K mg base CX0 12 "_law_all" ["_law_machine_here", "_law_state", "_law_slips_here", "_law_by"] (spP (F_lawAll K M)) := by
  refine Cl.mk' (d := dLawAll) (T.tt.tx.df 44 _ rfl rfl rfl) (fun f fd F => fn_pureL F sc_lawAll (fun pds r h => ?_) fun cdv A outer s H E hr S H0 pds r Q lv h q => ?_) (fun _ _ _ _ _ _ us hl => match us, hl with | [_, _, _, _], _ => rfl)
  · obtain ⟨a1, a2, a3, b, o, e1, _⟩ := h
    subst e1; rfl
  obtain ⟨a1, a2, a3, b, o, e1, hF, e2⟩ := h
  subst e1; subst e2
  refine rn_tryA (i := 4) rfl rfl sc_lawAll.nd rfl rfl (hdA_cons ⟨by rfl, by decide, .inl T.tt.ecR.mg⟩ (hdA_cons ⟨by rfl, by decide, .inl T.tt.ecI.mg⟩ .nil)) (fun pn xe tk => ?_)
  by_cases hb : b = 0
  · subst hb
    refine rn_if (T := eT true) (Xt.imp' (t_eq (nI 3) (cI 0)) (decide_eq_true rfl)) (fun _ => ?_) (fun z => rn_dead (by cases z))
    refine rn_retP q .rfl' rfl (x_k0 (gV := gAll) (zs := [a3, a2, a1]) (cl_receiveAll T.tt) hr (by decide) (passW tk) rfl kb_all0 (kp_cons (nP 2) (kp_cons (nP 1) (kp_cons (nP 0) kp_nil))) rfl [a1, a2, a3, dat K (.int 0)] (fun G vs h => perm3 h) ⟨o, hF, ?_⟩)
    cases o with
    | val r => exact rfl
    | exc C k => exact fun d H' i hd σ hl => wish_two (X := cxOf CX0 P w K mg base NAll dLawAll.qual dLawAll.scope f cdv A outer s H E) (P := P) rfl rfl (Or.inl rfl) T.xf (recvAll_oc hF) hd (lv.move (Exm.same (M := []) i.1)) hl (fun v H'' sm h => q v H'' (i.1.trans sm) h) rfl
  · refine rn_if (T := eT false) (Xt.imp' (t_eq (nI 3) (cI 0)) (decide_eq_false (by omega))) (fun z => rn_dead (by cases z)) (fun _ => rn_out ?_)
    refine rn_retP q .rfl' rfl (x_kN (gV := gApp) (cl_receiveAll T.tt) hr (by decide) (passW tk) rfl kb_all3 (ap_cons (nP 0) (ap_cons (nP 1) (ap_cons (nP 2) ap_nil))) (kp_cons (nP 3) kp_nil) rfl rfl [a1, a2, a3, dat K (.int b)] (fun G us vs h1 h2 => pdAll_app h1 h2) ⟨o, hF, ?_⟩)
    cases o with
    | val r => exact rfl
    | exc C k => exact fun d H' i hd σ hl => wish_two (X := cxOf CX0 P w K mg base NAll dLawAll.qual dLawAll.scope f cdv A outer s H E) (P := P) rfl rfl (Or.inl rfl) T.xf (recvAll_oc hF) hd (lv.move (Exm.same (M := []) i.1)) hl (fun v H'' sm h => q v H'' (i.1.trans sm) h) rfl
end
end Lt
set_option maxHeartbeats 4000000
namespace Lt
open PySem PySem.Spec PyProof.Rows L2
/-! ### defs that are called where no repr is under way -/
def Calm (A : Around) : Prop := A.guards = some []
theorem Calm.deeper {A : Around} {e : Env} (h : Calm A) : Calm (A.deeper e) := h
section
variable {P : Program} {w : World} {K : PySem.W.Frag} {mg : Str → Option Value} {base : Heap} {CX : CXT}
structure FnG (P : Program) (w : World) (K : PySem.W.Frag) (mg : Str → Option Value) (base : Heap) (CX : CXT) (k : Nat) (f : Addr) (fd : FuncData) (ps : List Str) (sp : Sp) : Prop where
  len : ∀ vs H Q E, sp vs H Q E → vs.length = ps.length
  run : ∀ (A : Around) (outer : List Env) (s : Shared) (H : Hp) (args : Args) (us : List Value) (vs : List V) (Q : VK) (E : XK), Calm A → Room k A → Env0 P w K mg base A outer s H → BindsTo s fd args (ps.zip us) → Vals vs us → sp vs H Q E → codeAny (model P w) A (.call (.ref f) args) (CR CX outer P w H s Q E) s
theorem FnG.mono {j k : Nat} {f : Addr} {fd : FuncData} {ps : List Str} {sp : Sp} (F : FnG P w K mg base CX j f fd ps sp) (h : j ≤ k) : FnG P w K mg base CX k f fd ps sp := ⟨F.len, fun A o s H a us vs Q E g r => F.run A o s H a us vs Q E g (r.mono h)⟩
theorem env0_in {A : Around} {outer : List Env} {s : Shared} {H : Hp} (e : Env0 P w K mg base A outer s H) : K.In s.heap := e.mod.kin.keeps fun b o h => (e.bs b o h).1
/-- such a def, by its body -/
theorem okG {x qual : Str} {params : Arguments} {body : List Stmt} {scope : Scope} {dvs : List V} {kws : List (Str × V)} {f : Addr} {fd : FuncData} {N ps : List Str} {k : Nat} {sp : Sp} (F : FunD K x qual params body scope dvs kws f fd) (S : FnScope N ps scope) (len : ∀ vs H Q E, sp vs H Q E → vs.length = ps.length)
    (hb : ∀ (cdv : Value) (A : Around) (outer : List Env) (s : Shared) (H : Hp) (vs : List V) (Q : VK) (E : XK), Calm A → Room k (A.deeper (envOfC qual scope s.heap.objs.size f cdv)) → sp vs H Q E → ssSem (cxOf CX P w K mg base N qual scope f cdv A outer s H E) body (fin Q) (L2.start N vs) H) : FnG P w K mg base CX (k + 1) f fd ps sp := by
  obtain ⟨oc, od, dV, kV, doc, pm, an, cdv, ct, osl, rfl, at_f, at_c, _, _⟩ := F.ex
  refine ⟨len, fun A outer s H args us vs Q E calm room env bind rel want => ?_⟩
  have many := len _ _ _ _ want
  have kin := env0_in env
  have nolim : s.heap.NoLimit := env.mod.nolimit.keeps fun b o h => (env.bs b o h).1
  refine codeAny_call_function room.depth (kin _ _ at_f) rfl S.co S.gen rfl (PySem.W.codeRec_of kin at_c) (bind _ _ _ _ (wpAny_newFunctionEnv_cells S.kind (fun y hy => ?_) fun env1 he s1 into => ?_))
  · exact (S.par y.1 (List.of_mem_zip hy).1).elim .inl fun c => .inr ⟨c, PySem.W.cellsFrom_some _ _ _ (.inl c)⟩
  · subst he
    refine ⟨nolim.keeps into.toInCall.keep, codeAny_func ?_⟩
    have I1 : Inv (cxOf CX P w K mg base N qual scope f cdv A outer s H E) [] (L2.start N vs) H s1 := inv_start S room.hd env many rel into
    have close : ∀ {s2 : Shared} {σ2 : L2.St} {H2 : Hp} {v : V} {u : Value}, Inv (cxOf CX P w K mg base N qual scope f cdv A outer s H E) [] σ2 H2 s2 → RelV v u → Q v H2 → CE outer P w H s Q u s2 := fun {s2 σ2 H2 v u} J r q => ⟨v, H2, J.os, J.bare, J.base, J.hok, r, q⟩
    refine wpAny_mono ((hb cdv A outer s H vs Q E calm (room.deeper _) want).go [] s1 I1) (fun fl s2 out => ?_) fun _ _ z => z
    match fl, out with
    | .ret u, ⟨v, σ2, H2, J, r, q⟩ => exact close J r q
    | .next, ⟨σ2, H2, J, q⟩ => exact close (v := V.non) (u := Value.none) J rfl q
    | .brk, ⟨_, _, _, q⟩ => exact q.elim
    | .cont, ⟨_, _, _, q⟩ => exact q.elim
/-- where such a def stands -/
structure ClG (P : Program) (w : World) (K : PySem.W.Frag) (mg : Str → Option Value) (base : Heap) (CX : CXT) (k : Nat) (x : Str) (ps : List Str) (sp : Sp) : Prop where
  ex : ∃ f fd, FnG P w K mg base CX k f fd ps sp ∧ mg x = some (.ref f) ∧ PySem.W.keepIn K (.ref f) = true ∧ Binds K fd ps []
theorem ClG.mk' {k : Nat} {ps : List Str} {sp : Sp} {d : He.DefD} (h : Df K mg d) (hF : ∀ f fd, FunD K d.name d.qual d.params d.body d.scope [] [] f fd → FnG P w K mg base CX k f fd ps sp)
    (hb : ∀ (kV doc pm : Value) (an : Option Addr) (cdv ct : Value) (us : List Value), us.length = ps.length → bindArgs (PySem.W.fnOf d.name d.qual d.params d.body d.scope .none kV doc pm an cdv ct) ⟨us, []⟩ = pure (ps.zip us)) : ClG P w K mg base CX k d.name ps sp := by
  obtain ⟨f, fd, F, hm⟩ := h.ex
  exact ⟨f, fd, hF f fd F, hm, F.kp, F.bindsN hb⟩
end
section
variable {X : Cx} {w : Vw} {e : Expr} {es : List Expr} {τ : Ty} {P : Pd → Prop} {pos p : Pos}
/-- f(e, ..) -/
theorem pe_callG {CX : CXT} {k : Nat} {f : Addr} {fd : FuncData} {ps : List Str} {sp : Sp} {x : Str} {E : XK} {t : TA} (F : FnG X.prog X.w X.K X.mg X.base CX k f fd ps sp) (hc : Calm X.A) (hr : Room k X.A) (hg : Gl X x) (hm : X.mg x = some (.ref f)) (hk : PySem.W.keepIn X.K (.ref f) = true) (hb : Binds X.K fd ps []) (hx : Passes CX X E) (ha : PA X (e :: es) t)
    (hdb : (x == ("__debug__" : Str)) = false := by decide) (he : starEach (e :: es) X.env = (false, eval e X.env) :: starEach es X.env := by rfl) (hpl : (backTo pos (starEach es X.env)).any (·.1) = false := by rfl) : PE X (.Call (.Name x p) (e :: es) [] pos) (tCall sp [] E t) := by
  refine ⟨fun pins s σ H Q I want => wpAny_Call_Name_kw (ld_glob I hg hm (PySem.W.callWith_K (h₀ := X.base) I.ok.mod.kin hk (thn (ha.run pos pins s σ H _ I want) fun us s1 told => ?_) he hpl) hdb)⟩
  obtain ⟨vs, H1, I1, r, q⟩ := told
  refine ⟨I1.kIn, ?_⟩
  rw [List.append_nil] at q
  have lu : us.length = ps.length := r.length.symm.trans (F.len _ _ _ _ q)
  have bt := hb s1 us I1.kIn (by rw [List.append_nil]; exact lu)
  rw [List.append_nil] at bt
  refine wpAny_call (codeAny_mono (F.run X.A X.stack s1 H1 ⟨us, []⟩ us vs Q E hc hr I1.env0 bt r q) fun res s2 hq => ?_)
  match res, hq with
  | .error z, hq => exact hx pins σ H1 s1 z s2 I1 hq
  | .ok (.ret u), hq => exact I1.after hq
  | .ok .next, hq => exact hq.elim
  | .ok .brk, hq => exact hq.elim
  | .ok .cont, hq => exact hq.elim
theorem x_clG {CX : CXT} {k j : Nat} {x : Str} {ps : List Str} {sp : Sp} {E : XK} {PA' : List Pd → Prop} (c : ClG X.prog X.w X.K X.mg X.base CX k x ps sp) (hc : Calm X.A) (hr : Room j X.A) (hk : k ≤ j) (hx : Passes CX X E) (ha : Xa X w (e :: es) τ PA')
    (h : ∀ vs pds H, Live w.S H → w.I H → PA' pds → PdAll (hid w.S H) vs pds → Ot w H (fun Q => sp vs H Q E) P) (hg : Gl X x := by rfl)
    (hdb : (x == ("__debug__" : Str)) = false := by decide) (he : starEach (e :: es) X.env = (false, eval e X.env) :: starEach es X.env := by rfl) (hpl : (backTo pos (starEach es X.env)).any (·.1) = false := by rfl) : Xe X w (.Call (.Name x p) (e :: es) [] pos) τ P := by
  obtain ⟨f, fd, F, hm, hkp, hb⟩ := c.ex
  exact fun σ H s Q q => eSem_of (pe_callG F hc (hr.mono hk) hg hm hkp hb hx pa_sem hdb he hpl) (ha σ H s _ fun vs pds H1 e1 i1 p1 h1 => by
    rw [List.append_nil]
    exact h vs pds H1 (s.live.move e1) i1 p1 h1 Q fun v pd H2 e2 i2 p2 h2 => q v pd H2 (e1.trans e2) i2 p2 h2)
/-- .. that only tells -/
theorem x_clGP {CX : CXT} {k j : Nat} {x : Str} {ps : List Str} {F : List Pd → Pd → Prop} {PA' : List Pd → Prop} (c : ClG X.prog X.w X.K X.mg X.base CX k x ps (spP F)) (hc : Calm X.A) (hr : Room j X.A) (hk : k ≤ j) (hx : Passes CX X E0) (ha : Xa X w (e :: es) τ PA')
    (h : ∀ pds, PA' pds → ∃ r, F pds r ∧ P r) (hg : Gl X x := by rfl) (hdb : (x == ("__debug__" : Str)) = false := by decide) (he : starEach (e :: es) X.env = (false, eval e X.env) :: starEach es X.env := by rfl)
    (hpl : (backTo pos (starEach es X.env)).any (·.1) = false := by rfl) : Xe X w (.Call (.Name x p) (e :: es) [] pos) τ P :=
  x_clG (E := E0) c hc hr hk hx ha (fun vs pds H l i a b => by
    obtain ⟨r, f, q⟩ := h pds a
    exact ot_spP l i b f q) hg hdb he hpl
/-- .. that draws -/
theorem x_dlG {ι : Type} {CX : CXT} {k j : Nat} {x : Str} {ps : List Str} {ar : ι → List Pd} {ok : ι → Prop} {B : ι → Pd → Prop} {d l : Addr} (i0 : ι) (c : ClG X.prog X.w X.K X.mg X.base CX k x ps (spDl ar ok B)) (hc : Calm X.A) (hr : Room j X.A) (hk : k ≤ j) (hx : Passes CX X E0) (dM : w.M = [d, l]) (dk : w.ok = DealAt d l)
    (ha : Xa X w (e :: es) τ (fun pds => pds = is (.ref d) :: ar i0)) (hA : ok i0) (h : ∀ r, B i0 r → P r) (hg : Gl X x := by rfl) (hdb : (x == ("__debug__" : Str)) = false := by decide) (he : starEach (e :: es) X.env = (false, eval e X.env) :: starEach es X.env := by rfl)
    (hpl : (backTo pos (starEach es X.env)).any (·.1) = false := by rfl) : Xe X w (.Call (.Name x p) (e :: es) [] pos) τ P :=
  x_clG (E := E0) c hc hr hk hx ha (fun vs pds H lv i a hv Q q => by
    subst a
    cases hv with
    | cons h1 h2 =>
      have ev := (show _ = V.ref d from h1)
      subst ev
      have z := w.jok i.1
      rw [dk] at z
      refine ⟨w.S, d, l, _, i0, rfl, lv, w.sub d (by rw [dM]; simp), w.sub l (by rw [dM]; simp), z, h2, hA, fun r v H' hB m da' hr' => ?_⟩
      have m' : Exm w.M H H' := by rw [dM]; exact m
      exact q v r H' m' (w.mv m' (by rw [dk]; exact da') i) (h r hB) hr') hg hdb he hpl
end
/-- THE RULES for such defs: that only tell, that draw -/
theorem fnG_pure {P : Program} {w : World} {K : PySem.W.Frag} {mg : Str → Option Value} {base : Heap} {x qual : Str} {params : Arguments} {body : List Stmt} {scope : Scope} {dvs : List V} {kws : List (Str × V)} {f : Addr} {fd : FuncData} {CX : CXT} {N ps : List Str} {k : Nat} {F' : List Pd → Pd → Prop}
    (F : FunD K x qual params body scope dvs kws f fd) (S : FnScope N ps scope) (hl : ∀ pds r, F' pds r → pds.length = ps.length)
    (hb : ∀ (cdv : Value) (A : Around) (outer : List Env) (s : Shared) (H : Hp) (E : XK), Calm A → Room k (A.deeper (envOfC qual scope s.heap.objs.size f cdv)) → ∀ (S : List Addr) (H0 : Hp) (pds : List Pd) (r : Pd) (Q : VK), F' pds r → (∀ v H', Same H0 H' → r.p v (hid S H') → Q v H') →
      Rn (cxOf CX P w K mg base N qual scope f cdv A outer s H E) (Vw.pure S H0) body (startT N.length pds) (fin Q)) : FnG P w K mg base CX (k + 1) f fd ps (spP F') := by
  refine okG F S (spP_len hl) (fun cdv A outer s H vs Q E hc hr h => ?_)
  obtain ⟨Sd, pds, r, lv, hv, hf, q⟩ := h
  exact hb cdv A outer s H E hc hr Sd H pds r Q hf q _ H (sv_start lv i_pure hv)
theorem fnG_dl {ι : Type} {P : Program} {w : World} {K : PySem.W.Frag} {mg : Str → Option Value} {base : Heap} {x qual : Str} {params : Arguments} {body : List Stmt} {scope : Scope} {dvs : List V} {kws : List (Str × V)} {f : Addr} {fd : FuncData} {CX : CXT} {N ps : List Str} {k : Nat} {ar : ι → List Pd} {ok : ι → Prop} {B : ι → Pd → Prop}
    (F : FunD K x qual params body scope dvs kws f fd) (S : FnScope N ps scope) (hl : ∀ i, (ar i).length + 1 = ps.length)
    (hb : ∀ (cdv : Value) (Ar : Around) (outer : List Env) (s : Shared) (H : Hp) (E : XK), Calm Ar → Room k (Ar.deeper (envOfC qual scope s.heap.objs.size f cdv)) → ∀ (S : List Addr) (d l : Addr) (hd : d ∈ S) (hl : l ∈ S) (H0 : Hp) (i : ι) (Q : VK), ok i →
      (∀ r v H', B i r → Exm [d, l] H0 H' → DealAt d l H' → r.p v (hid S H') → Q v H') →
      Rn (cxOf CX P w K mg base N qual scope f cdv Ar outer s H E) (Vw.deal S d l hd hl H0) body (startT N.length (is (.ref d) :: ar i)) (fin Q)) : FnG P w K mg base CX (k + 1) f fd ps (spDl ar ok B) := by
  refine okG F S (spDl_len hl) (fun cdv Ar outer s H vs Q E hc hr h => ?_)
  obtain ⟨Sd, d, l, us, i, rfl, lv, hd, hl', da, hv, ha, q⟩ := h
  exact hb cdv Ar outer s H E hc hr Sd d l hd hl' H i Q ha q _ H (sv_start (w := Vw.deal Sd d l hd hl' H) lv ⟨⟨.rfl', da⟩, fun _ m => nomatch m⟩ (.cons rfl hv))
end Lt
namespace Lt
open PySem PySem.Spec PyProof.Rows L2
/-! ### data that is shown by repr -/
structure Wd (d : PyData) (n : Nat) : Prop where
  sh : d.showable = true
  nd : d.hasDict = false
  len : d.shown.length ≤ n
  dep : d.depth ≤ 60
structure WdA (ds : List PyData) (n : Nat) : Prop where
  sh : PyData.showableAll ds = true
  nd : PyData.hasDictAll ds = false
  len : piled (PyData.shownAll ds) ≤ n
  dep : PyData.depthAll ds ≤ 59
theorem Wd.mono {d : PyData} {n m : Nat} (h : Wd d n) (l : n ≤ m) : Wd d m := ⟨h.sh, h.nd, Nat.le_trans h.len l, h.dep⟩
theorem wda_nil : WdA [] 0 := ⟨by simp only [PyData.showableAll], by simp only [PyData.hasDictAll], by simp only [PyData.shownAll]; exact Nat.le_refl _, by simp only [PyData.depthAll]; omega⟩
theorem wda_cons {d : PyData} {ds : List PyData} {n m : Nat} (h : Wd d n) (hd : d.depth ≤ 59) (t : WdA ds m) : WdA (d :: ds) (n + 2 + m) := by
  refine ⟨?_, ?_, ?_, ?_⟩
  · simp only [PyData.showableAll, h.sh, t.sh, Bool.and_self]
  · simp only [PyData.hasDictAll, h.nd, t.nd, Bool.or_self]
  · simp only [PyData.shownAll, piled_cons]
    have := h.len
    have := t.len
    omega
  · simp only [PyData.depthAll]
    have := t.dep
    omega
theorem WdA.tup {ds : List PyData} {n : Nat} (h : WdA ds n) : Wd (.tuple ds) (n + 2) := by
  refine ⟨?_, ?_, ?_, ?_⟩
  · simp only [PyData.showable]; exact h.sh
  · simp only [PyData.hasDict]; exact h.nd
  · simp only [PyData.shown]
    have := fmt_text (PyData.shownAll ds)
    have := h.len
    omega
  · simp only [PyData.depth]
    have := h.dep
    omega
theorem wd_nat {i : Nat} (h : i < 100000) : Wd (.int i) 5 := by
  refine ⟨?_, by simp only [PyData.hasDict], ?_, by simp only [PyData.depth]; omega⟩
  · simp only [PyData.showable]
    refine decide_eq_true ?_
    have e : ((i : Int)).natAbs = i := by omega
    rw [e]
    rcases Nat.eq_zero_or_pos i with z | z
    · subst z; decide
    · exact (Nat.log2_lt (by omega)).mpr (Nat.lt_of_lt_of_le h (by exact Nat.le_of_lt (Nat.lt_of_lt_of_le (by decide : 100000 < 2 ^ 17) (Nat.pow_le_pow_right (by decide) (by decide)))))
  · simp only [PyData.shown]
    exact toString_length_le (by omega) (by decide) (by show (i : Int) < 10 ^ 5; omega)
theorem wd_str {x : Str} {n : Nat} (h : (reprText x).length ≤ n) : Wd (.str x) n := ⟨by simp only [PyData.showable], by simp only [PyData.hasDict], by simp only [PyData.shown]; exact h, by simp only [PyData.depth]; omega⟩
theorem wd_slip {y : Slip} (h1 : y.1 < 100000) (h2 : y.2 < 100000) : Wd (slipD y) 16 := (wda_cons (wd_nat h1) (by simp only [PyData.depth]; omega) (wda_cons (wd_nat h2) (by simp only [PyData.depth]; omega) wda_nil)).tup
theorem dep_slip {y : Slip} : (slipD y).depth ≤ 2 := Nat.le_trans (sh_slip (x := y)).dep (by decide)
theorem wda_slips : ∀ {l : List Slip}, (∀ y ∈ l, y.1 < 100000 ∧ y.2 < 100000) → WdA (slips l) (l.length * 18)
  | [], _ => wda_nil
  | y :: l, h => by
    have z := wda_cons (wd_slip (h y List.mem_cons_self).1 (h y List.mem_cons_self).2) (Nat.le_trans dep_slip (by decide)) (wda_slips fun x hx => h x (List.mem_cons_of_mem _ hx))
    have e : 16 + 2 + l.length * 18 = (y :: l).length * 18 := by rw [List.length_cons]; omega
    rw [e] at z
    exact z
theorem wd_pair {p : Nat × List Slip} (h1 : p.1 < 100000) (h : ∀ y ∈ p.2, y.1 < 100000 ∧ y.2 < 100000) : Wd (pairD p) (p.2.length * 18 + 13) := by
  have z := (wda_cons (wd_nat h1) (by simp only [PyData.depth]; omega) (wda_cons (WdA.tup (wda_slips h)) (by
    show (slipsT p.2).depth ≤ 59
    exact Nat.le_trans (Sh.tuple (n := 1) sh_slips).dep (by decide)) wda_nil)).tup
  exact z.mono (by omega)
theorem wd_exc {x : Str} {n i : Nat} (hx : (reprText x).length ≤ n) (hi : i < 100000) : Wd (.tuple [.str x, .int i]) (n + 20) :=
  ((wda_cons (wd_str hx) (by simp only [PyData.depth]; omega) (wda_cons (wd_nat hi) (by simp only [PyData.depth]; omega) wda_nil)).tup).mono (by omega)
theorem repr_ref : (reprText "Refused").length ≤ 100 := by decide +kernel
theorem repr_inv : (reprText "InvalidSlip").length ≤ 100 := by decide +kernel
section
variable {X : Cx} {w : Vw} {e : Expr} {τ : Ty} {pos p : Pos} {ds : List PyData} {n : Nat}
theorem call_reprD (hc : Calm X.A) (hu : X.A.units + 100 < cLine) : CallR X (.builtin "repr") (fun xs H Q => ∃ (a : Addr) (d : PyData) (n : Nat), xs = [.ref a] ∧ Dp X.K H (.ref a) d ∧ Wd d n ∧ n ≤ sizeLine ∧ Q (.str d.shown) H) := by
  intro pins s σ H xs us Q I r h
  obtain ⟨a, d, n, rfl, hd, hw, hn, q⟩ := h
  obtain ⟨u, rfl, ru⟩ := r.one
  obtain ⟨as, rd⟩ := Dp.reads I d _ _ hd ru
  obtain rfl : u = Value.ref a := ru
  have dd := hw.dep
  exact repr_of_reads' rd hw.sh (PyData.noDict_hsm hw.nd) hc (by omega) (fun _ _ e => e) (fun h' t tk k => ⟨.str d.shown, H, I.kept (t' := tk) k, ⟨t, rfl⟩, q⟩) (Nat.le_trans hw.len hn)
theorem call_strD (hc : Calm X.A) (hu : X.A.units + 100 < cLine) : CallR X (.type "str") (fun xs H Q => ∃ (a : Addr) (d : PyData) (n : Nat), xs = [.ref a] ∧ Dp X.K H (.ref a) d ∧ Wd d n ∧ n ≤ sizeLine ∧ Q (.str d.shown) H) := by
  intro pins s σ H xs us Q I r h
  obtain ⟨a, d, n, rfl, hd, hw, hn, q⟩ := h
  obtain ⟨u, rfl, ru⟩ := r.one
  obtain ⟨as, rd⟩ := Dp.reads I d _ _ hd ru
  obtain rfl : u = Value.ref a := ru
  have dd := hw.dep
  exact str_of_reads rd hw.sh (PyData.noDict_hsm hw.nd) hc (by omega) (fun _ _ e => e) (fun h' t tk k => ⟨.str d.shown, H, I.kept (t' := tk) k, ⟨t, rfl⟩, q⟩) (Nat.le_trans hw.len hn)
theorem boot_repr' : bootBuiltins "repr" = some (.builtin "repr") := by decide +kernel
theorem boot_str' : bootBuiltins "str" = some (.type "str") := by decide +kernel
/-- repr of a tuple -/
theorem v_repr (hc : Calm X.A) (hu : X.A.units + 100 < cLine) (hm : X.mg "repr" = none) (ha : Xe X w e τ (eD X.K (.tuple ds))) (hw : Wd (.tuple ds) n) (hn : n ≤ 100000) (hg : Gl X "repr" := by rfl) (hs : starEach [e] X.env = [(false, eval e X.env)] := by rfl) : Xe X w (.Call (.Name "repr" p) [e] [] pos) τ (eD X.K (.str (PyData.shown (.tuple ds)))) :=
  x_cB (call_reprD hc hu) hg hm boot_repr' (xa_1 ha hs) (fun vs pds H lv i0 hp hv => by
    obtain ⟨v, d, rfl, hd, hv⟩ := one_of hp hv
    subst hd
    obtain ⟨q, ws, rfl, _⟩ := dat_tup hv
    exact Ot.val (pd := dat X.K (.str (PyData.shown (.tuple ds)))) i0 (fun Q k => ⟨q, _, n, rfl, dp_same (hid_sub _ _) _ _ hv, hw, Nat.le_trans hn (by decide), k⟩) ⟨_, rfl, rfl⟩ (.str _)) (by decide) (by decide) hs rfl
theorem v_strD (hc : Calm X.A) (hu : X.A.units + 100 < cLine) (hm : X.mg "str" = none) (ha : Xe X w e τ (eD X.K (.tuple ds))) (hw : Wd (.tuple ds) n) (hn : n ≤ 100000) (hg : Gl X "str" := by rfl) (hs : starEach [e] X.env = [(false, eval e X.env)] := by rfl) : Xe X w (.Call (.Name "str" p) [e] [] pos) τ (eD X.K (.str (PyData.shown (.tuple ds)))) :=
  x_cT (call_strD hc hu) hg hm boot_str' (xa_1 ha hs) (fun vs pds H lv i0 hp hv => by
    obtain ⟨v, d, rfl, hd, hv⟩ := one_of hp hv
    subst hd
    obtain ⟨q, ws, rfl, _⟩ := dat_tup hv
    exact Ot.val (pd := dat X.K (.str (PyData.shown (.tuple ds)))) i0 (fun Q k => ⟨q, _, n, rfl, dp_same (hid_sub _ _) _ _ hv, hw, Nat.le_trans hn (by decide), k⟩) ⟨_, rfl, rfl⟩ (.str _)) (by decide) (by decide) hs rfl
end
end Lt
namespace Lt
open PySem PySem.Spec PyProof.Rows L2
section
variable {X : Cx} {w : Vw} {a b e : Expr} {τ : Ty} {pos p p2 q : Pos}
/-! ### len(set(t)), t a tuple of numbers -/
def tLS (K : PySem.W.Frag) (ta : TE) : TE := fun σ H Q => ta σ H fun x H1 => ∃ (l : Addr) (ns : List Int), x = .ref l ∧ SqT K H1 l (ns.map V.int) ∧ ns.length ≤ 4000 ∧ ∀ ks : List Int, ks.Nodup → (∀ j, j ∈ ks → j ∈ ns) → Q (.int ks.length) H1
theorem boot_len2 : bootBuiltins "len" = some (.builtin "len") := by decide +kernel
theorem boot_set2 : bootBuiltins "set" = some (.type "set") := by decide +kernel
theorem pe_lenSetT {ta : TE} (hc : X.calm = true) (gl : Gl X "len") (ml : X.mg "len" = none) (gs : Gl X "set") (ms : X.mg "set" = none) (ha : PE X a ta) (na : starEach [a] X.env = (false, eval a X.env) :: starEach [] X.env := by rfl) : PE X (.Call (.Name "len" p) [.Call (.Name "set" p2) [a] [] q] [] pos) (tLS X.K ta) := by
  refine ⟨fun pins s σ H Q I want => Call_ (ld_blt I gl ml boot_len2 (PyProof.Rows.callWith_builtin1 (PyProof.Rows.args_cons (Call_ (ld_blt I gs ms boot_set2 (PyProof.Rows.callWith_type1 (PyProof.Rows.args_cons (thn (ha.run pins s σ H _ I want) fun v s1 told => PyProof.Rows.args_nil ?_) na) na rfl))) rfl) rfl rfl))⟩
  obtain ⟨x, H1, I1, r1, l, ns, rfl, hq, hl, k⟩ := told
  cases r1
  obtain ⟨its, rv, tp, _⟩ := I1.tuple hq
  refine call_set_tupI ns (I1.ok.hd hc) (show s1.heap.IsTuple l its.toArray from tp) (ints_of_vals rv) (by unfold scanBound; omega) fun h' tk c R hcn keep => PyProof.Rows.args_nil ?_
  obtain ⟨o, es, ep, t, ho, hex, hdt, g, nd, mem, hb, hf, hn, _, _⟩ := R
  have I2 : Inv X pins σ H1 { s1 with heap := h', toks := tk } := I1.kept (t' := tk) keep
  have ln : (es.toList.map keyOf).length = es.size := by rw [List.length_map, Array.length_toList]
  refine call_len_set ho hex hdt hf (by have := hcn; omega) ⟨.int (es.toList.map keyOf).length, H1, I2.tok _, ⟨_, by rw [ln]⟩, k _ nd fun j hj => ?_⟩
  exact of_decide_eq_true ((mem j).mpr hj)
theorem v_lenSet {xs : List Nat} (hc : X.calm = true) (ml : X.mg "len" = none) (ms : X.mg "set" = none) (ha : Xe X w a τ (eD X.K (natsT xs))) (hl : xs.length ≤ 4000) (gl : Gl X "len" := by rfl) (gs : Gl X "set" := by rfl) (na : starEach [a] X.env = (false, eval a X.env) :: starEach [] X.env := by rfl) :
    Xe X w (.Call (.Name "len" p) [.Call (.Name "set" p2) [a] [] q] [] pos) τ (isI X.K fun i => ∃ ks : List Int, ks.Nodup ∧ (∀ j ∈ ks, ∃ x ∈ xs, j = (x : Nat)) ∧ i = (ks.length : Nat)) := fun σ H s Q k =>
  eSem_of (pe_lenSetT hc gl ml gs ms pe_sem na) (ha σ H s _ fun v pd H1 m1 i1 ⟨y, e1, e2⟩ hv => by
    subst e1; subst e2
    obtain ⟨r, vs, rfl, hr, da⟩ := dat_tup hv
    have ev := dpa_natV (K := X.K) da
    subst ev
    refine ⟨r, xs.map fun (n : Nat) => (n : Int), rfl, ?_, by rw [List.length_map]; exact hl, fun ks nd mem => ?_⟩
    · rw [← natV_ints]
      exact sqt_same (hid_sub _ _) hr
    · exact k _ (dat X.K (.int ks.length)) H1 m1 i1 ⟨_, rfl, ks, nd, fun j hj => by
        obtain ⟨x, hx, e⟩ := List.mem_map.mp (mem j hj)
        exact ⟨x, hx, e.symm⟩, rfl⟩ (.int _))
/-- min of a list of numbers -/
theorem v_minL {ns : List Nat} (hc : X.calm = true) (hm : X.mg "min" = none) (ha : Xe X w a τ (eD X.K (natsL ns))) (h0 : ns ≠ []) (hg : Gl X "min" := by rfl) (hs : starEach [a] X.env = [(false, eval a X.env)] := by rfl) : Xe X w (.Call (.Name "min" p) [a] [] pos) τ (isI X.K fun i => ∃ m : Nat, i = m ∧ m ∈ ns ∧ ∀ y ∈ ns, m ≤ y) :=
  x_cB (cr_min hc) hg hm boot_min' (xa_1 ha hs) (fun vs pds H lv i0 hp hv => by
    obtain ⟨v, d, rfl, hd, hv⟩ := one_of hp hv
    subst hd
    obtain ⟨r, ws, rfl, hr, da⟩ := dat_lst hv
    have ev := dpa_natV (K := X.K) da
    subst ev
    intro Q k
    refine ⟨r, ns.map fun (n : Nat) => (n : Int), rfl, by rw [← natV_ints]; exact sql_same (hid_sub _ _) hr, by rw [List.length_map]; exact List.length_pos_iff.mpr h0, fun m hm1 hm2 => ?_⟩
    obtain ⟨x, hx, rfl⟩ := List.mem_map.mp hm1
    exact k _ (dat X.K (.int x)) H .rfl' i0 ⟨_, rfl, x, rfl, hx, fun y hy => by
      have := hm2 _ (List.mem_map.mpr ⟨y, hy, rfl⟩)
      omega⟩ (.int _)) (by decide) (by decide) hs rfl
/-! ### d is False; d not in t -/
theorem op_isF : OpR X (compareOp .Is) (fun x y H Q => (x = .non ∨ ∃ a, x = .ref a) ∧ (∃ b, y = .bl b) ∧ Q (.bl false) H) := by
  intro pins s σ H x y v u Q I rx ry h
  obtain ⟨hx, ⟨b, rfl⟩, q⟩ := h
  cases (show u = Value.bool b from ry)
  rcases hx with rfl | ⟨a, rfl⟩
  · cases (show v = Value.none from rx)
    exact wpAny_is_other rfl (fun z => nomatch z) ⟨.bl false, H, I, rfl, q⟩
  · cases (show v = Value.ref a from rx)
    exact wpAny_is_other rfl (fun z => nomatch z) ⟨.bl false, H, I, rfl, q⟩
theorem t_isF {d : PyData} {c : Bool} {j : Nat} {p1 : Pos} (ha : Xe X w a τ (eD X.K d)) (hd : d = .none ∨ ∃ ds, d = .tuple ds) : Xt X w (.Compare a [.Is] [.Constant (.bool c) j p1] pos) τ (eT false) :=
  xt_of op_isF (nobehind _ (by decide) (by decide)) ha (x_bl (P := eB X.K c) ⟨c, rfl, rfl⟩) fun va vb pa pb H l i0 ⟨y, e1, e2⟩ ⟨z, e3, e4⟩ h1 h2 => by
    subst e1; subst e2; subst e3; subst e4
    have eb := dat_bl h2
    subst eb
    refine ob i0 (fun Q k => ⟨?_, ⟨_, rfl⟩, k⟩) rfl
    rcases hd with rfl | ⟨ds, rfl⟩
    · exact .inl (dat_non h1)
    · obtain ⟨r, ws, rfl, _⟩ := dat_tup h1
      exact .inr ⟨r, rfl⟩
/-- a list of one's own and a new one, put together -/
theorem v_catOF {q0 : Addr} {j : Nat} {ds es' : List PyData} (ha : Xe X w a τ (fun pd => pd = is (.ref q0))) (hw : w.own[j]? = some (q0, Ct.lst X.K ds)) (hb : Xf X w b τ (fun c => c = Ct.lst X.K es')) (hl : ds.length + es'.length ≤ 100000) : Xe X w (.BinOp a .Add b pos) τ (eD X.K (.list (ds ++ es'))) := fun σ H s Q k => by
  refine eSem_of (pe_op op_cat pe_sem pe_sem) (ha σ H s _ fun v pd H1 m1 i1 e1 hv => hb σ H1 (s.move m1 i1) _ fun r o c H2 m2 i2 nr ec hco => ?_)
  subst e1
  have ev : v = V.ref q0 := hv
  subst ev
  subst ec
  obtain ⟨ys, rfl, dy⟩ := hco
  obtain ⟨xs, hq, dx⟩ := own_at i2 hw
  have s2 := (s.move m1 i1).move m2 i2
  have sm : Same H2 (upd H2 r (.lst ys)) := same_upd nr
  refine ⟨q0, r, xs, ys, rfl, rfl, sm _ _ hq, upd_same, ?_, fun np hnp => ?_⟩
  · rw [dpa_len dx, dpa_len dy]
    exact Nat.le_trans hl (by decide)
  · have sm2 : Same (upd H2 r (.lst ys)) (upd (upd H2 r (.lst ys)) np (.lst (xs ++ ys))) := same_upd hnp
    have sml : Same (hid w.S H2) (hid w.S (upd (upd H2 r (.lst ys)) np (.lst (xs ++ ys)))) := hid_move (Exm.same (sm.trans sm2))
    have nS : ¬ np ∈ w.S := fun m => by
      have z := (s2.live.move (Exm.same (M := []) sm)) np m
      exact z hnp
    exact k _ (dat X.K (.list (ds ++ es'))) _ (((m1.trans m2).trans (Exm.same sm)).trans (Exm.same sm2)) (w.st sm2 (w.st sm i2)) ⟨_, rfl, rfl⟩ (.lst (.inl (.inl (by rw [hid_ne nS, upd_same]))) (dpa_app (dpa_same sml _ _ dx) (dpa_same sml _ _ dy)))
end
theorem Sh.str {x : Str} {n : Nat} (h : PyData.strOk x = true) : Sh (.str x) n := ⟨by simp [PyData.canLay0, h], by simp [PyData.depth]⟩
end Lt
set_option maxHeartbeats 400000
namespace Lt
open PySem PySem.Spec PyProof.Rows L2
/-- values near the slip (1, 0) that are none -/
def oddA (C : Nat) : List PyData := [.tuple [.int 1, .int C], .tuple [.int 1, .int (-1)], .tuple [.int (-2), .int 0], .list [.int 1, .int 0], .tuple [.int 1], .tuple [.int 1, .int 0, .int 0]]
def oddB : List PyData := [.tuple [.bool true, .int 0], .tuple [.int 1, .none], .str (PyData.shown (.tuple [.int 1, .int 0])), .none]
theorem odd_no {C : Nat} {d : PyData} (h : d ∈ oddA C ++ oddB) : isSlipD C d = false := by
  have z : d = .tuple [.int 1, .int C] ∨ d = .tuple [.int 1, .int (-1)] ∨ d = .tuple [.int (-2), .int 0] ∨ d = .list [.int 1, .int 0] ∨ d = .tuple [.int 1] ∨ d = .tuple [.int 1, .int 0, .int 0] ∨ d = .tuple [.bool true, .int 0] ∨ d = .tuple [.int 1, .none] ∨ d = .str (PyData.shown (.tuple [.int 1, .int 0])) ∨ d = .none := by
    simpa [oddA, oddB] using h
  rcases z with rfl | rfl | rfl | rfl | rfl | rfl | rfl | rfl | rfl | rfl
  · simp [isSlipD, isNumD, isIdxD]
  · simp [isSlipD, isNumD, isIdxD]
  · simp [isSlipD, isNumD, isIdxD]
  · rfl
  · rfl
  · rfl
  · rfl
  · rfl
  · rfl
  · rfl
section
variable {P : Program} {w : World} {K : PySem.W.Frag} {mg : Str → Option Value} {base : Heap} {M : Ad}
def oddL (C : Nat) : PyData × List PyData := (.list (oddA C ++ oddB), oddA C ++ oddB)
def ar_odd (K : PySem.W.Frag) (C : Nat) : List Pd := [dat K (.int C), dat K (slipD (1, 0))]
def B_odd (K : PySem.W.Frag) (C : Nat) (r : Pd) : Prop := ∃ d, isSlipD C d = false ∧ r = dat K d
theorem sc_lawOdd : FnScope ["_law_deal", "_law_commands_here", "_law_slip", "_law_odd_here"] ["_law_deal", "_law_commands_here", "_law_slip"] (defScope sLawOdd) := ⟨rfl, rfl, rfl, by decide +kernel, rfl, by decide +kernel, by decide +kernel⟩
theorem cl_lawOdd (T : Tx K mg M) : ClG P w K mg base CX0 3 "_law_odd" ["_law_deal", "_law_commands_here", "_law_slip"] (spDl (ar_odd K) (fun _ => True) (B_odd K)) := by
  refine ClG.mk' (d := dLawOdd) (T.df 41 _ rfl rfl rfl) (fun f fd F => fnG_dl F sc_lawOdd (fun i => rfl) fun cdv Ar outer s H E hc hr S d l hd hl H0 C Q _ q => ?_) (fun _ _ _ _ _ _ us hl => match us, hl with | [_, _, _], _ => rfl)
  have hu : Ar.units + 3 + 100 < cLine := by
    have z : Ar.units + 3 + 16 * 2 + 200 < cLine := hr.un
    omega
  have i0 : ∀ {w' : Vw} {τ : Ty} {p1 p2 p3 : Pos} {j : Nat}, τ[2]? = some (some (dat K (slipD (1, 0)))) → Xe (cxOf CX0 P w K mg base ["_law_deal", "_law_commands_here", "_law_slip", "_law_odd_here"] dLawOdd.qual dLawOdd.scope f cdv Ar outer s H E) w' (.Subscript (.Name "_law_slip" p1) (.Constant (.int 0) j p2) p3) τ (eD K (.int 1)) := fun h => v_ix (ds := [.int 1, .int 0]) (n := 0) (f := .int 1) (nD 2 h) (cI 0) (.inr rfl) rfl
  have i1 : ∀ {w' : Vw} {τ : Ty} {p1 p2 p3 : Pos} {j : Nat}, τ[2]? = some (some (dat K (slipD (1, 0)))) → Xe (cxOf CX0 P w K mg base ["_law_deal", "_law_commands_here", "_law_slip", "_law_odd_here"] dLawOdd.qual dLawOdd.scope f cdv Ar outer s H E) w' (.Subscript (.Name "_law_slip" p1) (.Constant (.int 1) j p2) p3) τ (eD K (.int 0)) := fun h => v_ix (ds := [.int 1, .int 0]) (n := 1) (f := .int 0) (nD 2 h) (cI 1) (.inr rfl) rfl
  refine rn_new (i := 3) (C := fun c => c = Ct.lst K (oddA C)) (v_lstF (ds := oddA C) (a_cons (v_tup (a_cons (i0 rfl) (a_cons (nD 1) a_nil)) (by show 2 ≤ 1000; decide)) (a_cons (v_tup (a_cons (i0 rfl) (a_cons (v_neg (cI 1)).toD a_nil)) (by show 2 ≤ 1000; decide))
    (a_cons (v_tup (a_cons ((v_sub (v_neg (cI 1)) (Xe.toI (i0 rfl))).toD) (a_cons (i1 rfl) a_nil)) (by show 2 ≤ 1000; decide)) (a_cons (v_list T.list (ds := [.int 1, .int 0]) (nD 2) (.inr rfl)) (a_cons (v_front (ds := [.int 1, .int 0]) (nD 2) (cN 1) (by show 1 ≤ 2; decide)) (a_cons (v_catT (ds := [.int 1, .int 0]) (es' := [.int 0]) (nD 2) (v_tup (a_cons (cI 0).toD a_nil)) (by show 2 + 1 ≤ 100000; decide)) a_nil)))))) (by show 6 ≤ 1000; decide)) (fun p c n1 n2 ec => ?_) sc_lawOdd.nd rfl (Or.inl rfl)
  subst ec
  refine rn_retDl q Dv.rfl'.add.up rfl (x_dl (oddL C) (cl_lawOf T) hr (by decide) pass0 rfl rfl (ap_cons (nO 0) (ap_cons (Xe.eq (v_catOF (j := 0) (ds := oddA C) (es' := oddB) (nO 3) rfl (v_lstF (ds := oddB) (a_cons (v_tup (a_cons (x_bl ⟨_, rfl, rfl⟩) (a_cons (i1 rfl) a_nil)) (by show 2 ≤ 1000; decide)) (a_cons (v_tup (a_cons (i0 rfl) (a_cons (x_non ⟨_, rfl, rfl⟩) a_nil)) (by show 2 ≤ 1000; decide)) (a_cons (v_strD (n := 16) hc hu T.str (nD 2) (wd_slip (y := (1, 0)) (by decide) (by decide)) (by decide)) (a_cons (x_non ⟨_, rfl, rfl⟩) a_nil)))) (by show 4 ≤ 1000; decide)) (by show 6 + 4 ≤ 100000; decide))) ap_nil)) ⟨⟨.inl rfl⟩, by simp [oddL, oddA], by show (oddA C ++ oddB).length < 1000000; simp [oddA, oddB]⟩ fun r ⟨x, hx, e⟩ => ⟨x, odd_no hx, e⟩)
end
end Lt
namespace Lt
open PySem PySem.Spec PyProof.Rows L2
/-- what _law_one tells of an outcome -/
def toldD : Option (Nat × List Slip) → PyData
  | none => .tuple [.str "Refused", .int 2]
  | some p => pairD p
theorem toldD_lawR {K : PySem.W.Frag} {M : Ad} {o : Option (Nat × List Slip)} : lawR K M (match o with | none => .exc M.cr 2 | some p => .val (dat K (pairD p))) = dat K (toldD o) := by
  cases o with
  | none => exact lawR_cr
  | some p => rfl
theorem toldD_tup (o : Option (Nat × List Slip)) : ∃ ds, toldD o = .tuple ds := by
  cases o <;> exact ⟨_, rfl⟩
theorem wd_told {o : Option (Nat × List Slip)} (h : ∀ p, o = some p → p.1 < 100000 ∧ p.2.length ≤ 1000 ∧ ∀ y ∈ p.2, y.1 < 100000 ∧ y.2 < 100000) : Wd (toldD o) 20000 := by
  cases o with
  | none => exact (wd_exc repr_ref (by decide)).mono (by decide)
  | some p =>
    obtain ⟨h1, h2, h3⟩ := h p rfl
    exact (wd_pair h1 h3).mono (by omega)
theorem shown_ref2 : PyData.shown (.tuple [.str "Refused", .int 2]) = ("('Refused', 2)" : Str) := by decide +kernel
theorem shown_ref0 : PyData.shown (.tuple [.str "Refused", .int 0]) = ("('Refused', 0)" : Str) := by decide +kernel
theorem shown_ref1 : PyData.shown (.tuple [.str "Refused", .int 1]) = ("('Refused', 1)" : Str) := by decide +kernel
theorem shown_inv0 : PyData.shown (.tuple [.str "InvalidSlip", .int 0]) = ("('InvalidSlip', 0)" : Str) := by decide +kernel
section
variable {X : Cx} {w : Vw} {e a b : Expr} {τ : Ty} {pos p : Pos} {x : Str} {d : PyData} {n : Nat}
/-- repr of data that is a tuple -/
theorem v_reprT (hc : Calm X.A) (hu : X.A.units + 100 < cLine) (hm : X.mg "repr" = none) (ha : Xe X w e τ (eD X.K d)) (hd : ∃ ds, d = .tuple ds) (hw : Wd d n) (hn : n ≤ 100000) (hg : Gl X "repr" := by rfl) (hs : starEach [e] X.env = [(false, eval e X.env)] := by rfl) : Xe X w (.Call (.Name "repr" p) [e] [] pos) τ (eD X.K (.str d.shown)) := by
  obtain ⟨ds, rfl⟩ := hd
  exact v_repr hc hu hm ha hw hn hg hs
/-- texts that are the same -/
theorem t_neStr (ha : Xe X w a τ (eD X.K (.str x))) (hb : Xe X w b τ (eD X.K (.str x))) : Xt X w (.Compare a [.NotEq] [b] pos) τ (eT false) := xt_neS ha hb (fun d f e1 e2 => by rw [e1, e2]; rfl) fun d f e1 e2 => by
  rw [e1, e2]
  show (!decide (x = x)) = false
  simp
theorem t_eqStr (ha : Xe X w a τ (eD X.K (.str x))) (hb : Xe X w b τ (eD X.K (.str x))) : Xt X w (.Compare a [.Eq] [b] pos) τ (eT true) := xt_eqS ha hb (fun d f e1 e2 => by rw [e1, e2]; rfl) fun d f e1 e2 => by
  rw [e1, e2]
  show decide (x = x) = true
  simp
theorem v_eqStr (ha : Xe X w a τ (eD X.K (.str x))) (hb : Xe X w b τ (eD X.K (.str x))) : Xe X w (.Compare a [.Eq] [b] pos) τ (eB X.K true) := x_eqS ha hb (fun d f e1 e2 => by rw [e1, e2]; rfl) fun d f e1 e2 => by
  rw [e1, e2]
  show decide (x = x) = true
  simp
theorem cStr {j : Nat} (h : x = d0) : Xe X w (.Constant (.str d0) j pos) τ (eD X.K (.str x)) := by
  subst h
  exact x_str ⟨_, rfl, rfl⟩
end
/-- slips that come: good ones, at unlike times, not too many -/
structure Come (C : Nat) (l : List Slip) : Prop where
  cm : Cmds C (cmds l)
  ap : Apart l
  len : l.length ≤ 60
  tm : ∀ y ∈ l, y.1 < 1000
theorem Come.stage {t : Tb} {C b s : Nat} {l : List Slip} (h : Come C l) (ok : Ok t C) (hs : s < t.length) (i : Nat) {p : Nat × List Slip} (hp : runA t C b (s, []) (l.take i) = some p) : Stage t C (l.take i) p := by
  have z := Stage.run ok (Stage.start hs) (l := l.take i) (by_ := b) (fun c hc => by
    obtain ⟨z, hz, rfl⟩ := List.mem_map.mp hc
    exact h.cm _ (List.mem_map.mpr ⟨z, List.mem_of_mem_take hz, rfl⟩)) (by
    rw [List.nil_append]
    exact apart_left (m := l.drop i) (by rw [List.take_append_drop]; exact h.ap)) hp
  rw [List.nil_append] at z
  exact z
theorem Come.told {t : Tb} {C b s : Nat} {l : List Slip} (h : Come C l) (ok : Ok t C) (hs : s < t.length) (ht : t.length < 1000) (hC : C ≤ 1000) (i : Nat) : ∀ p, runA t C b (s, []) (l.take i) = some p → p.1 < 100000 ∧ p.2.length ≤ 1000 ∧ ∀ y ∈ p.2, y.1 < 100000 ∧ y.2 < 100000 := fun p hp => by
  have st := h.stage ok hs i hp
  have h1 := st.now
  have h2 := st.len
  rw [List.length_take] at h2
  have h3 := h.len
  refine ⟨by omega, by omega, fun y hy => ?_⟩
  have h4 := h.tm y (List.mem_of_mem_take (st.sub y hy))
  have h5 := st.cm y.2 (List.mem_map.mpr ⟨y, hy, rfl⟩)
  omega
section
variable {P : Program} {w : World} {K : PySem.W.Frag} {mg : Str → Option Value} {base : Heap} {M : Ad}
def F_lawRun (K : PySem.W.Frag) (M : Ad) : List Pd → Pd → Prop := fun pds r => ∃ (T : Tb) (C s : Nat) (l : List Slip) (b : Nat), pds = [mach K M.cm T C, dat K (rowsL T), dat K (.int s), dat K (slipsL l), dat K (.int b)] ∧ Ok T C ∧ T.length < 1000 ∧ C ≤ 1000 ∧ s < T.length ∧ Come C l ∧ r = dat K (optD (runA T C b (s, []) l))
abbrev NRun : List Str := ["_law_machine_here", "_law_steps", "_law_state", "_law_order", "_law_by", "_law_pair", "_law_at", "_law_after_here", "_law_given", "_law_told"]
theorem sc_lawRun : FnScope NRun ["_law_machine_here", "_law_steps", "_law_state", "_law_order", "_law_by"] (defScope sLawRun) := ⟨rfl, rfl, rfl, by decide +kernel, rfl, by decide +kernel, by decide +kernel⟩
theorem cl_lawRun (T : Tu P w K mg base M) : ClG P w K mg base CX0 13 "_law_run" ["_law_machine_here", "_law_steps", "_law_state", "_law_order", "_law_by"] (spP (F_lawRun K M)) := by
  refine ClG.mk' (d := dLawRun) (T.tt.tx.df 46 _ rfl rfl rfl) (fun f fd F => fnG_pure F sc_lawRun (fun pds r h => ?_) fun cdv A outer s H E hc hr S H0 pds r Q h q => ?_) (fun _ _ _ _ _ _ us hl => match us, hl with | [_, _, _, _, _], _ => rfl)
  · obtain ⟨t, C, s, l, b, e1, _⟩ := h
    subst e1; rfl
  obtain ⟨t, C, s0, l, b, e1, ok, hn, hC, hs0, co, e2⟩ := h
  subst e1; subst e2
  have hu : A.units + 3 + 100 < cLine := by
    have z : A.units + 3 + 16 * 12 + 200 < cLine := hr.un
    omega
  have hl := co.len
  have all_ : ∀ {w' : Vw} {τ : Ty} {e1 e2 e3 e4 : Expr} {p1 p2 : Pos} {o : Option (Nat × List Slip)}, runA t C b (s0, []) l = o → Xa (cxOf CX0 P w K mg base NRun dLawRun.qual dLawRun.scope f cdv A outer s H E) w' [e1, e2, e3, e4] τ (fun pds => pds = [mach K M.cm t C, dat K (.int s0), dat K (slipsL l), dat K (.int b)]) → starEach [e1, e2, e3, e4] (cxOf CX0 P w K mg base NRun dLawRun.qual dLawRun.scope f cdv A outer s H E).env = (false, eval e1 (cxOf CX0 P w K mg base NRun dLawRun.qual dLawRun.scope f cdv A outer s H E).env) :: starEach [e2, e3, e4] (cxOf CX0 P w K mg base NRun dLawRun.qual dLawRun.scope f cdv A outer s H E).env →
      (backTo p2 (starEach [e2, e3, e4] (cxOf CX0 P w K mg base NRun dLawRun.qual dLawRun.scope f cdv A outer s H E).env)).any (·.1) = false → Xe (cxOf CX0 P w K mg base NRun dLawRun.qual dLawRun.scope f cdv A outer s H E) w' (.Call (.Name "_law_all" p1) [e1, e2, e3, e4] [] p2) τ (eD K (toldD o)) := fun {w' τ e1 e2 e3 e4 p1 p2 o} ho ha h1 h2 =>
    Xe.ofP (x_clP (P := fun pd => pd = dat K (toldD o)) (cl_lawAll T) hr (by decide) pass0 ha (fun pds e => ⟨_, ⟨_, _, _, b, _, e, ⟨t, C, _, _, b, e, ok, hn, hC, .inr ⟨s0, hs0, rfl, .inr ⟨l, ⟨.inl rfl, co.cm, co.ap, by omega⟩, by omega, rfl⟩⟩⟩, rfl⟩, by rw [ho]; exact toldD_lawR⟩) rfl (by decide) h1 h2)
  refine rn_asg (i := 5) (P := eD K (pairD (s0, []))) (v_tup (a_cons (nD 2) (a_cons (v_tup (ds := []) a_nil) a_nil)) (by show 2 ≤ 1000; decide)) (fun pd hp => ?_) sc_lawRun.nd rfl (Or.inl rfl)
  obtain ⟨_, rfl, rfl⟩ := hp
  refine rn_for (passes_of rfl) rfl (wi_range (n := l.length) T.tt.tx.range ((v_len T.tt.tx.len (ds := slips l) (nD 3) (.inl rfl)).toJ (by rw [slips_len])) (by omega)) (pg_name (i := 6) sc_lawRun.nd rfl (Or.inl rfl)) (tgr_name 6) (fun _ _ _ _ _ => trivial)
    (fun wb ds i w' τ' => w' = wb ∧ ∃ p o6 o7 o8 o9, runA t C b (s0, []) (l.take i) = some p ∧ τ' = [some (mach K M.cm t C), some (dat K (rowsL t)), some (dat K (.int s0)), some (dat K (slipsL l)), some (dat K (.int b)), some (dat K (pairD p)), o6, o7, o8, o9])
    (fun wb ds lk e => ⟨rfl, (s0, []), none, none, none, none, by rw [List.take_zero]; rfl, rfl⟩) (fun wb ds i w' τ' lk h => ⟨by rw [h.1]; exact lk.S, fun H h' => by rw [h.1] at h'; exact h'⟩)
    (fun wb ds i x w' τ' lk e h hx => ?_) (fun wb ds w' τ' lk e h => ?_)
  · obtain ⟨rfl, p, o6, o7, o8, o9, hp, rfl⟩ := h
    subst e
    obtain ⟨hi, rfl⟩ := rangeD_get hx
    have up : Up (Vw.pure S H0) w' := Up.rfl'.lk lk
    obtain ⟨y, hy⟩ : ∃ y, l[i]? = some y := ⟨l[i], by simp [hi]⟩
    have hyc : y.2 < C := co.cm _ (List.mem_map.mpr ⟨y, List.mem_of_getElem? hy, rfl⟩)
    have st := co.stage ok hs0 i hp
    have pl : p.2.length ≤ 400 := by
      have h1 := st.len
      rw [List.length_take] at h1
      omega
    have new : ∀ z ∈ p.2, z.1 ≠ y.1 := fun z hz e => apart_take co.ap hy (List.mem_map.mpr ⟨z, st.sub z hz, e⟩)
    have nx := runA_take (T := t) (C := C) (by_ := b) (p := (s0, [])) hy
    rw [hp] at nx
    have nx' : runA t C b (s0, []) (l.take (i + 1)) = after t C p.1 p.2 y b := nx
    have yat : ∀ {w2 : Vw} {τ : Ty} {p1 p2 p3 : Pos}, τ[3]? = some (some (dat K (slipsL l))) → τ[6]? = some (some (dat K (.int i))) → Xe (cxOf CX0 P w K mg base NRun dLawRun.qual dLawRun.scope f cdv A outer s H E) w2 (.Subscript (.Name "_law_order" p1) (.Name "_law_at" p2) p3) τ (eD K (slipD y)) := fun h3 h6 => v_ix (ds := slips l) (n := i) (f := slipD y) (nD 3 h3) (nI 6 h6) (.inl rfl) (slips_get hy)
    have p0 : ∀ {w2 : Vw} {τ : Ty} {p1 p2 p3 : Pos} {j : Nat}, τ[5]? = some (some (dat K (pairD p))) → Xe (cxOf CX0 P w K mg base NRun dLawRun.qual dLawRun.scope f cdv A outer s H E) w2 (.Subscript (.Name "_law_pair" p1) (.Constant (.int 0) j p2) p3) τ (eD K (.int p.1)) := fun h => v_ix (ds := [.int p.1, slipsT p.2]) (n := 0) (nD 5 h) (cI 0) (.inr rfl) rfl
    have p1 : ∀ {w2 : Vw} {τ : Ty} {p1 p2 p3 : Pos} {j : Nat}, τ[5]? = some (some (dat K (pairD p))) → Xe (cxOf CX0 P w K mg base NRun dLawRun.qual dLawRun.scope f cdv A outer s H E) w2 (.Subscript (.Name "_law_pair" p1) (.Constant (.int 1) j p2) p3) τ (eD K (slipsT p.2)) := fun h => v_ix (ds := [.int p.1, slipsT p.2]) (n := 1) (nD 5 h) (cI 1) (.inr rfl) rfl
    refine rn_par (i := 7) (j := 8) (PA' := fun pd => pd = dat K (optD (after t C p.1 p.2 y b))) (PB := eD K (.list (slips p.2).reverse)) rfl (x_clP (cl_lawAfter T.tt.tx) hr (by decide) pass0 (ap_cons (nP 1) (ap_cons (Xe.eq (p0 rfl)) (ap_cons (Xe.eq (p1 rfl)) (ap_cons (Xe.eq (yat rfl rfl)) (ap_cons (nP 4) ap_nil))))) fun pds e => ⟨_, ⟨t, C, p.1, p.2, y, b, e, ok, hn, hC, st.asc, st.cm, pl, hyc, new, rfl⟩, rfl⟩)
      (v_revL (v_list T.tt.tx.list (ds := slips p.2) (p1 rfl) (.inr rfl))) (fun p1 p2 e1 e2 => ?_) sc_lawRun.nd rfl rfl (by decide) rfl rfl rfl
    subst e1
    obtain ⟨_, rfl, rfl⟩ := e2
    have er : PyData.list (slips p.2).reverse = slipsL p.2.reverse := by rw [slips_rev]; rfl
    rw [er]
    have sr : sortS p.2.reverse = p.2 := sortS_eq st.asc (List.reverse_perm p.2)
    refine rn_asg (i := 9) (P := fun pd => pd = dat K (toldD (after t C p.1 p.2 y b))) (x_clP (cl_lawOne T) hr (by decide) pass0 (ap_cons (nP 0) (ap_cons (Xe.eq (p0 rfl)) (ap_cons (nP 8) (ap_cons (Xe.eq (yat rfl rfl)) (ap_cons (nP 4) ap_nil))))) fun pds e => ⟨_, ⟨_, _, _, _, b, (match after t C p.1 p.2 y b with | none => Oc.exc M.cr 2 | some p => Oc.val (dat K (pairD p))), e, ⟨t, C, _, _, _, b, e, ok, hn, hC, .inr ⟨p.1, st.now, rfl, .inr ⟨p.2.reverse, ⟨.inl rfl, cmds_perm st.cm (List.reverse_perm p.2).symm, (asc_apart st.asc).perm (List.reverse_perm p.2).symm, by rw [List.length_reverse]; omega⟩, .inr ⟨y, rfl, hyc, .inr ⟨fun z hz => new z (List.mem_reverse.mp hz), by rw [List.length_reverse]; omega, by rw [sr]; rfl⟩⟩⟩⟩⟩, rfl⟩, toldD_lawR⟩) (fun pd hp => ?_) sc_lawRun.nd rfl (Or.inl rfl)
    subst hp
    have wd : Wd (toldD (after t C p.1 p.2 y b)) 20000 := wd_told fun p' hp' => co.told ok hs0 hn hC (i + 1) p' (nx'.trans hp')
    cases ea : after t C p.1 p.2 y b with
    | none =>
      rw [ea] at wd nx'
      have en := runA_none nx'
      refine rn_if (T := eT false) (t_neStr (v_reprT hc hu T.tt.tx.repr (nD 9) (toldD_tup _) wd (by decide)) (v_reprT hc hu T.tt.tx.repr (v_if (u := true) (t_isN (d := .none) (nD 7)) (fun _ => v_tup (ds := [.str "Refused", .int 2]) (a_cons (x_str ⟨_, rfl, rfl⟩) (a_cons (cI 2).toD a_nil)) (by show 2 ≤ 1000; decide)) (fun z => by cases z)) (toldD_tup none) wd (by decide))) (fun z => rn_dead (by cases z)) (fun _ => rn_out ?_)
      refine rn_if (T := eT true) (t_isN (d := .none) (nD 7)) (fun _ => ?_) (fun z => rn_dead (by cases z))
      refine rn_retP q up rfl (Xe.ret (d := .none) (v_if (u := true) (t_eqStr (v_reprT hc hu T.tt.tx.repr (all_ en (ap_cons (nP 0) (ap_cons (nP 2) (ap_cons (nP 3) (ap_cons (nP 4) ap_nil)))) rfl rfl) (toldD_tup _) wd (by decide)) (cStr shown_ref2)) (fun _ => x_non ⟨_, rfl, rfl⟩) (fun z => by cases z)) (by rw [en]; rfl))
    | some p' =>
      rw [ea] at wd nx'
      refine rn_if (T := eT false) (t_neStr (v_reprT hc hu T.tt.tx.repr (nD 9) (toldD_tup _) wd (by decide)) (v_reprT hc hu T.tt.tx.repr (v_if (u := false) (t_isN (d := pairD p') (nD 7)) (fun z => by cases z) (fun _ => nD 7)) (toldD_tup (some p')) wd (by decide))) (fun z => rn_dead (by cases z)) (fun _ => rn_out ?_)
      refine rn_if (T := eT false) (t_isN (d := pairD p') (nD 7)) (fun z => rn_dead (by cases z)) (fun _ => rn_out ?_)
      refine rn_asg (i := 5) (P := eD K (pairD p')) (nD 7) (fun pd hp => ?_) sc_lawRun.nd rfl (Or.inl rfl)
      obtain ⟨_, rfl, rfl⟩ := hp
      exact rn_nil fun σ H s => ⟨_, _, ⟨rfl, p', _, _, _, _, nx', rfl⟩, s⟩
  · obtain ⟨rfl, p, o6, o7, o8, o9, hp, rfl⟩ := h
    subst e
    have hp0 := hp
    rw [rangeD_len] at hp
    have wd : Wd (pairD p) 20000 := wd_told (o := some p) fun p' hp' => by
      cases hp'
      exact co.told ok hs0 hn hC l.length p hp
    rw [List.take_length] at hp
    refine rn_retP q (Up.rfl'.lk lk) rfl (Xe.ret (d := pairD p) (v_if (u := true) (t_eqStr (v_reprT hc hu T.tt.tx.repr (all_ hp (ap_cons (nP 0) (ap_cons (nP 2) (ap_cons (Xe.eq (v_list T.tt.tx.list (ds := slips l) (nD 3) (.inl rfl))) (ap_cons (nP 4) ap_nil)))) rfl rfl) (toldD_tup (some p)) wd (by decide)) (v_reprT hc hu T.tt.tx.repr (nD 5) ⟨_, rfl⟩ wd (by decide))) (fun _ => nD 5) (fun z => by cases z)) (by rw [hp]; rfl))
end
end Lt
namespace Lt
open PySem PySem.Spec PyProof.Rows L2
def nsL (n : Nat) : List PyData := [.int n, .int (-1), .bool true, .none, .str "0"]
theorem ns_no {n : Nat} {d : PyData} (h : d ∈ nsL n) : isIdxD d n = false := by
  have z : d = .int n ∨ d = .int (-1) ∨ d = .bool true ∨ d = .none ∨ d = .str "0" := by simpa [nsL] using h
  rcases z with rfl | rfl | rfl | rfl | rfl
  · simp [isIdxD]
  · simp [isIdxD]
  · rfl
  · rfl
  · rfl
theorem inv0_ok : PyData.strOk ("('InvalidSlip', 0)" : Str) = true := by decide +kernel
theorem eqv_nilT : ∀ ds : List PyData, PyData.eqv (.tuple ds) (.tuple []) = decide (ds = [])
  | [] => by simp [PyData.eqv, PyData.eqvAll]
  | x :: xs => by simp [PyData.eqv, PyData.eqvAll]
theorem lay2 : Sh (.list [.str "('InvalidSlip', 0)", .str "('InvalidSlip', 0)"]) 1 := .list fun x hx => by
  have z : x = .str "('InvalidSlip', 0)" := by
    rcases List.mem_cons.mp hx with rfl | hx
    · rfl
    · simpa using hx
  subst z
  exact Sh.str inv0_ok
theorem eqv_two : (!PyData.eqv (.list [.str "('InvalidSlip', 0)", .str "('InvalidSlip', 0)"]) (.list (List.replicate 2 (.str "('InvalidSlip', 0)")))) = false := by
  have z : PyData.eqv (.list [.str "('InvalidSlip', 0)", .str "('InvalidSlip', 0)"]) (.list [.str "('InvalidSlip', 0)", .str "('InvalidSlip', 0)"]) = true := SeqAt.eqv_refl _ lay2.lay
  show (!PyData.eqv (.list [.str "('InvalidSlip', 0)", .str "('InvalidSlip', 0)"]) (.list [.str "('InvalidSlip', 0)", .str "('InvalidSlip', 0)"])) = false
  rw [z]; rfl
section
variable {P : Program} {w : World} {K : PySem.W.Frag} {mg : Str → Option Value} {base : Heap} {M : Ad}
def ar_err (K : PySem.W.Frag) (M : Ad) (i : Tb × Nat × List Slip) : List Pd := [mach K M.cm i.1 i.2.1, dat K (.int i.2.1), dat K (.int i.1.length), dat K (slipsT i.2.2)]
structure OkErr (i : Tb × Nat × List Slip) : Prop where
  ok : Ok i.1 i.2.1
  n : i.1.length < 1000
  c : i.2.1 ≤ 1000
  h : Hp_ i.2.1 i.2.2.length i.2.2
  l : i.2.2.length ≤ 60
abbrev NErr : List Str := ["_law_deal", "_law_machine_here", "_law_commands_here", "_law_many", "_law_heap_here", "_law_no_state", "_law_odd_here", "_law_twice", "_law_kept"]
theorem sc_lawErr : FnScope NErr ["_law_deal", "_law_machine_here", "_law_commands_here", "_law_many", "_law_heap_here"] (defScope sLawErrors) := ⟨rfl, rfl, rfl, by decide +kernel, rfl, by decide +kernel, by decide +kernel⟩
theorem cl_lawErr (T : Tu P w K mg base M) : ClG P w K mg base CX0 13 "_law_errors" ["_law_deal", "_law_machine_here", "_law_commands_here", "_law_many", "_law_heap_here"] (spDl (ar_err K M) OkErr (fun _ r => r = dat K (.bool true))) := by
  refine ClG.mk' (d := dLawErrors) (T.tt.tx.df 47 _ rfl rfl rfl) (fun f fd F => fnG_dl F sc_lawErr (fun i => rfl) fun cdv Ar outer s H E hc hr S d l hd hl H0 i Q h q => ?_) (fun _ _ _ _ _ _ us hl => match us, hl with | [_, _, _, _, _], _ => rfl)
  obtain ⟨t, C, hp⟩ := i
  have ok : Ok t C := h.ok
  have hn : t.length < 1000 := h.n
  have hC : C ≤ 1000 := h.c
  have hh : Hp_ C hp.length hp := h.h
  have hlen : hp.length ≤ 60 := h.l
  have n0 := ok.n0
  have X1 := T.tt.tx
  have ap := asc_apart hh.asc
  have hu : Ar.units + 3 + 100 < cLine := by
    have z : Ar.units + 3 + 16 * 12 + 200 < cLine := hr.un
    omega
  have hg : HeapD C (slipsT hp) hp := ⟨.inr rfl, hh.cm, ap, by omega⟩
  refine rn_unpA (A := fun qs => ∃ d1 d2, qs = [dat K d1, dat K d2] ∧ isIdxD d1 t.length = false ∧ isSlipD C d2 = false) rfl (x_tupA (n := 2) (xa_cons (PA' := fun pd => ∃ d1, pd = dat K d1 ∧ isIdxD d1 t.length = false) (PB := fun qs => ∃ d2, qs = [dat K d2] ∧ isSlipD C d2 = false) (x_dl (.list (nsL t.length), nsL t.length) (cl_lawOf X1) hr (by decide) pass0 rfl rfl (ap_cons (nO 0) (ap_cons (Xe.eq (v_lst (ds := nsL t.length) (a_cons (nD 3) (a_cons (v_neg (cI 1)).toD (a_cons (x_bl ⟨_, rfl, rfl⟩) (a_cons (x_non ⟨_, rfl, rfl⟩) (a_cons (x_str ⟨_, rfl, rfl⟩) a_nil))))) (by show 5 ≤ 1000; decide))) ap_nil)) ⟨⟨.inl rfl⟩, by simp [nsL], by show (nsL t.length).length < 1000000; simp [nsL]⟩ fun r ⟨x, hx, e⟩ => ⟨x, e, ns_no hx⟩)
    (xa_cons (PA' := fun pd => ∃ d2, pd = dat K d2 ∧ isSlipD C d2 = false) (PB := fun qs => qs = []) (x_dlG C (cl_lawOdd X1) hc hr (by decide) pass0 rfl rfl (ap_cons (nO 0) (ap_cons (nP 2) (ap_cons (Xe.eq (v_tup (ds := [.int 1, .int 0]) (a_cons (cI 1).toD (a_cons (cI 0).toD a_nil)) (by show 2 ≤ 1000; decide))) ap_nil))) trivial fun r ⟨x, hx, e⟩ => ⟨x, e, hx⟩) ap_nil (fun p ps ⟨c, e, h1⟩ e2 => ⟨c, by rw [e, e2], h1⟩)) (fun p ps ⟨o, e, h1⟩ ⟨c, e2, h2⟩ => ⟨o, c, by rw [e, e2], h1, h2⟩)) (fun qs ⟨o, r, e, _⟩ => by rw [e]; rfl)) (js := [5, 6]) (.cons (pg_name (i := 5) sc_lawErr.nd rfl (Or.inl rfl)) (.cons (pg_name (i := 6) sc_lawErr.nd rfl (Or.inr rfl)) .nil rfl) rfl) rfl (fun qs ⟨o, r, e, _⟩ => by rw [e]; rfl) (fun qs hqs => ?_)
  obtain ⟨nd, od, rfl, hnd, hod⟩ := hqs
  -- 1
  refine rn_if (T := eT false) (t_neStr (v_reprT (d := .tuple [.str "Refused", .int 0]) hc hu X1.repr (Xe.ofP (x_clP (PA' := fun pds => ∃ d, pds = [mach K M.cm t C, dat K nd, dat K d, dat K (.int (0 : Nat))]) (cl_lawAll T) hr (by decide) pass0 (xa_cons (PB := fun qs => ∃ d, qs = [dat K nd, dat K d, dat K (.int (0 : Nat))]) (nP 1) (xa_cons (PB := fun qs => ∃ d, qs = [dat K d, dat K (.int (0 : Nat))]) (nP 5) (xa_cons (PA' := fun pd => ∃ d, pd = dat K d) (PB := fun qs => qs = [dat K (.int (0 : Nat))]) (x_dl (.list [slipsT hp, .list [od], .none], [slipsT hp, .list [od], .none]) (cl_lawOf X1) hr (by decide) pass0 rfl rfl (ap_cons (nO 0) (ap_cons (Xe.eq (v_lst (a_cons (nD 4) (a_cons (v_lst (a_cons (nD 6) a_nil) (by show 1 ≤ 1000; decide)) (a_cons (x_non ⟨_, rfl, rfl⟩) a_nil))) (by show 3 ≤ 1000; decide))) ap_nil)) ⟨⟨.inl rfl⟩, by simp, by show 3 < 1000000; decide⟩ fun r ⟨x, hx, e⟩ => ⟨x, e⟩) (ap_cons (Xe.eqI (cN 0)) ap_nil) (fun p ps ⟨d, e⟩ e2 => ⟨d, by rw [e, e2]⟩)) (fun p ps e ⟨d, e2⟩ => ⟨d, by rw [e, e2]⟩)) (fun p ps e ⟨d, e2⟩ => ⟨d, by rw [e, e2]⟩))
    fun pds ⟨d, e⟩ => ⟨_, ⟨_, _, _, 0, .exc M.cr 0, e, ⟨t, C, nd, d, 0, e, ok, hn, hC, .inl ⟨hnd, rfl⟩⟩, rfl⟩, lawR_cr⟩)) ⟨_, rfl⟩ (wd_exc repr_ref (by decide)) (by decide)) (cStr shown_ref0)) (fun z => rn_dead (by cases z)) (fun _ => rn_out ?_)
  -- 2
  refine rn_if (T := eT false) (t_neStr (v_reprT (d := .tuple [.str "Refused", .int 0]) hc hu X1.repr (Xe.ofP (x_clP (PA' := fun pds => ∃ d, pds = [mach K M.cm t C, dat K nd, dat K d, dat K od, dat K (.int (1 : Nat))]) (cl_lawOne T) hr (by decide) pass0 (xa_cons (PB := fun qs => ∃ d, qs = [dat K nd, dat K d, dat K od, dat K (.int (1 : Nat))]) (nP 1) (xa_cons (PB := fun qs => ∃ d, qs = [dat K d, dat K od, dat K (.int (1 : Nat))]) (nP 5) (xa_cons (PA' := fun pd => ∃ d, pd = dat K d) (PB := fun qs => qs = [dat K od, dat K (.int (1 : Nat))]) (x_dl (.list [slipsT hp, .list [od]], [slipsT hp, .list [od]]) (cl_lawOf X1) hr (by decide) pass0 rfl rfl (ap_cons (nO 0) (ap_cons (Xe.eq (v_lst (a_cons (nD 4) (a_cons (v_lst (a_cons (nD 6) a_nil) (by show 1 ≤ 1000; decide)) a_nil)) (by show 2 ≤ 1000; decide))) ap_nil)) ⟨⟨.inl rfl⟩, by simp, by show 2 < 1000000; decide⟩ fun r ⟨x, hx, e⟩ => ⟨x, e⟩) (ap_cons (nP 6) (ap_cons (Xe.eqI (cN 1)) ap_nil)) (fun p ps ⟨d, e⟩ e2 => ⟨d, by rw [e, e2]⟩)) (fun p ps e ⟨d, e2⟩ => ⟨d, by rw [e, e2]⟩)) (fun p ps e ⟨d, e2⟩ => ⟨d, by rw [e, e2]⟩))
    fun pds ⟨d, e⟩ => ⟨_, ⟨_, _, _, _, 1, .exc M.cr 0, e, ⟨t, C, nd, d, od, 1, e, ok, hn, hC, .inl ⟨hnd, rfl⟩⟩, rfl⟩, lawR_cr⟩)) ⟨_, rfl⟩ (wd_exc repr_ref (by decide)) (by decide)) (cStr shown_ref0)) (fun z => rn_dead (by cases z)) (fun _ => rn_out ?_)
  -- 3
  refine rn_if (T := eT false) (t_neStr (v_reprT (d := .tuple [.str "InvalidSlip", .int hp.length]) hc hu X1.repr (Xe.ofP (x_clP (cl_lawAll T) hr (by decide) pass0 (ap_cons (nP 1) (ap_cons (Xe.eqI (cN 0)) (ap_cons (Xe.eq (Xf.toD (xf_cat (ds := slips hp) (es' := [od]) (xf_listOf X1.list (nD 4) fun y e => ⟨slips hp, .inr e, rfl⟩) (fun w' _ _ => v_lstF (a_cons (nD 6) a_nil) (by show 1 ≤ 1000; decide)) (by rw [slips_len]; show hp.length + 1 ≤ 100000; omega)))) (ap_cons (Xe.eqI (cN 1)) ap_nil))))
    fun pds e => ⟨_, ⟨_, _, _, 1, .exc M.ci hp.length, e, ⟨t, C, _, _, 1, e, ok, hn, hC, .inr ⟨0, n0, rfl, .inl ⟨hp, ⟨⟨od, [], .inl rfl, .inl hod⟩, hh.cm, ap, by omega⟩, rfl⟩⟩⟩, rfl⟩, lawR_ci T.xf.ne⟩)) ⟨_, rfl⟩ (wd_exc repr_inv (by omega)) (by decide))
    (v_reprT (d := .tuple [.str "InvalidSlip", .int hp.length]) hc hu X1.repr (v_tup (a_cons (x_str ⟨_, rfl, rfl⟩) (a_cons (Xe.toD ((v_len X1.len (ds := slips hp) (nD 4) (.inr rfl)).toJ (by rw [slips_len]))) a_nil)) (by show 2 ≤ 1000; decide)) ⟨_, rfl⟩ (wd_exc repr_inv (by omega)) (by decide))) (fun z => rn_dead (by cases z)) (fun _ => rn_out ?_)
  -- 4
  refine rn_if (T := eT false) (Xt.imp' (u := !PyData.eqv (.list [.str "('InvalidSlip', 0)", .str "('InvalidSlip', 0)"]) (.list (List.replicate 2 (.str "('InvalidSlip', 0)")))) (xt_neD (X := cxOf CX0 P w K mg base NErr dLawErrors.qual dLawErrors.scope f cdv Ar outer s H E) (A := fun y => y = .list [.str "('InvalidSlip', 0)", .str "('InvalidSlip', 0)"]) (B := fun y => y = .list (List.replicate 2 (.str "('InvalidSlip', 0)"))) (by show Ar.units + 3 + 64 < cLine; omega)
    (v_lc (own := [("_law_kept", 8)]) (ds := [.list [od], slipsT hp]) (ws := [.str "('InvalidSlip', 0)", .str "('InvalidSlip', 0)"]) rfl sc_lawErr.nd (wi_list (v_lst (a_cons (v_lst (a_cons (nD 6) a_nil) (by show 1 ≤ 1000; decide)) (a_cons (nD 4) a_nil)) (by show 2 ≤ 1000; decide))) (blkOk_by (N := NErr) (sc := defScope sLawErrors) (by decide +kernel)) (fun _ _ _ _ _ => pg_name (i := 8) sc_lawErr.nd rfl (Or.inl rfl)) (tgr_name 8) (fun _ _ _ => trivial) rfl (by show 2 ≤ 100000; decide) (fun j x r hx' hr' w2 _ _ => ?_))
    (x_repF (d := .str "('InvalidSlip', 0)") (m := 2) (v_lstF (a_cons (x_str ⟨_, rfl, rfl⟩) a_nil) (by show 1 ≤ 1000; decide)) (fun w' _ _ => cN 2) (by decide)) (fun d f e1 e2 => by rw [e1, e2]; exact ⟨lay2.shaped, lay2.shaped⟩) (fun d f e1 e2 => by rw [e1, e2])) eqv_two) (fun z => rn_dead (by cases z)) (fun _ => rn_out ?_)
  · have er : r = .str "('InvalidSlip', 0)" := by
      have z := (List.getElem?_eq_some_iff.mp hr').1
      have hj : j = 0 ∨ j = 1 := by
        have z' : j < 2 := z
        omega
      rcases hj with rfl | rfl
      · exact (Option.some.inj hr').symm
      · exact (Option.some.inj hr').symm
    subst er
    have hk : ∃ lk, (BadD C x lk ∧ lk.length = 0) ∨ HeapD C x lk ∧ lk.length ≤ 60 := by
      have z := (List.getElem?_eq_some_iff.mp hx').1
      have hj : j = 0 ∨ j = 1 := by
        have z' : j < 2 := z
        omega
      rcases hj with rfl | rfl
      · have ex := (Option.some.inj hx').symm
        subst ex
        exact ⟨[], .inl ⟨⟨⟨od, [], .inl rfl, .inl hod⟩, fun _ h => (nomatch h), List.nodup_nil, by decide⟩, rfl⟩⟩
      · have ex := (Option.some.inj hx').symm
        subst ex
        exact ⟨hp, .inr ⟨hg, hlen⟩⟩
    intro s1 H1 C1 cl1 fp1
    refine Xe.imp (P := eD K (.str (PyData.shown (.tuple [.str "InvalidSlip", .int 0])))) (v_reprT (d := .tuple [.str "InvalidSlip", .int 0]) hc hu X1.repr (Xe.ofP (x_clP (cl_lawOne T) hr (by decide) pass0 (ap_cons (nP 1) (ap_cons (Xe.eqI (cN 0)) (ap_cons (nP 8) (ap_cons (nP 6) (ap_cons (Xe.eqI (cN 0)) ap_nil)))))
      fun pds e => ⟨_, ⟨_, _, _, _, 0, .exc M.ci 0, e, ⟨t, C, _, x, od, 0, e, ok, hn, hC, .inr ⟨0, n0, rfl, ?_⟩⟩, rfl⟩, lawR_ci T.xf.ne⟩)) ⟨_, rfl⟩ (wd_exc repr_inv (by decide)) (by decide)) fun pd ⟨y, e1, e2⟩ => ⟨y, e1, by rw [e2, shown_inv0]⟩
    rcases hk with ⟨lk, ⟨hb, hb0⟩ | ⟨hk, _⟩⟩
    · exact .inl ⟨lk, hb, by rw [hb0]; rfl⟩
    · exact .inr ⟨lk, hk, .inl ⟨hod, rfl⟩⟩
  -- 5
  refine rn_if (T := eT (PyData.eqv (slipsT hp) (.tuple []))) (xt_eqD (X := cxOf CX0 P w K mg base NErr dLawErrors.qual dLawErrors.scope f cdv Ar outer s H E) (A := fun y => y = slipsT hp) (B := fun y => y = .tuple []) (by show Ar.units + 3 + 64 < cLine; omega) (nD 4) (v_tup (ds := []) a_nil) (fun d f e1 e2 => by rw [e1, e2]; exact ⟨(Sh.tuple (n := 1) sh_slips).shaped, (Sh.tuple (xs := []) (n := 0) fun x h => by cases h).shaped⟩) (fun d f e1 e2 => by rw [e1, e2])) (fun he => ?_) (fun he => rn_out ?_)
  · have h0 : hp = [] := by
      have z := eB_true he
      unfold slipsT at z
      rw [eqv_nilT] at z
      exact List.map_eq_nil_iff.mp (of_decide_eq_true z)
    subst h0
    refine rn_retDl q .rfl' rfl (Xe.imp (P := eB K true) (v_eqStr (v_reprT (d := pairD (t.length - 1, [])) hc hu X1.repr (Xe.ofP (x_clP (P := fun pd => pd = dat K (pairD (t.length - 1, []))) (cl_lawAll T) hr (by decide) pass0 (ap_cons (nP 1) (ap_cons (Xe.eqI ((v_sub (nI 3) (cI 1)).toJ (show (t.length : Int) - 1 = ((t.length - 1 : Nat) : Int) by omega))) (ap_cons (Xe.eq (v_lst (ds := []) a_nil)) (ap_cons (Xe.eqI (cN 0)) ap_nil))))
      fun pds e => ⟨_, ⟨_, _, _, 0, .val (dat K (pairD (t.length - 1, []))), e, ⟨t, C, _, _, 0, e, ok, hn, hC, .inr ⟨t.length - 1, by omega, rfl, .inr ⟨[], ⟨.inl rfl, fun _ h => (nomatch h), List.nodup_nil, by decide⟩, by decide, rfl⟩⟩⟩, rfl⟩, rfl⟩)) ⟨_, rfl⟩ ((wd_pair (p := (t.length - 1, [])) (by show t.length - 1 < 100000; omega) (fun _ h => (nomatch h))).mono (show ([] : List Slip).length * 18 + 13 ≤ 20000 by decide)) (by decide))
      (v_reprT (d := pairD (t.length - 1, [])) hc hu X1.repr (v_tup (ds := [.int (t.length - 1 : Nat), .tuple []]) (a_cons (Xe.toD ((v_sub (nI 3) (cI 1)).toJ (show (t.length : Int) - 1 = ((t.length - 1 : Nat) : Int) by omega))) (a_cons (v_tup (ds := []) a_nil) a_nil)) (by show 2 ≤ 1000; decide)) ⟨_, rfl⟩ ((wd_pair (p := (t.length - 1, [])) (by show t.length - 1 < 100000; omega) (fun _ h => (nomatch h))).mono (show ([] : List Slip).length * 18 + 13 ≤ 20000 by decide)) (by decide))) fun pd ⟨b, e1, e2⟩ => by rw [e1, e2])
  · have hne : hp ≠ [] := fun z => by
      have z' := eB_false he
      rw [z] at z'
      unfold slipsT at z'
      rw [show slips [] = [] from rfl, eqv_nilT] at z'
      cases z'
    -- 6
    refine rn_asg (i := 7) (P := fun pd => ∃ (y : Slip) (c : Nat), y ∈ hp ∧ c < C ∧ pd = dat K (slipD (y.1, c))) (Xe.imp (x_tup (C := fun ds => ∃ (y : Slip) (c : Nat), y ∈ hp ∧ c < C ∧ ds = [.int y.1, .int c]) (A := fun d => ∃ (y : Slip) (c : Nat), y ∈ hp ∧ c < C ∧ d = slipD (y.1, c)) (xd_cons (A := fun d => ∃ y ∈ hp, d = .int (y.1 : Nat)) (D := fun ds => ∃ c : Nat, c < C ∧ ds = [.int c]) (x_ix (A := fun d => ∃ y ∈ hp, d = slipD y) (B := fun i => i = 0) (x_dl (slipsT hp, slips hp) (cl_lawOf X1) hr (by decide) pass0 rfl rfl (ap_cons (nO 0) (ap_cons (nP 4) ap_nil)) ⟨⟨.inr rfl⟩, by show slips hp ≠ []; intro z; exact hne (List.map_eq_nil_iff.mp z), by show (slips hp).length < 1000000; rw [slips_len]; omega⟩ fun r ⟨x, hx, e⟩ => by
        obtain ⟨y, hy, rfl⟩ := List.mem_map.mp hx
        exact ⟨_, e, y, hy, rfl⟩) (cI 0) (fun y k ⟨z, hz, e⟩ e2 => ⟨[.int z.1, .int z.2], .int z.1, .inr e, by rw [e2]; rfl, z, hz, rfl⟩))
      (xd_cons (A := fun d => ∃ c : Nat, c < C ∧ d = .int c) (D := fun ds => ds = []) (x_dl C (cl_lawAny X1) hr (by decide) pass0 rfl rfl (ap_cons (nO 0) (ap_cons (nP 2) ap_nil)) ⟨ok.c0, by omega⟩ fun r ⟨k, e, hk⟩ => ⟨_, e, k, hk, rfl⟩) a_nil (fun y ys ⟨c, h1, h2⟩ h3 => ⟨c, h1, by rw [h2, h3]⟩)) (fun d ds ⟨y, hy, e⟩ ⟨c, h1, h2⟩ => ⟨y, c, hy, h1, by rw [e, h2]⟩)) (fun ds ⟨y, c, _, _, h2⟩ => by rw [h2]; exact (by decide : 2 ≤ sizeLine)) (fun ds ⟨y, c, h0, h1, h2⟩ => ⟨y, c, h0, h1, by rw [h2]; rfl⟩)) fun pd ⟨d, e, y, c, h1, h2, e2⟩ => ⟨y, c, h1, h2, by rw [e, e2]; rfl⟩) (fun pd hpd => ?_) sc_lawErr.nd rfl (Or.inl rfl)
    obtain ⟨y, c, hy, hc2, rfl⟩ := hpd
    have mem : y.1 ∈ hp.map (·.1) := List.mem_map.mpr ⟨y, hy, rfl⟩
    -- 7
    refine rn_if (T := eT false) (t_neStr (v_reprT (d := .tuple [.str "InvalidSlip", .int hp.length]) hc hu X1.repr (Xe.ofP (x_clP (cl_lawAll T) hr (by decide) pass0 (ap_cons (nP 1) (ap_cons (Xe.eqI (cN 0)) (ap_cons (Xe.eq (Xf.toD (xf_cat (ds := slips hp) (es' := [slipD (y.1, c)]) (xf_listOf X1.list (nD 4) fun y e => ⟨slips hp, .inr e, rfl⟩) (fun w' _ _ => v_lstF (a_cons (nD 7) a_nil) (by show 1 ≤ 1000; decide)) (by rw [slips_len]; show hp.length + 1 ≤ 100000; omega)))) (ap_cons (Xe.eqI (cN 0)) ap_nil))))
      fun pds e => ⟨_, ⟨_, _, _, 0, .exc M.ci hp.length, e, ⟨t, C, _, _, 0, e, ok, hn, hC, .inr ⟨0, n0, rfl, .inl ⟨hp, ⟨⟨slipD (y.1, c), [], .inl rfl, .inr ⟨(y.1, c), rfl, hc2, mem⟩⟩, hh.cm, ap, by omega⟩, rfl⟩⟩⟩, rfl⟩, lawR_ci T.xf.ne⟩)) ⟨_, rfl⟩ (wd_exc repr_inv (by omega)) (by decide))
      (v_reprT (d := .tuple [.str "InvalidSlip", .int hp.length]) hc hu X1.repr (v_tup (a_cons (x_str ⟨_, rfl, rfl⟩) (a_cons (Xe.toD ((v_len X1.len (ds := slips hp) (nD 4) (.inr rfl)).toJ (by rw [slips_len]))) a_nil)) (by show 2 ≤ 1000; decide)) ⟨_, rfl⟩ (wd_exc repr_inv (by omega)) (by decide))) (fun z => rn_dead (by cases z)) (fun _ => rn_out ?_)
    -- 8
    refine rn_retDl q .rfl' rfl (Xe.imp (P := eB K true) (v_eqStr (v_reprT (d := .tuple [.str "Refused", .int 1]) hc hu X1.repr (Xe.ofP (x_clP (cl_lawOne T) hr (by decide) pass0 (ap_cons (nP 1) (ap_cons (Xe.eqI (cN 0)) (ap_cons (nP 4) (ap_cons (nP 7) (ap_cons (Xe.eqI (cN 0)) ap_nil)))))
      fun pds e => ⟨_, ⟨_, _, _, _, 0, .exc M.cr 1, e, ⟨t, C, _, _, _, 0, e, ok, hn, hC, .inr ⟨0, n0, rfl, .inr ⟨hp, hg, .inr ⟨(y.1, c), rfl, hc2, .inl ⟨mem, rfl⟩⟩⟩⟩⟩, rfl⟩, lawR_cr⟩)) ⟨_, rfl⟩ (wd_exc repr_ref (by decide)) (by decide)) (cStr shown_ref1)) fun pd ⟨b, e1, e2⟩ => by rw [e1, e2])
end
end Lt
namespace Lt
/-! # What the law asks at its end -/
theorem nodup_sub_len {α : Type} [DecidableEq α] : ∀ {l m : List α}, l.Nodup → (∀ x ∈ l, x ∈ m) → l.length ≤ m.length
  | [], _, _, _ => Nat.zero_le _
  | x :: l, m, h, s => by
    have hx : x ∈ m := s x List.mem_cons_self
    obtain ⟨h1, h2⟩ := List.nodup_cons.mp h
    have z := nodup_sub_len (m := m.erase x) h2 fun y hy => (List.mem_erase_of_ne fun e => h1 (by rw [← e]; exact hy)).mpr (s y (List.mem_cons_of_mem _ hy))
    have l1 := List.length_erase_of_mem hx
    have l2 : 0 < m.length := List.length_pos_of_mem hx
    rw [List.length_cons]
    omega
/-- n numbers that stand in k, unlike two by two -/
def Dst (k : List Nat) (n : Nat) : Prop := ∃ js : List Int, js.Nodup ∧ (∀ j ∈ js, ∃ x ∈ k, j = (x : Nat)) ∧ n = js.length
theorem Dst.le {k m : List Nat} {n : Nat} (h : Dst k n) (hm : ∀ x ∈ k, x ∈ m) : n ≤ m.length := by
  obtain ⟨js, nd, mem, rfl⟩ := h
  have z : js.length ≤ (m.map fun (x : Nat) => (x : Int)).length := nodup_sub_len nd fun j hj => by
    obtain ⟨x, hx, rfl⟩ := mem j hj
    exact List.mem_map.mpr ⟨x, hm x hx, rfl⟩
  rwa [List.length_map] at z
theorem kern_mem_fixed {T : Tb} {row : List Nat} {x : Nat} (h : x ∈ kern T row) : x ∈ fixed (kern T row) := by
  obtain ⟨s, hs, e⟩ := List.getElem_of_mem h
  have hs' : s < T.length := by rw [kern_len] at hs; exact hs
  have e2 : (kern T row).getD s 0 = x := by rw [List.getD, List.getElem?_eq_getElem hs, e]; rfl
  have f := kern_fix (T := T) (row := row) hs'
  have l := kern_le (T := T) (row := row) hs'
  rw [e2] at f l
  exact fixed_kern.mpr ⟨by omega, f⟩
theorem run_tray {T : Tb} {C b : Nat} : ∀ {l : List Slip} {p p' : Nat × List Slip}, Cmds C (cmds l) → Cmds C (cmds p.2) → runA T C b p l = some p' → (l = [] ∧ p' = p) ∨ ∃ h, Cmds C (cmds h) ∧ p'.2 = tray T C h
  | [], p, p', _, _, h => by
    have z : some p = some p' := h
    cases z
    exact .inl ⟨rfl, rfl⟩
  | x :: r, p, p', hc, hp, h => by
    have h' : (match after T C p.1 p.2 x b with | none => none | some p1 => runA T C b p1 r) = some p' := h
    cases q : after T C p.1 p.2 x b with
    | none => rw [q] at h'; cases h'
    | some p1 =>
      rw [q] at h'
      obtain ⟨_, e1⟩ := after_some q
      have c1 : Cmds C (cmds (ins x p.2)) := ins_cmds hc.head hp
      have c2 : Cmds C (cmds p1.2) := by rw [e1]; exact cmds_of_sub (tray_sub T C _) c1
      rcases run_tray (p := p1) hc.tail c2 h' with ⟨rfl, rfl⟩ | z
      · exact .inr ⟨ins x p.2, c1, by rw [e1]⟩
      · exact .inr z
/-- what may be kept at most -/
def MostOk (T : Tb) (C : Nat) (hp : List Slip) (m : Nat) : Prop := (Light T C ∧ ∃ g, m + g = T.length ∧ ∀ row, Cmds C row → g ≤ (fixed (kern T row)).length) ∨ m = hp.length
theorem told_most {T : Tb} {C b s m : Nat} {hp l : List Slip} (ok : Ok T C) (nb : NonBlind T C) (h : MostOk T C hp m) (hl : l.Perm hp) (hc : Cmds C (cmds l)) {p : Nat × List Slip} (hr : runA T C b (s, []) l = some p) (st : Stage T C l p) : p.2.length ≤ m := by
  rcases h with ⟨⟨ks, f, nh⟩, g, e, hg⟩ | rfl
  · rcases run_tray hc (fun _ z => by cases z) hr with ⟨_, rfl⟩ | ⟨h', hc', e'⟩
    · exact Nat.zero_le _
    · have z := tray_few ok nb f nh hc'
      have z2 := hg _ hc'
      rw [e']
      omega
  · have z := st.len
    rw [hl.length_eq] at z
    exact z
/-- the least of the counts -/
theorem most_ok {T : Tb} {C m : Nat} {ks : List (List Nat)} {hp : List Slip} (ok : Ok T C) (f : Full T C ks) (li : Light T C) (hm : ∀ k ∈ ks, ∃ n, Dst k n ∧ m ≤ n) : m ≤ T.length ∧ MostOk T C hp (T.length - m) := by
  have le : m ≤ T.length := by
    obtain ⟨n, hn, l⟩ := hm _ f.1
    have z := hn.le (m := List.range T.length) fun x hx => hx
    rw [List.length_range] at z
    omega
  refine ⟨le, .inl ⟨li, m, by omega, fun row hr => ?_⟩⟩
  obtain ⟨n, hn, l⟩ := hm _ (f.kern ok hr)
  have z := hn.le fun x hx => kern_mem_fixed hx
  omega
/-- a machine that isn't blind: true, enough, all -/
theorem run_good {T : Tb} {C b s : Nat} {hp l : List Slip} (ok : Ok T C) (nb : NonBlind T C) (hs : s < T.length) (ha : Asc hp) (hl : l.Perm hp) (hc : Cmds C (cmds l)) (hap : Apart l) : ∃ p, runA T C b (s, []) l = some p ∧ p.1 = led T s (cmds hp) ∧ ∀ x ∈ tray T C hp, x ∈ p.2 := by
  obtain ⟨p, h1, h2⟩ := good_run ok nb hs (by_ := b) (l := l) (came := []) (p := (s, [])) (fun _ z => by cases z) ⟨rfl, [], .nil⟩ hc (by rw [List.nil_append]; exact hap)
  rw [List.nil_append, sortS_eq ha hl] at h2
  obtain ⟨d, e⟩ := h2.en
  exact ⟨p, h1, h2.now, e.least ok (cmds_perm hc hl)⟩
theorem perm_slips {es : List PySem.PyData} {l : List Slip} (h : es.Perm (slips l)) : ∃ m : List Slip, m.Perm l ∧ es = slips m := by
  have go : ∀ {es ds : List PySem.PyData}, es.Perm ds → ∀ l, ds = slips l → ∃ m : List Slip, m.Perm l ∧ es = slips m := by
    intro es ds h
    induction h with
    | nil => intro l e; exact ⟨l, .refl _, e⟩
    | @cons x a c _ ih =>
      intro l e
      cases l with
      | nil => cases e
      | cons y l =>
        injection e with e1 e2
        obtain ⟨m, h1, h2⟩ := ih l e2
        exact ⟨y :: m, h1.cons y, by rw [e1, h2]; rfl⟩
    | swap x y a =>
      intro l e
      match l, e with
      | u :: v :: r, e =>
        injection e with e1 e2
        injection e2 with e2 e3
        exact ⟨v :: u :: r, .swap u v r, by rw [e1, e2, e3]; rfl⟩
    | trans _ _ i1 i2 =>
      intro l e
      obtain ⟨m, h1, h2⟩ := i2 l e
      obtain ⟨m2, h3, h4⟩ := i1 m h2
      exact ⟨m2, h3.trans h1, h4⟩
  exact go h l rfl
end Lt
set_option maxHeartbeats 4000000
namespace Lt
open PySem PySem.Spec PyProof.Rows L2
def spLaw (K : PySem.W.Frag) : Sp := fun vs H Q _ => ∃ (a : Addr) (ns : List Int), vs = [.ref a] ∧ SqL K H a (ns.map V.int) ∧ ns.length ≤ 1000 ∧ ∀ H', Q (.bl true) H'
section
variable {X : Cx} {w : Vw} {e a b : Expr} {es : List Expr} {rest : List Stmt} {τ : Ty} {P : Pd → Prop} {pos p pos' apos : Pos} {D : Ends} {d l : Addr}
/-- f(deal, ..), the arguments not all known -/
theorem x_dlE {ι : Type} {CX : CXT} {k j : Nat} {x : Str} {ps : List Str} {ar : ι → List Pd} {ok : ι → Prop} {B : ι → Pd → Prop} {PA' : List Pd → Prop} (c : Cl X.prog X.w X.K X.mg X.base CX k x ps (spDl ar ok B)) (hr : Room j X.A) (hk : k ≤ j) (hx : Passes CX X E0) (dM : w.M = [d, l]) (dk : w.ok = DealAt d l)
    (ha : Xa X w (e :: es) τ PA') (hA : ∀ pds, PA' pds → ∃ i0, pds = is (.ref d) :: ar i0 ∧ ok i0 ∧ ∀ r, B i0 r → P r) (hg : Gl X x := by rfl) (hdb : (x == ("__debug__" : Str)) = false := by decide) (he : starEach (e :: es) X.env = (false, eval e X.env) :: starEach es X.env := by rfl)
    (hpl : (backTo pos (starEach es X.env)).any (·.1) = false := by rfl) : Xe X w (.Call (.Name x p) (e :: es) [] pos) τ P :=
  x_cl (E := E0) c hr hk hx ha (fun vs pds H lv i a hv Q q => by
    obtain ⟨i0, rfl, hok, hB0⟩ := hA pds a
    cases hv with
    | cons h1 h2 =>
      have ev := (show _ = V.ref d from h1)
      subst ev
      have da : DealAt d l H := by
        have z := w.jok i.1
        rw [dk] at z
        exact z
      refine ⟨w.S, d, l, _, i0, rfl, lv, w.sub d (by rw [dM]; simp), w.sub l (by rw [dM]; simp), da, h2, hok, fun r v H' hB m da' hr' => ?_⟩
      have m' : Exm w.M H H' := by rw [dM]; exact m
      exact q v r H' m' (w.mv m' (by rw [dk]; exact da') i) (hB0 r hB) hr') hg hdb he hpl
/-- deal = _law_draw(script, 24): from here on the deal may change -/
theorem rn_draw {H0 : Hp} {ns : List Int} {k j i : Nat} {x y : Str} {ps : List Str} (c : Cl X.prog X.w X.K X.mg X.base CX0 k x ps (spDraw X.K)) (hr : Room j X.A) (hk : k ≤ j) (ha : Xa X (Vw.pure [] H0) (e :: es) τ (fun pds => pds = [dat X.K (.list (intsD ns)), dat X.K (.int 24)])) (hl : ns.length ≤ 1000)
    (kk : ∀ d l (hd : d ∈ [d, l]) (hl : l ∈ [d, l]) H1, Rn X (Vw.deal [d, l] d l hd hl H1) rest ((List.replicate τ.length none).set i (some (is (.ref d)))) D) (hN : X.N.Nodup) (hi : X.N[i]? = some y) (hy : Loc X.env.scope y) (hs : swapsWith (.Call (.Name x p) (e :: es) [] pos) (some (.Name y pos')) apos.line X.env = pure false := by rfl)
    (hf : X.fn y = true ∨ X.env.scope.names.lookup y = some .local := by first | exact .inl rfl | exact .inr rfl) (hg : Gl X x := by rfl) (hdb : (x == ("__debug__" : Str)) = false := by decide) (he : starEach (e :: es) X.env = (false, eval e X.env) :: starEach es X.env := by rfl) (hpl : (backTo pos (starEach es X.env)).any (·.1) = false := by rfl) :
    Rn X (Vw.pure [] H0) (.Assign [.Name y pos'] (.Call (.Name x p) (e :: es) [] pos) apos :: rest) τ D := by
  obtain ⟨f, fd, F, hm, hkp, hb⟩ := c.ex
  refine fun σ H s => cons_of (ps_set hN hi hy (pe_call F (hr.mono hk) hg hm hkp hb .nil pass0 pa_sem hdb he hpl) hs hf) (ha σ H s _ fun vs pds H1 m1 i1 ep hv => ?_)
  subst ep
  rw [List.append_nil]
  refine ⟨[], ns, fun _ h => (by cases h), hv, hl, fun d l H2 sm nd nl da => ?_⟩
  have lv : Live [d, l] H2 := fun a m => by
    obtain ⟨bb, ms, h1, h2, _⟩ := da.ex
    rcases List.mem_cons.mp m with rfl | m
    · rw [h1]; intro z; cases z
    · have : a = l := by simpa using m
      subst this
      rw [h2]; intro z; cases z
  refine kk d l (by simp) (by simp) H2 _ H2 ⟨lv, ⟨⟨.rfl', da⟩, fun _ m => nomatch m⟩, ?_, fun j' pd e' => ?_⟩
  · rw [List.length_set, List.length_set, List.length_replicate]; exact s.len
  · by_cases hij : i = j'
    · subst hij
      have hl' : i < τ.length := by
        have z := (List.getElem?_eq_some_iff.mp e').1
        rw [List.length_set, List.length_replicate] at z
        exact z
      rw [List.getElem?_set_self (by rw [List.length_replicate]; exact hl')] at e'
      cases e'
      exact ⟨_, List.getElem?_set_self (by rw [s.len]; exact hl'), rfl⟩
    · rw [List.getElem?_set_ne hij, List.getElem?_replicate] at e'
      split at e' <;> cases e'
/-- min of a list of numbers that are known somehow -/
theorem x_minL {R : List Nat → Prop} (hc : X.calm = true) (hm : X.mg "min" = none) (ha : Xe X w a τ (isD X.K fun d => ∃ ns, d = natsL ns ∧ R ns ∧ ns ≠ [])) (hg : Gl X "min" := by rfl) (hs : starEach [a] X.env = [(false, eval a X.env)] := by rfl) : Xe X w (.Call (.Name "min" p) [a] [] pos) τ (isI X.K fun i => ∃ (ns : List Nat) (m : Nat), R ns ∧ i = m ∧ m ∈ ns ∧ ∀ y ∈ ns, m ≤ y) :=
  x_cB (cr_min hc) hg hm boot_min' (xa_1 ha hs) (fun vs pds H lv i0 hp hv => by
    obtain ⟨v, d, rfl, ⟨ns, rfl, hR, h0⟩, hv⟩ := one_of hp hv
    obtain ⟨r, ws, rfl, hr, da⟩ := dat_lst hv
    have ev := dpa_natV (K := X.K) da
    subst ev
    intro Q k
    refine ⟨r, ns.map fun (n : Nat) => (n : Int), rfl, by rw [← natV_ints]; exact sql_same (hid_sub _ _) hr, by rw [List.length_map]; exact List.length_pos_iff.mpr h0, fun m hm1 hm2 => ?_⟩
    obtain ⟨x, hx, rfl⟩ := List.mem_map.mp hm1
    exact k _ (dat X.K (.int x)) H .rfl' i0 ⟨_, rfl, ns, x, hR, rfl, hx, fun y hy => by
      have := hm2 _ (List.mem_map.mpr ⟨y, hy, rfl⟩)
      omega⟩ (.int _)) (by decide) (by decide) hs rfl
/-- return True, at the law's end -/
theorem rn_retLaw {Q : VK} {j : Nat} {p1 : Pos} (q : ∀ H', Q (.bl true) H') (hD : D.rt = Q) : Rn X w (.Return (some (.Constant (.bool true) j p1)) pos :: rest) τ D :=
  rn_ret (P := eB X.K true) (x_bl ⟨true, rfl, rfl⟩) fun v pd H lv i ⟨b, e1, e2⟩ h => by
    subst e1; subst e2
    rw [hD, dat_bl h]
    exact q H
end
theorem deal_open {d l : Addr} {w : Vw} (hS : w.S = [d, l]) (hJ : ∀ H, w.J H → DealAt d l H) : ∀ H : Hp, w.I H → ∀ (b : Addr) (ks : List V), H b = some (.tup ks) → ¬ b ∈ w.S := fun H i b ks hb m => by
  obtain ⟨bb, ms, h1, h2, _⟩ := (hJ H i.1).ex
  rw [hS] at m
  rcases List.mem_cons.mp m with rfl | m
  · rw [h1] at hb; cases hb
  · have : b = l := by simpa using m
    subst this
    rw [h2] at hb; cases hb
theorem law_in {K : PySem.W.Frag} {H : Hp} {a : Addr} {ns : List Int} (h : SqL K H a (ns.map V.int)) : (dat K (.list (intsD ns))).p (.ref a) (hid [] H) := by
  have e : hid [] H = H := by
    funext b
    exact hid_ne (by simp)
  rw [e]
  exact .lst h (dpa_ints ns)
end Lt
set_option maxHeartbeats 800000
namespace Lt
open PySem PySem.Spec PyProof.Rows L2
section
variable {P : Program} {w : World} {K : PySem.W.Frag} {mg : Str → Option Value} {base : Heap} {M : Ad}
abbrev NLaw : List Str := ["_law_script", "_law_deal", "_law_commands_here", "_law_steps", "_law_last", "_law_machine_here", "_law_many", "_law_rows", "_law_blind_here", "_law_size", "_law_state", "_law_heap_here", "_law_least", "_law_most", "_law_turn", "_law_order", "_law_told", "_law_one_here", "_law_slip"]
theorem sc_law : FnScope NLaw ["_law_script"] (defScope sLaw) := ⟨rfl, rfl, rfl, by decide +kernel, rfl, by decide +kernel, by decide +kernel⟩
theorem ok_law (T : Tu P w K mg base M) {f : Addr} {fd : FuncData} (F : FunD K dLaw.name dLaw.qual dLaw.params dLaw.body dLaw.scope [] [] f fd) : FnG P w K mg base CX0 14 f fd ["_law_script"] (spLaw K) := by
  refine okG F sc_law (fun vs H Q E h => ?_) (fun cdv A outer s H vs Q E hc hr h => ?_)
  · obtain ⟨a, ns, rfl, _⟩ := h
    rfl
  obtain ⟨a, ns, rfl, hsq, hns, q⟩ := h
  have X1 := T.tt.tx
  have hu : A.units + 3 + 100 < cLine := by
    have z : A.units + 3 + 16 * 13 + 200 < cLine := hr.un
    omega
  refine rn_run (X := cxOf CX0 P w K mg base NLaw dLaw.qual dLaw.scope f cdv A outer s H E) (w := Vw.pure [] H) (sts := dLaw.body) (τ := startT NLaw.length [dat K (.list (intsD ns))]) (D := fin Q) ?_ (sv_start (fun _ h => (by cases h)) i_pure (.cons (law_in hsq) .nil))
  refine rn_draw (ns := ns) (i := 1) (cl_lawDraw X1) hr (by decide) (ap_cons (nP 0) (ap_cons (Xe.eqI (cI 24)) ap_nil)) hns (fun d l hd hl H1 => ?_) sc_law.nd rfl (Or.inl rfl)
  refine rn_unpA (A := fun qs => ∃ ds, qs = ds.map (dat K) ∧ ∃ t C last, Ok t C ∧ C ≤ 4 ∧ t.length ≤ 6 ∧ Cmds C last ∧ last.length ≤ 3 ∧ ds = [.int (C : Nat), rowsL t, natsT last]) rfl (Xe.tupD (x_dl () (cl_lawStock X1) hr (by decide) pass0 rfl rfl (ap_cons (nO 1) (ap_cons (Xe.eqI (cI 4)) (ap_cons (Xe.eqI (cI 3)) ap_nil))) trivial fun r ⟨t, C, last, h1, h2, h3, h4, h5, e⟩ => ⟨_, e, _, rfl, t, C, last, h1, h2, h3, h4, h5, rfl⟩)) (js := [2, 3, 4]) (.cons (pg_name (i := 2) sc_law.nd rfl (Or.inl rfl)) (.cons (pg_name (i := 3) sc_law.nd rfl (Or.inl rfl)) (.cons (pg_name (i := 4) sc_law.nd rfl (Or.inl rfl)) .nil rfl) rfl) rfl) rfl (fun qs ⟨ds, e, t, C, last, _, _, _, _, _, e2⟩ => by rw [e, e2]; rfl) (fun qs hqs => ?_)
  obtain ⟨_, rfl, t, C, last, ok, hC, hn, hlast, hll, rfl⟩ := hqs
  have n0 := ok.n0
  obtain ⟨fI, fdI, FI, hbI, MI⟩ := ok_init (P := P) (w := w) (base := base) X1
  refine rn_par3 (i := 5) (j := 6) (l := 7) (P1 := fun pd => pd = mach K M.cm t C) (P2 := eI K t.length) (P3 := fun pd => ∃ es, Bfs t C (ksOf es) [] ∧ Words es ∧ pd = dctP K es) rfl (x_mkMach rfl MI FI (hr.mono (by decide)) X1.mM hbI (ap_cons (nP 2) (ap_cons (nP 3) ap_nil)) ok (by omega) (by omega)) (v_lenRows X1.len (nD 3))
    (Xe.few (x_clP (P := fun pd => pd = fewP K t C) (cl_lawFew X1) hr (by decide) pass0 (ap_cons (nP 3) ap_nil) fun pds e => ⟨_, ⟨t, C, e, ok, hn, by omega, rfl⟩, rfl⟩)) (fun a1 a2 a3 e1 e2 e3 => ?_) sc_law.nd rfl rfl rfl (by decide) (by decide) (by decide) rfl rfl rfl rfl
  subst e1
  obtain ⟨_, rfl, rfl⟩ := e2
  obtain ⟨es, bf, wd, rfl⟩ := e3
  refine rn_par3 (i := 8) (j := 9) (l := 10) (P1 := fun pd => pd = blindP t C) (P2 := fun pd => ∃ k : Nat, pd = dat K (.int k) ∧ k < 7) (P3 := fun pd => ∃ k : Nat, pd = dat K (.int k) ∧ k < t.length) rfl (x_clP (cl_lawBlind X1) hr (by decide) pass0 (ap_cons (nP 3) (ap_cons (Xe.toFew (nP 7) bf wd) ap_nil)) fun pds e => ⟨_, ⟨t, C, e, ok, by omega, by omega, rfl⟩, rfl⟩)
    (x_dl 7 (cl_lawAny X1) hr (by decide) pass0 rfl rfl (ap_cons (nO 1) (ap_cons (Xe.eqI (cI 7)) ap_nil)) ⟨by decide, by decide⟩ fun r h => h) (x_dl t.length (cl_lawAny X1) hr (by decide) pass0 rfl rfl (ap_cons (nO 1) (ap_cons (nP 6) ap_nil)) ⟨n0, by omega⟩ fun r h => h) (fun a1 a2 a3 e1 e2 e3 => ?_) sc_law.nd rfl rfl rfl (by decide) (by decide) (by decide) rfl rfl rfl rfl
  subst e1
  obtain ⟨sz0, rfl, hsz0⟩ := e2
  obtain ⟨s0, rfl, hs0⟩ := e3
  have heavyE : ∀ {w2 : Vw} {τ : Ty} {p1 p2 p3 p4 : Pos}, τ[3]? = some (some (dat K (rowsL t))) → τ[7]? = some (some (dctP K es)) → Xe (cxOf CX0 P w K mg base NLaw dLaw.qual dLaw.scope f cdv A outer s H E) w2 (.Call (.Name "_law_heavy" p1) [.Name "_law_steps" p2, .Name "_law_rows" p3] [] p4) τ (fun pd => pd = heavyP t C) := fun h3 h7 => x_clP (cl_lawHeavy X1) hr (by decide) pass0 (ap_cons (nP 3 h3) (ap_cons (Xe.toFew (nP 7 h7) bf wd) ap_nil)) fun pds e => ⟨_, ⟨t, C, e, ok, by omega, by omega, rfl⟩, rfl⟩
  refine rn_ifT (T := fun _ => True) (fun τ1 => ∃ sz, sz ≤ 40 ∧ τ1 = [none, some (is (.ref d)), some (dat K (.int C)), some (dat K (rowsL t)), some (dat K (natsT last)), some (mach K M.cm t C), some (dat K (.int t.length)), some (dctP K es), some (blindP t C), some (dat K (.int (sz : Nat))), some (dat K (.int s0)), none, none, none, none, none, none, none, none])
    (xt_p (xp_and (TA' := fun _ => True) (TB := fun _ => True) (Xt.imp (t_lt (nI 6) (cI 5)) fun _ _ => trivial) (fun _ => xp_and (TA' := fun _ => True) (TB := fun _ => True) (xt_not (xt_blind (nP 8)) fun _ _ => trivial) (fun _ => xp_and (TA' := fun _ => True) (TB := fun _ => True) (Xt.imp (xt_isHv (heavyE rfl rfl)) fun _ _ => trivial) (fun _ => xp_and1 (xt_eqAny (x_dl (P := isI K fun _ => True) 6 (cl_lawAny X1) hr (by decide) pass0 rfl rfl (ap_cons (nO 1) (ap_cons (Xe.eqI (cI 6)) ap_nil)) ⟨by decide, by decide⟩ fun r ⟨k, e, _⟩ => ⟨_, e, trivial⟩) (Xe.imp (cI 0) fun pd ⟨i, e, _⟩ => ⟨i, e, trivial⟩))) (fun _ => trivial) (fun _ _ _ => trivial)) (fun _ => trivial) (fun _ _ _ => trivial)) (fun _ => trivial) (fun _ _ _ => trivial))) (fun _ j => ?_) (fun _ j => ?_) (fun τ1 h1 => ?_)
  · refine rn_asg (i := 9) (P := fun pd => ∃ k : Nat, k ≤ 40 ∧ pd = dat K (.int k)) (Xe.imp (x_add (A := fun y => y = 20) (B := fun y => ∃ k : Nat, y = k ∧ k < 21) (C := fun y => ∃ k : Nat, y = k ∧ k ≤ 40) (cI 20) (x_dl 21 (cl_lawAny X1) hr (by decide) pass0 rfl rfl (ap_cons (nO 1) (ap_cons (Xe.eqI (cI 21)) ap_nil)) ⟨by decide, by decide⟩ fun r ⟨k, e5, e6⟩ => ⟨_, e5, k, rfl, e6⟩) (fun i j e1 ⟨k, e2, e3⟩ => ⟨20 + k, by rw [e1, e2]; omega, by omega⟩)) fun pd ⟨i, e1, k, e2, e3⟩ => ⟨k, e3, by rw [e1, e2]; rfl⟩) (fun pd hp => ?_) sc_law.nd rfl (Or.inl rfl)
    obtain ⟨k, hk, rfl⟩ := hp
    exact j _ ⟨k, hk, rfl⟩
  · exact j _ ⟨sz0, by omega, rfl⟩
  obtain ⟨sz, hsz, rfl⟩ := h1
  refine rn_asg (i := 11) (P := B_slips K (C, last, sz)) (x_dl (C, last, sz) (cl_lawSlips X1) hr (by decide) pass0 rfl rfl (ap_cons (nO 1) (ap_cons (nP 2) (ap_cons (nP 4) (ap_cons (nP 9) ap_nil)))) ⟨ok.c0, by show C < 1000; omega, hlast, by show last.length < 100; omega, by show sz < 100; omega⟩ fun r h => h) (fun pd hp => ?_) sc_law.nd rfl (Or.inl rfl)
  obtain ⟨hp, hh', rfl⟩ := hp
  have hh : Hp_ C sz hp := hh'
  have hhl := hh.len
  have hh1 : Hp_ C hp.length hp := ⟨hh.asc, hh.cm, rfl, hh.tm⟩
  have ap := asc_apart hh.asc
  have shp : sortS hp = hp := sortS_asc_eq hh.asc
  refine rn_if (T := eT false) (t_not (u := true) (t_val (Xe.toB (Xe.ofP (x_dlG (P := fun pd => pd = dat K (.bool true)) (t, C, hp) (cl_lawErr T) hc hr (by decide) pass0 rfl rfl (ap_cons (nO 1) (ap_cons (nP 5) (ap_cons (nP 2) (ap_cons (nP 6) (ap_cons (nP 11) ap_nil))))) ⟨ok, by show t.length < 1000; omega, by show C ≤ 1000; omega, hh1, by show hp.length ≤ 60; omega⟩ fun r h => h))))) (fun z => rn_dead (by cases z)) (fun _ => rn_out ?_)
  refine rn_asg (i := 12) (P := fun pd => pd = dat K (slipsT (tray t C hp))) (x_clP (cl_lawTray X1) hr (by decide) pass0 (ap_cons (nP 3) (ap_cons (nP 11) ap_nil)) fun pds e => ⟨_, ⟨t, C, hp, _, e, .inl rfl, ok, by omega, by omega, hh.cm, by omega, rfl⟩, rfl⟩) (fun pd hp' => ?_) sc_law.nd rfl (Or.inl rfl)
  subst hp'
  refine rn_asg (i := 13) (P := fun pd => ∃ m : Nat, MostOk t C hp m ∧ pd = dat K (.int m)) (x_if (xt_isHv (heavyE rfl rfl)) (fun hL => ?_) (fun _ => ?_)) (fun pd hp' => ?_) sc_law.nd rfl (Or.inl rfl)
  · refine Xe.imp (x_sub (A := fun y => y = (t.length : Int)) (B := fun i => ∃ (ns : List Nat) (m : Nat), (∀ k ∈ ksOf es, ∃ n ∈ ns, Dst k n) ∧ i = m ∧ m ∈ ns ∧ ∀ y ∈ ns, m ≤ y) (C := fun y => ∃ m : Nat, y = m ∧ MostOk t C hp m) (nI 6) (x_minL rfl X1.min (x_lc (own := [("_law_one_here", 17)]) (A := fun y => y = (ksOf es).map natsT) (C := fun d => ∃ ns, d = natsL ns ∧ (∀ k ∈ ksOf es, ∃ n ∈ ns, Dst k n) ∧ ns ≠ []) rfl sc_law.nd (wi_list (Xe.keys (x_listKeys rfl (deal_open rfl fun H h => h.2) X1.list (nP 7)))) (blkOk_by (N := NLaw) (sc := defScope sLaw) (by decide +kernel)) (fun _ _ _ _ _ => pg_name (i := 17) sc_law.nd rfl (Or.inl rfl)) (tgr_name 17) (by simp)
      (fun _ i acc => ∃ ns : List Nat, acc = nats ns ∧ ns.length = i ∧ i ≤ (ksOf es).length ∧ ∀ j k, j < i → (ksOf es)[j]? = some k → ∃ n ∈ ns, Dst k n) (fun _ _ _ b => b = true) (fun ds e => ⟨[], rfl, rfl, Nat.zero_le _, fun j k hj => absurd hj (Nat.not_lt_zero j)⟩) (fun ds i acc ⟨ns, e1, e2, e3, e4⟩ => ?_) (fun _ _ _ _ _ => trivial) (fun _ _ _ _ _ _ _ w' _ _ => rfl) (fun ds i acc x e hi hx hT w2 m1 m2 => ?_) (fun _ _ _ _ _ _ _ h => by cases h) (fun ds acc e hi => ?_))) (fun i j e1 ⟨ns, m, hR, e2, hm, hmin⟩ => ?_)) fun pd ⟨y, e1, m, e2, h⟩ => ⟨m, h, by rw [e1, e2]; rfl⟩
    · rw [e1, nats_len, e2]
      have z := bf.keys.few
      have z2 := six hn n0
      exact Nat.lt_of_le_of_lt (Nat.le_trans e3 (Nat.le_trans z z2)) (by decide)
    · subst e
      obtain ⟨k, hk, rfl⟩ : ∃ k, (ksOf es)[i]? = some k ∧ x = natsT k := by
        rw [List.getElem?_map] at hx
        cases z : (ksOf es)[i]? with
        | none => rw [z] at hx; cases hx
        | some k => rw [z] at hx; exact ⟨k, rfl, (Option.some.inj hx).symm⟩
      obtain ⟨ns, e1, e2, e3, e4⟩ := hi
      have kl := (bf.keys.ok k (List.mem_of_getElem? hk)).1
      have il := (List.getElem?_eq_some_iff.mp hk).1
      intro s1 H1 C1 cl1 fp1
      refine Xe.imp (v_lenSet (xs := k) rfl X1.len X1.set (nD 17) (by omega)) fun pd ⟨i', e5, js, nd, mem, e6⟩ => ⟨_, e5, ns ++ [js.length], by rw [e1, e6, nats_app]; rfl, by rw [List.length_append, e2]; rfl, il, fun j k' hj hk' => ?_⟩
      by_cases ej : j = i
      · subst ej
        rw [hk] at hk'
        cases hk'
        exact ⟨js.length, List.mem_append_right _ (by simp), js, nd, mem, rfl⟩
      · obtain ⟨n', hn', hd'⟩ := e4 j k' (by omega) hk'
        exact ⟨n', List.mem_append_left _ hn', hd'⟩
    · subst e
      rw [List.length_map] at hi
      obtain ⟨ns, e1, e2, e3, e4⟩ := hi
      have all_ : ∀ k ∈ ksOf es, ∃ n ∈ ns, Dst k n := fun k hk => by
        obtain ⟨j, hj, ej⟩ := List.getElem_of_mem hk
        exact e4 j k hj (by rw [List.getElem?_eq_getElem hj, ej])
      refine ⟨ns, by rw [e1]; rfl, all_, fun z => ?_⟩
      obtain ⟨n', hn', _⟩ := all_ _ bf.start
      rw [z] at hn'
      cases hn'
    · obtain ⟨le, mo⟩ := most_ok (hp := hp) ok bf.full (hL rfl) (m := m) fun k hk => by
        obtain ⟨n', hn', hd'⟩ := hR k hk
        exact ⟨n', hd', hmin n' hn'⟩
      exact ⟨t.length - m, by rw [e1, e2]; omega, mo⟩
  · exact Xe.imp (v_len X1.len (ds := slips hp) (nD 11) (.inr rfl)) fun pd ⟨y, e1, e2⟩ => ⟨hp.length, .inr rfl, by rw [e1, e2, slips_len]; rfl⟩
  obtain ⟨mo, hmo, rfl⟩ := hp'
  refine rn_for (passes_of rfl) rfl (wi_range (n := 2) X1.range (cI 2) (by decide)) (pg_name (i := 14) sc_law.nd rfl (Or.inl rfl)) (tgr_name 14) (fun _ _ _ _ _ => trivial)
    (fun wb ds i w' τ' => w' = wb ∧ ∃ o14 o15 o16, τ' = [none, some (is (.ref d)), some (dat K (.int C)), some (dat K (rowsL t)), some (dat K (natsT last)), some (mach K M.cm t C), some (dat K (.int t.length)), some (dctP K es), some (blindP t C), some (dat K (.int (sz : Nat))), some (dat K (.int s0)), some (dat K (slipsT hp)), some (dat K (slipsT (tray t C hp))), some (dat K (.int mo)), o14, o15, o16, none, none])
    (fun wb ds lk e => ⟨rfl, none, none, none, rfl⟩) (fun wb ds i w' τ' lk h => ⟨by rw [h.1]; exact lk.S, fun H h' => by rw [h.1] at h'; exact h'⟩)
    (fun wb ds i x w' τ' lk e h hx => ?_) (fun wb ds w' τ' lk e h => ?_)
  · obtain ⟨rfl, o14, o15, o16, rfl⟩ := h
    subst e
    obtain ⟨hi, rfl⟩ := rangeD_get hx
    have dM : w'.M = [d, l] := lk.M
    have dk : w'.ok = DealAt d l := lk.ok
    have er : PyData.list (slips hp).reverse = slipsL hp.reverse := by rw [slips_rev]; rfl
    have mix : ∀ {τ : Ty} {p1 p2 p3 p4 : Pos}, τ[1]? = some (some (is (.ref d))) → τ[11]? = some (some (dat K (slipsT hp))) → Xe (cxOf CX0 P w K mg base NLaw dLaw.qual dLaw.scope f cdv A outer s H E) w' (.Call (.Name "_law_mixed" p1) [.Name "_law_deal" p2, .Name "_law_heap_here" p3] [] p4) τ (isD K fun y => ∃ m, m.Perm hp ∧ y = slipsL m) := fun h1 h11 =>
      x_dl (slipsT hp, slips hp) (cl_lawMixed X1) hr (by decide) pass0 dM dk (ap_cons (nO 1 h1) (ap_cons (nP 11 h11) ap_nil)) ⟨⟨.inr rfl⟩, by show (slips hp).length < 1000; rw [slips_len]; omega, fun x hx => (sh_slips x hx).mono (by decide)⟩ fun r ⟨es, pm, e⟩ => by
        obtain ⟨m, h2, rfl⟩ := perm_slips pm
        exact ⟨slipsL m, e, m, h2, rfl⟩
    refine rn_asg (i := 15) (P := fun pd => ∃ l' : List Slip, l'.Perm hp ∧ pd = dat K (slipsL l')) (x_dlE (PA' := fun pds => ∃ m1 m2 : List Slip, m1.Perm hp ∧ m2.Perm hp ∧ pds = [is (.ref d), dat K (.list [slipsL hp, slipsL hp.reverse, slipsL m1, slipsL m2])]) (cl_lawOf X1) hr (by decide) pass0 dM dk
      (xa_cons (PB := fun qs => ∃ m1 m2 : List Slip, m1.Perm hp ∧ m2.Perm hp ∧ qs = [dat K (.list [slipsL hp, slipsL hp.reverse, slipsL m1, slipsL m2])]) (nO 1) (xa_cons (PA' := fun pd => ∃ m1 m2 : List Slip, m1.Perm hp ∧ m2.Perm hp ∧ pd = dat K (.list [slipsL hp, slipsL hp.reverse, slipsL m1, slipsL m2])) (PB := fun qs => qs = [])
        (Xe.imp (x_lst (C := fun ds => ∃ m1 m2 : List Slip, m1.Perm hp ∧ m2.Perm hp ∧ ds = [slipsL hp, slipsL hp.reverse, slipsL m1, slipsL m2]) (A := fun y => ∃ m1 m2 : List Slip, m1.Perm hp ∧ m2.Perm hp ∧ y = .list [slipsL hp, slipsL hp.reverse, slipsL m1, slipsL m2])
          (xd_cons (D := fun ds => ∃ m1 m2 : List Slip, m1.Perm hp ∧ m2.Perm hp ∧ ds = [slipsL hp.reverse, slipsL m1, slipsL m2]) (v_list X1.list (ds := slips hp) (nD 11) (.inr rfl)) (xd_cons (D := fun ds => ∃ m1 m2 : List Slip, m1.Perm hp ∧ m2.Perm hp ∧ ds = [slipsL m1, slipsL m2]) (v_revL (v_list X1.list (ds := slips hp) (nD 11) (.inr rfl))) (xd_cons (D := fun ds => ∃ m2 : List Slip, m2.Perm hp ∧ ds = [slipsL m2]) (mix rfl rfl) (xd_cons (D := fun ds => ds = []) (mix rfl rfl) a_nil
            (fun y ys ⟨m, h1, h2⟩ h3 => ⟨m, h1, by rw [h2, h3]⟩)) (fun y ys ⟨m, h1, h2⟩ ⟨m', h3, h4⟩ => ⟨m, m', h1, h3, by rw [h2, h4]⟩)) (fun y ys h1 ⟨m, m', h3, h4, h5⟩ => ⟨m, m', h3, h4, by rw [h1, h5, er]⟩)) (fun y ys h1 ⟨m, m', h3, h4, h5⟩ => ⟨m, m', h3, h4, by rw [h1, h5]; rfl⟩))
          (fun ds ⟨m, m', _, _, h5⟩ => by rw [h5]; exact (by decide : 4 ≤ sizeLine)) (fun ds ⟨m, m', h3, h4, h5⟩ => ⟨m, m', h3, h4, by rw [h5]⟩)) fun pd ⟨y, e1, m, m', h3, h4, h5⟩ => ⟨m, m', h3, h4, by rw [e1, h5]; rfl⟩) ap_nil (fun p ps ⟨m, m', h3, h4, h5⟩ e2 => ⟨m, m', h3, h4, by rw [h5, e2]⟩)) (fun p ps e1 ⟨m, m', h3, h4, h5⟩ => ⟨m, m', h3, h4, by rw [e1, h5]⟩))
      (fun pds ⟨m1, m2, h1, h2, e⟩ => ⟨(.list [slipsL hp, slipsL hp.reverse, slipsL m1, slipsL m2], [slipsL hp, slipsL hp.reverse, slipsL m1, slipsL m2]), e, ⟨⟨.inl rfl⟩, by simp, by show 4 < 1000000; decide⟩, fun r ⟨x, hx, e⟩ => by
        have z : x = slipsL hp ∨ x = slipsL hp.reverse ∨ x = slipsL m1 ∨ x = slipsL m2 := by simpa using hx
        rcases z with rfl | rfl | rfl | rfl
        · exact ⟨hp, .refl _, e⟩
        · exact ⟨hp.reverse, List.reverse_perm hp, e⟩
        · exact ⟨m1, h1, e⟩
        · exact ⟨m2, h2, e⟩⟩)) (fun pd hp' => ?_) sc_law.nd rfl (Or.inl rfl)
    obtain ⟨l', hpm, rfl⟩ := hp'
    have co : Come C l' := ⟨cmds_perm hh.cm hpm.symm, ap.perm hpm.symm, by rw [hpm.length_eq]; omega, fun y hy => hh.tm y (hpm.mem_iff.mp hy)⟩
    refine rn_asg (i := 16) (P := fun pd => ∃ b : Nat, pd = dat K (optD (runA t C b (s0, []) l'))) (x_clGP (PA' := fun pds => ∃ b : Nat, pds = [mach K M.cm t C, dat K (rowsL t), dat K (.int s0), dat K (slipsL l'), dat K (.int b)]) (cl_lawRun T) hc hr (by decide) pass0 (xa_cons (PB := fun qs => ∃ b : Nat, qs = [dat K (rowsL t), dat K (.int s0), dat K (slipsL l'), dat K (.int b)]) (nP 5) (xa_cons (PB := fun qs => ∃ b : Nat, qs = [dat K (.int s0), dat K (slipsL l'), dat K (.int b)]) (nP 3) (xa_cons (PB := fun qs => ∃ b : Nat, qs = [dat K (slipsL l'), dat K (.int b)]) (nP 10) (xa_cons (PB := fun qs => ∃ b : Nat, qs = [dat K (.int b)]) (nP 15) (xa_cons (PA' := fun pd => ∃ b : Nat, pd = dat K (.int b)) (PB := fun qs => qs = [])
      (x_dl (natsL [0, 1, 1, 2, 3, 5], nats [0, 1, 1, 2, 3, 5]) (cl_lawOf X1) hr (by decide) pass0 dM dk (ap_cons (nO 1) (ap_cons (Xe.eq (v_natsL (aN_cons (cN 0) (aN_cons (cN 1) (aN_cons (cN 1) (aN_cons (cN 2) (aN_cons (cN 3) (aN_cons (cN 5) aN_nil)))))))) ap_nil)) ⟨⟨.inl rfl⟩, by decide, by decide⟩ fun r ⟨x, hx, e⟩ => by
        obtain ⟨n', _, rfl⟩ := List.mem_map.mp hx
        exact ⟨n', e⟩) ap_nil (fun p ps ⟨b, e⟩ e2 => ⟨b, by rw [e, e2]⟩)) (fun p ps e ⟨b, e2⟩ => ⟨b, by rw [e, e2]⟩)) (fun p ps e ⟨b, e2⟩ => ⟨b, by rw [e, e2]⟩)) (fun p ps e ⟨b, e2⟩ => ⟨b, by rw [e, e2]⟩)) (fun p ps e ⟨b, e2⟩ => ⟨b, by rw [e, e2]⟩))
      fun pds ⟨b, e⟩ => ⟨_, ⟨t, C, s0, l', b, e, ok, by omega, by omega, hs0, co, rfl⟩, b, rfl⟩) (fun pd hp' => ?_) sc_law.nd rfl (Or.inr rfl)
    obtain ⟨b, rfl⟩ := hp'
    refine rn_if (T := eT false) (t_isF (d := optD (runA t C b (s0, []) l')) (nD 16) (by cases runA t C b (s0, []) l' with
      | none => exact .inl rfl
      | some p => exact .inr ⟨_, rfl⟩)) (fun z => rn_dead (by cases z)) (fun _ => rn_out ?_)
    refine rn_if (T := fun k => k = true → NonBlind t C) (xt_not (xt_blind (nP 8)) fun k h e => h (by cases k with
      | false => rfl
      | true => cases e)) (fun hN => ?_) (fun _ => rn_out (rn_nil fun σ H s => ⟨_, _, ⟨rfl, _, _, _, rfl⟩, s⟩))
    have nb := hN rfl
    obtain ⟨p, hr1, hnow, hleast⟩ := run_good (b := b) ok nb hs0 hh.asc hpm co.cm co.ap
    have st : Stage t C l' p := by
      have z := co.stage ok hs0 (b := b) l'.length (p := p) (by rw [List.take_length]; exact hr1)
      rwa [List.take_length] at z
    have most := told_most ok nb hmo hpm co.cm hr1 st
    rw [hr1]
    have p1 : ∀ {w2 : Vw} {τ : Ty} {q1 q2 q3 : Pos} {j : Nat}, τ[16]? = some (some (dat K (optD (some p)))) → Xe (cxOf CX0 P w K mg base NLaw dLaw.qual dLaw.scope f cdv A outer s H E) w2 (.Subscript (.Name "_law_told" q1) (.Constant (.int 1) j q2) q3) τ (eD K (slipsT p.2)) := fun h => v_ix (d := pairD p) (ds := [.int p.1, slipsT p.2]) (n := 1) (nD 16 h) (cI 1) (.inr rfl) rfl
    refine rn_if (T := eT false) (Xt.imp' (t_or3 (u := false) (v := !decide (((p.1 : Nat) : Int) = ((led t s0 (cmds (sortS hp)) : Nat) : Int))) (t := decide ((mo : Int) < (p.2.length : Nat))) (t_isN (d := pairD p) (nD 16)) (t_ne (Xe.toI (v_ix (d := pairD p) (ds := [.int p.1, slipsT p.2]) (n := 0) (nD 16) (cI 0) (.inr rfl) rfl)) (Xe.toI (Xe.ofP (x_clP (P := fun pd => pd = dat K (.int (led t s0 (cmds (sortS hp)) : Nat))) (cl_lawLed X1) hr (by decide) pass0 (ap_cons (nP 3) (ap_cons (nP 10) (ap_cons (x_clP (P := fun pd => pd = dat K (natsL (cmds (sortS hp)))) (cl_lawCmds X1) hr (by decide) pass0 (ap_cons (nP 11) ap_nil) fun pds e => ⟨_, ⟨hp, _, e, .inr rfl, ap, by omega, rfl⟩, rfl⟩) ap_nil))) fun pds e => ⟨_, ⟨t, C, s0, _, e, ok, hs0, by rw [shp]; exact hh.cm, rfl⟩, rfl⟩))))
      (t_gt ((v_len X1.len (ds := slips p.2) (p1 rfl) (.inr rfl)).toJ (by rw [slips_len])) (nI 13))) (by rw [shp, hnow, decide_eq_true rfl, decide_eq_false (by omega)]; rfl)) (fun z => rn_dead (by cases z)) (fun _ => rn_out ?_)
    refine rn_if (T := eT (!PyData.eqv (.list []) (.list []))) (xt_neD (X := cxOf CX0 P w K mg base NLaw dLaw.qual dLaw.scope f cdv A outer s H E) (A := fun y => y = .list []) (B := fun y => y = .list []) (by show A.units + 3 + 64 < cLine; omega) (x_lc (own := [("_law_slip", 18)]) (A := fun y => y = slips (tray t C hp)) (C := fun y => y = .list []) rfl sc_law.nd (wi_tup (nD 12)) (blkOk_by (N := NLaw) (sc := defScope sLaw) (by decide +kernel)) (fun _ _ _ _ _ => pg_name (i := 18) sc_law.nd rfl (Or.inl rfl)) (tgr_name 18) (by simp)
      (fun _ i acc => acc = []) (fun _ _ _ b => b = false) (fun ds e => rfl) (fun ds i acc e => by rw [e]; exact (by decide : 0 < sizeLine)) (fun _ _ _ _ _ => trivial) (fun ds i acc x e hi hx w2 _ _ => ?_) (fun ds i acc x e hi hx hT w2 _ _ => by cases hT) (fun ds i acc x e hi hx hT => hi) (fun ds acc e hi => by rw [hi])) (v_lst (ds := []) a_nil) (fun d f e1 e2 => by rw [e1, e2]; exact ⟨(Sh.list (xs := []) (n := 0) fun x h => by cases h).shaped, (Sh.list (xs := []) (n := 0) fun x h => by cases h).shaped⟩) (fun d f e1 e2 => by rw [e1, e2])) (fun z => rn_dead ?_) (fun _ => rn_out (rn_out (rn_nil fun σ H s => ⟨_, _, ⟨rfl, _, _, _, rfl⟩, s⟩)))
    · subst e
      obtain ⟨y, hy, rfl⟩ := slips_inv hx
      have mem := hleast y (List.mem_of_getElem? hy)
      have any_ : ((slips p.2).any fun z => PyData.eqv z (slipD y)) = true := List.any_eq_true.mpr ⟨slipD y, List.mem_map.mpr ⟨y, mem, rfl⟩, SeqAt.eqv_refl _ sh_slip.lay⟩
      intro s1 H2 C1 cl1 fp1
      refine Xt.imp (t_notInT (d := slipD y) (ds := slips p.2) (by show A.units + 3 + 65 < cLine; omega) (nD 18) (v_ix (d := pairD p) (ds := [.int p.1, slipsT p.2]) (n := 1) (nD 16) (cI 1) (.inr rfl) rfl) sh_slip.shaped (Sh.tuple (n := 1) sh_slips).shaped) fun k hk => ?_
      rw [hk, any_]; rfl
    · have z' := eB_true z
      rw [eqv_nil] at z'
      cases z'
  · obtain ⟨rfl, o14, o15, o16, rfl⟩ := h
    exact rn_retLaw q rfl
end
end Lt
set_option maxHeartbeats 4000000
namespace Lt
open PySem PySem.Spec PyProof.Rows L2
/-! ### what the Bools mean -/
theorem ownB_ok {K : PySem.W.Frag} {C : Addr} (h : ownB K C = true) : ∃ nm q N bs bm sn sub ab col dd k0 k1 k2 k3 k5, K.lookup C = some (excClassObj nm q C N bs bm true sn sub ab col dd k0 k1 k2 k3 k5 "ValueError.__new__") ∧ PySem.HandSPX.refsVE bm = true := by
  unfold ownB at h
  split at h
  · rename_i t dd cd sl lk
    obtain ⟨ht, h⟩ := He.ba h
    have ht := of_decide_eq_true ht
    subst ht
    split at h
    · rename_i D bm k0 k1 k2 k3 n k5 hm hs
      obtain ⟨_, h⟩ := He.ba h
      obtain ⟨h1, h⟩ := He.ba h
      obtain ⟨h2, h⟩ := He.ba h
      obtain ⟨h3, h⟩ := He.ba h
      obtain ⟨h4, h5⟩ := He.ba h
      have h1 := of_decide_eq_true h1
      have h2 := of_decide_eq_true h2
      subst h1 h2
      obtain ⟨nm, bs, mro, ns, qn, hd, sn, sub, ab, col, del⟩ := cd
      dsimp only at hm h4 h5
      subst hm h4
      have hdel : del = false := by cases del <;> first | rfl | cases h5
      subst hdel
      have hsl : sl = #[k0, k1, k2, k3, some (.builtin "ValueError.__new__"), k5] := by
        obtain ⟨l⟩ := sl
        simp only at hs
        rw [hs]
      subst hsl
      exact ⟨nm, qn, ns, bs, bm, sn, sub, ab, col, dd, k0, k1, k2, k3, k5, lk, h3⟩
    · cases h
  · cases h
theorem cellB_ok {K : PySem.W.Frag} {C : Addr} {cl : List (Str × Addr)} (h : cellB K C cl = true) : ∃ x cc ccl ccd ccs, cl = [(x, cc)] ∧ K.lookup cc = some ⟨ccl, ccd, .cell (some (.ref C)), ccs⟩ := by
  unfold cellB at h
  split at h
  · rename_i q
    split at h
    · rename_i a b D c lk
      have e := of_decide_eq_true h
      subst e
      exact ⟨q.1, q.2, _, _, _, rfl, lk⟩
    · cases h
  · cases h
theorem fileB_ok {K : PySem.W.Frag} {file : Str} {cd : Value} (h : fileB K file cd = true) : ∃ (cda : Addr) (ocl : Value) (odl : Option Addr) (vs : Array Value) (osv : Array (Option Value)) (g : Str) (tf : Tok), cd = .ref cda ∧ K.lookup cda = some ⟨ocl, odl, .fields vs, osv⟩ ∧ vs[2]? = some (.str g tf) ∧ (file == g) = true := by
  unfold fileB at h
  split at h
  · rename_i c
    split at h
    · rename_i a b vs d lk
      split at h
      · rename_i g tf e
        exact ⟨c, _, _, _, _, g, tf, rfl, lk, e, h⟩
      · cases h
    · cases h
  · cases h
theorem noneB_ok {v : Value} (h : noneB v = true) : v = .none := by cases v <;> first | rfl | cases h
structure ExR (P : Program) (K : PySem.W.Frag) (d : IniD) : Prop where
  ini : ∃ fd, ExI P K (d.c K) (d.f K) "__init__" d.qual (defArgs d.stm) (defBody d.stm) (defScope d.stm) fd ∧ ∃ kV doc pm an cda ct cc, fd = PySem.W.ksFn "__init__" d.qual (defArgs d.stm) (defBody d.stm) (defScope d.stm) .none kV doc pm an cda ct cc
  fi : PySem.W.findIn K (.ref (d.c K)) "__init__" = some (some (.ref (d.f K)))
  ty : PySem.W.typeIn K (.ref (d.f K)) = some (.type "function")
  xf : XfC K (d.c K)
theorem excB_ok {P : Program} {K : PySem.W.Frag} {file : Str} {d : IniD} (hfile : P.main.file = file) (hop : PySem.W.nsIn K cStatics "thirdparty.any" = some none) (h : excB K file d = true) (v : fnC K (d.f K) = d.val) : ExR P K d := by
  obtain ⟨h0, h⟩ := He.ba h
  obtain ⟨h1, h⟩ := He.ba h
  obtain ⟨h2, h⟩ := He.ba h
  obtain ⟨h3, h⟩ := He.ba h
  obtain ⟨h4, h⟩ := He.ba h
  obtain ⟨h5, h⟩ := He.ba h
  obtain ⟨h6, h⟩ := He.ba h
  obtain ⟨h7, h⟩ := He.ba h
  obtain ⟨h8, h⟩ := He.ba h
  obtain ⟨h9, h⟩ := He.ba h
  obtain ⟨h10, h⟩ := He.ba h
  obtain ⟨h11, h12⟩ := He.ba h
  unfold iniB at h12
  unfold fnC at v
  split at h12
  · rename_i oc od fd osl lk
    rw [lk] at v
    obtain ⟨i1, i⟩ := He.ba h12
    obtain ⟨i2, i⟩ := He.ba i
    obtain ⟨i3, i4⟩ := He.ba i
    obtain ⟨cda, ocl, odl, vs, osv, g, tf, ecd, lkc, evs, eg⟩ := fileB_ok i2
    obtain ⟨x, cc, ccl, ccd, ccs, ecl, lcc⟩ := cellB_ok i4
    have edf := noneB_ok i3
    obtain ⟨n1, n2, n3, n4, n5, n6, n7, n8, n9, n10, n11, n12, n13, n14, n15⟩ := fd
    dsimp only at ecd ecl edf
    subst ecd ecl edf
    have v2 : (some (n1, n2, n3, n4, n5, n6, [x], n15) : FnC) = some (("__init__" : Str), d.qual, defArgs d.stm, FuncBody.stmts (defBody d.stm), defScope d.stm, mainGlobals, [("__class__" : Str)], builtinsNs) := v
    simp only [Option.some.injEq, Prod.mk.injEq, List.cons.injEq, and_true] at v2
    obtain ⟨e1, e2, e3, e4, e5, e6, e7, e8⟩ := v2
    subst e1 e2 e3 e4 e5 e6 e7 e8
    exact ⟨⟨_, ⟨⟨_, _, _, _, _, _, _, _, _, _, _, _, _, _, _, _, _, _, _, _, rfl, lk, i1, lkc, evs, by rw [hfile]; exact eg, lcc⟩, He.eqO_ok h5, of_decide_eq_true h6, of_decide_eq_true h7, hop, ⟨ownB_ok h1, He.eqO_ok h2, of_decide_eq_true h3, of_decide_eq_true h4, h0⟩, He.eqO_ok h8⟩, _, _, _, _, _, _, _, rfl⟩, He.eqO_ok h9, of_decide_eq_true h10, xfB_ok h11⟩
  · cases h12
/-- an exception of the text -/
theorem ecOf {P : Program} {w : World} {K : PySem.W.Frag} {mg : Str → Option Value} {base : Heap} {d : IniD} (R : ExR P K d) (hm : mg d.cls = some (.ref (d.c K))) (hsup : mg "super" = none) (S : NdefX.NScope ["self", "at", "__class__"] ["self", "at"] ["__class__"] (defScope d.stm)) (hks : (defScope d.stm).names.lookup ("super" : Str) = some .globalImplicit) (htop : (P.main.scope.names.lookup ("super" : Str)).isSome = false)
    (hp : ∃ ar, ((defArgs d.stm).posonlyargs ++ (defArgs d.stm).args).head? = some ar ∧ ar.arg = "self")
    (hbody : ∃ (p0 p1 p2 p3 p4 p5 p6 p7 p8 p9 : Pos) (msg : Str) (kk : Nat), defBody d.stm = [.Expr (.Call (.Attribute (.Call (.Name "super" p0) [] [] p1) "__init__" p2) [.Constant (.str msg) kk p3] [] p4) p5, .Assign [.Attribute (.Name "self" p6) "at" p7] (.Name "at" p8) p9] ∧
      ∀ env : Env, ∃ pl : Sem Bool, eval (.Call (.Attribute (.Call (.Name "super" p0) [] [] p1) "__init__" p2) [.Constant (.str msg) kk p3] [] p4) env = (do
        let ov ← attributeBase (.Call (.Name "super" p0) [] [] p1) "__init__" env (eval (.Call (.Name "super" p0) [] [] p1) env)
        standAt p2.atName
        let (f, first) ← holding [ov] (getMethod ov "__init__" pl)
        callWith p4 f first (backTo p4 (starEach [.Constant (.str msg) kk p3] env)) []))
    (hbi : ∀ (kV doc pm : Value) (an : Option Addr) (cda ct : Value) (cc : Addr) (us : List Value), us.length = 2 → bindArgs (PySem.W.ksFn "__init__" d.qual (defArgs d.stm) (defBody d.stm) (defScope d.stm) .none kV doc pm an cda ct cc) ⟨us, []⟩ = pure ((["self", "at"] : List Str).zip us)) : Ec P w K mg base d.cls (d.c K) := by
  obtain ⟨fd, ei, kV, doc, pm, an, cda, ct, cc, efd⟩ := R.ini
  refine ⟨⟨d.f K, fd, ok_ini ei hsup S hks htop hp hbody, R.fi, R.ty, ?_⟩, ei.ox, hm⟩
  rw [efd]
  exact .all (hbi kV doc pm an cda ct cc)
/-! ### all that the walk leans on -/
def adL (K : PySem.W.Frag) : Ad := ⟨He.ga K "Machine", iniI.c K, iniR.c K⟩
theorem glL {K : PySem.W.Frag} {h : Heap} {mg : Str → Option Value} (X : K.In h) (G : h.Ns mainGlobals mg) (c : He.SaysD faL fnL K) (i : Nat) {x : Str} (e : faL[i]? = some (.glo x) := by rfl) : mg x = some (.ref (He.ga K x)) := He.glo_ok X G (c.fact i e)
theorem frL {K : PySem.W.Frag} {h : Heap} {mg : Str → Option Value} (X : K.In h) (G : h.Ns mainGlobals mg) (c : He.SaysD faL fnL K) (i : Nat) {x : Str} (e : faL[i]? = some (.free x) := by rfl) : mg x = none := He.free_ok X G (c.fact i e)
def inL (d : He.DefD) : Prop := He.Fa.glo d.name ∈ faL ∧ d.at_ = (d.name, none) ∧ d.dfl = []
theorem stepL {d : He.DefD} {l : List He.DefD} {p : He.DefD → Prop} (h : p d) (r : ∀ e ∈ l, p e) : ∀ e ∈ d :: l, p e := List.forall_mem_cons.mpr ⟨h, r⟩
theorem dfsL : ∀ (i : Nat) (d : He.DefD), fnL[i]? = some d → d.at_.2 = none → inL d := by
  have key : ∀ d ∈ fnL, d.at_.2 = none → inL d := by
    have nil : ∀ d ∈ ([] : List He.DefD), d.at_.2 = none → inL d := fun _ h => nomatch h
    refine stepL (p := fun d => d.at_.2 = none → inL d) ?_ (stepL ?_ (stepL ?_ (stepL ?_ (stepL ?_ (stepL ?_ (stepL ?_ (stepL ?_ (stepL ?_ (stepL ?_ (stepL ?_ (stepL ?_ (stepL ?_ (stepL ?_ (stepL ?_ (stepL ?_ (stepL ?_ (stepL ?_ (stepL ?_ (stepL ?_ (stepL ?_ (stepL ?_ (stepL ?_ (stepL ?_ (stepL ?_ (stepL ?_ (stepL ?_ (stepL ?_ (stepL ?_ (stepL ?_ (stepL ?_ (stepL ?_ (stepL ?_ (stepL ?_ (stepL ?_ (stepL ?_ (stepL ?_ (stepL ?_ (stepL ?_ (stepL ?_ (stepL ?_ (stepL ?_ (stepL ?_ (stepL ?_ (stepL ?_ (stepL ?_ (stepL ?_ (stepL ?_ (stepL ?_ (nil)))))))))))))))))))))))))))))))))))))))))))))))))
    · exact fun _ => ⟨List.mem_of_getElem? (i := 4) rfl, rfl, rfl⟩
    · exact fun _ => ⟨List.mem_of_getElem? (i := 5) rfl, rfl, rfl⟩
    · exact fun _ => ⟨List.mem_of_getElem? (i := 6) rfl, rfl, rfl⟩
    · exact fun _ => ⟨List.mem_of_getElem? (i := 7) rfl, rfl, rfl⟩
    · exact fun _ => ⟨List.mem_of_getElem? (i := 8) rfl, rfl, rfl⟩
    · exact fun _ => ⟨List.mem_of_getElem? (i := 9) rfl, rfl, rfl⟩
    · exact fun z => by cases z
    · exact fun z => by cases z
    · exact fun _ => ⟨List.mem_of_getElem? (i := 11) rfl, rfl, rfl⟩
    · exact fun _ => ⟨List.mem_of_getElem? (i := 12) rfl, rfl, rfl⟩
    · exact fun _ => ⟨List.mem_of_getElem? (i := 13) rfl, rfl, rfl⟩
    · exact fun _ => ⟨List.mem_of_getElem? (i := 14) rfl, rfl, rfl⟩
    · exact fun _ => ⟨List.mem_of_getElem? (i := 15) rfl, rfl, rfl⟩
    · exact fun _ => ⟨List.mem_of_getElem? (i := 16) rfl, rfl, rfl⟩
    · exact fun _ => ⟨List.mem_of_getElem? (i := 17) rfl, rfl, rfl⟩
    · exact fun _ => ⟨List.mem_of_getElem? (i := 18) rfl, rfl, rfl⟩
    · exact fun _ => ⟨List.mem_of_getElem? (i := 19) rfl, rfl, rfl⟩
    · exact fun _ => ⟨List.mem_of_getElem? (i := 20) rfl, rfl, rfl⟩
    · exact fun _ => ⟨List.mem_of_getElem? (i := 21) rfl, rfl, rfl⟩
    · exact fun _ => ⟨List.mem_of_getElem? (i := 22) rfl, rfl, rfl⟩
    · exact fun _ => ⟨List.mem_of_getElem? (i := 23) rfl, rfl, rfl⟩
    · exact fun _ => ⟨List.mem_of_getElem? (i := 24) rfl, rfl, rfl⟩
    · exact fun _ => ⟨List.mem_of_getElem? (i := 25) rfl, rfl, rfl⟩
    · exact fun _ => ⟨List.mem_of_getElem? (i := 26) rfl, rfl, rfl⟩
    · exact fun _ => ⟨List.mem_of_getElem? (i := 27) rfl, rfl, rfl⟩
    · exact fun _ => ⟨List.mem_of_getElem? (i := 28) rfl, rfl, rfl⟩
    · exact fun _ => ⟨List.mem_of_getElem? (i := 29) rfl, rfl, rfl⟩
    · exact fun _ => ⟨List.mem_of_getElem? (i := 30) rfl, rfl, rfl⟩
    · exact fun _ => ⟨List.mem_of_getElem? (i := 31) rfl, rfl, rfl⟩
    · exact fun _ => ⟨List.mem_of_getElem? (i := 32) rfl, rfl, rfl⟩
    · exact fun _ => ⟨List.mem_of_getElem? (i := 33) rfl, rfl, rfl⟩
    · exact fun _ => ⟨List.mem_of_getElem? (i := 34) rfl, rfl, rfl⟩
    · exact fun _ => ⟨List.mem_of_getElem? (i := 35) rfl, rfl, rfl⟩
    · exact fun _ => ⟨List.mem_of_getElem? (i := 36) rfl, rfl, rfl⟩
    · exact fun _ => ⟨List.mem_of_getElem? (i := 37) rfl, rfl, rfl⟩
    · exact fun _ => ⟨List.mem_of_getElem? (i := 38) rfl, rfl, rfl⟩
    · exact fun _ => ⟨List.mem_of_getElem? (i := 39) rfl, rfl, rfl⟩
    · exact fun _ => ⟨List.mem_of_getElem? (i := 40) rfl, rfl, rfl⟩
    · exact fun _ => ⟨List.mem_of_getElem? (i := 41) rfl, rfl, rfl⟩
    · exact fun _ => ⟨List.mem_of_getElem? (i := 42) rfl, rfl, rfl⟩
    · exact fun _ => ⟨List.mem_of_getElem? (i := 43) rfl, rfl, rfl⟩
    · exact fun _ => ⟨List.mem_of_getElem? (i := 44) rfl, rfl, rfl⟩
    · exact fun _ => ⟨List.mem_of_getElem? (i := 45) rfl, rfl, rfl⟩
    · exact fun _ => ⟨List.mem_of_getElem? (i := 46) rfl, rfl, rfl⟩
    · exact fun _ => ⟨List.mem_of_getElem? (i := 47) rfl, rfl, rfl⟩
    · exact fun _ => ⟨List.mem_of_getElem? (i := 48) rfl, rfl, rfl⟩
    · exact fun _ => ⟨List.mem_of_getElem? (i := 49) rfl, rfl, rfl⟩
    · exact fun _ => ⟨List.mem_of_getElem? (i := 50) rfl, rfl, rfl⟩
    · exact fun _ => ⟨List.mem_of_getElem? (i := 51) rfl, rfl, rfl⟩
  exact fun i d e => key d (List.mem_of_getElem? e)
theorem txL {K : PySem.W.Frag} {h : Heap} {mg : Str → Option Value} (X : K.In h) (G : h.Ns mainGlobals mg) (c : SaysY faL fnL fileL K) : Tx K mg (adL K) := by
  obtain ⟨fd1, F1⟩ := c.d.def_ 7 (d := dMachineDoes) rfl
  obtain ⟨fd2, F2⟩ := c.d.def_ 6 (d := dMachineInit) rfl
  refine ⟨glL X G c.d 10, He.cls_ok (c.d.fact 70 (f := .cls "Machine") rfl), He.noat_ok (c.d.fact 73 (f := .noat "Machine" "commands") rfl), He.noat_ok (c.d.fact 74 (f := .noat "Machine" "states") rfl), He.noat_ok (c.d.fact 75 (f := .noat "Machine" "steps") rfl), He.noat_ok (c.d.fact 76 (f := .noat "Machine" "_found") rfl), ⟨_, fd1, F1, He.meth_ok (c.d.fact 72 (f := .meth "Machine" "does") rfl)⟩, ⟨_, fd2, F2, He.mkr_ok (c.d.fact 71 (f := .mkr "Machine") rfl)⟩, fun i d e1 e2 e3 => ?_, frL X G c.d 52, frL X G c.d 53, frL X G c.d 54, frL X G c.d 55, frL X G c.d 56, frL X G c.d 57, frL X G c.d 58, frL X G c.d 59, frL X G c.d 60, frL X G c.d 61, frL X G c.d 62, frL X G c.d 63, frL X G c.d 64, frL X G c.d 65, frL X G c.d 66, frL X G c.d 67, frL X G c.d 68, frL X G c.d 69⟩
  obtain ⟨m1, m2, m3⟩ := dfsL i d e1 e2
  obtain ⟨fd, F⟩ := c.d.def_ i e1
  have e4 : d.dvs K = [] := by unfold He.DefD.dvs; rw [m3]; rfl
  have e5 : d.kws K = [] := by unfold He.DefD.kws; rw [e3]; rfl
  rw [e4, e5, m2] at F
  exact ⟨_, fd, F, He.glo_ok X G (c.d.facts m1)⟩
theorem dkL {K : PySem.W.Frag} {h : Heap} {mg : Str → Option Value} (X : K.In h) (G : h.Ns mainGlobals mg) (c : SaysY faL fnL fileL K) : Dfk K mg dRedone ∧ Dfk K mg dReceive ∧ Dfk K mg dReceiveAll := by
  obtain ⟨fd1, F1⟩ := c.d.def_ 20 (d := dRedone) rfl
  obtain ⟨fd2, F2⟩ := c.d.def_ 21 (d := dReceive) rfl
  obtain ⟨fd3, F3⟩ := c.d.def_ 22 (d := dReceiveAll) rfl
  exact ⟨⟨_, fd1, F1, glL X G c.d 23⟩, ⟨_, fd2, F2, glL X G c.d 24⟩, ⟨_, fd3, F3, glL X G c.d 25⟩⟩
theorem scI : NdefX.NScope ["self", "at", "__class__"] ["self", "at"] ["__class__"] (defScope iniI.stm) := NdefX.nscope_by (by decide +kernel)
theorem scR : NdefX.NScope ["self", "at", "__class__"] ["self", "at"] ["__class__"] (defScope iniR.stm) := NdefX.nscope_by (by decide +kernel)
theorem tuL {P : Program} {w : World} {K : PySem.W.Frag} {h base : Heap} {mg : Str → Option Value} (X : K.In h) (G : h.Ns mainGlobals mg) (c : SaysY faL fnL fileL K) (hP : P.main.file = fileL) (htop : (P.main.scope.names.lookup ("super" : Str)).isSome = false) : Tu P w K mg base (adL K) := by
  obtain ⟨x1, x⟩ := He.ba c.ex
  obtain ⟨x2, x⟩ := He.ba x
  obtain ⟨x3, x⟩ := He.ba x
  obtain ⟨x4, x⟩ := He.ba x
  obtain ⟨x5, x6⟩ := He.ba x
  have hop := He.eqO_ok x1
  have RI : ExR P K iniI := excB_ok hP hop x2 c.fi
  have RR : ExR P K iniR := excB_ok hP hop x3 c.fr
  have T := txL X G c
  obtain ⟨k1, k2, k3⟩ := dkL X G c
  have EI : Ec P w K mg base iniI.cls (iniI.c K) := ecOf RI (glL X G c.d 2) T.super scI rfl htop ⟨_, rfl, rfl⟩ ⟨_, _, _, _, _, _, _, _, _, _, _, _, rfl, fun env => ⟨_, rfl⟩⟩ (fun _ _ _ _ _ _ _ us hl => match us, hl with | [_, _], _ => rfl)
  have ER : Ec P w K mg base iniR.cls (iniR.c K) := ecOf RR (glL X G c.d 3) T.super scR rfl htop ⟨_, rfl, rfl⟩ ⟨_, _, _, _, _, _, _, _, _, _, _, _, rfl, fun env => ⟨_, rfl⟩⟩ (fun _ _ _ _ _ _ _ us hl => match us, hl with | [_, _], _ => rfl)
  obtain ⟨fI, eiI, _⟩ := RI.ini
  obtain ⟨fR, eiR, _⟩ := RR.ini
  exact ⟨⟨T, EI, ER, k1, k2, k3⟩, ⟨of_decide_eq_true x4, of_decide_eq_true x5, of_decide_eq_true x6, RR.xf, RI.xf, eiR.no, eiI.no⟩⟩
end Lt
namespace Lt
open PySem PySem.Spec PyProof.Rows L2
/-! ### the law is called: nobody stands around it -/
/-- nothing is told but, it may be, one thing at a -/
def oneH (a : Addr) (u : Option HO) : Hp := fun b => if b = a then u else none
theorem oneH_at {a : Addr} {u : Option HO} : oneH a u a = u := if_pos rfl
theorem oneH_off {a b : Addr} {u : Option HO} (n : b ≠ a) : oneH a u b = none := if_neg n
theorem oneH_no {a b : Addr} : oneH a none b = none := by
  unfold oneH
  split <;> rfl
section
variable {P : Program} {w : World} {K : PySem.W.Frag} {mg mb : Str → Option Value} {k : Nat} {fa a : Addr} {fd : FuncData} {x : Str} {sp : Sp} {s : Shared} {vs : List Value} {ns : List Int} {u : Option HO}
theorem endG_one (hu : u = none ∨ (u = some (.frz { cls := .type "list", data := .seq vs.toArray } (.lst (ns.map V.int))) ∧ K.lookup a = none)) (hk : K.In s.heap) (hm : s.heap.Ns mainGlobals mg) (hb : s.heap.Ns builtinsNs mb) (hbo : ∀ y : Str, y ≠ "__name__" → mb y = bootBuiltins y) (hn : s.heap.NoLimit) (hg : s.gens = #[])
    (ha : s.heap.get? a = some { cls := .type "list", data := .seq vs.toArray }) (hi : IntsAre vs ns) (hl : ns.length ≤ sizeLine) (room : Room k callerA) (F : ∀ base : Heap, K.In base → base.Ns mainGlobals mg → FnG P w K mg base CX0 k fa fd [x] sp) (bind : ∀ (s : Shared) (v : Value), BindsTo s fd ⟨[v], []⟩ [(x, v)])
    (want : sp [.ref a] (oneH a u) (fun v _ => v = .bl true) fun _ _ _ => False) :
    codeAny (model P w) callerA (.call (.ref fa) ⟨[.ref a], []⟩) (fun r s' => r = .ok (.ret (.bool true)) ∧ OldK s.heap s'.heap ∧ s'.os = s.os ∧ AllBare s'.gens) s := by
  have clear : ∀ {b : Addr} {o : Obj}, s.heap.get? b = some o → (b = a → u ≠ none → False) → oneH a u b = none := fun {b o} e z => by
    by_cases hb : b = a
    · subst hb
      rw [oneH_at]
      by_cases hz : u = none
      · exact hz
      · exact (z rfl hz).elim
    · exact oneH_off hb
  have kin : K.In (hidT s.heap (oneH a u)) := fun b o e => hidT_get (hk b o e) (clear (hk b o e) fun z nz => by
    rcases hu with rfl | ⟨_, q⟩
    · exact nz rfl
    · rw [z, q] at e
      cases e)
  have keepNs : ∀ {b : Addr} {m : Str → Option Value}, s.heap.Ns b m → (hidT s.heap (oneH a u)).Ns b m := fun {b m} ⟨o, es, ep, e, d, r⟩ => ⟨o, es, ep, hidT_get e (clear e fun z _ => by
    rw [z, ha] at e
    cases e
    cases d), d, r⟩
  have ok : HOk P w (oneH a u) s.heap := fun b v e => by
    by_cases z : b = a
    · subst z
      rw [oneH_at] at e
      rcases hu with rfl | ⟨rfl, _⟩
      · cases e
      · cases e
        exact ⟨ha, by rw [List.length_map]; exact hl, vs, _, vals_ints hi, ha⟩
    · rw [oneH_off z] at e
      cases e
  obtain ⟨mc, nc, rc⟩ := hn
  have env : Env0 P w K mg (hidT s.heap (oneH a u)) callerA [] s (oneH a u) := ⟨rfl, ⟨kin, keepNs hm, ⟨mb, keepNs hb, hbo⟩, ⟨mc, keepNs nc, rc⟩⟩, fun _ _ e => of_hidT e, Nat.le_of_eq (hidT_size _ _), trivial, fun _ m => (nomatch m), ok, AllBare.of_eq hg⟩
  refine codeAny_mono ((F _ kin (keepNs hm)).run callerA [] s _ ⟨[.ref a], []⟩ [.ref a] [.ref a] _ _ rfl room env (bind s (.ref a)) (.cons rfl .nil) want) fun r s' told => ?_
  match r, told with
  | .error _, z => exact z.elim
  | .ok .next, z => exact z.elim
  | .ok .brk, z => exact z.elim
  | .ok .cont, z => exact z.elim
  | .ok (.ret y), ⟨v, H2, os, bare, un, ok2, rel, true_⟩ =>
    have true_ : v = .bl true := true_
    subst true_
    have rel : y = Value.bool true := rel
    subst rel
    refine ⟨rfl, OldK.of_keep fun b o e => ?_, os, bare⟩
    by_cases z : b = a ∧ u ≠ none
    · obtain ⟨rfl, nz⟩ := z
      rcases hu with q | ⟨q, _⟩
      · exact (nz q).elim
      · subst q
        have told2 := un.frzs b _ _ oneH_at
        obtain ⟨e2, _⟩ := ok2 b _ told2
        rw [ha] at e
        cases e
        exact e2
    · exact un.keep b o e (clear e fun z1 z2 => z ⟨z1, z2⟩) (fun m => nomatch m) (fun m => nomatch m)
theorem endG (hk : K.In s.heap) (hm : s.heap.Ns mainGlobals mg) (hb : s.heap.Ns builtinsNs mb) (hbo : ∀ y : Str, y ≠ "__name__" → mb y = bootBuiltins y) (hn : s.heap.NoLimit) (hg : s.gens = #[])
    (ha : s.heap.get? a = some { cls := .type "list", data := .seq vs.toArray }) (hi : IntsAre vs ns) (hl : ns.length ≤ sizeLine) (room : Room k callerA) (F : ∀ base : Heap, K.In base → base.Ns mainGlobals mg → FnG P w K mg base CX0 k fa fd [x] sp) (bind : ∀ (s : Shared) (v : Value), BindsTo s fd ⟨[v], []⟩ [(x, v)])
    (want : ∀ H : Hp, SqL K H a (ns.map V.int) → sp [.ref a] H (fun v _ => v = .bl true) fun _ _ _ => False) :
    codeAny (model P w) callerA (.call (.ref fa) ⟨[.ref a], []⟩) (fun r s' => r = .ok (.ret (.bool true)) ∧ OldK s.heap s'.heap ∧ s'.os = s.os ∧ AllBare s'.gens) s := by
  cases q : K.lookup a with
  | none => exact endG_one (u := some _) (.inr ⟨rfl, q⟩) hk hm hb hbo hn hg ha hi hl room F bind (want _ (.inl (.inr ⟨_, oneH_at⟩)))
  | some o =>
    have e := hk a o q
    rw [ha] at e
    cases e
    exact endG_one (u := none) (.inl rfl) hk hm hb hbo hn hg ha hi hl room F bind (want _ (.inr ⟨_, vs.toArray, _, q, rfl, rfl, rfl, by rw [List.size_toArray, hi.length]; exact hl, by simpa using vals_ints hi⟩))
end
/-- the law, walked with nothing around it -/
theorem walkG {l : PySem.W.OpenLaw} {n k : Nat} {q : Program} {loose : List Str} {XP : (Str → Option Value) → Heap → Prop} {YP : World → Heap → Prop} {d : DefRec} {x : Str} (many : l.most = some n) (few : n ≤ sizeLine) (plain : d.params.defaults = []) (room : Room k callerA)
    (F : ∀ (w : World) (mg : Str → Option Value) (fa : Addr) (h : Heap), YP w h → h.Ns mainGlobals mg → mg d.name = some (.ref fa) → ∃ (K : PySem.W.Frag) (fd : FuncData) (sp : Sp), K.In h ∧ (∀ (s : Shared) (v : Value), BindsTo s fd ⟨[v], []⟩ [(x, v)]) ∧
      (∀ (H : Hp) (a : Addr) (ns : List Int), ns.length ≤ n → SqL K H a (ns.map V.int) → sp [.ref a] H (fun v _ => v = .bl true) fun _ _ _ => False) ∧ ∀ base : Heap, K.In base → base.Ns mainGlobals mg → FnG l.prog w K mg base CX0 k fa fd [x] sp) :
    PySem.W.WalkO q loose XP YP l.row.toRowW d [] (fun f vs => PySem.call f vs) :=
  Att.attach_call many plain fun w _ s mg mb fa _ _ _ _ a _ ns G Y _ _ _ hmg ho hi hl hg => by
    obtain ⟨K, fd, sp, hk, bind, want, ok⟩ := F w mg fa _ Y G.T.g hmg
    exact endG hk G.T.g G.T.b G.T.builtins G.T.nolimit hg ho hi (Nat.le_trans hl few) room ok bind fun H hs => want H a ns hl hs
end Lt
set_option maxHeartbeats 0
namespace Lt
open PySem PySem.Spec PyProof.Rows L2
theorem factsL {P : Program} {w : World} {K : PySem.W.Frag} {h : Heap} {mg : Str → Option Value} {f : Addr} (X : K.In h) (G : h.Ns mainGlobals mg) (hP : P.main.file = fileL) (htop : (P.main.scope.names.lookup ("super" : Str)).isSome = false) (hf : mg ("law" : Str) = some (.ref f)) (c : SaysY faL fnL fileL K) :
    ∃ fd : FuncData, (∀ (s : Shared) (v : Value), BindsTo s fd ⟨[v], []⟩ [("_law_script", v)]) ∧ ∀ base : Heap, K.In base → base.Ns mainGlobals mg → FnG P w K mg base CX0 14 f fd ["_law_script"] (spLaw K) := by
  obtain ⟨fd, F⟩ := c.d.def_ 48 (d := dLaw) rfl
  have e := hf.symm.trans (glL X G c.d 51)
  cases e
  have b := FunD.bindsA (ps := ["_law_script"]) F fun _ _ _ _ _ _ us hl => match us, hl with | [_], _ => rfl
  exact ⟨fd, fun s v => b s [v] rfl, fun base _ _ => ok_law (tuL X G c hP htop) F⟩
end Lt
open PySem PySem.W PySem.Calls PyProof.Rows
theorem PySem.Challenge.cw_lateslips_k24_whole_in_any_order_holds : PySem.Challenge.rw_lateslips_k24_whole_in_any_order.Holds := by
  w_on; o_law
  refine HandSHeadRun.head_any (r := OpenLaw.row PySem.Challenge.rw_lateslips_k24_whole_in_any_order) (q := view Lt.RR.prog [60]) (H := Lt.hkL) (ob := Lt.obL) (M := 3000) (loose := Lt.looseL) (d := HandSHeadRun.topDef Lt.RR.prog 60) (kwd := []) Lt.obL_eq
    (by kernel_rfl) (fun s => by kernel_rfl) Lt.runL (by kernel_rfl) (by kernel_rfl) (by kernel_rfl) (by rfl) (by first | assumption | decide +kernel) (by decide +kernel) ⟨rfl, rfl, rfl, rfl, rfl, by decide +kernel⟩ ?hw ?hc
  case hw => w_witness2
  case hc =>
    refine Lt.walkG (l := PySem.Challenge.rw_lateslips_k24_whole_in_any_order) (n := 63) (k := 14) (x := "_law_script") rfl (by decide) (by kernel_rfl) ⟨rfl, by decide, by decide⟩ ?F
    intro w mg fa h Y G hm0
    obtain ⟨K, KX, c⟩ := Y
    have hm : mg ("law" : PySem.Str) = some (.ref fa) := by
      have e : (HandSHeadRun.topDef Lt.RR.prog 60).name = ("law" : PySem.Str) := by kernel_rfl
      rw [← e]
      exact hm0
    obtain ⟨fd, hb, hF⟩ := Lt.factsL (P := (PySem.Challenge.rw_lateslips_k24_whole_in_any_order).prog) (w := w) KX G rfl (by kernel_rfl) hm c
    exact ⟨K, fd, Lt.spLaw K, KX, hb, fun H a ns hl hS => ⟨a, ns, rfl, hS, by omega, fun _ => rfl⟩, hF⟩
