import PyProof.Rows.All
import Wide.All
import OpenK.AllK
import Wide.FinOn
import KE.KStateDown
import HandS.Head0
import HandS.Head1
import HandS.Head2
import HandS.HeadEnd
import HandS.HeadHook4
import HandS.Words
import KE.KExcInit
import KE.KExcIs
import PySem.Challenge.RW_redeliver_k93_limits_and_errors
import HandS.ForMost
import HandS.ForExc
import HandS.Strs
import HandS.IsInst
import KE.SortData
import KE.KDictKeyed
import KE.DataFind
import HandS.Lambda
import HandS.TupAny
import HandS.TupMul
import HandS.Wide
import HandS.WideBits
import PyProof.EqKinds
import PyProof.NeKinds
import PyProof.Dict
import PyProof.FactsAll.dict
import HandS.TupLe
import HandS.Deep
import HandS.Style
import KE.DataCmp
import HandS.Conv
import KE.KIndexOf
import HandS.StrMore
import HandS.Flow
import HandS.Zip
import HandS.NoneIn
import HandS.ExcCtx
import KE.GoesEnum
import KE.GoesZip
import KE.GoesMore
import HandS.DictComp
import HandS.SortInts
import HandS.ExcOwn
import KE.KTryMore
import HandS.ExcValue
import HandS.SetTxt0
import HandS.SetFor
import PyProof.WalksMore
import PyProof.Rows.SortShellAny
import PyProof.ReprLen
import HandS.EndTab
import HandS.NestedK
import PyProof.StrLawsIn
set_option Elab.async false
set_option linter.all false
set_option maxRecDepth 100000
namespace RV
theorem zO1 {a b : Prop} (h : a) : a ∨ b := Or.inl h
theorem zO2 {a b c : Prop} (h : b) : a ∨ b ∨ c := Or.inr (Or.inl h)
theorem zO3 {a b c : Prop} (h : c) : a ∨ b ∨ c := Or.inr (Or.inr h)
theorem zO4 {a b : Prop} (h : b) : a ∨ b := Or.inr h
end RV
set_option maxHeartbeats 2000000
/-! RL0: what a head is asked. -/
namespace RV
open PySem PySem.Spec PyProof.Rows L2
/-- at the modules' place stands a dict that holds something -/
def SysD (h : Heap) : Prop := ∃ o es ep, h.get? sysModules = some o ∧ o.data = .dict es ep ∧ es.toList ≠ []
theorem SysD.keep {h h' : Heap} (d : SysD h) (k : ∀ b o, h.get? b = some o → h'.get? b = some o) : SysD h' := let ⟨o, es, ep, e, r⟩ := d; ⟨o, es, ep, k _ _ e, r⟩
def smB (g : Addr → Option Obj) : Bool := match g sysModules with
  | some o => (match o.data with
    | .dict es _ => !es.toList.isEmpty
    | _ => false)
  | none => false
theorem smB_ok {h : Heap} (e : smB h.get? = true) : SysD h := by
  unfold smB at e
  cases q : h.get? sysModules with
  | none => rw [q] at e; cases e
  | some o =>
    rw [q] at e
    dsimp only at e
    cases d : o.data with
    | dict es ep =>
      rw [d] at e
      dsimp only at e
      refine ⟨o, es, ep, q, d, fun z => ?_⟩
      rw [z] at e
      cases e
    | _ => rw [d] at e; cases e
/-- the head's Hook, with the modules' dict -/
def obsS (n : Nat) (fa : List He.Fa) (fn : List He.DefD) (ts : List He.Tab) (tf : List He.Defn) (ex : PySem.W.Frag → Bool) (g : Addr → Option Obj) : He.AlX := ((He.obsX n fa fn ts tf ex g).1, (He.obsX n fa fn ts tf ex g).2 && smB g)
def hookS (n : Nat) (fa : List He.Fa) (fn : List He.DefD) (ts : List He.Tab) (tf : List He.Defn) (ex : PySem.W.Frag → Bool) : PySem.W.Hook where
  α := He.AlX
  obs := fun s => obsS n fa fn ts tf ex s.heap.get?
  val := fun w => He.valX fn ts w
  says := fun w h => (∃ K : PySem.W.Frag, K.In h ∧ He.SaysX fa fn ts tf ex w h K) ∧ SysD h
  of := fun _ _ e => by
    have e1 := congrArg (fun z : He.AlX => z.1) e
    have e2 := congrArg (fun z : He.AlX => z.2) e
    obtain ⟨h1, h2⟩ := He.ba e2
    exact ⟨⟨_, He.frT_in, He.saysX_of (Prod.ext e1 h1)⟩, smB_ok h2⟩
  keeps := fun _ _ _ ⟨⟨K, hK, c⟩, sd⟩ k => ⟨⟨K, PySem.W.Frag.In.keeps hK k, ⟨c.t, c.more, c.hd, c.out, fun p hp => k _ _ (c.empty p hp)⟩⟩, sd.keep k⟩
theorem obsS_eq {n : Nat} {fa : List He.Fa} {fn : List He.DefD} {ts : List He.Tab} {tf : List He.Defn} {ex : PySem.W.Frag → Bool} {g : Addr → Option Obj} {s : Shared} (h : ∀ a, g a = s.heap.get? a) : obsS n fa fn ts tf ex g = (hookS n fa fn ts tf ex).obs s := by
  have e : g = s.heap.get? := funext h
  rw [e] <;> rfl
/-- no defaults by keyword -/
def kwB (K : PySem.W.Frag) (p : Str × Option Str) : Bool := match K.lookup (He.fAd K p) with
  | some ⟨_, _, .func fd, _⟩ => decide (fd.kwdefaults = .none)
  | _ => false
/-- what an error class's object is asked -/
def excB (K : PySem.W.Frag) (x : Str) (bm : List Value) (nw : String) : Bool :=
  He.eqO (PySem.W.nsIn K mainGlobals x) (some (some (.ref (He.ga K x)))) && (PySem.W.excInitIn K (He.ga K x) bm nw && (PySem.W.excOver K (He.ga K x) bm && (He.eqO (PySem.W.findIn K (.ref (He.ga K x)) "__getattribute__") (some (some (.builtin "BaseException.__getattribute__"))) &&
    (He.eqO (PySem.W.findIn K (.ref (He.ga K x)) "__getattr__") (some none) && (PySem.W.keepIn K (.ref (He.ga K x)) && (decide (PySem.W.subIn K (.ref (He.ga K x)) (.type "BaseException") = some true) && (decide (PySem.W.typeIn K (.ref (He.ga K x)) = some (.type "type")) && PySem.W.hasDictIn K (He.ga K x))))))))
/-- .. with a field -/
def exfB (K : PySem.W.Frag) (x f : Str) : Bool :=
  He.eqO (PySem.W.findIn K (.ref (He.ga K x)) "__setattr__") (some (some (.builtin "object.__setattr__"))) && (He.eqO (PySem.W.findIn K (.ref (He.ga K x)) f) (some none) && (He.eqO (PySem.W.findIn K (.ref (He.ga K x)) "__init__") (some (some (.ref (He.ma K (He.ga K x) "__init__")))) &&
    (decide (PySem.W.typeIn K (.ref (He.ma K (He.ga K x) "__init__")) = some (.type "function")) && kwB K (x, some "__init__"))))
/-- whose class may be asked -/
def clsB (K : PySem.W.Frag) (x : Str) : Bool :=
  (PySem.W.clsIn K (He.ga K x)).isSome && (He.eqO (PySem.W.findIn K (.ref (He.ga K x)) "__class__") (some (some (.builtin "object.__class__"))) && (He.eqO (PySem.W.specialIn K (.builtin "object.__class__") "__get__") (some (some (.builtin "getset_descriptor.__get__"))) &&
    (decide (PySem.W.takesIn K (.builtin "object.__class__") = some true) && decide (PySem.W.mroIn K (He.ga K x) (.type "object") = some true))))
/-- of each of these classes, whether it is below V -/
def kitAll (K : PySem.W.Frag) (all : List Str) (V : Value) (ys : List Str) : Bool := all.all fun t => decide (PySem.W.kitOne K (.ref (He.ga K t)) V = some (ys.contains t))
end RV

namespace RV
open PySem PySem.Spec PyProof.Rows L2
def pTop (i : Nat) : Stmt := PySem.Challenge.pw_redeliver_k93_limits_and_errors.main.body.getD i (.Pass ⟨0, 0, 0, 0⟩)
abbrev s_law : Stmt := pTop 60
abbrev s__law_limits_right : Stmt := pTop 54
abbrev s__law_cell : Stmt := pTop 50
abbrev s__law_pool : Stmt := pTop 51
abbrev s__law_right : Stmt := pTop 59
abbrev s__law_draw : Stmt := pTop 52
abbrev s__law_first : Stmt := pTop 55
abbrev s__law_second : Stmt := pTop 56
abbrev s__law_third : Stmt := pTop 57
abbrev s__law_caught : Stmt := pTop 58
abbrev s__law_error : Stmt := pTop 53
def dL_law : He.DefD := ⟨("law", none), "law", "law", defArgs s_law, defBody s_law, defScope s_law, [], []⟩
def dL__law_limits_right : He.DefD := ⟨("_law_limits_right", none), "_law_limits_right", "_law_limits_right", defArgs s__law_limits_right, defBody s__law_limits_right, defScope s__law_limits_right, [], []⟩
def dL__law_cell : He.DefD := ⟨("_law_cell", none), "_law_cell", "_law_cell", defArgs s__law_cell, defBody s__law_cell, defScope s__law_cell, [], []⟩
def dL__law_pool : He.DefD := ⟨("_law_pool", none), "_law_pool", "_law_pool", defArgs s__law_pool, defBody s__law_pool, defScope s__law_pool, [], []⟩
def dL__law_right : He.DefD := ⟨("_law_right", none), "_law_right", "_law_right", defArgs s__law_right, defBody s__law_right, defScope s__law_right, [], []⟩
def dL__law_draw : He.DefD := ⟨("_law_draw", none), "_law_draw", "_law_draw", defArgs s__law_draw, defBody s__law_draw, defScope s__law_draw, [], []⟩
def dL__law_first : He.DefD := ⟨("_law_first", none), "_law_first", "_law_first", defArgs s__law_first, defBody s__law_first, defScope s__law_first, [], []⟩
def dL__law_second : He.DefD := ⟨("_law_second", none), "_law_second", "_law_second", defArgs s__law_second, defBody s__law_second, defScope s__law_second, [], []⟩
def dL__law_third : He.DefD := ⟨("_law_third", none), "_law_third", "_law_third", defArgs s__law_third, defBody s__law_third, defScope s__law_third, [], []⟩
def dL__law_caught : He.DefD := ⟨("_law_caught", none), "_law_caught", "_law_caught", defArgs s__law_caught, defBody s__law_caught, defScope s__law_caught, [], []⟩
def dL__law_error : He.DefD := ⟨("_law_error", none), "_law_error", "_law_error", defArgs s__law_error, defBody s__law_error, defScope s__law_error, [], []⟩
abbrev sI_InvalidLog : Stmt := inClass (pTop 2) 0
def dI_InvalidLog : He.DefD := ⟨("InvalidLog", some "__init__"), "__init__", "InvalidLog.__init__", defArgs sI_InvalidLog, defBody sI_InvalidLog, defScope sI_InvalidLog, [], []⟩
abbrev sI_InvalidStep : Stmt := inClass (pTop 3) 0
def dI_InvalidStep : He.DefD := ⟨("InvalidStep", some "__init__"), "__init__", "InvalidStep.__init__", defArgs sI_InvalidStep, defBody sI_InvalidStep, defScope sI_InvalidStep, [], []⟩
abbrev sI_InvalidSteps : Stmt := inClass (pTop 4) 0
def dI_InvalidSteps : He.DefD := ⟨("InvalidSteps", some "__init__"), "__init__", "InvalidSteps.__init__", defArgs sI_InvalidSteps, defBody sI_InvalidSteps, defScope sI_InvalidSteps, [], []⟩
abbrev sI_InvalidSignature : Stmt := inClass (pTop 5) 0
def dI_InvalidSignature : He.DefD := ⟨("InvalidSignature", some "__init__"), "__init__", "InvalidSignature.__init__", defArgs sI_InvalidSignature, defBody sI_InvalidSignature, defScope sI_InvalidSignature, [], []⟩
abbrev sI_InvalidPath : Stmt := inClass (pTop 6) 0
def dI_InvalidPath : He.DefD := ⟨("InvalidPath", some "__init__"), "__init__", "InvalidPath.__init__", defArgs sI_InvalidPath, defBody sI_InvalidPath, defScope sI_InvalidPath, [], []⟩
abbrev sI_InvalidEvent : Stmt := inClass (pTop 7) 0
def dI_InvalidEvent : He.DefD := ⟨("InvalidEvent", some "__init__"), "__init__", "InvalidEvent.__init__", defArgs sI_InvalidEvent, defBody sI_InvalidEvent, defScope sI_InvalidEvent, [], []⟩
abbrev sI_InvalidEvents : Stmt := inClass (pTop 8) 0
def dI_InvalidEvents : He.DefD := ⟨("InvalidEvents", some "__init__"), "__init__", "InvalidEvents.__init__", defArgs sI_InvalidEvents, defBody sI_InvalidEvents, defScope sI_InvalidEvents, [], []⟩
abbrev sI_InvalidNumber : Stmt := inClass (pTop 9) 0
def dI_InvalidNumber : He.DefD := ⟨("InvalidNumber", some "__init__"), "__init__", "InvalidNumber.__init__", defArgs sI_InvalidNumber, defBody sI_InvalidNumber, defScope sI_InvalidNumber, [], []⟩
abbrev sI_InvalidTable : Stmt := inClass (pTop 10) 0
def dI_InvalidTable : He.DefD := ⟨("InvalidTable", some "__init__"), "__init__", "InvalidTable.__init__", defArgs sI_InvalidTable, defBody sI_InvalidTable, defScope sI_InvalidTable, [], []⟩
abbrev sI_InvalidState : Stmt := inClass (pTop 11) 0
def dI_InvalidState : He.DefD := ⟨("InvalidState", some "__init__"), "__init__", "InvalidState.__init__", defArgs sI_InvalidState, defBody sI_InvalidState, defScope sI_InvalidState, [], []⟩
abbrev sI_InvalidPattern : Stmt := inClass (pTop 13) 0
def dI_InvalidPattern : He.DefD := ⟨("InvalidPattern", some "__init__"), "__init__", "InvalidPattern.__init__", defArgs sI_InvalidPattern, defBody sI_InvalidPattern, defScope sI_InvalidPattern, [], []⟩
abbrev sI_InvalidEdges : Stmt := inClass (pTop 14) 0
def dI_InvalidEdges : He.DefD := ⟨("InvalidEdges", some "__init__"), "__init__", "InvalidEdges.__init__", defArgs sI_InvalidEdges, defBody sI_InvalidEdges, defScope sI_InvalidEdges, [], []⟩
abbrev sI_InvalidShares : Stmt := inClass (pTop 16) 0
def dI_InvalidShares : He.DefD := ⟨("InvalidShares", some "__init__"), "__init__", "InvalidShares.__init__", defArgs sI_InvalidShares, defBody sI_InvalidShares, defScope sI_InvalidShares, [], []⟩
abbrev sI_InvalidProgram : Stmt := inClass (pTop 17) 0
def dI_InvalidProgram : He.DefD := ⟨("InvalidProgram", some "__init__"), "__init__", "InvalidProgram.__init__", defArgs sI_InvalidProgram, defBody sI_InvalidProgram, defScope sI_InvalidProgram, [], []⟩
abbrev sI_InvalidEdit : Stmt := inClass (pTop 19) 0
def dI_InvalidEdit : He.DefD := ⟨("InvalidEdit", some "__init__"), "__init__", "InvalidEdit.__init__", defArgs sI_InvalidEdit, defBody sI_InvalidEdit, defScope sI_InvalidEdit, [], []⟩
abbrev sI_NoPath : Stmt := inClass (pTop 23) 0
def dI_NoPath : He.DefD := ⟨("NoPath", some "__init__"), "__init__", "NoPath.__init__", defArgs sI_NoPath, defBody sI_NoPath, defScope sI_NoPath, [], []⟩
abbrev sI_NotApplicable : Stmt := inClass (pTop 24) 0
def dI_NotApplicable : He.DefD := ⟨("NotApplicable", some "__init__"), "__init__", "NotApplicable.__init__", defArgs sI_NotApplicable, defBody sI_NotApplicable, defScope sI_NotApplicable, [], []⟩
abbrev sI_UnknownEvent : Stmt := inClass (pTop 25) 0
def dI_UnknownEvent : He.DefD := ⟨("UnknownEvent", some "__init__"), "__init__", "UnknownEvent.__init__", defArgs sI_UnknownEvent, defBody sI_UnknownEvent, defScope sI_UnknownEvent, [], []⟩
abbrev sI_InvalidReceiver : Stmt := inClass (pTop 12) 0
def dI_InvalidReceiver : He.DefD := ⟨("InvalidReceiver", some "__init__"), "__init__", "InvalidReceiver.__init__", defArgs sI_InvalidReceiver, defBody sI_InvalidReceiver, defScope sI_InvalidReceiver, [], []⟩
abbrev sI_InvalidGraph : Stmt := inClass (pTop 15) 0
def dI_InvalidGraph : He.DefD := ⟨("InvalidGraph", some "__init__"), "__init__", "InvalidGraph.__init__", defArgs sI_InvalidGraph, defBody sI_InvalidGraph, defScope sI_InvalidGraph, [], []⟩
abbrev sI_InvalidText : Stmt := inClass (pTop 18) 0
def dI_InvalidText : He.DefD := ⟨("InvalidText", some "__init__"), "__init__", "InvalidText.__init__", defArgs sI_InvalidText, defBody sI_InvalidText, defScope sI_InvalidText, [], []⟩
abbrev sI_InvalidCommand : Stmt := inClass (pTop 20) 0
def dI_InvalidCommand : He.DefD := ⟨("InvalidCommand", some "__init__"), "__init__", "InvalidCommand.__init__", defArgs sI_InvalidCommand, defBody sI_InvalidCommand, defScope sI_InvalidCommand, [], []⟩
abbrev sI_UnknownEffect : Stmt := inClass (pTop 26) 0
def dI_UnknownEffect : He.DefD := ⟨("UnknownEffect", some "__init__"), "__init__", "UnknownEffect.__init__", defArgs sI_UnknownEffect, defBody sI_UnknownEffect, defScope sI_UnknownEffect, [], []⟩
abbrev sI_TooManyEvents : Stmt := inClass (pTop 29) 0
def dI_TooManyEvents : He.DefD := ⟨("TooManyEvents", some "__init__"), "__init__", "TooManyEvents.__init__", defArgs sI_TooManyEvents, defBody sI_TooManyEvents, defScope sI_TooManyEvents, [], []⟩
abbrev sI_TooLong : Stmt := inClass (pTop 30) 0
def dI_TooLong : He.DefD := ⟨("TooLong", some "__init__"), "__init__", "TooLong.__init__", defArgs sI_TooLong, defBody sI_TooLong, defScope sI_TooLong, [], []⟩
abbrev sI_TooManyStates : Stmt := inClass (pTop 31) 0
def dI_TooManyStates : He.DefD := ⟨("TooManyStates", some "__init__"), "__init__", "TooManyStates.__init__", defArgs sI_TooManyStates, defBody sI_TooManyStates, defScope sI_TooManyStates, [], []⟩
abbrev sI_TooManyEdits : Stmt := inClass (pTop 32) 0
def dI_TooManyEdits : He.DefD := ⟨("TooManyEdits", some "__init__"), "__init__", "TooManyEdits.__init__", defArgs sI_TooManyEdits, defBody sI_TooManyEdits, defScope sI_TooManyEdits, [], []⟩
def fnL : List He.DefD := [dL_law, dL__law_limits_right, dL__law_cell, dL__law_pool, dL__law_right, dL__law_draw, dL__law_first, dL__law_second, dL__law_third, dL__law_caught, dL__law_error, dI_InvalidLog, dI_InvalidStep, dI_InvalidSteps, dI_InvalidSignature, dI_InvalidPath, dI_InvalidEvent, dI_InvalidEvents, dI_InvalidNumber, dI_InvalidTable, dI_InvalidState, dI_InvalidPattern, dI_InvalidEdges, dI_InvalidShares, dI_InvalidProgram, dI_InvalidEdit, dI_NoPath, dI_NotApplicable, dI_UnknownEvent, dI_InvalidReceiver] ++ [dI_InvalidGraph, dI_InvalidText, dI_InvalidCommand, dI_UnknownEffect, dI_TooManyEvents, dI_TooLong, dI_TooManyStates, dI_TooManyEdits]
def faL : List He.Fa := [.glo "law", .glo "_law_limits_right", .glo "_law_cell", .glo "_law_pool", .glo "_law_right", .glo "_law_draw", .glo "_law_first", .glo "_law_second", .glo "_law_third", .glo "_law_caught", .glo "_law_error", .free "all", .free "range", .free "max", .free "min", .free "len", .free "repr", .free "abs", .free "divmod", .free "isinstance", .free "ValueError", .free "LookupError", .free "ArithmeticError", .int "MAX_EVENTS" 6, .int "MAX_LOG" 400, .int "MAX_ON_THE_WAY" 2000, .int "MAX_DERIVED" 10, .int "MAX_STEPS" 60000, .int "MAX_REDUCED" 40, .int "FEW_EVENTS" 3] ++ [.int "MAX_STATES" 160, .int "FEW_STATES" 5, .int "MAX_SEPARATING" 16, .int "MAX_RECEIVER_EVENTS" 12, .int "FEW_RECEIVER_EVENTS" 4, .int "MAX_PATTERN" 60, .int "MAX_MERGED" 12, .int "MAX_TIMES" 1000000000000000000000000000000, .int "MAX_EDITS" 500, .glo "DeliveryError", .glo "SearchError", .glo "LimitError", .glo "InvalidLog", .glo "InvalidStep", .glo "InvalidSteps", .glo "InvalidSignature", .glo "InvalidPath", .glo "InvalidEvent", .glo "InvalidEvents", .glo "InvalidNumber", .glo "InvalidTable", .glo "InvalidState", .glo "InvalidReceiver", .glo "InvalidPattern", .glo "InvalidEdges", .glo "InvalidGraph", .glo "InvalidShares", .glo "InvalidProgram", .glo "InvalidText", .glo "InvalidEdit"] ++ [.glo "InvalidCommand", .glo "EmptyLog", .glo "NoPath", .glo "NotApplicable", .glo "UnknownEvent", .glo "UnknownEffect", .glo "NothingToUndo", .glo "TooManyEvents", .glo "TooLong", .glo "TooManyStates", .glo "TooManyEdits", .exm "InvalidStep" "DeliveryError" true, .exm "UnknownEvent" "DeliveryError" false, .exm "TooLong" "DeliveryError" false, .exm "InvalidStep" "SearchError" false, .exm "UnknownEvent" "SearchError" true, .exm "TooLong" "SearchError" false, .exm "InvalidStep" "LimitError" false, .exm "UnknownEvent" "LimitError" false, .exm "TooLong" "LimitError" true]
def tfL : List He.Defn := []
def exL (K : PySem.W.Frag) : Bool := excB K "InvalidLog" [.type "ValueError", .type "Exception", .type "BaseException", .type "object"] "ValueError.__new__" && (exfB K "InvalidLog" "index" && (excB K "InvalidStep" [.type "ValueError", .type "Exception", .type "BaseException", .type "object"] "ValueError.__new__" && (exfB K "InvalidStep" "step" && (excB K "InvalidSteps" [.type "ValueError", .type "Exception", .type "BaseException", .type "object"] "ValueError.__new__" && (exfB K "InvalidSteps" "index" && (excB K "InvalidSignature" [.type "ValueError", .type "Exception", .type "BaseException", .type "object"] "ValueError.__new__" && (exfB K "InvalidSignature" "signature" && (excB K "InvalidPath" [.type "ValueError", .type "Exception", .type "BaseException", .type "object"] "ValueError.__new__" && (exfB K "InvalidPath" "index" && (excB K "InvalidEvent" [.type "ValueError", .type "Exception", .type "BaseException", .type "object"] "ValueError.__new__" && (exfB K "InvalidEvent" "event" && (excB K "InvalidEvents" [.type "ValueError", .type "Exception", .type "BaseException", .type "object"] "ValueError.__new__" && (exfB K "InvalidEvents" "index" && (excB K "InvalidNumber" [.type "ValueError", .type "Exception", .type "BaseException", .type "object"] "ValueError.__new__" && (exfB K "InvalidNumber" "number" && (excB K "InvalidTable" [.type "ValueError", .type "Exception", .type "BaseException", .type "object"] "ValueError.__new__" && (exfB K "InvalidTable" "index" && (excB K "InvalidState" [.type "ValueError", .type "Exception", .type "BaseException", .type "object"] "ValueError.__new__" && (exfB K "InvalidState" "state" && (excB K "InvalidPattern" [.type "ValueError", .type "Exception", .type "BaseException", .type "object"] "ValueError.__new__" && (exfB K "InvalidPattern" "index" && (excB K "InvalidEdges" [.type "ValueError", .type "Exception", .type "BaseException", .type "object"] "ValueError.__new__" && (exfB K "InvalidEdges" "index" && (excB K "InvalidShares" [.type "ValueError", .type "Exception", .type "BaseException", .type "object"] "ValueError.__new__" && (exfB K "InvalidShares" "index" && (excB K "InvalidProgram" [.type "ValueError", .type "Exception", .type "BaseException", .type "object"] "ValueError.__new__" && (exfB K "InvalidProgram" "index" && (excB K "InvalidEdit" [.type "ValueError", .type "Exception", .type "BaseException", .type "object"] "ValueError.__new__" && (exfB K "InvalidEdit" "index" && (excB K "NoPath" [.type "LookupError", .type "Exception", .type "BaseException", .type "object"] "LookupError.__new__" && (exfB K "NoPath" "index" && (excB K "NotApplicable" [.type "LookupError", .type "Exception", .type "BaseException", .type "object"] "LookupError.__new__" && (exfB K "NotApplicable" "step" && (excB K "UnknownEvent" [.type "LookupError", .type "Exception", .type "BaseException", .type "object"] "LookupError.__new__" && (exfB K "UnknownEvent" "event" && (excB K "InvalidReceiver" [.type "ValueError", .type "Exception", .type "BaseException", .type "object"] "ValueError.__new__" && (exfB K "InvalidReceiver" "receiver" && (excB K "InvalidGraph" [.type "ValueError", .type "Exception", .type "BaseException", .type "object"] "ValueError.__new__" && (exfB K "InvalidGraph" "graph" && (excB K "InvalidText" [.type "ValueError", .type "Exception", .type "BaseException", .type "object"] "ValueError.__new__" && (exfB K "InvalidText" "text" && (excB K "InvalidCommand" [.type "ValueError", .type "Exception", .type "BaseException", .type "object"] "ValueError.__new__" && (exfB K "InvalidCommand" "line" && (excB K "EmptyLog" [.type "LookupError", .type "Exception", .type "BaseException", .type "object"] "LookupError.__new__" && (PySem.W.excIn K (He.ga K "EmptyLog") [.type "LookupError", .type "Exception", .type "BaseException", .type "object"] "LookupError.__new__" && (excB K "UnknownEffect" [.type "LookupError", .type "Exception", .type "BaseException", .type "object"] "LookupError.__new__" && (exfB K "UnknownEffect" "effect" && (excB K "NothingToUndo" [.type "LookupError", .type "Exception", .type "BaseException", .type "object"] "LookupError.__new__" && (PySem.W.excIn K (He.ga K "NothingToUndo") [.type "LookupError", .type "Exception", .type "BaseException", .type "object"] "LookupError.__new__" && (excB K "TooManyEvents" [.type "ArithmeticError", .type "Exception", .type "BaseException", .type "object"] "ArithmeticError.__new__" && (exfB K "TooManyEvents" "count" && (excB K "TooLong" [.type "ArithmeticError", .type "Exception", .type "BaseException", .type "object"] "ArithmeticError.__new__" && (exfB K "TooLong" "length" && (excB K "TooManyStates" [.type "ArithmeticError", .type "Exception", .type "BaseException", .type "object"] "ArithmeticError.__new__" && (exfB K "TooManyStates" "count" && (excB K "TooManyEdits" [.type "ArithmeticError", .type "Exception", .type "BaseException", .type "object"] "ArithmeticError.__new__" && (exfB K "TooManyEdits" "count" && (clsB K "InvalidStep" && (clsB K "UnknownEvent" && (clsB K "TooLong" && (clsB K "InvalidLog" && (clsB K "InvalidSteps" && (clsB K "InvalidSignature" && (clsB K "InvalidPath" && (clsB K "InvalidEvent" && (clsB K "InvalidEvents" && (clsB K "InvalidNumber" && (clsB K "InvalidTable" && (clsB K "InvalidState" && (clsB K "InvalidReceiver" && (clsB K "InvalidPattern" && (clsB K "InvalidEdges" && (clsB K "InvalidGraph" && (clsB K "InvalidShares" && (clsB K "InvalidProgram" && (clsB K "InvalidText" && (clsB K "InvalidEdit" && (clsB K "InvalidCommand" && (clsB K "EmptyLog" && (clsB K "NoPath" && (clsB K "NotApplicable" && (clsB K "UnknownEffect" && (clsB K "NothingToUndo" && (clsB K "TooManyEvents" && (clsB K "TooManyStates" && (clsB K "TooManyEdits" && (kitAll K ["InvalidStep", "UnknownEvent", "TooLong", "InvalidLog", "InvalidSteps", "InvalidSignature", "InvalidPath", "InvalidEvent", "InvalidEvents", "InvalidNumber", "InvalidTable", "InvalidState", "InvalidReceiver", "InvalidPattern", "InvalidEdges", "InvalidGraph", "InvalidShares", "InvalidProgram", "InvalidText", "InvalidEdit", "InvalidCommand", "EmptyLog", "NoPath", "NotApplicable", "UnknownEffect", "NothingToUndo", "TooManyEvents", "TooManyStates", "TooManyEdits"] (.ref (He.ga K "InvalidLog")) ["InvalidLog"] && (kitAll K ["InvalidStep", "UnknownEvent", "TooLong", "InvalidLog", "InvalidSteps", "InvalidSignature", "InvalidPath", "InvalidEvent", "InvalidEvents", "InvalidNumber", "InvalidTable", "InvalidState", "InvalidReceiver", "InvalidPattern", "InvalidEdges", "InvalidGraph", "InvalidShares", "InvalidProgram", "InvalidText", "InvalidEdit", "InvalidCommand", "EmptyLog", "NoPath", "NotApplicable", "UnknownEffect", "NothingToUndo", "TooManyEvents", "TooManyStates", "TooManyEdits"] (.ref (He.ga K "InvalidStep")) ["InvalidStep"] && (kitAll K ["InvalidStep", "UnknownEvent", "TooLong", "InvalidLog", "InvalidSteps", "InvalidSignature", "InvalidPath", "InvalidEvent", "InvalidEvents", "InvalidNumber", "InvalidTable", "InvalidState", "InvalidReceiver", "InvalidPattern", "InvalidEdges", "InvalidGraph", "InvalidShares", "InvalidProgram", "InvalidText", "InvalidEdit", "InvalidCommand", "EmptyLog", "NoPath", "NotApplicable", "UnknownEffect", "NothingToUndo", "TooManyEvents", "TooManyStates", "TooManyEdits"] (.ref (He.ga K "InvalidSteps")) ["InvalidSteps"] && (kitAll K ["InvalidStep", "UnknownEvent", "TooLong", "InvalidLog", "InvalidSteps", "InvalidSignature", "InvalidPath", "InvalidEvent", "InvalidEvents", "InvalidNumber", "InvalidTable", "InvalidState", "InvalidReceiver", "InvalidPattern", "InvalidEdges", "InvalidGraph", "InvalidShares", "InvalidProgram", "InvalidText", "InvalidEdit", "InvalidCommand", "EmptyLog", "NoPath", "NotApplicable", "UnknownEffect", "NothingToUndo", "TooManyEvents", "TooManyStates", "TooManyEdits"] (.ref (He.ga K "InvalidSignature")) ["InvalidSignature"] && (kitAll K ["InvalidStep", "UnknownEvent", "TooLong", "InvalidLog", "InvalidSteps", "InvalidSignature", "InvalidPath", "InvalidEvent", "InvalidEvents", "InvalidNumber", "InvalidTable", "InvalidState", "InvalidReceiver", "InvalidPattern", "InvalidEdges", "InvalidGraph", "InvalidShares", "InvalidProgram", "InvalidText", "InvalidEdit", "InvalidCommand", "EmptyLog", "NoPath", "NotApplicable", "UnknownEffect", "NothingToUndo", "TooManyEvents", "TooManyStates", "TooManyEdits"] (.ref (He.ga K "InvalidPath")) ["InvalidPath"] && (kitAll K ["InvalidStep", "UnknownEvent", "TooLong", "InvalidLog", "InvalidSteps", "InvalidSignature", "InvalidPath", "InvalidEvent", "InvalidEvents", "InvalidNumber", "InvalidTable", "InvalidState", "InvalidReceiver", "InvalidPattern", "InvalidEdges", "InvalidGraph", "InvalidShares", "InvalidProgram", "InvalidText", "InvalidEdit", "InvalidCommand", "EmptyLog", "NoPath", "NotApplicable", "UnknownEffect", "NothingToUndo", "TooManyEvents", "TooManyStates", "TooManyEdits"] (.ref (He.ga K "InvalidEvent")) ["InvalidEvent"] && (kitAll K ["InvalidStep", "UnknownEvent", "TooLong", "InvalidLog", "InvalidSteps", "InvalidSignature", "InvalidPath", "InvalidEvent", "InvalidEvents", "InvalidNumber", "InvalidTable", "InvalidState", "InvalidReceiver", "InvalidPattern", "InvalidEdges", "InvalidGraph", "InvalidShares", "InvalidProgram", "InvalidText", "InvalidEdit", "InvalidCommand", "EmptyLog", "NoPath", "NotApplicable", "UnknownEffect", "NothingToUndo", "TooManyEvents", "TooManyStates", "TooManyEdits"] (.ref (He.ga K "InvalidEvents")) ["InvalidEvents"] && (kitAll K ["InvalidStep", "UnknownEvent", "TooLong", "InvalidLog", "InvalidSteps", "InvalidSignature", "InvalidPath", "InvalidEvent", "InvalidEvents", "InvalidNumber", "InvalidTable", "InvalidState", "InvalidReceiver", "InvalidPattern", "InvalidEdges", "InvalidGraph", "InvalidShares", "InvalidProgram", "InvalidText", "InvalidEdit", "InvalidCommand", "EmptyLog", "NoPath", "NotApplicable", "UnknownEffect", "NothingToUndo", "TooManyEvents", "TooManyStates", "TooManyEdits"] (.ref (He.ga K "InvalidNumber")) ["InvalidNumber"] && (kitAll K ["InvalidStep", "UnknownEvent", "TooLong", "InvalidLog", "InvalidSteps", "InvalidSignature", "InvalidPath", "InvalidEvent", "InvalidEvents", "InvalidNumber", "InvalidTable", "InvalidState", "InvalidReceiver", "InvalidPattern", "InvalidEdges", "InvalidGraph", "InvalidShares", "InvalidProgram", "InvalidText", "InvalidEdit", "InvalidCommand", "EmptyLog", "NoPath", "NotApplicable", "UnknownEffect", "NothingToUndo", "TooManyEvents", "TooManyStates", "TooManyEdits"] (.ref (He.ga K "InvalidTable")) ["InvalidTable"] && (kitAll K ["InvalidStep", "UnknownEvent", "TooLong", "InvalidLog", "InvalidSteps", "InvalidSignature", "InvalidPath", "InvalidEvent", "InvalidEvents", "InvalidNumber", "InvalidTable", "InvalidState", "InvalidReceiver", "InvalidPattern", "InvalidEdges", "InvalidGraph", "InvalidShares", "InvalidProgram", "InvalidText", "InvalidEdit", "InvalidCommand", "EmptyLog", "NoPath", "NotApplicable", "UnknownEffect", "NothingToUndo", "TooManyEvents", "TooManyStates", "TooManyEdits"] (.ref (He.ga K "InvalidState")) ["InvalidState"] && (kitAll K ["InvalidStep", "UnknownEvent", "TooLong", "InvalidLog", "InvalidSteps", "InvalidSignature", "InvalidPath", "InvalidEvent", "InvalidEvents", "InvalidNumber", "InvalidTable", "InvalidState", "InvalidReceiver", "InvalidPattern", "InvalidEdges", "InvalidGraph", "InvalidShares", "InvalidProgram", "InvalidText", "InvalidEdit", "InvalidCommand", "EmptyLog", "NoPath", "NotApplicable", "UnknownEffect", "NothingToUndo", "TooManyEvents", "TooManyStates", "TooManyEdits"] (.ref (He.ga K "InvalidReceiver")) ["InvalidReceiver"] && (kitAll K ["InvalidStep", "UnknownEvent", "TooLong", "InvalidLog", "InvalidSteps", "InvalidSignature", "InvalidPath", "InvalidEvent", "InvalidEvents", "InvalidNumber", "InvalidTable", "InvalidState", "InvalidReceiver", "InvalidPattern", "InvalidEdges", "InvalidGraph", "InvalidShares", "InvalidProgram", "InvalidText", "InvalidEdit", "InvalidCommand", "EmptyLog", "NoPath", "NotApplicable", "UnknownEffect", "NothingToUndo", "TooManyEvents", "TooManyStates", "TooManyEdits"] (.ref (He.ga K "InvalidPattern")) ["InvalidPattern"] && (kitAll K ["InvalidStep", "UnknownEvent", "TooLong", "InvalidLog", "InvalidSteps", "InvalidSignature", "InvalidPath", "InvalidEvent", "InvalidEvents", "InvalidNumber", "InvalidTable", "InvalidState", "InvalidReceiver", "InvalidPattern", "InvalidEdges", "InvalidGraph", "InvalidShares", "InvalidProgram", "InvalidText", "InvalidEdit", "InvalidCommand", "EmptyLog", "NoPath", "NotApplicable", "UnknownEffect", "NothingToUndo", "TooManyEvents", "TooManyStates", "TooManyEdits"] (.ref (He.ga K "InvalidEdges")) ["InvalidEdges"] && (kitAll K ["InvalidStep", "UnknownEvent", "TooLong", "InvalidLog", "InvalidSteps", "InvalidSignature", "InvalidPath", "InvalidEvent", "InvalidEvents", "InvalidNumber", "InvalidTable", "InvalidState", "InvalidReceiver", "InvalidPattern", "InvalidEdges", "InvalidGraph", "InvalidShares", "InvalidProgram", "InvalidText", "InvalidEdit", "InvalidCommand", "EmptyLog", "NoPath", "NotApplicable", "UnknownEffect", "NothingToUndo", "TooManyEvents", "TooManyStates", "TooManyEdits"] (.ref (He.ga K "InvalidGraph")) ["InvalidGraph"] && (kitAll K ["InvalidStep", "UnknownEvent", "TooLong", "InvalidLog", "InvalidSteps", "InvalidSignature", "InvalidPath", "InvalidEvent", "InvalidEvents", "InvalidNumber", "InvalidTable", "InvalidState", "InvalidReceiver", "InvalidPattern", "InvalidEdges", "InvalidGraph", "InvalidShares", "InvalidProgram", "InvalidText", "InvalidEdit", "InvalidCommand", "EmptyLog", "NoPath", "NotApplicable", "UnknownEffect", "NothingToUndo", "TooManyEvents", "TooManyStates", "TooManyEdits"] (.ref (He.ga K "InvalidShares")) ["InvalidShares"] && (kitAll K ["InvalidStep", "UnknownEvent", "TooLong", "InvalidLog", "InvalidSteps", "InvalidSignature", "InvalidPath", "InvalidEvent", "InvalidEvents", "InvalidNumber", "InvalidTable", "InvalidState", "InvalidReceiver", "InvalidPattern", "InvalidEdges", "InvalidGraph", "InvalidShares", "InvalidProgram", "InvalidText", "InvalidEdit", "InvalidCommand", "EmptyLog", "NoPath", "NotApplicable", "UnknownEffect", "NothingToUndo", "TooManyEvents", "TooManyStates", "TooManyEdits"] (.ref (He.ga K "InvalidProgram")) ["InvalidProgram"] && (kitAll K ["InvalidStep", "UnknownEvent", "TooLong", "InvalidLog", "InvalidSteps", "InvalidSignature", "InvalidPath", "InvalidEvent", "InvalidEvents", "InvalidNumber", "InvalidTable", "InvalidState", "InvalidReceiver", "InvalidPattern", "InvalidEdges", "InvalidGraph", "InvalidShares", "InvalidProgram", "InvalidText", "InvalidEdit", "InvalidCommand", "EmptyLog", "NoPath", "NotApplicable", "UnknownEffect", "NothingToUndo", "TooManyEvents", "TooManyStates", "TooManyEdits"] (.ref (He.ga K "InvalidText")) ["InvalidText"] && (kitAll K ["InvalidStep", "UnknownEvent", "TooLong", "InvalidLog", "InvalidSteps", "InvalidSignature", "InvalidPath", "InvalidEvent", "InvalidEvents", "InvalidNumber", "InvalidTable", "InvalidState", "InvalidReceiver", "InvalidPattern", "InvalidEdges", "InvalidGraph", "InvalidShares", "InvalidProgram", "InvalidText", "InvalidEdit", "InvalidCommand", "EmptyLog", "NoPath", "NotApplicable", "UnknownEffect", "NothingToUndo", "TooManyEvents", "TooManyStates", "TooManyEdits"] (.ref (He.ga K "InvalidEdit")) ["InvalidEdit"] && (kitAll K ["InvalidStep", "UnknownEvent", "TooLong", "InvalidLog", "InvalidSteps", "InvalidSignature", "InvalidPath", "InvalidEvent", "InvalidEvents", "InvalidNumber", "InvalidTable", "InvalidState", "InvalidReceiver", "InvalidPattern", "InvalidEdges", "InvalidGraph", "InvalidShares", "InvalidProgram", "InvalidText", "InvalidEdit", "InvalidCommand", "EmptyLog", "NoPath", "NotApplicable", "UnknownEffect", "NothingToUndo", "TooManyEvents", "TooManyStates", "TooManyEdits"] (.ref (He.ga K "InvalidCommand")) ["InvalidCommand"] && (kitAll K ["InvalidStep", "UnknownEvent", "TooLong", "InvalidLog", "InvalidSteps", "InvalidSignature", "InvalidPath", "InvalidEvent", "InvalidEvents", "InvalidNumber", "InvalidTable", "InvalidState", "InvalidReceiver", "InvalidPattern", "InvalidEdges", "InvalidGraph", "InvalidShares", "InvalidProgram", "InvalidText", "InvalidEdit", "InvalidCommand", "EmptyLog", "NoPath", "NotApplicable", "UnknownEffect", "NothingToUndo", "TooManyEvents", "TooManyStates", "TooManyEdits"] (.ref (He.ga K "EmptyLog")) ["EmptyLog"] && (kitAll K ["InvalidStep", "UnknownEvent", "TooLong", "InvalidLog", "InvalidSteps", "InvalidSignature", "InvalidPath", "InvalidEvent", "InvalidEvents", "InvalidNumber", "InvalidTable", "InvalidState", "InvalidReceiver", "InvalidPattern", "InvalidEdges", "InvalidGraph", "InvalidShares", "InvalidProgram", "InvalidText", "InvalidEdit", "InvalidCommand", "EmptyLog", "NoPath", "NotApplicable", "UnknownEffect", "NothingToUndo", "TooManyEvents", "TooManyStates", "TooManyEdits"] (.ref (He.ga K "NoPath")) ["NoPath"] && (kitAll K ["InvalidStep", "UnknownEvent", "TooLong", "InvalidLog", "InvalidSteps", "InvalidSignature", "InvalidPath", "InvalidEvent", "InvalidEvents", "InvalidNumber", "InvalidTable", "InvalidState", "InvalidReceiver", "InvalidPattern", "InvalidEdges", "InvalidGraph", "InvalidShares", "InvalidProgram", "InvalidText", "InvalidEdit", "InvalidCommand", "EmptyLog", "NoPath", "NotApplicable", "UnknownEffect", "NothingToUndo", "TooManyEvents", "TooManyStates", "TooManyEdits"] (.ref (He.ga K "NotApplicable")) ["NotApplicable"] && (kitAll K ["InvalidStep", "UnknownEvent", "TooLong", "InvalidLog", "InvalidSteps", "InvalidSignature", "InvalidPath", "InvalidEvent", "InvalidEvents", "InvalidNumber", "InvalidTable", "InvalidState", "InvalidReceiver", "InvalidPattern", "InvalidEdges", "InvalidGraph", "InvalidShares", "InvalidProgram", "InvalidText", "InvalidEdit", "InvalidCommand", "EmptyLog", "NoPath", "NotApplicable", "UnknownEffect", "NothingToUndo", "TooManyEvents", "TooManyStates", "TooManyEdits"] (.ref (He.ga K "UnknownEvent")) ["UnknownEvent"] && (kitAll K ["InvalidStep", "UnknownEvent", "TooLong", "InvalidLog", "InvalidSteps", "InvalidSignature", "InvalidPath", "InvalidEvent", "InvalidEvents", "InvalidNumber", "InvalidTable", "InvalidState", "InvalidReceiver", "InvalidPattern", "InvalidEdges", "InvalidGraph", "InvalidShares", "InvalidProgram", "InvalidText", "InvalidEdit", "InvalidCommand", "EmptyLog", "NoPath", "NotApplicable", "UnknownEffect", "NothingToUndo", "TooManyEvents", "TooManyStates", "TooManyEdits"] (.ref (He.ga K "UnknownEffect")) ["UnknownEffect"] && (kitAll K ["InvalidStep", "UnknownEvent", "TooLong", "InvalidLog", "InvalidSteps", "InvalidSignature", "InvalidPath", "InvalidEvent", "InvalidEvents", "InvalidNumber", "InvalidTable", "InvalidState", "InvalidReceiver", "InvalidPattern", "InvalidEdges", "InvalidGraph", "InvalidShares", "InvalidProgram", "InvalidText", "InvalidEdit", "InvalidCommand", "EmptyLog", "NoPath", "NotApplicable", "UnknownEffect", "NothingToUndo", "TooManyEvents", "TooManyStates", "TooManyEdits"] (.ref (He.ga K "NothingToUndo")) ["NothingToUndo"] && (kitAll K ["InvalidStep", "UnknownEvent", "TooLong", "InvalidLog", "InvalidSteps", "InvalidSignature", "InvalidPath", "InvalidEvent", "InvalidEvents", "InvalidNumber", "InvalidTable", "InvalidState", "InvalidReceiver", "InvalidPattern", "InvalidEdges", "InvalidGraph", "InvalidShares", "InvalidProgram", "InvalidText", "InvalidEdit", "InvalidCommand", "EmptyLog", "NoPath", "NotApplicable", "UnknownEffect", "NothingToUndo", "TooManyEvents", "TooManyStates", "TooManyEdits"] (.ref (He.ga K "TooManyEvents")) ["TooManyEvents"] && (kitAll K ["InvalidStep", "UnknownEvent", "TooLong", "InvalidLog", "InvalidSteps", "InvalidSignature", "InvalidPath", "InvalidEvent", "InvalidEvents", "InvalidNumber", "InvalidTable", "InvalidState", "InvalidReceiver", "InvalidPattern", "InvalidEdges", "InvalidGraph", "InvalidShares", "InvalidProgram", "InvalidText", "InvalidEdit", "InvalidCommand", "EmptyLog", "NoPath", "NotApplicable", "UnknownEffect", "NothingToUndo", "TooManyEvents", "TooManyStates", "TooManyEdits"] (.ref (He.ga K "TooLong")) ["TooLong"] && (kitAll K ["InvalidStep", "UnknownEvent", "TooLong", "InvalidLog", "InvalidSteps", "InvalidSignature", "InvalidPath", "InvalidEvent", "InvalidEvents", "InvalidNumber", "InvalidTable", "InvalidState", "InvalidReceiver", "InvalidPattern", "InvalidEdges", "InvalidGraph", "InvalidShares", "InvalidProgram", "InvalidText", "InvalidEdit", "InvalidCommand", "EmptyLog", "NoPath", "NotApplicable", "UnknownEffect", "NothingToUndo", "TooManyEvents", "TooManyStates", "TooManyEdits"] (.ref (He.ga K "TooManyStates")) ["TooManyStates"] && (kitAll K ["InvalidStep", "UnknownEvent", "TooLong", "InvalidLog", "InvalidSteps", "InvalidSignature", "InvalidPath", "InvalidEvent", "InvalidEvents", "InvalidNumber", "InvalidTable", "InvalidState", "InvalidReceiver", "InvalidPattern", "InvalidEdges", "InvalidGraph", "InvalidShares", "InvalidProgram", "InvalidText", "InvalidEdit", "InvalidCommand", "EmptyLog", "NoPath", "NotApplicable", "UnknownEffect", "NothingToUndo", "TooManyEvents", "TooManyStates", "TooManyEdits"] (.ref (He.ga K "TooManyEdits")) ["TooManyEdits"] && (kitAll K ["InvalidStep", "UnknownEvent", "TooLong", "InvalidLog", "InvalidSteps", "InvalidSignature", "InvalidPath", "InvalidEvent", "InvalidEvents", "InvalidNumber", "InvalidTable", "InvalidState", "InvalidReceiver", "InvalidPattern", "InvalidEdges", "InvalidGraph", "InvalidShares", "InvalidProgram", "InvalidText", "InvalidEdit", "InvalidCommand", "EmptyLog", "NoPath", "NotApplicable", "UnknownEffect", "NothingToUndo", "TooManyEvents", "TooManyStates", "TooManyEdits"] (.ref (He.ga K "DeliveryError")) ["InvalidStep", "InvalidLog", "InvalidSteps", "InvalidSignature", "InvalidPath", "InvalidEvent", "InvalidEvents", "InvalidNumber", "InvalidTable", "InvalidState", "InvalidReceiver", "InvalidPattern", "InvalidEdges", "InvalidGraph", "InvalidShares", "InvalidProgram", "InvalidText", "InvalidEdit", "InvalidCommand"] && (kitAll K ["InvalidStep", "UnknownEvent", "TooLong", "InvalidLog", "InvalidSteps", "InvalidSignature", "InvalidPath", "InvalidEvent", "InvalidEvents", "InvalidNumber", "InvalidTable", "InvalidState", "InvalidReceiver", "InvalidPattern", "InvalidEdges", "InvalidGraph", "InvalidShares", "InvalidProgram", "InvalidText", "InvalidEdit", "InvalidCommand", "EmptyLog", "NoPath", "NotApplicable", "UnknownEffect", "NothingToUndo", "TooManyEvents", "TooManyStates", "TooManyEdits"] (.ref (He.ga K "SearchError")) ["UnknownEvent", "EmptyLog", "NoPath", "NotApplicable", "UnknownEffect", "NothingToUndo"] && (kitAll K ["InvalidStep", "UnknownEvent", "TooLong", "InvalidLog", "InvalidSteps", "InvalidSignature", "InvalidPath", "InvalidEvent", "InvalidEvents", "InvalidNumber", "InvalidTable", "InvalidState", "InvalidReceiver", "InvalidPattern", "InvalidEdges", "InvalidGraph", "InvalidShares", "InvalidProgram", "InvalidText", "InvalidEdit", "InvalidCommand", "EmptyLog", "NoPath", "NotApplicable", "UnknownEffect", "NothingToUndo", "TooManyEvents", "TooManyStates", "TooManyEdits"] (.ref (He.ga K "LimitError")) ["TooLong", "TooManyEvents", "TooManyStates", "TooManyEdits"] && (kitAll K ["InvalidStep", "UnknownEvent", "TooLong", "InvalidLog", "InvalidSteps", "InvalidSignature", "InvalidPath", "InvalidEvent", "InvalidEvents", "InvalidNumber", "InvalidTable", "InvalidState", "InvalidReceiver", "InvalidPattern", "InvalidEdges", "InvalidGraph", "InvalidShares", "InvalidProgram", "InvalidText", "InvalidEdit", "InvalidCommand", "EmptyLog", "NoPath", "NotApplicable", "UnknownEffect", "NothingToUndo", "TooManyEvents", "TooManyStates", "TooManyEdits"] (.type "ValueError") ["InvalidStep", "InvalidLog", "InvalidSteps", "InvalidSignature", "InvalidPath", "InvalidEvent", "InvalidEvents", "InvalidNumber", "InvalidTable", "InvalidState", "InvalidReceiver", "InvalidPattern", "InvalidEdges", "InvalidGraph", "InvalidShares", "InvalidProgram", "InvalidText", "InvalidEdit", "InvalidCommand"] && (kitAll K ["InvalidStep", "UnknownEvent", "TooLong", "InvalidLog", "InvalidSteps", "InvalidSignature", "InvalidPath", "InvalidEvent", "InvalidEvents", "InvalidNumber", "InvalidTable", "InvalidState", "InvalidReceiver", "InvalidPattern", "InvalidEdges", "InvalidGraph", "InvalidShares", "InvalidProgram", "InvalidText", "InvalidEdit", "InvalidCommand", "EmptyLog", "NoPath", "NotApplicable", "UnknownEffect", "NothingToUndo", "TooManyEvents", "TooManyStates", "TooManyEdits"] (.type "LookupError") ["UnknownEvent", "EmptyLog", "NoPath", "NotApplicable", "UnknownEffect", "NothingToUndo"] && (kitAll K ["InvalidStep", "UnknownEvent", "TooLong", "InvalidLog", "InvalidSteps", "InvalidSignature", "InvalidPath", "InvalidEvent", "InvalidEvents", "InvalidNumber", "InvalidTable", "InvalidState", "InvalidReceiver", "InvalidPattern", "InvalidEdges", "InvalidGraph", "InvalidShares", "InvalidProgram", "InvalidText", "InvalidEdit", "InvalidCommand", "EmptyLog", "NoPath", "NotApplicable", "UnknownEffect", "NothingToUndo", "TooManyEvents", "TooManyStates", "TooManyEdits"] (.type "ArithmeticError") ["TooLong", "TooManyEvents", "TooManyStates", "TooManyEdits"] && (true))))))))))))))))))))))))))))))))))))))))))))))))))))))))))))))))))))))))))))))))))))))))))))))))))))))))))))))))))))))))))

abbrev rwL : PySem.W.OpenRow := PySem.W.OpenLaw.row PySem.Challenge.rw_redeliver_k93_limits_and_errors
abbrev hkL : PySem.W.Hook := hookS 6 faL fnL [] tfL exL
def obL (s : PySem.W.SharedT) : He.AlX := obsS 6 faL fnL [] tfL exL (HandSHeadRun.getT s)
theorem obL_eq (s : PySem.W.SharedT) : obL s = hkL.obs s.abs := obsS_eq (HandSHeadRun.getT_eq s)
def namesL : List PySem.Str := (["DeliveryError", "InvalidLog", "InvalidStep", "InvalidSteps", "InvalidSignature", "InvalidPath", "InvalidEvent", "InvalidEvents", "InvalidNumber", "InvalidTable", "InvalidState", "InvalidReceiver", "InvalidPattern", "InvalidEdges", "InvalidGraph", "InvalidShares", "InvalidProgram", "InvalidText", "InvalidEdit", "InvalidCommand", "SearchError", "EmptyLog", "NoPath", "NotApplicable", "UnknownEvent", "UnknownEffect", "NothingToUndo", "LimitError", "TooManyEvents", "TooLong"] : List PySem.Str) ++ (["TooManyStates", "TooManyEdits", "MAX_EVENTS", "MAX_LOG", "MAX_ON_THE_WAY", "MAX_DERIVED", "MAX_STEPS", "MAX_REDUCED", "FEW_EVENTS", "MAX_STATES", "FEW_STATES", "MAX_SEPARATING", "MAX_RECEIVER_EVENTS", "FEW_RECEIVER_EVENTS", "MAX_PATTERN", "MAX_MERGED", "MAX_TIMES", "MAX_EDITS", "_law_cell", "_law_pool", "_law_draw", "_law_error", "_law_limits_right", "_law_first", "_law_second", "_law_third", "_law_caught", "_law_right"] : List PySem.Str)
theorem maps4 {S B C E : Type} {o : Option S} {f1 : S → B} {f2 : S → Bool} {f3 : S → E} {f4 : S → Bool} {a : B} {e : E} {z : C} (h1 : o.map f1 = some a) (h2 : o.map f2 = some true) (h3 : o.map f3 = some e) (h4 : o.map f4 = some true) : o.map (fun s => (f1 s, (((f2 s, f3 s), z), f4 s))) = some (a, (((true, e), z), true)) := by
  cases o with
  | none => cases h1
  | some s => rw [Option.map_some] at h1 h2 h3 h4 ⊢; rw [Option.some.inj h1, Option.some.inj h2, Option.some.inj h3, Option.some.inj h4]
theorem and2 {S : Type} {o : Option S} {f g : S → Bool} (h1 : o.map f = some true) (h2 : o.map g = some true) : o.map (fun s => f s && g s) = some true := by
  cases o with
  | none => cases h1
  | some s => rw [Option.map_some] at h1 h2 ⊢; rw [Option.some.inj h1, Option.some.inj h2]; rfl
theorem flat3 {S A B C : Type} {o : Option S} {f : S → A × B} {g : S → C} {a : A} {b : B} {c : C} (h : o.map (fun s => (f s, g s)) = some ((a, b), c)) : o.map (fun s => ((f s).1, (f s).2, g s)) = some (a, b, c) := by
  cases o with
  | none => cases h
  | some s => rw [Option.map_some] at h ⊢; have h := Option.some.inj h; injection h with h1 h2; rw [h1, h2]
noncomputable def endL (w : World) (os : PySem.OsState) : Option PySem.W.SharedT := HandSHeadRun.endF (HandSHeadRun.stepQ (HandSHeadRun.denQ HandSHeadRun.tabQ) rwL.prog w) 30000 rwL.prog w os
noncomputable def keepL (s : PySem.W.SharedT) : PySem.W.Frag := He.frT (HandSHeadRun.getT s) (He.asD (HandSHeadRun.getT s) 6)
open PySem.W PySem.Calls PyProof.Rows HandSHeadRun in
noncomputable def seeL (w : World) (s : PySem.W.SharedT) := (looksF rwL.prog (boot_heap w.params) s.abs, seenQ (PySem.W.view rwL.prog [60]) namesL (importedModules rwL.prog.main.body) (fun s => xlAt (PySem.W.view rwL.prog [60]) [] s && recOk rwL.toRowW.records s) s.abs)
set_option maxHeartbeats 0 in
theorem runL1 (w : World) (os : PySem.OsState) : (endL w os).map (seeL w) = some (true, PySem.W.openGood (PySem.W.view rwL.prog [60]) namesL) := by kernel_rfl
set_option maxHeartbeats 0 in
theorem runL2a (w : World) (os : PySem.OsState) : (endL w os).map (fun s => faL.all fun f => f.ok (keepL s)) = some true := by kernel_rfl
set_option maxHeartbeats 0 in
theorem runL2b (w : World) (os : PySem.OsState) : (endL w os).map (fun s => fnL.all fun d => d.ok (keepL s)) = some true := by kernel_rfl
theorem runL2 (w : World) (os : PySem.OsState) : (endL w os).map (fun s => (faL.all fun f => f.ok (keepL s)) && fnL.all fun d => d.ok (keepL s)) = some true := and2 (runL2a w os) (runL2b w os)
set_option maxHeartbeats 0 in
theorem runL3 (w : World) (os : PySem.OsState) : (endL w os).map (fun s => fnL.map fun d => He.fnW (keepL s) d.at_) = some (fnL.map He.DefD.val) := by kernel_rfl
set_option maxHeartbeats 0 in
theorem runL4 (w : World) (os : PySem.OsState) : (endL w os).map (fun s => (exL (keepL s) && He.tabsB (HandSHeadRun.getT s) tfL (keepL s)) && smB (HandSHeadRun.getT s)) = some true := by kernel_rfl
theorem runL (w : World) : HandSHeadRun.RunEq rwL (PySem.W.view rwL.prog [60]) hkL obL 30000 namesL w := by
  intro os
  have h := flat3 (maps4 (z := ([] : List (Option (List (Option (PySem.Str × Int)))))) (runL1 w os) (runL2 w os) (runL3 w os) (runL4 w os))
  exact Eq.mp (by kernel_rfl) h

end RV
/-! R1: plain data, a store of mutable objects, an evaluator for a small language of codes. -/
namespace RV
open PySem

/-- data: trees, with places of the store for what may change -/
inductive D where
  | non | bl (b : Bool) | int (i : Int) | str (s : Str) | tup (xs : List D) | fl (xs : List D) | ref (n : Nat)
  /-- {}, never changed -/
  | ed
  /-- an object whose attributes never change: its class, their names, their values -/
  | ob (t : Str) (ns : List Str) (xs : List D)
  deriving Inhabited

/-- an object of the store -/
inductive O where
  | lst (xs : List D)
  | dct (kvs : List (D × D))
  /-- a dict whose keys are tuples -/
  | kct (kvs : List (D × D))
  deriving Inhabited
abbrev Sto := List O

/-- an error: its class and its field -/
structure Ex where
  cls : Str
  fld : Option (Str × D)

/-- as an object -/
def Ex.toD (x : Ex) : D := match x.fld with
  | none => .ob x.cls [] []
  | some (f, d) => .ob x.cls [f] [d]

inductive Res (α : Type) where
  | ok (a : α) (st : Sto)
  | bad
def M (α : Type) := Sto → Res α
namespace M
def pure {α : Type} (a : α) : M α := fun st => .ok a st
def bind {α β : Type} (m : M α) (f : α → M β) : M β := fun st =>
  match m st with
  | .ok a st' => f a st'
  | .bad => .bad
end M
def bad {α : Type} : M α := fun _ => .bad
def alloc (o : O) : M D := fun st => .ok (.ref st.length) (st ++ [o])
/-- the items of a list -/
def itemsAt (st : Sto) (n : Nat) : Option (List D) :=
  match st[n]? with
  | some (.lst xs) => some xs
  | _ => none
def getL (n : Nat) : M (List D) := fun st =>
  match itemsAt st n with
  | some xs => .ok xs st
  | none => .bad
/-- of a list that may be changed -/
def getM (n : Nat) : M (List D) := fun st =>
  match st[n]? with
  | some (.lst xs) => .ok xs st
  | _ => .bad
def putL (n : Nat) (xs : List D) : M Unit := fun st => .ok () (st.set n (.lst xs))
def guard (b : Bool) : M Unit := fun st => if b then .ok () st else .bad
def ofO {α : Type} : Option α → M α
  | some a => M.pure a
  | none => bad
/-- the items of a list or a tuple -/
def seqOf : D → M (List D)
  | .tup xs => M.pure xs
  | .fl xs => M.pure xs
  | .ref n => getL n
  | _ => bad

/-- a list's items (no tuple's) -/
def lsOf : D → M (List D)
  | .fl xs => M.pure xs
  | .ref n => getL n
  | _ => bad

/-! ### places within data -/
mutual
def noRef : D → Bool
  | .ref _ => false
  | .tup xs => noRefL xs
  | .fl xs => noRefL xs
  | .ob _ _ xs => noRefL xs
  | _ => true
def noRefL : List D → Bool
  | [] => true
  | x :: r => noRef x && noRefL r
end
mutual
/-- plain data: no place, no object -/
def dat : D → Bool
  | .ref _ => false
  | .ob _ _ _ => false
  | .tup xs => datL xs
  | .fl xs => datL xs
  | _ => true
def datL : List D → Bool
  | [] => true
  | x :: r => dat x && datL r
end
mutual
/-- only places below n -/
def below (n : Nat) : D → Bool
  | .ref m => decide (m < n)
  | .tup xs => belowL n xs
  | .fl xs => belowL n xs
  | .ob _ _ xs => belowL n xs
  | _ => true
def belowL (n : Nat) : List D → Bool
  | [] => true
  | x :: r => below n x && belowL n r
end
def O.below (n : Nat) : O → Bool
  | .lst xs => belowL n xs
  | .dct _ => true
  | .kct _ => true
/-- a key of a dict: a number or a text -/
def keyOf : D → Option (Int ⊕ Str)
  | .int i => some (.inl i)
  | .str s => some (.inr s)
  | _ => none
def dFind (k : Int ⊕ Str) : List (D × D) → Option D
  | [] => none
  | p :: r => if keyOf p.1 = some k then some p.2 else dFind k r
def dPut (kvs : List (D × D)) (k : Int ⊕ Str) (x v : D) : List (D × D) :=
  if (kvs.any fun p => decide (keyOf p.1 = some k)) = true then kvs.map fun p => if keyOf p.1 = some k then (p.1, v) else p else kvs ++ [(x, v)]
mutual
/-- a key of a dict, as far as == looks -/
def nkey : D → Option NestedKey
  | .non => some .none
  | .bl b => some (.num (if b = true then 1 else 0))
  | .int i => some (.num i)
  | .str s => some (.text s)
  | .tup xs => (nkeys xs).map .tup
  | _ => none
def nkeys : List D → Option (List NestedKey)
  | [] => some []
  | x :: r => match nkey x, nkeys r with
    | some a, some as => some (a :: as)
    | _, _ => none
end
/-- a key that is a tuple -/
def kKey : D → Option NestedKey
  | .tup xs => (nkeys xs).bind fun ks => if (NestedKey.tup ks).depth ≤ 8 then some (.tup ks) else none
  | _ => none
def kFind (k : NestedKey) : List (D × D) → Option D
  | [] => none
  | p :: r => if kKey p.1 = some k then some p.2 else kFind k r
def kPut (kvs : List (D × D)) (k : NestedKey) (x v : D) : List (D × D) :=
  if (kvs.any fun p => decide (kKey p.1 = some k)) = true then kvs.map fun p => if kKey p.1 = some k then (p.1, v) else p else kvs ++ [(x, v)]
/-- the pairs that are laid by turns -/
def kPuts : List (D × D) → List (D × D) → List (D × D)
  | acc, [] => acc
  | acc, p :: r => match kKey p.1 with
    | some k => kPuts (kPut acc k p.1 p.2) r
    | none => []
def dPuts : List (D × D) → List (D × D) → List (D × D)
  | acc, [] => acc
  | acc, p :: r => match keyOf p.1 with
    | some k => dPuts (dPut acc k p.1 p.2) r
    | none => []
/-- pairs, as tuples or lists of two -/
def pairsD : List D → Option (List (D × D))
  | [] => some []
  | .tup [x, y] :: r => (pairsD r).map ((x, y) :: ·)
  | _ :: _ => none
/-- a dict that never changes: an object {} -/
def kvFlat : List (D × D) → List D
  | [] => []
  | p :: r => p.1 :: p.2 :: kvFlat r
def kvUnflat : List D → Option (List (D × D))
  | [] => some []
  | [_] => none
  | x :: y :: r => (kvUnflat r).map ((x, y) :: ·)
mutual
def digW (f : Nat → Option D) : D → Option D
  | .non => some .non
  | .bl b => some (.bl b)
  | .int i => some (.int i)
  | .str s => some (.str s)
  | .tup xs => (digWL f xs).map .tup
  | .fl xs => (digWL f xs).map .fl
  | .ed => some .ed
  | .ob t ns xs => (digWL f xs).map (.ob t ns)
  | .ref n => f n
def digWL (f : Nat → Option D) : List D → Option (List D)
  | [] => some []
  | x :: xs => match digW f x, digWL f xs with
    | some a, some as => some (a :: as)
    | _, _ => none
end
/-- lists of the store (from k on) become lists that never change -/
def dig (st : Sto) (k : Nat) : Nat → D → Option D
  | 0, d => digW (fun _ => none) d
  | m + 1, d => digW (fun n => if n < k then none else match itemsAt st n with
    | some xs => (digWL (fun j => dig st k m (.ref j)) xs).map .fl
    | none => match st[n]? with
      | some (.dct kvs) => some (.ob "{}" ["", ""] (kvFlat kvs))
      | some (.kct kvs) => some (.ob "{}" ["", "", ""] (kvFlat kvs))
      | _ => none) d
def fz (st : Sto) (k : Nat) (d : D) : Option D := if noRef d then some d else dig st k 4 d

/-! ### as plain data -/
mutual
def pyWith (f : Nat → Option PyData) : D → Option PyData
  | .non => some .none
  | .bl b => some (.bool b)
  | .int i => some (.int i)
  | .str s => some (.str s)
  | .tup xs => (pyWithL f xs).map .tuple
  | .fl xs => (pyWithL f xs).map .list
  | .ed => some (.dict [])
  | .ob _ _ _ => none
  | .ref n => f n
def pyWithL (f : Nat → Option PyData) : List D → Option (List PyData)
  | [] => some []
  | x :: xs => match pyWith f x, pyWithL f xs with
    | some a, some as => some (a :: as)
    | _, _ => none
end
/-- lists nested k deep -/
def toPy (st : Sto) : Nat → D → Option PyData
  | 0, d => pyWith (fun _ => none) d
  | k + 1, d => pyWith (fun n => match itemsAt st n with
    | some xs => (pyWithL (fun m => toPy st k (.ref m)) xs).map .list
    | none => match st[n]? with
      | some (.dct []) => some (.dict [])
      | _ => none) d
def deep : Nat := 6
def asPy (d : D) : M PyData := fun st =>
  match toPy st deep d with
  | some p => .ok p st
  | none => .bad

mutual
def pyD : D → PyData
  | .non => .none
  | .bl b => .bool b
  | .int i => .int i
  | .str s => .str s
  | .tup xs => .tuple (pyL xs)
  | .fl xs => .list (pyL xs)
  | .ref _ => .none
  | .ed => .dict []
  | .ob _ _ _ => .none
def pyL : List D → List PyData
  | [] => []
  | x :: r => pyD x :: pyL r
end
mutual
theorem pyWith_no {f : Nat → Option PyData} : ∀ {d : D}, dat d = true → pyWith f d = some (pyD d)
  | .non, _ => by unfold pyWith pyD; rfl
  | .bl _, _ => by unfold pyWith pyD; rfl
  | .int _, _ => by unfold pyWith pyD; rfl
  | .str _, _ => by unfold pyWith pyD; rfl
  | .tup xs, h => by unfold dat at h; unfold pyWith pyD; rw [pyWithL_no h]; rfl
  | .fl xs, h => by unfold dat at h; unfold pyWith pyD; rw [pyWithL_no h]; rfl
  | .ref n, h => by unfold dat at h; cases h
  | .ed, _ => by unfold pyWith pyD; rfl
  | .ob _ _ _, h => by unfold dat at h; cases h
theorem pyWithL_no {f : Nat → Option PyData} : ∀ {xs : List D}, datL xs = true → pyWithL f xs = some (pyL xs)
  | [], _ => by unfold pyWithL pyL; rfl
  | x :: xs, h => by
    unfold datL at h
    rw [Bool.and_eq_true] at h
    unfold pyWithL pyL
    rw [pyWith_no h.1, pyWithL_no h.2]
end
mutual
theorem dat_no : ∀ {d : D}, dat d = true → noRef d = true
  | .non, _ => by unfold noRef; rfl
  | .bl _, _ => by unfold noRef; rfl
  | .int _, _ => by unfold noRef; rfl
  | .str _, _ => by unfold noRef; rfl
  | .tup xs, h => by unfold dat at h; unfold noRef; exact datL_no h
  | .fl xs, h => by unfold dat at h; unfold noRef; exact datL_no h
  | .ref n, h => by unfold dat at h; cases h
  | .ed, _ => by unfold noRef; rfl
  | .ob _ _ _, h => by unfold dat at h; cases h
theorem datL_no : ∀ {xs : List D}, datL xs = true → noRefL xs = true
  | [], _ => by unfold noRefL; rfl
  | x :: xs, h => by
    unfold datL at h
    rw [Bool.and_eq_true] at h
    unfold noRefL
    rw [dat_no h.1, datL_no h.2]; rfl
end
theorem toPy_no {st : Sto} {d : D} (h : dat d = true) : ∀ k, toPy st k d = some (pyD d)
  | 0 => by unfold toPy; exact pyWith_no h
  | k + 1 => by unfold toPy; exact pyWith_no h
/-! ### values -/
def truth : D → M Bool
  | .non => M.pure false
  | .bl b => M.pure b
  | .int i => M.pure (i != 0)
  | .str s => fun st => if s.length ≤ sizeLine then .ok ((s.length : Int) != 0) st else .bad
  | .tup xs => M.pure (!xs.isEmpty)
  | .fl xs => M.pure (!xs.isEmpty)
  | .ref n => M.bind (getL n) fun xs => M.pure (!xs.isEmpty)
  | .ed => bad
  | .ob _ _ _ => bad

inductive BOp where | add | sub | mul | fdiv | mod | pow | fdivW | mulW | mulX
inductive COp where | eq | ne | lt | le | gt | ge | is | isNot | in_ | notIn

def inBig (i : Int) : Bool := decide (-(2 ^ 64) < i) && decide (i < 2 ^ 64)
def add : D → D → M D
  | .int i, .int j => M.pure (.int (i + j))
  | .int i, .bl b => M.pure (.int (i + PyProof.Rows.b2i b))
  | .str a, .str b => M.bind (guard (decide (a.length + b.length ≤ sizeLine))) fun _ => M.pure (.str (a ++ b))
  | .tup xs, .tup ys => M.bind (guard (decide (xs.length + ys.length ≤ sizeLine))) fun _ => M.pure (.tup (xs ++ ys))
  | x, y => M.bind (lsOf x) fun xs => M.bind (lsOf y) fun ys => M.bind (guard (decide (xs.length + ys.length ≤ sizeLine))) fun _ => alloc (.lst (xs ++ ys))
def sub : D → D → M D
  | .int i, .int j => M.pure (.int (i - j))
  | _, _ => bad
def repD (xs : List D) (k : Int) : List D := (List.replicate k.toNat xs).flatten
def mul : D → D → M D
  | .int i, .int j => M.bind (guard (inBig i || inBig j)) fun _ => M.pure (.int (i * j))
  | .tup xs, .int k => M.bind (guard (decide (2 ≤ k) && decide (k ≤ 4000) && decide (xs.length ≤ 1000) && !xs.isEmpty)) fun _ => M.pure (.tup (repD xs k))
  | .str s, .int k => M.bind (guard (decide (-1000 ≤ k) && decide (k ≤ 1000) && decide (s.length ≤ 1000))) fun _ => M.pure (.str (Txt.mul s k))
  | x, .int k => M.bind (lsOf x) fun xs => M.bind (guard (decide (-(2 ^ 63) ≤ k) && decide (k < 2 ^ 63) && decide (xs.length * k.toNat ≤ sizeLine))) fun _ => alloc (.lst (repD xs k))
  | _, _ => bad
def fdiv : D → D → M D
  | .int i, .int j => M.bind (guard (decide (j ≠ 0) && decide (j.natAbs < 1073741824))) fun _ => M.pure (.int (i.fdiv j))
  | _, _ => bad
/-- t * k where k may be 1 or t empty: the same object -/
def mulW : D → D → M D
  | .tup xs, .int k => if xs.isEmpty || k == 1 then M.bind (guard (decide (1 ≤ k) && decide (k ≤ 1000))) fun _ => M.pure (.tup xs) else if k ≤ 0 then M.bind (guard (decide (-1000 ≤ k))) fun _ => M.pure (.tup []) else mul (.tup xs) (.int k)
  | _, _ => bad
/-- by a divisor above 0, a great one too -/
def fdivW : D → D → M D
  | .int i, .int j => M.bind (guard (decide (0 < j) && decide (j.natAbs.log2 < 9000))) fun _ => M.pure (.int (i / j))
  | _, _ => bad
/-- of two great numbers -/
def mulX : D → D → M D
  | .int i, .int j => M.bind (guard (decide (i.natAbs.log2 + j.natAbs.log2 < 1000000))) fun _ => M.pure (.int (i * j))
  | _, _ => bad
def mod : D → D → M D
  | .int i, .int j => M.bind (guard (decide (j ≠ 0))) fun _ => M.pure (.int (i.fmod j))
  | _, _ => bad
def pow : D → D → M D
  | .int i, .int j => M.bind (guard (decide (0 ≤ j) && decide (j ≤ 1000000) && decide (i.natAbs < 2 ^ 64))) fun _ => M.pure (.int (i ^ j.toNat))
  | _, _ => bad
def runB : BOp → D → D → M D
  | .add => add | .sub => sub | .mul => mul | .fdiv => fdiv | .mod => mod | .pow => pow | .fdivW => fdivW | .mulW => mulW | .mulX => mulX

def eqD : D → D → M Bool
  | .int i, .int j => M.pure (i == j)
  | .str a, .str b => M.pure (a == b)
  | .bl a, .bl b => M.pure (a == b)
  | .tup xs, .tup [] => M.pure xs.isEmpty
  | .ed, .tup _ => M.pure false
  | x, y => M.bind (asPy x) fun p => M.bind (asPy y) fun q => M.bind (guard (SeqAt.shaped p && SeqAt.shaped q)) fun _ => M.pure (PyData.eqv p q)
def isNon : D → Bool
  | .non => true
  | _ => false
def flat : D → Bool
  | .non => true | .bl _ => true | .int _ => true | .str _ => true
  | _ => false
def eqF : D → D → Bool
  | .non, .non => true
  | .bl a, .bl b => a == b
  | .bl a, .int b => (if a then 1 else 0) == b
  | .int a, .bl b => a == (if b then 1 else 0)
  | .int a, .int b => a == b
  | .str a, .str b => a == b
  | _, _ => false
/-- x in y -/
def isIn : D → D → M Bool
  | .str a, .str b => M.pure (!(Builtin.Str.occurrences b a 0 b.length 1).isEmpty)
  | x, y => M.bind (seqOf y) fun ys => if flat x && ys.all flat then M.pure (ys.any fun z => eqF z x) else M.bind (asPy x) fun p => M.bind (asPy y) fun q => M.bind (guard (SeqAt.shaped p && SeqAt.shaped q)) fun _ => match q with
    | .tuple ps => M.pure (ps.any fun z => PyData.eqv z p)
    | .list ps => M.pure (ps.any fun z => PyData.eqv z p)
    | _ => bad
def neD (x y : D) : M Bool := M.bind (eqD x y) fun b => M.pure !b
def isSeqP : PyData → Bool
  | .tuple _ => true
  | .list _ => true
  | _ => false
/-- tuples or lists of one shape, by their order -/
def cmpP (f : PyData → PyData → Bool) (x y : D) : M Bool := M.bind (asPy x) fun p => M.bind (asPy y) fun q => M.bind (guard (PySem.W.alike p q && isSeqP p && decide (p.depth ≤ 64))) fun _ => M.pure (f p q)
def ltD : D → D → M Bool
  | .int i, .int j => M.pure (decide (i < j))
  | .str a, .str b => M.pure (decide (a.cps.toList < b.cps.toList))
  | x, y => cmpP PySem.W.dataLt x y
def leD : D → D → M Bool
  | .int i, .int j => M.pure (decide (i ≤ j))
  | .str a, .str b => M.pure (!decide (b.cps.toList < a.cps.toList))
  | x, y => cmpP (fun p q => !PySem.W.dataLt q p) x y
def gtD : D → D → M Bool
  | .int i, .int j => M.pure (decide (j < i))
  | x, y => cmpP (fun p q => PySem.W.dataLt q p) x y
def geD : D → D → M Bool
  | .int i, .int j => M.pure (decide (j ≤ i))
  | x, y => cmpP (fun p q => !PySem.W.dataLt p q) x y
def isD : D → D → M Bool
  | x, .non => M.pure (isNon x)
  | .bl a, .bl b => M.pure (a == b)
  | _, _ => bad
def isNotD : D → D → M Bool
  | x, .non => M.pure (!isNon x)
  | .bl a, .bl b => M.pure (!(a == b))
  | _, _ => bad
def notInD (x y : D) : M Bool := M.bind (isIn x y) fun b => M.pure !b
def runC : COp → D → D → M Bool
  | .eq => eqD | .ne => neD | .lt => ltD | .le => leD | .gt => gtD | .ge => geD | .is => isD | .isNot => isNotD | .in_ => isIn | .notIn => notInD

/-! ### places and slices -/
def index : D → D → M D
  | .fl xs, .int i => ofO ((L2.ixN xs.length i).bind fun j => xs[j]?)
  | .tup xs, .int i => ofO ((L2.ixN xs.length i).bind fun j => xs[j]?)
  | .ref n, .int i => M.bind (getL n) fun xs => ofO ((L2.ixN xs.length i).bind fun j => xs[j]?)
  | .str z, .int i => M.bind (guard (decide (z.length ≤ sizeLine))) fun _ => M.bind (ofO ((L2.ixN z.cps.toList.length i).bind fun j => z.cps.toList[j]?)) fun c => M.pure (.str ⟨#[c]⟩)
  | _, _ => bad
def cutD (xs : List D) (lo hi : Option Int) : List D := (xs.drop (HT.sIx xs.length 0 lo)).take (HT.sIx xs.length xs.length hi - HT.sIx xs.length 0 lo)
def part : Option D → M (Option Int)
  | none => M.pure none
  | some (.int i) => M.pure (some i)
  | _ => bad

def slice (d : D) (lo hi : Option Int) : M D :=
  match d with
  | .tup xs => M.pure (.tup (cutD xs lo hi))
  | .fl xs => alloc (.lst (cutD xs lo hi))
  | .ref n => M.bind (getM n) fun xs => alloc (.lst (cutD xs lo hi))
  | .str z => M.bind (guard (decide (z.length ≤ sizeLine))) fun _ => M.pure (.str (L2.cutS z lo hi))
  | _ => bad
def turned : D → M D
  | .tup xs => M.pure (.tup xs.reverse)
  | d => M.bind (lsOf d) fun xs => alloc (.lst xs.reverse)
def setIx : D → D → D → M Unit
  | .ref n, .int i, v => M.bind (getM n) fun xs => M.bind (ofO (L2.ixN xs.length i)) fun j => M.bind (guard (below n v)) fun _ => putL n (xs.set j v)
  | _, _, _ => bad

/-! ### built-in functions and methods -/
inductive BI where
  | len | abs | max1 | min1 | max2 | min2 | sum | all | any | sorted | repr | divmod | int1 | list1 | tup1 | bool1 | sortedSet | lenSet | tupRange | listRange | str1 | reprE
inductive MI where
  | append | extend | pop0 | pop1 | index | count | join | upper | split | stripC | startsW
inductive Ty where | int | str | bool | tuple | list
  deriving DecidableEq

def intsOf : List D → Option (List Int)
  | [] => some []
  | .int i :: r => (intsOf r).map (i :: ·)
  | _ :: _ => none
def strsOf : List D → Option (List Str)
  | [] => some []
  | .str i :: r => (strsOf r).map (i :: ·)
  | _ :: _ => none
def blsOf : List D → Option (List Bool)
  | [] => some []
  | .bl i :: r => (blsOf r).map (i :: ·)
  | _ :: _ => none
def insI (x : Int) : List Int → List Int
  | [] => [x]
  | y :: r => if x ≤ y then x :: y :: r else y :: insI x r
def sortI (xs : List Int) : List Int := xs.foldr insI []
def insS (x : Str) : List Str → List Str
  | [] => [x]
  | y :: r => if y.cps.toList < x.cps.toList then y :: insS x r else x :: y :: r
def sortS (xs : List Str) : List Str := xs.foldr insS []
def dedS : List Str → List Str
  | [] => []
  | x :: r => if x ∈ dedS r then dedS r else x :: dedS r
def maxI : List Int → Option Int
  | [] => none
  | x :: r => some (r.foldl (fun a b => if b > a then b else a) x)
def minI : List Int → Option Int
  | [] => none
  | x :: r => some (r.foldl (fun a b => if b < a then b else a) x)
mutual
/-- no list within -/
def noL : PyData → Bool
  | .list _ => false
  | .tuple xs => noLL xs
  | _ => true
def noLL : List PyData → Bool
  | [] => true
  | x :: r => noL x && noLL r
end
mutual
/-- each dict within holds nothing -/
def eD : PyData → Bool
  | .dict kvs => kvs.isEmpty
  | .list xs => eDL xs
  | .tuple xs => eDL xs
  | _ => true
def eDL : List PyData → Bool
  | [] => true
  | x :: r => eD x && eDL r
end
def reprDE (d : D) : M D := M.bind (asPy d) fun p => M.bind (guard (p.showable && decide (p.depth ≤ 64) && decide (p.shown.length ≤ sizeLine) && eD p)) fun _ => M.pure (.str p.shown)
def reprD (d : D) : M D := M.bind (asPy d) fun p => M.bind (guard (p.showable && decide (p.depth ≤ 64) && decide (p.shown.length ≤ sizeLine) && (!p.hasDict || noL p))) fun _ => M.pure (.str p.shown)
def rangeD (lo hi : Int) : List D := (List.range (hi - lo).toNat).map fun (i : Nat) => .int (lo + i)
def in62 (i : Int) : Bool := decide (-(2 ^ 62) ≤ i) && decide (i < 2 ^ 62)
def bLen : List D → M D
  | [.str s] => M.bind (guard (decide (s.length ≤ sizeLine))) fun _ => M.pure (.int s.length)
  | [d] => M.bind (seqOf d) fun xs => M.pure (.int xs.length)
  | _ => bad
def bAbs : List D → M D
  | [.int i] => M.pure (.int (if i < 0 then -i else i))
  | _ => bad
def bMax1 : List D → M D
  | [d] => M.bind (lsOf d) fun xs => M.bind (ofO (intsOf xs)) fun is => M.bind (ofO (maxI is)) fun m => M.pure (.int m)
  | _ => bad
def bMin1 : List D → M D
  | [d] => M.bind (lsOf d) fun xs => M.bind (ofO (intsOf xs)) fun is => M.bind (ofO (minI is)) fun m => M.pure (.int m)
  | _ => bad
def bMax2 : List D → M D
  | [.int i, .int j] => M.pure (.int (if j > i then j else i))
  | _ => bad
def bMin2 : List D → M D
  | [.int i, .int j] => M.pure (.int (if j < i then j else i))
  | _ => bad
def bSum : List D → M D
  | [d] => M.bind (lsOf d) fun xs => M.bind (ofO (intsOf xs)) fun is => M.pure (.int is.sum)
  | _ => bad
def bAll : List D → M D
  | [d] => M.bind (lsOf d) fun xs => M.bind (ofO (blsOf xs)) fun bs => M.pure (.bl (bs.all id))
  | _ => bad
def bAny : List D → M D
  | [d] => M.bind (lsOf d) fun xs => M.bind (ofO (blsOf xs)) fun bs => M.pure (.bl (bs.any id))
  | _ => bad
def isTupC : PyData → Bool
  | .tuple (_ :: _) => true
  | _ => false
def notTup : PyData → Bool
  | .tuple _ => false
  | .none => false
  | _ => true
/-- data that can be sorted -/
def sortsD (xs : List D) : Bool := xs.all dat && decide (xs.length ≤ 100000) && (xs.all fun x => decide ((pyD x).depth ≤ 60)) && (xs.all fun x => xs.all fun y => PySem.W.alike (pyD x) (pyD y)) && ((xs.all fun x => isTupC (pyD x)) || xs.all fun x => notTup (pyD x))
def bSorted : List D → M D
  | [d] => M.bind (seqOf d) fun xs => match strsOf xs with
    | some ss => M.bind (guard (decide (ss.length ≤ 100000))) fun _ => alloc (.lst ((sortS ss).map .str))
    | none => M.bind (lsOf d) fun xs => match intsOf xs with
      | some is => M.bind (guard (decide (is.length < 64))) fun _ => alloc (.lst ((sortI is).map .int))
      | none => M.bind (guard (sortsD xs)) fun _ => alloc (.lst (xs.mergeSort (PySem.W.dataLe false pyD)))
  | _ => bad
def bSortedSet : List D → M D
  | [.tup xs] => M.bind (ofO (strsOf xs)) fun ss => M.bind (guard (decide (ss.length ≤ 4000))) fun _ => alloc (.lst ((sortS (dedS ss)).map .str))
  | _ => bad
def bLenSet : List D → M D
  | [.tup xs] => M.bind (ofO (strsOf xs)) fun ss => M.bind (guard (decide (ss.length ≤ 3000))) fun _ => M.pure (.int (dedS ss).length)
  | _ => bad
def bRepr : List D → M D
  | [d] => reprD d
  | _ => bad
def bReprE : List D → M D
  | [d] => reprDE d
  | _ => bad
def bDivmod : List D → M D
  | [.int i, .int j] => M.bind (guard (decide (0 < j) && !Builtin.divisionGoesByPylong i j)) fun _ => M.pure (.tup [.int (i / j), .int (i % j)])
  | _ => bad
def bInt1 : List D → M D
  | [.int i] => M.pure (.int i)
  | [.bl b] => M.pure (.int (if b then 1 else 0))
  | _ => bad
def bStr1 : List D → M D
  | [.int i] => M.bind (guard (decide (i.natAbs.log2 < 1920))) fun _ => M.pure (.str (toString i))
  | _ => bad
def bBool1 : List D → M D
  | [.bl b] => M.pure (.bl b)
  | [.int i] => M.pure (.bl (i != 0))
  | _ => bad
def bList1 : List D → M D
  | [d] => M.bind (seqOf d) fun xs => alloc (.lst xs)
  | _ => bad
def bTup1 : List D → M D
  | [.tup xs] => M.pure (.tup xs)
  | [.str x] => M.bind (guard (decide (x.cps.size ≤ sizeLine))) fun _ => M.pure (.tup (x.cps.toList.map fun c => .str ⟨#[c]⟩))
  | [d] => M.bind (lsOf d) fun xs => M.pure (.tup xs)
  | _ => bad
def bTupRange : List D → M D
  | [.int n] => M.bind (guard (in62 n && decide (n ≤ 1000))) fun _ => M.pure (.tup (rangeD 0 n))
  | _ => bad
def bListRange : List D → M D
  | [.int n] => M.bind (guard (in62 n && decide (n ≤ 1000))) fun _ => alloc (.lst (rangeD 0 n))
  | _ => bad
def runBI : BI → List D → M D
  | .len => bLen | .abs => bAbs | .max1 => bMax1 | .min1 => bMin1 | .max2 => bMax2 | .min2 => bMin2 | .sum => bSum | .all => bAll | .any => bAny | .sorted => bSorted | .repr => bRepr
  | .divmod => bDivmod | .int1 => bInt1 | .list1 => bList1 | .tup1 => bTup1 | .bool1 => bBool1 | .sortedSet => bSortedSet | .lenSet => bLenSet | .tupRange => bTupRange | .listRange => bListRange | .str1 => bStr1 | .reprE => bReprE
def idxF (x : D) : List D → Option Nat
  | [] => none
  | y :: r => if eqF y x then some 0 else (idxF x r).map (· + 1)
def mAppend : D → List D → M D
  | .ref n, [x] => M.bind (getM n) fun xs => M.bind (guard (decide (xs.length < sizeLine) && below n x)) fun _ => M.bind (putL n (xs ++ [x])) fun _ => M.pure .non
  | _, _ => bad
def mExtend : D → List D → M D
  | .ref n, [y] => M.bind (getM n) fun xs => M.bind (lsOf y) fun ys => M.bind (guard (decide (xs.length + ys.length ≤ sizeLine) && belowL n ys)) fun _ => M.bind (putL n (xs ++ ys)) fun _ => M.pure .non
  | _, _ => bad
def mPop0 : D → List D → M D
  | .ref n, [] => M.bind (getM n) fun xs => M.bind (ofO xs[xs.length - 1]?) fun y => M.bind (putL n xs.dropLast) fun _ => M.pure y
  | _, _ => bad
def mPop1 : D → List D → M D
  | .ref n, [.int i] => M.bind (getM n) fun xs => M.bind (guard (decide (-(2 ^ 63) ≤ i) && decide (i < 2 ^ 63))) fun _ => M.bind (ofO (seqIndex? i xs.length)) fun k => M.bind (ofO xs[k]?) fun y => M.bind (putL n (xs.eraseIdx k)) fun _ => M.pure y
  | _, _ => bad
/-- of a list of flat things, of a tuple of texts -/
def mIndex' : D → List D → M D
  | .str a, [.str b] => (match Builtin.Str.occurrences a b 0 a.length 1 with
    | i :: _ => M.pure (.int i)
    | [] => bad)
  | _, _ => bad
def mIndex : D → List D → M D
  | .tup ys, [.str x] => M.bind (ofO (strsOf ys)) fun ss => M.bind (ofO (idxF (.str x) ys)) fun j => M.pure (.int j)
  | .tup _, _ => bad
  | .str a, ds => mIndex' (.str a) ds
  | d, [x] => M.bind (lsOf d) fun ys => if (flat x && ys.all flat) = true then M.bind (ofO (idxF x ys)) fun j => M.pure (.int j)
    else M.bind (ofO (nkey x)) fun k => M.bind (ofO (nkeys ys)) fun ks => M.bind (guard (decide (k.depth ≤ 60) && decide (k ∈ ks))) fun _ => M.pure (.int ((ks.idxOf k : Nat) : Int))
  | _, _ => bad
/-- of a list: plain data -/
def mCount : D → List D → M D
  | d, [x] => M.bind (lsOf d) fun _ => M.bind (asPy x) fun p => M.bind (asPy d) fun q => match q with
    | .list ps => M.bind (guard (PyData.plainAll ps && p.plain && decide (p.depth ≤ 60))) fun _ => M.pure (.int ((ps.countP fun y => PyData.eqv y p : Nat) : Int))
    | _ => bad
  | _, _ => bad
def mJoin : D → List D → M D
  | .str z, [d] => M.bind (seqOf d) fun xs => M.bind (ofO (strsOf xs)) fun ss => M.bind (guard (decide ((ss.map (·.length)).sum + ss.length * z.length ≤ 16777216))) fun _ => M.pure (.str (Txt.join z ss))
  | _, _ => bad
def mSplit : D → List D → M D
  | .str a, [.str b] => M.bind (guard (!(b.length == 0) && decide (a.length + 2 ≤ sizeLine))) fun _ => alloc (.lst ((Txt.split a b).map .str))
  | _, _ => bad
def mUpper : D → List D → M D
  | .str a, [] => M.bind (guard (decide (a.length ≤ 5592405))) fun _ => M.pure (.str (Txt.upper a))
  | _, _ => bad
/-- signs off both ends -/
def mStripC : D → List D → M D
  | .str a, [.str b] => M.bind (guard (decide (a.length ≤ sizeLine))) fun _ => M.pure (.str (Txt.stripChars a b))
  | _, _ => bad
def mStartsW : D → List D → M D
  | .str a, [.str b] => M.pure (.bl (Txt.startswith a b))
  | _, _ => bad
def runMI : MI → D → List D → M D
  | .append => mAppend | .extend => mExtend | .pop0 => mPop0 | .pop1 => mPop1 | .index => mIndex | .join => mJoin | .count => mCount | .upper => mUpper | .split => mSplit | .stripC => mStripC | .startsW => mStartsW
/-- what a method's receiver must be -/
def rcv : MI → D → M Unit
  | .index, .tup _ => M.pure ()
  | .index, .str _ => M.pure ()
  | .index, d => M.bind (lsOf d) fun _ => M.pure ()
  | .count, d => M.bind (lsOf d) fun _ => M.pure ()
  | .join, .str _ => M.pure ()
  | .join, _ => bad
  | .upper, .str _ => M.pure ()
  | .upper, _ => bad
  | .split, .str _ => M.pure ()
  | .split, _ => bad
  | .stripC, .str _ => M.pure ()
  | .stripC, _ => bad
  | .startsW, .str _ => M.pure ()
  | .startsW, _ => bad
  | _, .ref n => M.bind (getM n) fun _ => M.pure ()
  | _, _ => bad
/-- a store's object at n -/
def objAt (n : Nat) (f : O → Bool) : M Bool := fun st => match st[n]? with
  | some (.kct _) => .bad
  | some o => .ok (f o) st
  | none => .bad
def tInt : D → M Bool
  | .int _ => M.pure true | .bl _ => M.pure true
  | .ob _ _ _ => bad
  | .ref n => objAt n fun _ => false
  | _ => M.pure false
def tStr : D → M Bool
  | .str _ => M.pure true
  | .ob _ _ _ => bad
  | .ref n => objAt n fun _ => false
  | _ => M.pure false
def tBool : D → M Bool
  | .bl _ => M.pure true
  | .ob _ _ _ => bad
  | .ref n => objAt n fun _ => false
  | _ => M.pure false
def tTuple : D → M Bool
  | .tup _ => M.pure true
  | .ob _ _ _ => bad
  | .ref n => objAt n fun _ => false
  | _ => M.pure false
def tList : D → M Bool
  | .fl _ => M.pure true
  | .ob _ _ _ => bad
  | .ref n => objAt n fun o => match o with
    | .lst _ => true
    | _ => false
  | _ => M.pure false
def isTy : Ty → D → M Bool
  | .int => tInt | .str => tStr | .bool => tBool | .tuple => tTuple | .list => tList

/-! ### codes -/
mutual
inductive C where
  | cst (d : D)
  | var (i : Nat)
  | neg (a : C)
  | bin (o : BOp) (a b : C)
  | cmp (o : COp) (a b : C)
  | chn (o p : COp) (a b c : C)
  | and (a b : C)
  | or (a b : C)
  | not (a : C)
  | ite (t a b : C)
  | tup (xs : Cs)
  | lst (xs : Cs)
  | idx (a b : C)
  | slc (a : C) (lo hi : Co)
  | rev (a : C)
  | call (f : Str) (xs : Cs)
  | callk (f : Str) (xs ys : Cs) (π : List Nat)
  | bif (b : BI) (xs : Cs)
  | isi (a : C) (t : Ty)
  | mth (m : MI) (o : C) (xs : Cs)
  | comp (elt : C) (g : G) (it : I) (ifs : Co) (own : List Nat)
  | comp2 (elt : C) (g : G) (it : I) (ifs : Co) (g2 : G) (it2 : I) (ifs2 : Co) (own vs1 : List Nat)
  | dnew
  /-- {k: v}; o[k]; o.get(k); o.get(k, x); k in o; len(o); sorted(o): o a dict -/
  | ddisp (k v : C)
  | dget (o k : C)
  | dget1 (o k : C)
  | dget2 (o k x : C)
  | din (neg : Bool) (k o : C)
  | dlen (o : C)
  | dsort (o : C)
  /-- dicts whose keys are tuples: o[k]; k in o; dict(a), a a list of pairs; {k: v for ..} -/
  | kget (o k : C)
  | kin (neg : Bool) (k o : C)
  | kdict (a : C)
  | kcomp (k v : C) (g : G) (it : I) (ifs : Co) (own : List Nat)
  | frz (a : C)
  /-- a.f -/
  | attr (a : C) (all : List Str) (f : Str)
  /-- isinstance(a, Y): all the classes that a may have, those that are a Y -/
  | isc (a : C) (all ys : List Str)
  /-- o.m(..): m a method of the class t, its code the def f -/
  | meth (o : C) (t m f : Str) (xs : Cs)
  | methk (o : C) (t m f : Str) (ys : Cs) (π : List Nat)
  /-- len(o), o an object of the class t, its __len__ the def f -/
  | lenO (o : C) (t f : Str)
  /-- an object of the class t, made by the def f (a class's row only) -/
  | obj (t : Str) (ns : List Str) (f : Str)
  /-- sorted(o), o a dict that never changes, its keys tuples -/
  | ksort (o : C)
  /-- dict(a), a a list of pairs, the keys numbers or texts -/
  | ddict (a : C)
inductive Cs where
  | nil
  | cons (a : C) (r : Cs)
inductive Co where
  | no
  | so (a : C)
inductive I where
  | seq (a : C)
  | rng (a : C)
  | rng2 (a b : C)
  | enum (a : C)
  | zip (a b : C)
  /-- the keys of a dict that never changes; its items -/
  | dkeys (a : C)
  | ditems (a : C)
inductive G where
  | nm (i : Nat)
  | tp (gs : Gs)
  | sub (o i : C)
inductive Gs where
  | nil
  | cons (g : G) (r : Gs)
end
mutual
inductive S where
  | expr (a : C)
  | asg (g : G) (a : C)
  | aug (i : Nat) (o : BOp) (a : C)
  | ret (a : C)
  | retN
  | ite (t : C) (a b : Ss)
  | whl (t : C) (b : Ss)
  | for_ (g : G) (it : I) (b : Ss)
  | pass
  | brk
  | cont
  | never
  /-- raise c(), raise c(a) -/
  | raise0 (c : Str)
  | raise1 (c f : Str) (a : C)
  /-- try: b except (all that ys tell) as i: h -/
  | try_ (b : Ss) (all ys : List Str) (i : Nat) (h : Ss)
  /-- what a lambda stands for: a def's first row only -/
  | thunk (n : Nat) (is : List Nat) (t : C)
  /-- o[k] = v, o a dict -/
  | dput (o k v : C)
  /-- o[k] = v, o a dict whose keys are tuples -/
  | kput (o k v : C)
  /-- o[i] += e, o a list that may be changed, a number in it -/
  | augs (o i e : C)
inductive Ss where
  | nil
  | cons (s : S) (r : Ss)
end

def Gs.len : Gs → Nat
  | .nil => 0
  | .cons _ r => r.len + 1
mutual
/-- the names that are stored -/
def G.nms : G → List Nat
  | .nm i => [i]
  | .tp gs => gs.nms
  | .sub _ _ => []
def Gs.nms : Gs → List Nat
  | .nil => []
  | .cons g r => g.nms ++ r.nms
end

abbrev Env := List (Option D)
/-- what is walked -/
inductive Src where
  | stat (xs : List D)
  | live (n : Nat)
  | enum (s : Src)
  | zip (s t : Src)
/-- what a turn gets: a value, or a new pair (taken apart at once) -/
inductive Itm where
  | one (x : D)
  | two (x y : D)
def Src.one : Src → Nat → M (Option D)
  | .stat xs, i => M.pure xs[i]?
  | .live n, i => M.bind (getL n) fun xs => M.pure xs[i]?
  | _, _ => bad
def Src.item : Src → Nat → M (Option Itm)
  | .enum s, i => M.bind (s.one i) fun o => M.pure (o.map fun x => .two (.int i) x)
  | .zip s t, i => M.bind (s.one i) fun o => match o with
    | none => M.pure none
    | some x => M.bind (t.one i) fun p => M.pure (p.map fun y => .two x y)
  | s, i => M.bind (s.one i) fun o => M.pure (o.map .one)
/-- how many turns at most -/
def Src.fuel (W : Nat) : Src → Nat
  | .stat xs => xs.length + 1
  | .enum s => s.fuel W
  | .zip s _ => s.fuel W
  | .live _ => W
inductive Fl where
  | next | brk | cont | ret (d : D) | exn (x : Ex)
def wipeE (env : Env) : List Nat → Env
  | [] => env
  | v :: vs => (wipeE env vs).set v none
def srcOf : D → M Src
  | .tup xs => M.pure (.stat xs)
  | .fl xs => M.pure (.stat xs)
  | .ref n => M.bind (getL n) fun _ => M.pure (.live n)
  | .str z => M.pure (.stat (z.cps.toList.map fun c => .str ⟨#[c]⟩))
  | _ => bad

/-- rows that never change -/
def srcZ : D → M Src
  | .tup xs => M.pure (.stat xs)
  | .fl xs => M.pure (.stat xs)
  | _ => bad
/-- the same, in pairs with the place -/
def srcE : D → M Src := srcOf

/-! ### runs that may end in an error -/
inductive Out (α : Type) where
  | ok (a : α) (st : Sto)
  | err (x : Ex) (st : Sto)
  | bad
def N (α : Type) := Sto → Out α
def N.pure {α : Type} (a : α) : N α := fun st => .ok a st
def N.bind {α β : Type} (m : N α) (f : α → N β) : N β := fun st =>
  match m st with
  | .ok a st' => f a st'
  | .err x st' => .err x st'
  | .bad => .bad
def N.bad {α : Type} : N α := fun _ => .bad
def N.raise {α : Type} (x : Ex) : N α := fun st => .err x st
def up {α : Type} (m : M α) : N α := fun st =>
  match m st with
  | .ok a st' => .ok a st'
  | .bad => .bad
/-- no error may come -/
def noErr {α : Type} (m : N α) : N α := fun st =>
  match m st with
  | .ok a st' => .ok a st'
  | _ => .bad
/-- the loop of a comprehension: at turn i, with what is gathered so far -/
def compRun (src : Src) (turn : Itm → N (Option D)) : Nat → Nat → List D → N (List D)
  | 0, _, _ => N.bad
  | n + 1, i, acc => N.bind (up (src.item i)) fun o => match o with
    | none => N.pure acc
    | some x => N.bind (noErr (turn x)) fun y => match y with
      | none => compRun src turn n (i + 1) acc
      | some v => N.bind (up (guard (decide (acc.length < sizeLine)))) fun _ => compRun src turn n (i + 1) (acc ++ [v])
/-- the outer loop of one with two fors -/
def compRunA (src : Src) (turn : Itm → List D → N (List D)) : Nat → Nat → List D → N (List D)
  | 0, _, _ => N.bad
  | n + 1, i, acc => N.bind (up (src.item i)) fun o => match o with
    | none => N.pure acc
    | some x => N.bind (noErr (turn x acc)) fun acc2 => compRunA src turn n (i + 1) acc2
/-- the loop of a for -/
def forRun (src : Src) (turn : Itm → Env → N (Fl × Env)) : Nat → Nat → Env → N (Fl × Env)
  | 0, _, _ => N.bad
  | n + 1, i, env => N.bind (up (src.item i)) fun o => match o with
    | none => N.pure (.next, env)
    | some x => N.bind (turn x env) fun r => match r.1 with
      | .next => forRun src turn n (i + 1) r.2
      | .cont => forRun src turn n (i + 1) r.2
      | .brk => N.pure (.next, r.2)
      | f => N.pure (f, r.2)
/-- an error of an expression becomes the statement's end -/
def tr {α : Type} (env : Env) (m : N α) (f : α → N (Fl × Env)) : N (Fl × Env) := fun st =>
  match m st with
  | .ok a st' => f a st'
  | .err x st' => .ok (.exn x, env) st'
  | .bad => .bad
def whlRun (test : Env → N Bool) (body : Env → N (Fl × Env)) : Nat → Env → N (Fl × Env)
  | 0, _ => N.bad
  | n + 1, env => tr env (test env) fun b => if b then N.bind (body env) fun r => match r.1 with
      | .next => whlRun test body n r.2
      | .cont => whlRun test body n r.2
      | .brk => N.pure (.next, r.2)
      | f => N.pure (f, r.2)
    else N.pure (.next, env)

/-- the pairs of a dict -/
def kvsOf : D → M (List (D × D))
  | .ref n => fun st => match st[n]? with
    | some (.dct kvs) => .ok kvs st
    | _ => .bad
  | .ob t ns xs => if t = "{}" ∧ ns = [("" : Str), ""] then ofO (kvUnflat xs) else bad
  | _ => bad
def dNew (x y : D) : M D := M.bind (guard ((keyOf x).isSome && noRef y)) fun _ => alloc (.dct [(x, y)])
def dGet (d x : D) : M D := M.bind (kvsOf d) fun kvs => M.bind (ofO (keyOf x)) fun k => ofO (dFind k kvs)
def dGet1 (d x z : D) : M D := M.bind (kvsOf d) fun kvs => M.bind (ofO (keyOf x)) fun k => M.pure ((dFind k kvs).getD z)
def dIn (d x : D) : M Bool := M.bind (kvsOf d) fun kvs => M.bind (ofO (keyOf x)) fun k => M.pure (dFind k kvs).isSome
def dPutM (d x z : D) : M Unit := match d with
  | .ref n => fun st => match st[n]? with
    | some (.dct kvs) => (match keyOf x with
      | some k => if noRef z && decide (kvs.length < 16000000) then .ok () (st.set n (.dct (dPut kvs k x z))) else .bad
      | none => .bad)
    | _ => .bad
  | _ => bad
/-- the pairs of a dict whose keys are tuples -/
def kvsK : D → M (List (D × D))
  | .ref n => fun st => match st[n]? with
    | some (.kct kvs) => .ok kvs st
    | _ => .bad
  | .ob t ns xs => if t = "{}" ∧ ns = [("" : Str), "", ""] then M.bind (ofO (kvUnflat xs)) fun kvs => M.bind (guard (kvs.all fun p => (kKey p.1).isSome)) fun _ => M.pure kvs else bad
  | _ => bad
def kGet (d x : D) : M D := M.bind (kvsK d) fun kvs => M.bind (ofO (kKey x)) fun k => ofO (kFind k kvs)
def kIn (d x : D) : M Bool := M.bind (kvsK d) fun kvs => M.bind (ofO (kKey x)) fun k => M.pure (kFind k kvs).isSome
def kPutM (d x z : D) : M Unit := match d with
  | .ref n => fun st => match st[n]? with
    | some (.kct kvs) => (match kKey x with
      | some k => if noRef z && decide (kvs.length < 16000000) then .ok () (st.set n (.kct (kPut kvs k x z))) else .bad
      | none => .bad)
    | _ => .bad
  | _ => bad
def kStep (acc : List (D × D)) (p : D × D) : M (List (D × D)) := match kKey p.1 with
  | some k => if noRef p.2 && decide (acc.length < 16000000) then M.pure (kPut acc k p.1 p.2) else bad
  | none => bad
/-- dict(a) -/
def kDict (d : D) : M D := M.bind (lsOf d) fun xs => M.bind (ofO (pairsD xs)) fun ps => M.bind (guard (decide (ps.length < 16000000) && ps.all fun p => (kKey p.1).isSome && noRef p.2)) fun _ => alloc (.kct (kPuts [] ps))
/-- the loop of {k: v for ..} -/
def kompRun (src : Src) (turn : Itm → N (Option (D × D))) : Nat → Nat → List (D × D) → N (List (D × D))
  | 0, _, _ => N.bad
  | n + 1, i, acc => N.bind (up (src.item i)) fun o => match o with
    | none => N.pure acc
    | some x => N.bind (noErr (turn x)) fun y => match y with
      | none => kompRun src turn n (i + 1) acc
      | some p => N.bind (up (kStep acc p)) fun acc2 => kompRun src turn n (i + 1) acc2
/-- the number at a place of a list that may be changed -/
def getAt : D → D → M Int
  | .ref n, .int k => M.bind (guard (decide (0 ≤ k))) fun _ => M.bind (getM n) fun xs => match xs[k.toNat]? with
    | some (.int a) => M.pure a
    | _ => bad
  | _, _ => bad
def addAt (d x : D) (a : Int) : D → M Unit
  | .int b => setIx d x (.int (a + b))
  | _ => bad
/-- the keys, numbers, in order -/
def dSort (d : D) : M D := M.bind (kvsOf d) fun kvs => M.bind (ofO (intsOf (kvs.map (·.1)))) fun is => M.bind (guard (decide (is.length < 16000000))) fun _ => alloc (.lst ((sortI is).map .int))
/-- the pairs of a dict that never changes -/
def kvsF : D → M (List (D × D))
  | .ob t ns xs => if t = "{}" ∧ (ns = [("" : Str), ""] ∨ ns = [("" : Str), "", ""]) then ofO (kvUnflat xs) else bad
  | _ => bad
/-- the keys, tuples, in order; the dict never changes -/
def kSort : D → M D
  | .ob t ns xs => if t = "{}" ∧ ns = [("" : Str), "", ""] then M.bind (ofO (kvUnflat xs)) fun kvs => M.bind (guard (sortsD (kvs.map (·.1)))) fun _ => alloc (.lst ((kvs.map (·.1)).mergeSort (PySem.W.dataLe false pyD))) else bad
  | _ => bad
/-- dict(a) -/
def dDict (d : D) : M D := M.bind (lsOf d) fun xs => M.bind (ofO (pairsD xs)) fun ps => M.bind (guard (decide (ps.length < 16000000) && ps.all fun p => (keyOf p.1).isSome && noRef p.2)) fun _ => alloc (.dct (dPuts [] ps))
/-- a list that was just made never changes -/
def frzO (k : Nat) : D → Sto → Out D
  | .ref n, st => if k ≤ n ∧ st.length = n + 1 then (match itemsAt st n with
      | some xs => .ok (.fl xs) (st.take n)
      | none => (match st[n]? with
        | some (.dct []) => .ok .ed (st.take n)
        | _ => .bad)) else .bad
  | d, st => .ok d st
def frzN (m : N D) : N D := fun st =>
  match m st with
  | .ok d st' => frzO st.length d st'
  | .err x st' => .err x st'
  | .bad => .bad
section
variable (Φ : Str → List D → N D) (W : Nat)
mutual
def runE : C → Env → N D
  | .cst d, _ => N.pure d
  | .var i, env => match env[i]? with
    | some (some d) => N.pure d
    | _ => N.bad
  | .neg a, env => N.bind (runE a env) fun x => match x with
    | .int i => N.pure (.int (-i))
    | _ => N.bad
  | .bin o a b, env => N.bind (runE a env) fun x => N.bind (runE b env) fun y => up (runB o x y)
  | .cmp o a b, env => N.bind (runE a env) fun x => N.bind (runE b env) fun y => N.bind (up (runC o x y)) fun r => N.pure (.bl r)
  | .chn o p a b c, env => N.bind (runE a env) fun x => N.bind (runE b env) fun y => N.bind (up (runC o x y)) fun r => if r then N.bind (runE c env) fun z => N.bind (up (runC p y z)) fun q => N.pure (.bl q) else N.pure (.bl false)
  | .and a b, env => N.bind (runE a env) fun x => N.bind (up (truth x)) fun t => if t then runE b env else N.pure x
  | .or a b, env => N.bind (runE a env) fun x => N.bind (up (truth x)) fun t => if t then N.pure x else runE b env
  | .not a, env => N.bind (runE a env) fun x => N.bind (up (truth x)) fun t => N.pure (.bl !t)
  | .ite t a b, env => N.bind (runE t env) fun x => N.bind (up (truth x)) fun t => if t then runE a env else runE b env
  | .tup xs, env => N.bind (runEs xs env) fun ds => N.bind (up (guard (decide (ds.length ≤ sizeLine)))) fun _ => N.pure (.tup ds)
  | .lst xs, env => N.bind (runEs xs env) fun ds => N.bind (up (guard (decide (ds.length ≤ sizeLine)))) fun _ => up (alloc (.lst ds))
  | .idx a b, env => N.bind (runE a env) fun x => N.bind (runE b env) fun y => up (index x y)
  | .slc a lo hi, env => N.bind (runE a env) fun x => N.bind (runO lo env) fun l => N.bind (up (part l)) fun l => N.bind (runO hi env) fun u => N.bind (up (part u)) fun u => up (slice x l u)
  | .rev a, env => N.bind (runE a env) fun x => up (turned x)
  | .call f xs, env => N.bind (runEs xs env) (Φ f)
  | .callk f xs ys π, env => N.bind (runEs xs env) fun ds => N.bind (runEs ys env) fun es => Φ f (π.filterMap fun i => (ds ++ es)[i]?)
  | .bif b xs, env => N.bind (runEs xs env) fun ds => up (runBI b ds)
  | .isi a t, env => N.bind (runE a env) fun x => N.bind (up (isTy t x)) fun b => N.pure (.bl b)
  | .mth m o xs, env => N.bind (runE o env) fun x => N.bind (up (rcv m x)) fun _ => N.bind (runEs xs env) fun ds => up (runMI m x ds)
  | .comp elt g it ifs own, env => N.bind (runI it env) fun src => N.bind (compRun src (fun x => N.bind (match x with | .one d => runG g d (wipeE env own) | .two d d2 => runG2 g d d2 (wipeE env own)) fun env2 => N.bind (runIf ifs env2) fun b => if b then N.bind (runE elt env2) fun v => N.pure (some v) else N.pure none) (src.fuel W) 0 []) fun ys => up (alloc (.lst ys))
  | .comp2 elt g it ifs g2 it2 ifs2 own vs1, env => N.bind (runI it env) fun src => N.bind (compRunA src (fun x acc => N.bind (match x with | .one d => runG g d (wipeE env own) | .two d d2 => runG2 g d d2 (wipeE env own)) fun env2 => N.bind (runIf ifs env2) fun b => if b then
      N.bind (runI it2 env2) fun src2 => compRun src2 (fun y => N.bind (match y with | .one d => runG g2 d (wipeE env2 vs1) | .two d d2 => runG2 g2 d d2 (wipeE env2 vs1)) fun env3 => N.bind (runIf ifs2 env3) fun b => if b then N.bind (runE elt env3) fun v => N.pure (some v) else N.pure none) (src2.fuel W) 0 acc
      else N.pure acc) (src.fuel W) 0 []) fun ys => up (alloc (.lst ys))
  | .dnew, _ => up (alloc (.dct []))
  | .ddisp k v, env => N.bind (noErr (runE k env)) fun x => N.bind (noErr (runE v env)) fun y => up (dNew x y)
  | .dget o k, env => N.bind (runE o env) fun d => N.bind (runE k env) fun x => up (dGet d x)
  | .dget1 o k, env => N.bind (runE o env) fun d => N.bind (up (kvsOf d)) fun _ => N.bind (runE k env) fun x => up (dGet1 d x .non)
  | .dget2 o k x, env => N.bind (runE o env) fun d => N.bind (up (kvsOf d)) fun _ => N.bind (runE k env) fun y => N.bind (runE x env) fun z => up (dGet1 d y z)
  | .din neg k o, env => N.bind (runE k env) fun x => N.bind (runE o env) fun d => N.bind (up (dIn d x)) fun b => N.pure (.bl (b != neg))
  | .dlen o, env => N.bind (runE o env) fun d => up (M.bind (kvsOf d) fun kvs => M.pure (.int kvs.length))
  | .dsort o, env => N.bind (runE o env) fun d => up (dSort d)
  | .kget o k, env => N.bind (runE o env) fun d => N.bind (runE k env) fun x => up (kGet d x)
  | .kin neg k o, env => N.bind (runE k env) fun x => N.bind (runE o env) fun d => N.bind (up (kIn d x)) fun b => N.pure (.bl (b != neg))
  | .kdict a, env => N.bind (runE a env) fun x => up (kDict x)
  | .kcomp ck cv g it ifs own, env => N.bind (runI it env) fun src => N.bind (kompRun src (fun x => N.bind (match x with | .one d => runG g d (wipeE env own) | .two d d2 => runG2 g d d2 (wipeE env own)) fun env2 => N.bind (runIf ifs env2) fun b => if b then N.bind (runE ck env2) fun k => N.bind (runE cv env2) fun v => N.pure (some (k, v)) else N.pure none) (src.fuel W) 0 []) fun kvs => up (alloc (.kct kvs))
  | .frz a, env => frzN (runE a env)
  | .attr a all f, env => N.bind (runE a env) fun x => match x with
    | .ob t ns xs => if all.contains t then (match (ns.zip xs).lookup f with
      | some d => N.pure d
      | none => N.bad) else N.bad
    | _ => N.bad
  | .isc a all ys, env => N.bind (runE a env) fun x => match x with
    | .ob t _ _ => if all.contains t then N.pure (.bl (ys.contains t)) else N.bad
    | _ => N.bad
  | .meth o t m f xs, env => N.bind (runE o env) fun x => match x with
    | .ob t' ns _ => if t' = t ∧ ns.contains m = false then N.bind (runEs xs env) fun ds => Φ f (x :: ds) else N.bad
    | _ => N.bad
  | .methk o t m f ys π, env => N.bind (runE o env) fun x => match x with
    | .ob t' ns _ => if t' = t ∧ ns.contains m = false then N.bind (runEs ys env) fun es => Φ f (π.filterMap fun i => (x :: es)[i]?) else N.bad
    | _ => N.bad
  | .lenO o t f, env => N.bind (runE o env) fun x => match x with
    | .ob t' _ _ => if t' = t then N.bind (Φ f [x]) fun d => match d with
      | .int n => N.bind (up (guard (decide (0 ≤ n) && decide (n < 2 ^ 62)))) fun _ => N.pure (.int n)
      | _ => N.bad else N.bad
    | _ => N.bad
  | .obj _ _ _, _ => N.bad
  | .ksort o, env => N.bind (runE o env) fun d => up (kSort d)
  | .ddict a, env => N.bind (runE a env) fun x => up (dDict x)
def runEs : Cs → Env → N (List D)
  | .nil, _ => N.pure []
  | .cons a r, env => N.bind (runE a env) fun x => N.bind (runEs r env) fun xs => N.pure (x :: xs)
def runO : Co → Env → N (Option D)
  | .no, _ => N.pure none
  | .so a, env => N.bind (runE a env) fun x => N.pure (some x)
def runIf : Co → Env → N Bool
  | .no, _ => N.pure true
  | .so a, env => N.bind (runE a env) fun x => up (truth x)
def runI : I → Env → N Src
  | .seq a, env => N.bind (runE a env) fun x => up (srcOf x)
  | .rng a, env => N.bind (runE a env) fun x => match x with
    | .int j => N.bind (up (guard (in62 j))) fun _ => N.pure (.stat (rangeD 0 j))
    | _ => N.bad
  | .rng2 a b, env => N.bind (runE a env) fun x => N.bind (runE b env) fun y => match x, y with
    | .int i, .int j => N.bind (up (guard (in62 i && in62 j))) fun _ => N.pure (.stat (rangeD i j))
    | _, _ => N.bad
  | .enum a, env => N.bind (runE a env) fun x => N.bind (up (srcE x)) fun s => N.pure (.enum s)
  | .zip a b, env => N.bind (runE a env) fun x => N.bind (runE b env) fun y => N.bind (up (srcZ x)) fun s => N.bind (up (srcZ y)) fun t => N.pure (.zip s t)
  | .dkeys a, env => N.bind (runE a env) fun x => N.bind (up (kvsF x)) fun kvs => N.pure (.stat (kvs.map (·.1)))
  | .ditems a, env => N.bind (runE a env) fun x => N.bind (up (kvsF x)) fun kvs => N.pure (.zip (.stat (kvs.map (·.1))) (.stat (kvs.map (·.2))))
def runG : G → D → Env → N Env
  | .nm i, d, env => N.pure (env.set i (some d))
  | .tp gs, d, env => N.bind (up (seqOf d)) fun xs => N.bind (up (guard (xs.length == gs.len))) fun _ => runGs gs xs env
  | .sub o i, d, env => N.bind (runE o env) fun x => N.bind (runE i env) fun y => N.bind (up (setIx x y d)) fun _ => N.pure env
def runG2 : G → D → D → Env → N Env
  | .tp gs, x, y, env => N.bind (up (guard (gs.len == 2))) fun _ => runGs gs [x, y] env
  | _, _, _, _ => N.bad
def runGs : Gs → List D → Env → N Env
  | .nil, [], env => N.pure env
  | .cons g r, d :: ds, env => N.bind (runG g d env) fun env => runGs r ds env
  | _, _, _ => N.bad
end
def runP (g : G) (x : Itm) (env : Env) : N Env :=
  match x with
  | .one d => runG Φ W g d env
  | .two d d2 => runG2 Φ W g d d2 env
mutual
def runS : S → Env → N (Fl × Env)
  | .expr a, env => tr env (runE Φ W a env) fun _ => N.pure (.next, env)
  | .asg g a, env => tr env (runE Φ W a env) fun x => N.bind (noErr (runG Φ W g x env)) fun env => N.pure (.next, env)
  | .aug i o a, env => match env[i]? with
    | some (some (.int x)) => tr env (runE Φ W a env) fun y => match o, y with
      | .add, .int y => N.pure (.next, env.set i (some (.int (x + y))))
      | .sub, .int y => N.pure (.next, env.set i (some (.int (x - y))))
      | _, _ => N.bad
    | _ => N.bad
  | .ret a, env => tr env (runE Φ W a env) fun x => N.pure (.ret x, env)
  | .retN, env => N.pure (.ret .non, env)
  | .ite t a b, env => tr env (N.bind (runE Φ W t env) fun x => up (truth x)) fun t => if t then runSs a env else runSs b env
  | .whl t b, env => whlRun (fun env => N.bind (runE Φ W t env) fun x => up (truth x)) (fun env => runSs b env) W env
  | .for_ g it b, env => tr env (runI Φ W it env) fun src => forRun src (fun x env => N.bind (noErr (runP Φ W g x env)) fun env => runSs b env) (src.fuel W) 0 env
  | .pass, env => N.pure (.next, env)
  | .brk, env => N.pure (.brk, env)
  | .cont, env => N.pure (.cont, env)
  | .never, _ => N.bad
  | .raise0 c, env => N.pure (.exn ⟨c, none⟩, env)
  | .raise1 c f a, env => tr env (runE Φ W a env) fun d => N.pure (.exn ⟨c, some (f, d)⟩, env)
  | .try_ b all ys i h, env => N.bind (runSs b env) fun r => match r.1 with
    | .exn x => if all.contains x.cls then (if ys.contains x.cls then N.bind (runSs h (r.2.set i (some x.toD))) fun q => match q.1 with
        | .exn _ => N.bad
        | f => N.pure (f, q.2.set i none)
      else N.pure (.exn x, r.2)) else N.bad
    | f => N.pure (f, r.2)
  | .thunk _ _ _, _ => N.bad
  | .augs o i e, env => tr env (runE Φ W o env) fun d => tr env (runE Φ W i env) fun x => tr env (up (getAt d x)) fun a => tr env (runE Φ W e env) fun y => tr env (up (addAt d x a y)) fun _ => N.pure (.next, env)
  | .kput o k v, env => tr env (runE Φ W v env) fun z => tr env (runE Φ W o env) fun d => tr env (runE Φ W k env) fun x => tr env (up (kPutM d x z)) fun _ => N.pure (.next, env)
  | .dput o k v, env => tr env (runE Φ W v env) fun z => tr env (runE Φ W o env) fun d => tr env (runE Φ W k env) fun x => tr env (up (dPutM d x z)) fun _ => N.pure (.next, env)
def runSs : Ss → Env → N (Fl × Env)
  | .nil, env => N.pure (.next, env)
  | .cons s r, env => N.bind (runS s env) fun q => match q.1 with
    | .next => runSs r q.2
    | _ => N.pure q
end
end
/-- a def: how many parameters, how many names (its parameters first), whether its first parameter is a list that it changes, whether it hands back a new list that may be changed; its body -/
structure Fn where
  ar : Nat
  nn : Nat
  pl : Bool
  raw : Bool
  body : Ss
abbrev Tab := List (Str × Fn)
def startE (n : Nat) (ds : List D) : Env := ds.map some ++ List.replicate (n - ds.length) none
/-- a def's end -/
def fin : Fl × Env → N D := fun r => match r.1 with
  | .ret d => N.pure d
  | .next => N.pure .non
  | .exn x => N.raise x
  | _ => N.bad
def fzE (st : Sto) (k : Nat) (x : Ex) : Option Ex := match x.fld with
  | none => some x
  | some (_, d) => if noRef d then some x else none
/-- what a call leaves: g makes the caller's store of the callee's -/
def outN (raw : Bool) (k : Nat) (g : Sto → Option Sto) : Out D → Out D
  | .ok d st' => match g st' with
    | some s => if raw then (match d with
        | .ref j => if k ≤ j then (match st'[j]? with
          | some (.lst ys) => if noRefL ys then .ok (.ref s.length) (s ++ [.lst ys]) else .bad
          | _ => .bad) else .bad
        | _ => .bad)
      else match fz st' k d with
        | some d' => .ok d' s
        | none => .bad
    | none => .bad
  | .err x st' => match g st' with
    | some s => (match fzE st' k x with
      | some x' => .err x' s
      | none => .bad)
    | none => .bad
  | .bad => .bad
/-- the caller's store, the list at n as the callee left it -/
def back (st : Sto) (n : Nat) (st' : Sto) : Option Sto := match st'[(0 : Nat)]? with
  | some (.lst ys) => if noRefL ys then some (st.set n (.lst ys)) else none
  | _ => none
/-- a call sees a store of its own: nothing, or the one list that it changes -/
def callN (pl raw : Bool) (m : List D → N D) (ds : List D) : N D := fun st =>
  if pl then (match ds with
    | .ref n :: r => (match st[n]? with
      | some (.lst xs) => if noRefL xs && noRefL r then
          outN raw 1 (back st n) (m (.ref 0 :: r) [.lst xs])
        else .bad
      | _ => .bad)
    | _ => .bad)
  else if noRefL ds then outN raw 0 (fun _ => some st) (m ds []) else .bad
/-- a call that sees the whole store of its caller: any of its lists may be changed there; what is new is dropped -/
def scat (n : Nat) (is : List Nat) (ds : List D) : Env := (is.zip ds).foldl (fun e p => e.set p.1 (some p.2)) (List.replicate n none)
def callW (m : List D → N D) (ds : List D) : N D := fun st => match m ds st with
  | .ok d s1 => if st.length ≤ s1.length then (match fz s1 st.length d with
      | some d' => .ok d' (s1.take st.length)
      | none => .bad) else .bad
  | _ => .bad
/-- a def at most k calls deep (a def that sees its caller's store has 1000 more in ar) -/
def runF (T : Tab) (W : Nat) : Nat → Str → List D → N D
  | 0, _, _ => N.bad
  | k + 1, f, ds => match T.lookup f with
    | some fn => if ds.length = fn.ar then callN fn.pl fn.raw (fun ds => N.bind (runSs (runF T W k) W fn.body (startE fn.nn ds)) fin) ds
      else if ds.length + 1000 = fn.ar then callW (fun ds => N.bind (runSs (runF T W k) W fn.body (startE fn.nn ds)) fin) ds
      else if ds.length + 2000 = fn.ar then (match fn.body with
        | .cons (.thunk n is t) b => callN false false (fun ds => N.bind (runSs (fun x es => if x = "()" then runE (runF T W k) W t (scat n is ds) else runF T W k x es) W b (List.replicate fn.nn none)) fin) ds
        | _ => N.bad)
      else if ds.length + 3000 = fn.ar then callN false false (fun ds => N.bind (runSs (runF T W k) W fn.body (none :: startE (fn.nn - 1) ds)) fin) ds
      else if ds.length + 4000 = fn.ar then (match fn.body with
        | .cons (.ret (.obj t ns g)) _ => if ns.length = ds.length then N.bind (runF T W k g ds) fun _ => N.pure (.ob t ns ds) else N.bad
        | _ => N.bad)
      else N.bad
    | none => N.bad
end RV

/-! R2: how data and store lie in the abstract heap. -/
namespace RV
open PySem L2
/-- the world that is meant -/
class Wd where
  w : World
  /-- the tables of code objects that may change -/
  T : List (Addr × Str)
variable [Wd]

/-- a list that never changes -/
def SqF (K : PySem.W.Frag) (H : Hp) (a : Addr) (xs : List V) : Prop :=
  (∃ o, H a = some (.frz o (.lst xs))) ∨ ∃ (its : List Value) (n : Nat), K.lookup a = some { cls := .type "list", data := .seq its.toArray n } ∧ Vals xs its ∧ xs.length ≤ sizeLine
theorem SqF.seq {K : PySem.W.Frag} {H : Hp} {a : Addr} {xs : List V} (h : SqF K H a xs) : SqL K H a xs := by
  rcases h with ⟨o, h⟩ | ⟨its, n, h, r, z⟩
  · exact .inl (.inr ⟨o, h⟩)
  · exact .inr ⟨_, its.toArray, n, h, rfl, rfl, rfl, by rw [List.size_toArray, ← r.length]; exact z, r⟩
/-- a tuple of ours: its object is known to have no dict of its own -/
def SqX (H : Hp) (a : Addr) (xs : List V) : Prop := ∃ o : Obj, H a = some (.frz o (.tup xs)) ∧ o.dict = none
theorem SqX.t {K : PySem.W.Frag} {H : Hp} {a : Addr} {xs : List V} (h : SqX H a xs) : SqT K H a xs := let ⟨o, e, _⟩ := h; .inl (.inr ⟨o, e⟩)
/-- what stays: neither list nor dict of ours -/
def Fixed : HO → Prop
  | .tup _ => True
  | .frz _ _ => True
  | _ => False
mutual
/-- the value v is the key k -/
def KeyIs (H : Hp) : NestedKey → V → Prop
  | .none, v => v = .non
  | .num i, v => v = .int i ∨ ∃ b, v = .bl b ∧ i = if b = true then 1 else 0
  | .text s, v => v = .str s
  | .tup ks, v => ∃ a xs, v = .ref a ∧ SqX H a xs ∧ KeyAll H ks xs
def KeyAll (H : Hp) : List NestedKey → List V → Prop
  | [], vs => vs = []
  | k :: ks, vs => ∃ x r, vs = x :: r ∧ KeyIs H k x ∧ KeyAll H ks r
end
mutual
theorem KeyIs.keep {H H' : Hp} (f : ∀ b o u, H b = some (.frz o u) → H' b = some (.frz o u)) : ∀ {k : NestedKey} {v : V}, KeyIs H k v → KeyIs H' k v
  | .none, _, h => h
  | .num _, _, h => h
  | .text _, _, h => h
  | .tup _, _, ⟨a, xs, e, ⟨o, h, d⟩, r⟩ => ⟨a, xs, e, ⟨o, f _ _ _ h, d⟩, KeyAll.keep f r⟩
theorem KeyAll.keep {H H' : Hp} (f : ∀ b o u, H b = some (.frz o u) → H' b = some (.frz o u)) : ∀ {ks : List NestedKey} {vs : List V}, KeyAll H ks vs → KeyAll H' ks vs
  | [], _, h => h
  | _ :: _, _, ⟨x, r, e, h, t⟩ => ⟨x, r, e, KeyIs.keep f h, KeyAll.keep f t⟩
end
mutual
theorem KeyIs.inj {H : Hp} : ∀ {k k' : NestedKey} {v : V}, KeyIs H k v → KeyIs H k' v → k = k'
  | .none, .none, _, _, _ => rfl
  | .none, .num _, _, h, g => by
    rw [show _ = V.non from h] at g
    rcases g with g | ⟨_, g, _⟩ <;> cases g
  | .none, .text _, _, h, g => by rw [show _ = V.non from h] at g; cases (show V.non = V.str _ from g)
  | .none, .tup _, _, h, g => by
    rw [show _ = V.non from h] at g
    obtain ⟨_, _, g, _⟩ := g
    cases g
  | .num _, .none, _, h, g => by
    rw [show _ = V.non from g] at h
    rcases h with h | ⟨_, h, _⟩ <;> cases h
  | .num i, .num j, _, h, g => by
    rcases h with rfl | ⟨b, rfl, e⟩
    · rcases g with g | ⟨_, g, _⟩
      · cases g; rfl
      · cases g
    · rcases g with g | ⟨c, g, e2⟩
      · cases g
      · cases g; rw [e, e2]
  | .num _, .text _, _, h, g => by
    rw [show _ = V.str _ from g] at h
    rcases h with h | ⟨_, h, _⟩ <;> cases h
  | .num _, .tup _, _, h, g => by
    obtain ⟨_, _, rfl, _⟩ := g
    rcases h with h | ⟨_, h, _⟩ <;> cases h
  | .text _, .none, _, h, g => by rw [show _ = V.non from g] at h; cases (show V.non = V.str _ from h)
  | .text _, .num _, _, h, g => by
    rw [show _ = V.str _ from h] at g
    rcases g with g | ⟨_, g, _⟩ <;> cases g
  | .text s, .text t, _, h, g => by rw [show _ = V.str _ from h] at g; cases (show V.str s = V.str t from g); rfl
  | .text _, .tup _, _, h, g => by
    rw [show _ = V.str _ from h] at g
    obtain ⟨_, _, g, _⟩ := g
    cases g
  | .tup _, .none, _, h, g => by
    rw [show _ = V.non from g] at h
    obtain ⟨_, _, h, _⟩ := h
    cases h
  | .tup _, .num _, _, h, g => by
    obtain ⟨_, _, rfl, _⟩ := h
    rcases g with g | ⟨_, g, _⟩ <;> cases g
  | .tup _, .text _, _, h, g => by
    rw [show _ = V.str _ from g] at h
    obtain ⟨_, _, h, _⟩ := h
    cases h
  | .tup _, .tup _, _, ⟨a, xs, e, ⟨o, h1, _⟩, r⟩, ⟨b, ys, e2, ⟨o2, h2, _⟩, r2⟩ => by
    rw [e] at e2
    cases e2
    rw [h1] at h2
    cases h2
    rw [KeyAll.inj r r2]
theorem KeyAll.inj {H : Hp} : ∀ {ks ks' : List NestedKey} {vs : List V}, KeyAll H ks vs → KeyAll H ks' vs → ks = ks'
  | [], [], _, _, _ => rfl
  | [], _ :: _, _, h, ⟨_, _, e, _⟩ => by rw [show _ = [] from h] at e; cases e
  | _ :: _, [], _, ⟨_, _, e, _⟩, h => by rw [show _ = [] from h] at e; cases e
  | _ :: _, _ :: _, _, ⟨x, r, e, h, t⟩, ⟨y, q, e2, h2, t2⟩ => by
    rw [e] at e2
    cases e2
    rw [KeyIs.inj h h2, KeyAll.inj t t2]
end
/-- a key's pair, as it stands in the heap -/
def KPair (p : NestedKey × Addr × V) (q : NestedKey × Addr × Value) : Prop := p.1 = q.1 ∧ p.2.1 = q.2.1 ∧ RelV p.2.2 q.2.2
/-- at a stands a dict whose keys are tuples -/
def KObj (w : World) (a : Addr) (kv : List (NestedKey × Addr × V)) : Heap → Prop := fun h => kv.length ≤ sizeLine ∧ (a == sysModules) = false ∧ ∃ xs, Paired KPair kv xs ∧
  ∃ o es ep, h.get? a = some o ∧ o.ExactDict ∧ o.data = .dict es ep ∧ es.toList = xs.map (fun x : NestedKey × Addr × Value => (⟨x.1.hash w, .ref x.2.1, x.2.2⟩ : DictEntry)) ∧ (xs.map (·.1)).Nodup
theorem KObj.ok {P : Program} {w w' : World} {H : Hp} {h : Heap} {a : Addr} {kv : List (NestedKey × Addr × V)} (x : KObj w a kv h) : ObjOk P w' H h a (.ext (KObj w a kv)) := by
  refine ⟨x, ?_, fun h1 h2 y k => ?_⟩
  · obtain ⟨_, _, _, _, o, _, _, e, _⟩ := x
    exact ⟨o, e⟩
  · obtain ⟨z, hd, xs, p, o, es, ep, e, r⟩ := y
    exact ⟨z, hd, xs, p, o, es, ep, k o e, r⟩
def kcFlatV : List (NestedKey × Addr × V) → List V
  | [] => []
  | p :: r => .ref p.2.1 :: p.2.2 :: kcFlatV r
/-- keys and values, one after the other -/
def kvFlatV : List (Key × V) → List V
  | [] => []
  | p :: r => kV p.1 :: p.2 :: kvFlatV r
/-- an object that never changes -/
inductive ObR (K : PySem.W.Frag) (H : Hp) (a : Addr) : Str → List Str → List V → Prop
  /-- an instance of a class of the program -/
  | ins {t : Str} {C dx : Addr} {o : Obj} {ns : List Str} {vs : List V} (ht : t ≠ "{}") (hc : PySem.W.nsIn K mainGlobals t = some (some (.ref C))) (hn : PySem.W.subIn K (.ref C) (.type "BaseException") = some false) (h : H a = some (.frz o (.ins C dx (ns.zip vs)))) : ObR K H a t ns vs
  /-- an exception without a field -/
  | exc0 {t : Str} {C : Addr} {o : Obj} {φ : Heap → Prop} (hc : PySem.W.nsIn K mainGlobals t = some (some (.ref C))) (h : H a = some (.frz o (.ext φ))) (hcls : o.cls = .ref C) (hd : ∃ fv, o.data = .fields fv) (hx : o.dict = none) : ObR K H a t [] []
  /-- an exception with a field -/
  | exc1 {t f : Str} {v : V} {C dx : Addr} {o od : Obj} {φ : Heap → Prop} (hc : PySem.W.nsIn K mainGlobals t = some (some (.ref C))) (h : H a = some (.frz o (.ext φ))) (hcls : o.cls = .ref C) (hd : ∃ fv, o.data = .fields fv)
      (hx : o.dict = some dx) (h2 : H dx = some (.frz od (.xd [(f, v)]))) : ObR K H a t [f] [v]
  /-- a dict with numbers and texts as keys -/
  | dct {o : Obj} {kv : List (Key × V)} (h : H a = some (.frz o (.dK kv))) : ObR K H a "{}" ["", ""] (kvFlatV kv)
  /-- a dict whose keys are tuples -/
  | kct {o : Obj} {kv : List (NestedKey × Addr × V)} (h : H a = some (.frz o (.ext (KObj Wd.w a kv)))) (hk : ∀ p ∈ kv, KeyIs H p.1 (.ref p.2.1) ∧ p.1.depth ≤ 8) : ObR K H a "{}" ["", "", ""] (kcFlatV kv)
  /-- a def of the program, as data -/
  | fn {g : Str} (h : PySem.W.nsIn K mainGlobals g = some (some (.ref a))) : ObR K H a "{}" ["()"] [.str g]
theorem ObR.keep {K : PySem.W.Frag} {H H' : Hp} {a : Addr} {t : Str} {ns : List Str} {vs : List V} (k : ∀ b o u, H b = some (.frz o u) → H' b = some (.frz o u)) : ObR K H a t ns vs → ObR K H' a t ns vs
  | .ins ht hc hn h => .ins ht hc hn (k _ _ _ h)
  | .exc0 hc h h1 h2 h3 => .exc0 hc (k _ _ _ h) h1 h2 h3
  | .exc1 hc h h1 h2 h3 h4 => .exc1 hc (k _ _ _ h) h1 h2 h3 (k _ _ _ h4)
  | .dct h => .dct (k _ _ _ h)
  | .fn h => .fn h
  | .kct h hk => .kct (k _ _ _ h) fun p hp => ⟨(hk p hp).1.keep k, (hk p hp).2⟩
mutual
def Rp (K : PySem.W.Frag) (μ : List Addr) (H : Hp) : D → V → Prop
  | .non, v => v = .non
  | .bl b, v => v = .bl b
  | .int i, v => v = .int i
  | .str s, v => v = .str s
  | .tup ds, v => ∃ a xs, v = .ref a ∧ SqX H a xs ∧ RpL K μ H ds xs
  | .fl ds, v => ∃ a xs, v = .ref a ∧ SqF K H a xs ∧ RpL K μ H ds xs
  | .ref n, v => ∃ a, v = .ref a ∧ μ[n]? = some a
  | .ed, v => ∃ a o, v = .ref a ∧ H a = some (.frz o (.dK []))
  | .ob t ns ds, v => ∃ a xs, v = .ref a ∧ ObR K H a t ns xs ∧ RpL K μ H ds xs
def RpL (K : PySem.W.Frag) (μ : List Addr) (H : Hp) : List D → List V → Prop
  | [], vs => vs = []
  | d :: ds, vs => ∃ x r, vs = x :: r ∧ Rp K μ H d x ∧ RpL K μ H ds r
end
/-- no table of code objects -/
def NTb (o : HO) : Prop := ∀ ps, o ≠ .tbl ps
/-- neither a table nor a code object -/
def NTc (o : HO) : Prop := NTb o ∧ ∀ c q, o ≠ LamX.CodeO c q
omit [Wd] in
theorem ntc_lst {xs : List V} : NTc (.lst xs) := ⟨fun ps z => (by cases z), fun c q z => by unfold LamX.CodeO at z; cases z⟩
omit [Wd] in
theorem ntc_dk {kv : List (Key × V)} : NTc (.dK kv) := ⟨fun ps z => (by cases z), fun c q z => by unfold LamX.CodeO at z; cases z⟩
omit [Wd] in
theorem ntc_ko {w : World} {a : Addr} {kv : List (NestedKey × Addr × V)} : NTc (.ext (KObj w a kv)) := ⟨fun ps z => (by cases z), fun c q z => by
  unfold LamX.CodeO at z
  have e := HO.ext.inj z
  let ob : Obj := { cls := .none, data := .fields #[.none, .str q 0] }
  let h : Heap := { objs := Array.replicate (c + 1) ob }
  have hg : ∀ b o, h.get? b = some o → o = ob := fun b o q => by
    have : (Array.replicate (c + 1) ob)[b]? = some o := ((Heap.get?_eq_some h b o).mp q).1
    rw [Array.getElem?_replicate] at this
    split at this
    · exact (Option.some.inj this).symm
    · cases this
  have hc : h.get? c = some ob := (Heap.get?_eq_some h c ob).mpr ⟨by
    show (Array.replicate (c + 1) ob)[c]? = some ob
    rw [Array.getElem?_replicate, if_pos (Nat.lt_succ_self c)], rfl⟩
  have : KObj w a kv h := by
    rw [congrFun e h]
    exact ⟨ob, _, 0, hc, rfl, rfl⟩
  obtain ⟨_, _, _, _, o, es, ep, e1, _, e2, _⟩ := this
  rw [hg _ _ e1] at e2
  cases e2⟩
omit [Wd] in
theorem tabs_stay {T : List (Addr × Str)} {H H' : Hp} (t : LamX.Tabs T H) (k : ∀ b o, H b = some o → ¬ NTc o → H' b = some o) : LamX.Tabs T H' := fun p hp => by
  obtain ⟨ps, h1, h2, h3⟩ := t p hp
  refine ⟨ps, k _ _ h1 fun z => z.1 _ rfl, h2, fun pos cv hc => ?_⟩
  obtain ⟨c, e1, e2⟩ := h3 pos cv hc
  exact ⟨c, e1, k _ _ e2 fun z => z.2 _ _ rfl⟩
omit [Wd] in
theorem tabs_put {T : List (Addr × Str)} {H : Hp} {a : Addr} {u o : HO} (t : LamX.Tabs T H) (e : H a = some u) (n : NTc u) : LamX.Tabs T (upd H a o) := tabs_stay t fun b v hb hv => by
  rw [upd_ne fun z => hv (by rw [z, e] at hb; cases hb; exact n)]
  exact hb
omit [Wd] in
theorem tabs_new {T : List (Addr × Str)} {H : Hp} {a : Addr} {o : HO} (t : LamX.Tabs T H) (e : H a = none) : LamX.Tabs T (upd H a o) := t.ext fun b v hb => by rw [upd_ne (ne_of_none hb e)]; exact hb
/-- a dict's pairs -/
def KvR (K : PySem.W.Frag) (μ : List Addr) (H : Hp) (kvs : List (D × D)) (kv : List (Key × V)) : Prop := (kvs.map fun p => keyOf p.1) = kv.map (fun p => some p.1) ∧ RpL K μ H (kvs.map (·.2)) (kv.map (·.2))
/-- a dict's pairs, its keys tuples -/
def KcR (K : PySem.W.Frag) (μ : List Addr) (H : Hp) (kvs : List (D × D)) (kv : List (NestedKey × Addr × V)) : Prop :=
  (kvs.map fun p => kKey p.1) = kv.map (fun p => some p.1) ∧ RpL K μ H (kvs.map (·.1)) (kv.map fun p => V.ref p.2.1) ∧ RpL K μ H (kvs.map (·.2)) (kv.map (·.2.2))
def OkO (K : PySem.W.Frag) (μ : List Addr) (H : Hp) (a : Addr) : O → Prop
  | .lst ds => ∃ xs, H a = some (.lst xs) ∧ RpL K μ H ds xs
  | .dct kvs => ∃ kv, H a = some (.dK kv) ∧ KvR K μ H kvs kv ∧ noRefL (kvs.map (·.2)) = true
  | .kct kvs => ∃ kv, H a = some (.ext (KObj Wd.w a kv)) ∧ KcR K μ H kvs kv ∧ noRefL (kvs.map (·.2)) = true
structure RpS (K : PySem.W.Frag) (μ : List Addr) (H : Hp) (st : Sto) : Prop where
  len : μ.length = st.length
  nd : μ.Nodup
  ob : ∀ (n : Nat) (o : O), st[n]? = some o → ∃ a, μ[n]? = some a ∧ OkO K μ H a o
  wf : ∀ (n : Nat) (o : O), st[n]? = some o → o.below n = true
  tb : LamX.Tabs Wd.T H
/-- the heap grew; only what stands in the store may have changed -/
structure Ext (μ : List Addr) (H : Hp) (μ' : List Addr) (H' : Hp) : Prop where
  pre : ∃ ν, μ' = μ ++ ν
  fr : ∀ b o, H b = some o → b ∉ μ → ∀ (_ : NTb o := by first | assumption | (intro ps z; cases z)), H' b = some o ∧ b ∉ μ'
theorem Ext.refl {μ : List Addr} {H : Hp} : Ext μ H μ H := ⟨⟨[], by simp⟩, fun _ _ h n _ => ⟨h, n⟩⟩
theorem Ext.trans {μ μ1 μ2 : List Addr} {H H1 H2 : Hp} (a : Ext μ H μ1 H1) (b : Ext μ1 H1 μ2 H2) : Ext μ H μ2 H2 := by
  obtain ⟨ν, e⟩ := a.pre
  obtain ⟨ν', e'⟩ := b.pre
  refine ⟨⟨ν ++ ν', by rw [e', e, List.append_assoc]⟩, fun c o h n nt => ?_⟩
  obtain ⟨h1, n1⟩ := a.fr c o h n
  exact b.fr c o h1 n1
theorem Ext.get {μ μ' : List Addr} {H H' : Hp} (a : Ext μ H μ' H') {n : Nat} {x : Addr} (h : μ[n]? = some x) : μ'[n]? = some x := by
  obtain ⟨ν, e⟩ := a.pre
  rw [e, List.getElem?_append_left (List.getElem?_eq_some_iff.mp h).1, h]
theorem RpS.mem {K : PySem.W.Frag} {μ : List Addr} {H : Hp} {st : Sto} (S : RpS K μ H st) {a : Addr} (h : a ∈ μ) : ∃ (n : Nat) (o : O), st[n]? = some o ∧ μ[n]? = some a ∧ OkO K μ H a o := by
  obtain ⟨n, hn, e⟩ := List.getElem_of_mem h
  have hs : n < st.length := by rw [← S.len]; exact hn
  obtain ⟨b, hb, ok⟩ := S.ob n st[n] (List.getElem?_eq_getElem hs)
  have e2 : μ[n]? = some a := by rw [List.getElem?_eq_getElem hn, e]
  rw [e2] at hb
  cases hb
  exact ⟨n, _, List.getElem?_eq_getElem hs, e2, ok⟩
theorem OkO.nil {K : PySem.W.Frag} {μ : List Addr} {H : Hp} {a : Addr} (h : OkO K μ H a (.dct [])) : H a = some (.dK []) := by
  obtain ⟨kv, h1, h2, _⟩ := h
  cases kv with
  | nil => exact h1
  | cons p q => exact nomatch h2.1
theorem OkO.not_fixed {K : PySem.W.Frag} {μ : List Addr} {H : Hp} {a : Addr} {o : O} (h : OkO K μ H a o) {u : HO} (e : H a = some u) : ¬ Fixed u := by
  cases o with
  | lst ds =>
    obtain ⟨xs, h1, _⟩ := h
    rw [h1] at e; cases e; exact fun z => z
  | dct kvs =>
    obtain ⟨_, h1, _⟩ := h
    rw [h1] at e; cases e; exact fun z => z
  | kct kvs =>
    obtain ⟨_, h1, _⟩ := h
    rw [h1] at e; cases e; exact fun z => z
theorem RpS.fixed {K : PySem.W.Frag} {μ : List Addr} {H : Hp} {st : Sto} (S : RpS K μ H st) {a : Addr} {u : HO} (e : H a = some u) (f : Fixed u) : a ∉ μ := fun hm => by
  obtain ⟨n, o, _, _, ok⟩ := S.mem hm
  exact ok.not_fixed e f
theorem RpS.live {K : PySem.W.Frag} {μ : List Addr} {H : Hp} {st : Sto} (S : RpS K μ H st) {a : Addr} (h : a ∈ μ) : H a ≠ none := fun e => by
  obtain ⟨n, o, _, _, ok⟩ := S.mem h
  cases o with
  | lst ds => obtain ⟨xs, h1, _⟩ := ok; rw [h1] at e; cases e
  | dct kvs => obtain ⟨_, h1, _⟩ := ok; rw [h1] at e; cases e
  | kct kvs => obtain ⟨_, h1, _⟩ := ok; rw [h1] at e; cases e
theorem SqX.ext {K : PySem.W.Frag} {μ μ' : List Addr} {H H' : Hp} {st : Sto} (S : RpS K μ H st) (x : Ext μ H μ' H') {a : Addr} {xs : List V} (h : SqX H a xs) : SqX H' a xs := by
  obtain ⟨o, h, d⟩ := h
  exact ⟨o, (x.fr _ _ h (S.fixed h trivial)).1, d⟩
theorem SqF.ext {K : PySem.W.Frag} {μ μ' : List Addr} {H H' : Hp} {st : Sto} (S : RpS K μ H st) (x : Ext μ H μ' H') {a : Addr} {xs : List V} (h : SqF K H a xs) : SqF K H' a xs := by
  rcases h with ⟨o, h⟩ | h
  · exact .inl ⟨o, (x.fr _ _ h (S.fixed h trivial)).1⟩
  · exact .inr h
section
variable {K : PySem.W.Frag} {μ μ' : List Addr} {H H' : Hp} {st : Sto}
mutual
theorem Rp.ext (S : RpS K μ H st) (x : Ext μ H μ' H') : ∀ {d : D} {v : V}, Rp K μ H d v → Rp K μ' H' d v
  | .non, _, h => h
  | .bl _, _, h => h
  | .int _, _, h => h
  | .str _, _, h => h
  | .tup ds, _, ⟨a, xs, e, h, r⟩ => ⟨a, xs, e, SqX.ext S x h, RpL.ext S x r⟩
  | .fl ds, _, ⟨a, xs, e, h, r⟩ => ⟨a, xs, e, SqF.ext S x h, RpL.ext S x r⟩
  | .ref n, _, ⟨a, e, h⟩ => ⟨a, e, x.get h⟩
  | .ed, _, ⟨a, o, e, h⟩ => ⟨a, o, e, (x.fr _ _ h (S.fixed h trivial)).1⟩
  | .ob _ _ ds, _, ⟨a, xs, e, h, r⟩ => ⟨a, xs, e, h.keep fun b o u q => (x.fr _ _ q (S.fixed q trivial)).1, RpL.ext S x r⟩
theorem RpL.ext (S : RpS K μ H st) (x : Ext μ H μ' H') : ∀ {ds : List D} {vs : List V}, RpL K μ H ds vs → RpL K μ' H' ds vs
  | [], _, h => h
  | _ :: _, _, ⟨y, r, e, h, t⟩ => ⟨y, r, e, Rp.ext S x h, RpL.ext S x t⟩
end
/-- less is asked: what stays is what never changes -/
structure ExF (μ : List Addr) (H : Hp) (μ' : List Addr) (H' : Hp) : Prop where
  pre : ∃ ν, μ' = μ ++ ν
  fr : ∀ b o u, H b = some (.frz o u) → H' b = some (.frz o u)
theorem Ext.exf (x : Ext μ H μ' H') (S : RpS K μ H st) : ExF μ H μ' H' := ⟨x.pre, fun b o u e => (x.fr b _ e (S.fixed e trivial)).1⟩
theorem ExF.trans {μ2 : List Addr} {H2 : Hp} (a : ExF μ H μ' H') (b : ExF μ' H' μ2 H2) : ExF μ H μ2 H2 := by
  obtain ⟨ν, e⟩ := a.pre
  obtain ⟨ν', e'⟩ := b.pre
  exact ⟨⟨ν ++ ν', by rw [e', e, List.append_assoc]⟩, fun c o u h => b.fr c o u (a.fr c o u h)⟩
theorem ExF.get (a : ExF μ H μ' H') {n : Nat} {x : Addr} (h : μ[n]? = some x) : μ'[n]? = some x := by
  obtain ⟨ν, e⟩ := a.pre
  rw [e, List.getElem?_append_left (List.getElem?_eq_some_iff.mp h).1, h]
theorem SqX.exf (x : ExF μ H μ' H') {a : Addr} {xs : List V} (h : SqX H a xs) : SqX H' a xs := by
  obtain ⟨o, h, d⟩ := h
  exact ⟨o, x.fr _ _ _ h, d⟩
theorem SqF.exf (x : ExF μ H μ' H') {a : Addr} {xs : List V} (h : SqF K H a xs) : SqF K H' a xs := by
  rcases h with ⟨o, h⟩ | h
  · exact .inl ⟨o, x.fr _ _ _ h⟩
  · exact .inr h
mutual
theorem Rp.exf (x : ExF μ H μ' H') : ∀ {d : D} {v : V}, Rp K μ H d v → Rp K μ' H' d v
  | .non, _, h => h
  | .bl _, _, h => h
  | .int _, _, h => h
  | .str _, _, h => h
  | .tup ds, _, ⟨a, xs, e, h, r⟩ => ⟨a, xs, e, SqX.exf x h, RpL.exf x r⟩
  | .fl ds, _, ⟨a, xs, e, h, r⟩ => ⟨a, xs, e, SqF.exf x h, RpL.exf x r⟩
  | .ref n, _, ⟨a, e, h⟩ => ⟨a, e, x.get h⟩
  | .ed, _, ⟨a, o, e, h⟩ => ⟨a, o, e, x.fr _ _ _ h⟩
  | .ob _ _ ds, _, ⟨a, xs, e, h, r⟩ => ⟨a, xs, e, h.keep x.fr, RpL.exf x r⟩
theorem RpL.exf (x : ExF μ H μ' H') : ∀ {ds : List D} {vs : List V}, RpL K μ H ds vs → RpL K μ' H' ds vs
  | [], _, h => h
  | _ :: _, _, ⟨y, r, e, h, t⟩ => ⟨y, r, e, Rp.exf x h, RpL.exf x t⟩
end
theorem RpL.nil : RpL K μ H [] [] := rfl
theorem RpL.cons {d : D} {ds : List D} {v : V} {vs : List V} (h : Rp K μ H d v) (t : RpL K μ H ds vs) : RpL K μ H (d :: ds) (v :: vs) := ⟨v, vs, rfl, h, t⟩
theorem RpL.length : ∀ {ds : List D} {vs : List V}, RpL K μ H ds vs → vs.length = ds.length
  | [], _, h => by rw [show _ = ([] : List V) from h] <;> rfl
  | d :: ds, _, ⟨x, r, e, h, t⟩ => by rw [e, List.length_cons, List.length_cons, RpL.length t]
theorem RpL.append : ∀ {ds es : List D} {vs ws : List V}, RpL K μ H ds vs → RpL K μ H es ws → RpL K μ H (ds ++ es) (vs ++ ws)
  | [], _, _, _, h, k => by rw [show _ = ([] : List V) from h]; exact k
  | d :: ds, _, _, _, ⟨x, r, e, h, t⟩, k => by rw [e]; exact ⟨x, r ++ _, rfl, h, RpL.append t k⟩
theorem RpL.get : ∀ {ds : List D} {vs : List V} {i : Nat} {d : D}, RpL K μ H ds vs → ds[i]? = some d → ∃ v, vs[i]? = some v ∧ Rp K μ H d v
  | [], _, _, _, _, e => by simp at e
  | d :: ds, _, 0, _, ⟨x, r, e', h, t⟩, e => by rw [e']; simp at e; subst e; exact ⟨x, rfl, h⟩
  | d :: ds, _, i + 1, _, ⟨x, r, e', h, t⟩, e => by
    rw [e']
    obtain ⟨v, h1, h2⟩ := RpL.get (i := i) t (by simpa using e)
    exact ⟨v, by simpa using h1, h2⟩
theorem RpL.getV : ∀ {ds : List D} {vs : List V} {i : Nat} {v : V}, RpL K μ H ds vs → vs[i]? = some v → ∃ d, ds[i]? = some d ∧ Rp K μ H d v
  | [], _, _, _, h, e => by rw [show _ = ([] : List V) from h] at e; simp at e
  | d :: ds, _, 0, _, ⟨x, r, e', h, t⟩, e => by rw [e'] at e; simp at e; subst e; exact ⟨d, rfl, h⟩
  | d :: ds, _, i + 1, _, ⟨x, r, e', h, t⟩, e => by
    rw [e'] at e
    obtain ⟨v, h1, h2⟩ := RpL.getV (i := i) t (by simpa using e)
    exact ⟨v, by simpa using h1, h2⟩
theorem RpL.take : ∀ {ds : List D} {vs : List V} (n : Nat), RpL K μ H ds vs → RpL K μ H (ds.take n) (vs.take n)
  | _, _, 0, _ => by simp; exact RpL.nil
  | [], _, n + 1, h => by rw [show _ = ([] : List V) from h]; exact RpL.nil
  | d :: ds, _, n + 1, ⟨x, r, e, h, t⟩ => by rw [e]; exact ⟨x, r.take n, rfl, h, RpL.take n t⟩
theorem RpL.drop : ∀ {ds : List D} {vs : List V} (n : Nat), RpL K μ H ds vs → RpL K μ H (ds.drop n) (vs.drop n)
  | _, _, 0, h => by simpa using h
  | [], _, n + 1, h => by rw [show _ = ([] : List V) from h]; exact RpL.nil
  | d :: ds, _, n + 1, ⟨x, r, e, h, t⟩ => by rw [e]; simpa using RpL.drop n t
theorem RpL.set {d : D} {v : V} (q : Rp K μ H d v) : ∀ {ds : List D} {vs : List V} (n : Nat), RpL K μ H ds vs → RpL K μ H (ds.set n d) (vs.set n v)
  | [], _, n, h => by rw [show _ = ([] : List V) from h]; simp; exact RpL.nil
  | e :: ds, _, 0, ⟨x, r, e', h, t⟩ => by rw [e']; exact ⟨v, r, rfl, q, t⟩
  | e :: ds, _, n + 1, ⟨x, r, e', h, t⟩ => by rw [e']; exact ⟨x, r.set n v, rfl, h, RpL.set q n t⟩
theorem RpL.reverse {ds : List D} : ∀ {vs : List V}, RpL K μ H ds vs → RpL K μ H ds.reverse vs.reverse := by
  induction ds with
  | nil => intro vs h; rw [show vs = ([] : List V) from h]; exact RpL.nil
  | cons d ds ih =>
    rintro vs ⟨x, r, e, h, t⟩
    rw [e, List.reverse_cons, List.reverse_cons]
    exact (ih t).append (.cons h .nil)
theorem RpL.rep {ds : List D} {vs : List V} (h : RpL K μ H ds vs) : ∀ k : Nat, RpL K μ H (List.replicate k ds).flatten (List.replicate k vs).flatten
  | 0 => RpL.nil
  | k + 1 => by rw [List.replicate_succ, List.replicate_succ, List.flatten_cons, List.flatten_cons]; exact h.append (RpL.rep h k)
theorem RpL.strs : ∀ {ds : List D} {is : List Str} {vs : List V}, strsOf ds = some is → RpL K μ H ds vs → vs = is.map V.str
  | [], is, _, e, h => by rw [show _ = ([] : List V) from h]; simp [strsOf] at e; subst e; rfl
  | .str i :: ds, is, _, e, ⟨x, r, e', h, t⟩ => by
    rw [strsOf] at e
    obtain ⟨js, e1, e2⟩ := Option.map_eq_some_iff.mp e
    subst e2
    rw [e', RpL.strs e1 t, show x = V.str i from h]; rfl
theorem RpL.bls : ∀ {ds : List D} {is : List Bool} {vs : List V}, blsOf ds = some is → RpL K μ H ds vs → vs = is.map V.bl
  | [], is, _, e, h => by rw [show _ = ([] : List V) from h]; simp [blsOf] at e; subst e; rfl
  | .bl i :: ds, is, _, e, ⟨x, r, e', h, t⟩ => by
    rw [blsOf] at e
    obtain ⟨js, e1, e2⟩ := Option.map_eq_some_iff.mp e
    subst e2
    rw [e', RpL.bls e1 t, show x = V.bl i from h]; rfl
theorem RpL.of_ints : ∀ (is : List Int), RpL K μ H (is.map D.int) (is.map V.int)
  | [] => RpL.nil
  | i :: r => .cons rfl (RpL.of_ints r)
theorem RpL.map_of {α : Type} (f : α → D) (g : α → V) (h : ∀ x, Rp K μ H (f x) (g x)) : ∀ l : List α, RpL K μ H (l.map f) (l.map g)
  | [] => RpL.nil
  | x :: r => .cons (h x) (RpL.map_of f g h r)

/-! ### pairs of a dict -/
theorem keyOf_rp {d : D} {k : Key} (h : keyOf d = some k) : Rp K μ H d (kV k) := by
  cases d with
  | int i => cases h; rfl
  | str s => cases h; rfl
  | _ => cases h
omit [Wd] in
theorem keyOf_no {d : D} {k : Key} (h : keyOf d = some k) : noRef d = true := by
  cases d with
  | int i => rfl
  | str s => rfl
  | _ => cases h
theorem kv_flat : ∀ {kvs : List (D × D)} {kv : List (Key × V)}, KvR K μ H kvs kv → RpL K μ H (kvFlat kvs) (kvFlatV kv)
  | [], [], _ => RpL.nil
  | [], _ :: _, h => nomatch h.1
  | _ :: _, [], h => nomatch h.1
  | (x, v) :: r, (k, u) :: q, ⟨h1, h2⟩ => by
    obtain ⟨e1, e2⟩ := List.cons.inj h1
    obtain ⟨y, t, e, h, t2⟩ := h2
    obtain ⟨rfl, rfl⟩ := List.cons.inj e
    exact .cons (keyOf_rp e1) (.cons h (kv_flat ⟨e2, t2⟩))
theorem noRef_flat : ∀ {kvs : List (D × D)} {kv : List (Key × V)}, KvR K μ H kvs kv → noRefL (kvs.map (·.2)) = true → noRefL (kvFlat kvs) = true
  | [], _, _, _ => rfl
  | _ :: _, [], h, _ => nomatch h.1
  | (x, v) :: r, (k, u) :: q, ⟨h1, h2⟩, h3 => by
    obtain ⟨e1, e2⟩ := List.cons.inj h1
    obtain ⟨y, t, e, h, t2⟩ := h2
    obtain ⟨rfl, rfl⟩ := List.cons.inj e
    rw [List.map_cons] at h3
    unfold noRefL at h3
    rw [Bool.and_eq_true] at h3
    unfold kvFlat noRefL noRefL
    rw [Bool.and_eq_true, Bool.and_eq_true]
    exact ⟨keyOf_no e1, h3.1, noRef_flat ⟨e2, t2⟩ h3.2⟩
/-! ### .. whose keys are tuples -/
mutual
theorem KeyIs.of : ∀ {d : D} {v : V} {k : NestedKey}, nkey d = some k → Rp K μ H d v → KeyIs H k v
  | .non, _, _, e, h => by unfold nkey at e; cases e; exact h
  | .bl b, _, _, e, h => by unfold nkey at e; cases e; exact .inr ⟨b, h, rfl⟩
  | .int _, _, _, e, h => by unfold nkey at e; cases e; exact .inl h
  | .str _, _, _, e, h => by unfold nkey at e; cases e; exact h
  | .tup ds, _, _, e, ⟨a, xs, ev, h, r⟩ => by
    unfold nkey at e
    obtain ⟨ks, e1, rfl⟩ := Option.map_eq_some_iff.mp e
    exact ⟨a, xs, ev, h, KeyAll.of e1 r⟩
  | .fl ds, _, _, e, _ => by unfold nkey at e; cases e
  | .ref n, _, _, e, _ => by unfold nkey at e; cases e
  | .ed, _, _, e, _ => by unfold nkey at e; cases e
  | .ob _ _ _, _, _, e, _ => by unfold nkey at e; cases e
theorem KeyAll.of : ∀ {ds : List D} {vs : List V} {ks : List NestedKey}, nkeys ds = some ks → RpL K μ H ds vs → KeyAll H ks vs
  | [], _, _, e, h => by unfold nkeys at e; cases e; exact h
  | d :: ds, _, ks, e, ⟨x, r, ev, h, t⟩ => by
    unfold nkeys at e
    cases e1 : nkey d with
    | none => rw [e1] at e; cases e
    | some a =>
      cases e2 : nkeys ds with
      | none => rw [e1, e2] at e; cases e
      | some as =>
        rw [e1, e2] at e
        cases e
        exact ⟨x, r, ev, KeyIs.of e1 h, KeyAll.of e2 t⟩
end
omit [Wd] in
mutual
theorem nkey_no : ∀ {d : D} {k : NestedKey}, nkey d = some k → noRef d = true
  | .non, _, _ => rfl
  | .bl _, _, _ => rfl
  | .int _, _, _ => rfl
  | .str _, _, _ => rfl
  | .tup ds, _, e => by
    unfold nkey at e
    obtain ⟨ks, e1, rfl⟩ := Option.map_eq_some_iff.mp e
    unfold noRef
    exact nkeys_no e1
  | .fl ds, _, e => by unfold nkey at e; cases e
  | .ref n, _, e => by unfold nkey at e; cases e
  | .ed, _, e => by unfold nkey at e; cases e
  | .ob _ _ _, _, e => by unfold nkey at e; cases e
theorem nkeys_no : ∀ {ds : List D} {ks : List NestedKey}, nkeys ds = some ks → noRefL ds = true
  | [], _, _ => rfl
  | d :: ds, ks, e => by
    unfold nkeys at e
    cases e1 : nkey d with
    | none => rw [e1] at e; cases e
    | some a =>
      cases e2 : nkeys ds with
      | none => rw [e1, e2] at e; cases e
      | some as => unfold noRefL; rw [nkey_no e1, nkeys_no e2]; rfl
end
omit [Wd] in
theorem kKey_n {d : D} {k : NestedKey} (e : kKey d = some k) : nkey d = some k ∧ k.depth ≤ 8 ∧ ∃ ds, d = .tup ds := by
  cases d with
  | tup xs =>
    replace e : ((nkeys xs).bind fun ks => if (NestedKey.tup ks).depth ≤ 8 then some (NestedKey.tup ks) else none) = some k := e
    cases e1 : nkeys xs with
    | none => rw [e1] at e; cases e
    | some ks =>
      rw [e1] at e
      replace e : (if (NestedKey.tup ks).depth ≤ 8 then some (NestedKey.tup ks) else none) = some k := e
      by_cases c : (NestedKey.tup ks).depth ≤ 8
      · rw [if_pos c] at e
        cases e
        exact ⟨by unfold nkey; rw [e1]; rfl, c, xs, rfl⟩
      · rw [if_neg c] at e; cases e
  | _ => cases e
omit [Wd] in
theorem kKey_no {d : D} {k : NestedKey} (e : kKey d = some k) : noRef d = true := nkey_no (kKey_n e).1
theorem KcR.keys : ∀ {kvs : List (D × D)} {kv : List (NestedKey × Addr × V)}, KcR K μ H kvs kv → ∀ p ∈ kv, KeyIs H p.1 (.ref p.2.1) ∧ p.1.depth ≤ 8
  | [], [], _ => fun p hp => nomatch hp
  | [], _ :: _, h => nomatch h.1
  | _ :: _, [], h => nomatch h.1
  | (x, v) :: r, (k, a, u) :: q, ⟨h1, h2, h3⟩ => by
    obtain ⟨e1, e2⟩ := List.cons.inj h1
    obtain ⟨y, t, e, g, t2⟩ := h2
    obtain ⟨rfl, rfl⟩ := List.cons.inj e
    obtain ⟨y, t, e, _, t3⟩ := h3
    obtain ⟨rfl, rfl⟩ := List.cons.inj e
    obtain ⟨n1, n2, _⟩ := kKey_n e1
    intro p hp
    rcases List.mem_cons.mp hp with rfl | hp
    · exact ⟨.of n1 g, n2⟩
    · exact KcR.keys ⟨e2, t2, t3⟩ p hp
theorem kc_flat : ∀ {kvs : List (D × D)} {kv : List (NestedKey × Addr × V)}, KcR K μ H kvs kv → RpL K μ H (kvFlat kvs) (kcFlatV kv)
  | [], [], _ => RpL.nil
  | [], _ :: _, h => nomatch h.1
  | _ :: _, [], h => nomatch h.1
  | (x, v) :: r, (k, a, u) :: q, ⟨h1, h2, h3⟩ => by
    obtain ⟨e1, e2⟩ := List.cons.inj h1
    obtain ⟨y, t, e, g, t2⟩ := h2
    obtain ⟨rfl, rfl⟩ := List.cons.inj e
    obtain ⟨y, t, e, g3, t3⟩ := h3
    obtain ⟨rfl, rfl⟩ := List.cons.inj e
    exact .cons g (.cons g3 (kc_flat ⟨e2, t2, t3⟩))
theorem noRef_flatK : ∀ {kvs : List (D × D)} {kv : List (NestedKey × Addr × V)}, KcR K μ H kvs kv → noRefL (kvs.map (·.2)) = true → noRefL (kvFlat kvs) = true
  | [], _, _, _ => rfl
  | _ :: _, [], h, _ => nomatch h.1
  | (x, v) :: r, (k, a, u) :: q, ⟨h1, h2, h4⟩, h3 => by
    obtain ⟨e1, e2⟩ := List.cons.inj h1
    obtain ⟨y, t, e, h, t2⟩ := h2
    obtain ⟨rfl, rfl⟩ := List.cons.inj e
    obtain ⟨y, t, e, _, t4⟩ := h4
    obtain ⟨rfl, rfl⟩ := List.cons.inj e
    rw [List.map_cons] at h3
    unfold noRefL at h3
    rw [Bool.and_eq_true] at h3
    unfold kvFlat noRefL noRefL
    rw [Bool.and_eq_true, Bool.and_eq_true]
    exact ⟨kKey_no e1, h3.1, noRef_flatK ⟨e2, t2, t4⟩ h3.2⟩
theorem noRef_keys : ∀ {kvs : List (D × D)} {kv : List (NestedKey × Addr × V)}, KcR K μ H kvs kv → noRefL (kvs.map (·.1)) = true
  | [], _, _ => rfl
  | _ :: _, [], h => nomatch h.1
  | (x, v) :: r, (k, a, u) :: q, ⟨h1, h2, h4⟩ => by
    obtain ⟨e1, e2⟩ := List.cons.inj h1
    obtain ⟨y, t, e, h, t2⟩ := h2
    obtain ⟨rfl, rfl⟩ := List.cons.inj e
    obtain ⟨y, t, e, _, t4⟩ := h4
    obtain ⟨rfl, rfl⟩ := List.cons.inj e
    rw [List.map_cons]
    unfold noRefL
    rw [Bool.and_eq_true]
    exact ⟨kKey_no e1, noRef_keys ⟨e2, t2, t4⟩⟩
/-! ### places below -/
mutual
theorem Rp.below : ∀ {d : D} {v : V}, Rp K μ H d v → below μ.length d = true
  | .non, _, _ => rfl
  | .bl _, _, _ => rfl
  | .int _, _, _ => rfl
  | .str _, _, _ => rfl
  | .tup ds, _, ⟨_, _, _, _, r⟩ => RpL.below r
  | .fl ds, _, ⟨_, _, _, _, r⟩ => RpL.below r
  | .ref n, _, ⟨a, _, h⟩ => decide_eq_true (List.getElem?_eq_some_iff.mp h).1
  | .ed, _, _ => rfl
  | .ob _ _ ds, _, ⟨_, _, _, _, r⟩ => RpL.below r
theorem RpL.below : ∀ {ds : List D} {vs : List V}, RpL K μ H ds vs → belowL μ.length ds = true
  | [], _, _ => rfl
  | d :: ds, _, ⟨y, r, e, h, t⟩ => by unfold belowL; rw [Rp.below h, RpL.below t]; rfl
end
omit [Wd] in
theorem belowL_iff {n : Nat} : ∀ {ds : List D}, belowL n ds = true ↔ ∀ d ∈ ds, RV.below n d = true
  | [] => by simp [belowL]
  | d :: ds => by unfold belowL; rw [Bool.and_eq_true, belowL_iff]; simp
omit [Wd] in
theorem belowL_app {n : Nat} {ds es : List D} (h : belowL n ds = true) (k : belowL n es = true) : belowL n (ds ++ es) = true := by
  rw [belowL_iff] at *
  intro d hd
  rcases List.mem_append.mp hd with z | z
  · exact h d z
  · exact k d z
omit [Wd] in
theorem belowL_set {n j : Nat} {ds : List D} {d : D} (h : belowL n ds = true) (k : RV.below n d = true) : belowL n (ds.set j d) = true := by
  rw [belowL_iff] at *
  intro e he
  rcases List.mem_or_eq_of_mem_set he with z | z
  · exact h e z
  · rw [z]; exact k
mutual
/-- what holds only places below k stands under any store that agrees there -/
theorem Rp.cut {ν : List Addr} (hν : ∀ n a, n < k → μ[n]? = some a → ν[n]? = some a) : ∀ {d : D} {v : V}, below k d = true → Rp K μ H d v → Rp K ν H d v
  | .non, _, _, h => h
  | .bl _, _, _, h => h
  | .int _, _, _, h => h
  | .str _, _, _, h => h
  | .tup ds, _, b, ⟨a, xs, e, h, r⟩ => ⟨a, xs, e, h, RpL.cut hν b r⟩
  | .fl ds, _, b, ⟨a, xs, e, h, r⟩ => ⟨a, xs, e, h, RpL.cut hν b r⟩
  | .ref n, _, b, ⟨a, e, h⟩ => ⟨a, e, hν n a (of_decide_eq_true b) h⟩
  | .ed, _, _, h => h
  | .ob _ _ ds, _, b, ⟨a, xs, e, h, r⟩ => ⟨a, xs, e, h, RpL.cut hν b r⟩
theorem RpL.cut {ν : List Addr} (hν : ∀ n a, n < k → μ[n]? = some a → ν[n]? = some a) : ∀ {ds : List D} {vs : List V}, belowL k ds = true → RpL K μ H ds vs → RpL K ν H ds vs
  | [], _, _, h => h
  | _ :: _, _, b, ⟨y, r, e, h, t⟩ => by
    unfold belowL at b
    rw [Bool.and_eq_true] at b
    exact ⟨y, r, e, Rp.cut hν b.1 h, RpL.cut hν b.2 t⟩
end
omit [Wd] in
mutual
theorem noRef_below : ∀ {d : D}, noRef d = true → RV.below 0 d = true
  | .non, _ => rfl
  | .bl _, _ => rfl
  | .int _, _ => rfl
  | .str _, _ => rfl
  | .tup ds, h => noRefL_below (by unfold noRef at h; exact h)
  | .fl ds, h => noRefL_below (by unfold noRef at h; exact h)
  | .ref n, h => by unfold noRef at h; cases h
  | .ed, _ => rfl
  | .ob _ _ ds, h => noRefL_below (by unfold noRef at h; exact h)
theorem noRefL_below : ∀ {ds : List D}, noRefL ds = true → belowL 0 ds = true
  | [], _ => rfl
  | d :: ds, h => by
    unfold noRefL at h
    rw [Bool.and_eq_true] at h
    unfold belowL
    rw [noRef_below h.1, noRefL_below h.2]
    rfl
end
omit [Wd] in
mutual
theorem below_mono {m n : Nat} (hmn : m ≤ n) : ∀ {d : D}, RV.below m d = true → RV.below n d = true
  | .non, _ => rfl
  | .bl _, _ => rfl
  | .int _, _ => rfl
  | .str _, _ => rfl
  | .tup ds, h => belowL_mono hmn (by unfold RV.below at h; exact h)
  | .fl ds, h => belowL_mono hmn (by unfold RV.below at h; exact h)
  | .ref k, h => by unfold RV.below at h ⊢; exact decide_eq_true (Nat.lt_of_lt_of_le (of_decide_eq_true h) hmn)
  | .ed, _ => rfl
  | .ob _ _ ds, h => belowL_mono hmn (by unfold RV.below at h; exact h)
theorem belowL_mono {m n : Nat} (hmn : m ≤ n) : ∀ {ds : List D}, belowL m ds = true → belowL n ds = true
  | [], _ => rfl
  | d :: ds, h => by
    unfold belowL at h
    rw [Bool.and_eq_true] at h
    unfold belowL
    rw [below_mono hmn h.1, belowL_mono hmn h.2]
    rfl
end
/-- without places: under any store -/
theorem Rp.any {ν : List Addr} {d : D} {v : V} (h : noRef d = true) (r : Rp K μ H d v) : Rp K ν H d v := r.cut (k := 0) (fun n _ z => absurd z (Nat.not_lt_zero n)) (noRef_below h)
theorem RpL.any {ν : List Addr} {d : List D} {v : List V} (h : noRefL d = true) (r : RpL K μ H d v) : RpL K ν H d v := r.cut (k := 0) (fun n _ z => absurd z (Nat.not_lt_zero n)) (noRefL_below h)

/-! ### steps of the heap -/
/-- a new object that is no store's: a tuple, a range .. -/
theorem ext_new {p : Addr} {o : HO} (S : RpS K μ H st) (hp : H p = none) : Ext μ H μ (upd H p o) :=
  ⟨⟨[], by simp⟩, fun b u e n _ => ⟨by rw [upd_ne (ne_of_none e hp)]; exact e, n⟩⟩
theorem OkO.ntc {a : Addr} {o : O} (h : OkO K μ H a o) : ∃ u, H a = some u ∧ NTc u := by
  cases o with
  | lst ds =>
    obtain ⟨xs, h1, _⟩ := h
    exact ⟨_, h1, ntc_lst⟩
  | dct kvs =>
    obtain ⟨_, h1, _⟩ := h
    exact ⟨_, h1, ntc_dk⟩
  | kct kvs =>
    obtain ⟨_, h1, _⟩ := h
    exact ⟨_, h1, ntc_ko⟩
theorem RpS.ntc (S : RpS K μ H st) {a : Addr} (h : a ∈ μ) : ∃ u, H a = some u ∧ NTc u := by
  obtain ⟨n, o, _, _, ok⟩ := S.mem h
  exact ok.ntc
theorem OkO.ext {a : Addr} {o : O} (S : RpS K μ H st) (x : Ext μ H μ' H') (e : H' a = H a) (h : OkO K μ H a o) : OkO K μ' H' a o := by
  cases o with
  | lst ds =>
    obtain ⟨xs, h1, r⟩ := h
    exact ⟨xs, e.trans h1, r.ext S x⟩
  | dct kvs =>
    obtain ⟨kv, h1, h2, h3⟩ := h
    exact ⟨kv, e.trans h1, ⟨h2.1, h2.2.ext S x⟩, h3⟩
  | kct kvs =>
    obtain ⟨kv, h1, h2, h3⟩ := h
    exact ⟨kv, e.trans h1, ⟨h2.1, h2.2.1.ext S x, h2.2.2.ext S x⟩, h3⟩
theorem RpS.new {p : Addr} {o : HO} (S : RpS K μ H st) (hp : H p = none) : RpS K μ (upd H p o) st :=
  ⟨S.len, S.nd, fun n u e => by
    obtain ⟨a, h1, h2⟩ := S.ob n u e
    have ha : a ≠ p := fun z => S.live (List.mem_of_getElem? h1) (by rw [z]; exact hp)
    exact ⟨a, h1, h2.ext S (ext_new S hp) (upd_ne ha)⟩, S.wf, tabs_new S.tb hp⟩
/-- a new object of the store -/
theorem ext_alloc {p : Addr} {o : HO} (S : RpS K μ H st) (hp : H p = none) : Ext μ H (μ ++ [p]) (upd H p o) :=
  ⟨⟨[p], rfl⟩, fun b u e n _ => ⟨by rw [upd_ne (ne_of_none e hp)]; exact e, fun z => by
    rcases List.mem_append.mp z with z | z
    · exact n z
    · have : b = p := by simpa using z
      subst this
      rw [hp] at e; cases e⟩⟩
theorem RpS.alloc {p : Addr} {o : HO} {u : O} (S : RpS K μ H st) (hp : H p = none) (hu : OkO K (μ ++ [p]) (upd H p o) p u) (hb : u.below st.length = true) : RpS K (μ ++ [p]) (upd H p o) (st ++ [u]) := by
  have X := ext_alloc (o := o) S hp
  have np : p ∉ μ := fun z => S.live z hp
  refine ⟨by simp [S.len], ?_, fun n w e => ?_, fun n w e => ?_, tabs_new S.tb hp⟩
  rotate_left 2
  · by_cases hn : n < st.length
    · rw [List.getElem?_append_left hn] at e
      exact S.wf n w e
    · have hl : n < (st ++ [u]).length := (List.getElem?_eq_some_iff.mp e).1
      have : n = st.length := by simp at hl; omega
      subst this
      simp at e
      subst e
      exact hb
  · rw [List.nodup_append]
    exact ⟨S.nd, by simp, fun a ha b hb => by simp at hb; subst hb; exact fun z => np (z ▸ ha)⟩
  · by_cases hn : n < st.length
    · rw [List.getElem?_append_left hn] at e
      obtain ⟨a, h1, h2⟩ := S.ob n w e
      have ha : a ≠ p := fun z => np (z ▸ List.mem_of_getElem? h1)
      exact ⟨a, X.get h1, h2.ext S X (upd_ne ha)⟩
    · have hl : n < (st ++ [u]).length := (List.getElem?_eq_some_iff.mp e).1
      have : n = st.length := by simp at hl; omega
      subst this
      simp at e
      subst e
      refine ⟨p, ?_, hu⟩
      rw [← S.len]; simp
/-- a list of the store is written -/
theorem ext_put {n : Nat} {a : Addr} {o : HO} (S : RpS K μ H st) (ha : μ[n]? = some a) : Ext μ H μ (upd H a o) :=
  ⟨⟨[], by simp⟩, fun b u e nb _ => ⟨by rw [upd_ne (by intro z; subst z; exact nb (List.mem_of_getElem? ha))]; exact e, nb⟩⟩
theorem RpS.put {n : Nat} {a : Addr} {ds : List D} {xs : List V} (S : RpS K μ H st) (ha : μ[n]? = some a) (r : RpL K μ H ds xs) (hb : belowL n ds = true) : RpS K μ (upd H a (.lst xs)) (st.set n (.lst ds)) := by
  have X := ext_put (o := .lst xs) S ha
  refine ⟨by simp [S.len], S.nd, fun m w e => ?_, fun m w e => ?_, (S.ntc (List.mem_of_getElem? ha)).elim fun u q => tabs_put S.tb q.1 q.2⟩
  rotate_left
  · by_cases hm : m = n
    · subst hm
      have hl : m < st.length := by rw [← S.len]; exact (List.getElem?_eq_some_iff.mp ha).1
      rw [List.getElem?_set_self hl] at e
      cases e
      exact hb
    · rw [List.getElem?_set_ne (Ne.symm hm)] at e
      exact S.wf m w e
  by_cases hm : m = n
  · subst hm
    have hl : m < st.length := by rw [← S.len]; exact (List.getElem?_eq_some_iff.mp ha).1
    rw [List.getElem?_set_self hl] at e
    cases e
    exact ⟨a, ha, xs, upd_same, r.ext S X⟩
  · rw [List.getElem?_set_ne (Ne.symm hm)] at e
    obtain ⟨b, h1, h2⟩ := S.ob m w e
    have hb : b ≠ a := fun z => by
      subst z
      have := (List.getElem?_inj (List.getElem?_eq_some_iff.mp h1).1 S.nd).mp (h1.trans ha.symm)
      exact hm this
    exact ⟨b, h1, h2.ext S X (upd_ne hb)⟩
theorem RpS.lst {n : Nat} {ds : List D} {v : V} (S : RpS K μ H st) (e : st[n]? = some (.lst ds)) (h : Rp K μ H (.ref n) v) : ∃ a xs, v = .ref a ∧ μ[n]? = some a ∧ H a = some (.lst xs) ∧ RpL K μ H ds xs := by
  obtain ⟨a, e1, e2⟩ := h
  obtain ⟨b, h1, xs, h2, h3⟩ := S.ob n _ e
  rw [e2] at h1; cases h1
  exact ⟨a, xs, e1, e2, h2, h3⟩
theorem RpS.items {n : Nat} {ds : List D} {v : V} (S : RpS K μ H st) (e : itemsAt st n = some ds) (h : Rp K μ H (.ref n) v) : ∃ a xs, v = .ref a ∧ μ[n]? = some a ∧ H a = some (.lst xs) ∧ RpL K μ H ds xs := by
  unfold itemsAt at e
  split at e
  · cases e; exact S.lst (by assumption) h
  · cases e
end
end RV

/-! R3: operations on values. -/
namespace RV
open PySem L2
variable [Wd]

/-! ### what a run says -/
section
variable {α β : Type} {st st' : Sto}
theorem bind_ok {m : M α} {f : α → M β} {b : β} : M.bind m f st = .ok b st' ↔ ∃ a s1, m st = .ok a s1 ∧ f a s1 = .ok b st' := by
  unfold M.bind
  cases h : m st with
  | ok a s1 => simp; exact ⟨fun e => ⟨a, s1, ⟨rfl, rfl⟩, e⟩, fun ⟨_, _, ⟨rfl, rfl⟩, e⟩ => e⟩
  | bad => simp
theorem pure_ok {a b : α} : M.pure a st = .ok b st' ↔ a = b ∧ st = st' := by simp [M.pure]
theorem bad_ok {a : α} : (bad : M α) st = .ok a st' ↔ False := by simp [bad]
theorem guard_ok {c : Bool} {u : Unit} : guard c st = .ok u st' ↔ c = true ∧ st = st' := by
  unfold guard; cases c <;> simp
theorem alloc_ok {o : O} {d : D} : alloc o st = .ok d st' ↔ d = .ref st.length ∧ st' = st ++ [o] := by
  unfold alloc; simp; constructor <;> (rintro ⟨a, b⟩; exact ⟨a.symm, b.symm⟩)
theorem getL_ok {n : Nat} {xs : List D} : getL n st = .ok xs st' ↔ itemsAt st n = some xs ∧ st = st' := by
  unfold getL; cases itemsAt st n <;> simp
theorem getM_ok {n : Nat} {xs : List D} : getM n st = .ok xs st' ↔ st[n]? = some (.lst xs) ∧ st = st' := by
  unfold getM
  split
  · rename_i h; rw [h]; simp
  · rename_i h; simp; intro e; exact absurd e (h _)
theorem putL_ok {n : Nat} {xs : List D} {u : Unit} : putL n xs st = .ok u st' ↔ st' = st.set n (.lst xs) := by
  unfold putL; simp; exact eq_comm
theorem ofO_ok {o : Option α} {a : α} : ofO o st = .ok a st' ↔ o = some a ∧ st = st' := by
  unfold ofO; cases o <;> simp [bad, M.pure]
theorem asPy_ok {d : D} {p : PyData} : asPy d st = .ok p st' ↔ toPy st deep d = some p ∧ st = st' := by
  unfold asPy; cases toPy st deep d <;> simp
end

/-! ### readings -/
def Post (K : PySem.W.Frag) (μ : List Addr) (H : Hp) (st' : Sto) (d : D) (Q : VK) : Prop := ∀ μ' H' v, Ext μ H μ' H' → RpS K μ' H' st' → Rp K μ' H' d v → Q v H'
section
variable {K : PySem.W.Frag} {μ : List Addr} {H : Hp} {st : Sto} {d : D} {Q : VK}
theorem Post.here {v : V} (P : Post K μ H st d Q) (S : RpS K μ H st) (h : Rp K μ H d v) : Q v H := P μ H v .refl S h
theorem Post.tup {ds : List D} {xs : List V} {p : Addr} {o : Obj} (P : Post K μ H st (.tup ds) Q) (S : RpS K μ H st) (r : RpL K μ H ds xs) (hp : H p = none) (hd : o.dict = none) : Q (.ref p) (upd H p (.frz o (.tup xs))) :=
  P μ _ _ (ext_new S hp) (S.new hp) ⟨p, xs, rfl, ⟨o, upd_same, hd⟩, r.ext S (ext_new S hp)⟩
theorem Post.lst {ds : List D} {xs : List V} {p : Addr} (P : Post K μ H (st ++ [.lst ds]) (.ref st.length) Q) (S : RpS K μ H st) (r : RpL K μ H ds xs) (hp : H p = none) : Q (.ref p) (upd H p (.lst xs)) :=
  P (μ ++ [p]) _ _ (ext_alloc S hp) (S.alloc hp ⟨xs, upd_same, r.ext S (ext_alloc S hp)⟩ (by rw [← S.len]; exact r.below)) ⟨p, rfl, by rw [← S.len]; simp⟩
theorem Post.put {n : Nat} {a : Addr} {ds : List D} {xs : List V} {v : V} (P : Post K μ H (st.set n (.lst ds)) d Q) (S : RpS K μ H st) (ha : μ[n]? = some a) (r : RpL K μ H ds xs) (h : Rp K μ H d v) (hb : belowL n ds = true) : Q v (upd H a (.lst xs)) :=
  P μ _ _ (ext_put S ha) (S.put ha r hb) (h.ext S (ext_put S ha))
end
/-- a new tuple is laid -/
theorem fin_tup {X : Cx} {pins : List (Addr × Obj)} {σ : L2.St} {s : Shared} {H : Hp} {μ : List Addr} {st : Sto} {Q : VK} {ds : List D} {xs : List V} {its : List Value} {t : Nat} (I : Inv X pins σ H s) (S : RpS X.K μ H st) (P : Post X.K μ H st (.tup ds) Q)
    (rd : RpL X.K μ H ds xs) (rv : Vals xs its) (hz : xs.length ≤ sizeLine) : EP X pins σ Q (.ref s.heap.objs.size) { s with heap := s.heap.push { cls := .type "tuple", data := .seq its.toArray }, toks := t } := by
  have hn := I.hok.fresh (Nat.le_refl s.heap.objs.size)
  refine ⟨.ref s.heap.objs.size, _, ?_, rfl, P.tup (o := { cls := .type "tuple", data := .seq its.toArray }) S rd hn rfl⟩
  have e0 : (s.heap.push { cls := .type "tuple", data := .seq its.toArray }).get? s.heap.objs.size = some { cls := .type "tuple", data := .seq its.toArray } := Heap.get?_push_size _ rfl
  exact I.laid (t' := t) (fun b o q => Heap.get?_push_of_some _ q) (Nat.le_refl _) ⟨e0, hz, its, rv, ⟨_, e0, rfl, _, rfl⟩⟩
theorem fin_tup0 {X : Cx} {pins : List (Addr × Obj)} {σ : L2.St} {s : Shared} {H : Hp} {μ : List Addr} {st : Sto} {Q : VK} {ds : List D} {xs : List V} {its : List Value} (I : Inv X pins σ H s) (S : RpS X.K μ H st) (P : Post X.K μ H st (.tup ds) Q)
    (rd : RpL X.K μ H ds xs) (rv : Vals xs its) (hz : xs.length ≤ sizeLine) : EP X pins σ Q (.ref s.heap.objs.size) { s with heap := s.heap.push { cls := .type "tuple", data := .seq its.toArray } } := fin_tup (t := s.toks) I S P rd rv hz
/-- a list that is read: its object -/
def LsR (K : PySem.W.Frag) (H : Hp) (a : Addr) (xs : List V) : Prop := SqF K H a xs ∨ H a = some (.lst xs)
theorem ls_obj {X : Cx} {pins : List (Addr × Obj)} {σ : L2.St} {s : Shared} {H : Hp} {a : Addr} {xs : List V} (I : Inv X pins σ H s) (h : LsR X.K H a xs) : ∃ (its : List Value) (n : Nat), Vals xs its ∧ xs.length ≤ sizeLine ∧ s.heap.get? a = some { cls := .type "list", data := .seq its.toArray n } := by
  rcases h with (⟨o, h⟩ | ⟨its, n, h, r, z⟩) | h
  · obtain ⟨e, z, its, n, r, e2⟩ := I.hok a _ h
    exact ⟨its, n, r, z, e2⟩
  · exact ⟨its, n, r, z, I.kIn _ _ h⟩
  · obtain ⟨z, its, n, r, e2⟩ := I.hok a _ h
    exact ⟨its, n, r, z, e2⟩
theorem lsOf_lsr {K : PySem.W.Frag} {μ : List Addr} {H : Hp} {st st' : Sto} {d : D} {xs : List D} {v : V} (S : RpS K μ H st) (e : lsOf d st = .ok xs st') (h : Rp K μ H d v) : st' = st ∧ ∃ a vs, v = .ref a ∧ LsR K H a vs ∧ RpL K μ H xs vs := by
  unfold lsOf at e
  split at e
  · obtain ⟨rfl, rfl⟩ := pure_ok.mp e
    obtain ⟨a, vs, rfl, h1, h2⟩ := h
    exact ⟨rfl, a, vs, rfl, .inl h1, h2⟩
  · obtain ⟨e1, rfl⟩ := getL_ok.mp e
    obtain ⟨a, vs, rfl, _, h1, h2⟩ := S.items e1 h
    exact ⟨rfl, a, vs, rfl, .inr h1, h2⟩
  · cases e
theorem op_catL {X : Cx} : OpR X (binaryOp .Add) (fun x y H Q => ∃ a b xs zs, x = .ref a ∧ y = .ref b ∧ LsR X.K H a xs ∧ LsR X.K H b zs ∧ xs.length + zs.length ≤ sizeLine ∧ ∀ p, H p = none → Q (.ref p) (upd H p (.lst (xs ++ zs)))) := by
  intro pins s σ H x y v u Q I rx ry h
  obtain ⟨l, b, xs, zs, rfl, rfl, hH, hB, hz, q⟩ := h
  cases rx
  cases ry
  obtain ⟨its, n, r, _, e⟩ := ls_obj I hH
  obtain ⟨its2, n2, r2, _, e2⟩ := ls_obj I hB
  have hl := r.length
  have hl2 := r2.length
  refine PySem.P.add_list e e2 ?_ (by rw [List.size_toArray, List.size_toArray]; omega)
  have ea : its.toArray ++ its2.toArray = (its ++ its2).toArray := by simp
  rw [ea]
  exact ⟨.ref _, _, I.lnew (t' := s.toks) (r.append r2) (by rw [List.length_append]; omega), rfl, q _ I.fresh⟩
theorem op_repL {X : Cx} : OpR X (binaryOp .Mult) (fun x y H Q => ∃ l k xs, x = .ref l ∧ y = .int k ∧ LsR X.K H l xs ∧ -(2 ^ 63) ≤ k ∧ k < 2 ^ 63 ∧ xs.length * k.toNat ≤ sizeLine ∧
  ∀ p, H p = none → Q (.ref p) (upd H p (.lst (List.replicate k.toNat xs).flatten))) := by
  intro pins s σ H x y v u Q I rx ry h
  obtain ⟨l, k, xs, rfl, rfl, hH, h1, h2, hz, q⟩ := h
  cases rx
  obtain ⟨t, rfl⟩ := ry
  obtain ⟨its, n, r, _, e⟩ := ls_obj I hH
  have hl := r.length
  have hlen : its.toArray.size * k.toNat ≤ sizeLine := by rw [List.size_toArray, ← hl]; exact hz
  have hcap : ¬ its.toArray.size * k.toNat > (2 ^ 63 - 1) / 8 := by
    have : (sizeLine : Nat) ≤ (2 ^ 63 - 1) / 8 := by decide
    omega
  have hfit : ¬ (!Builtin.List.listFitsIndex k) = true := by
    rw [fitsIndex_both h1 h2]
    exact Bool.false_ne_true
  have hlong : ¬ Builtin.List.listTooLong (its.toArray.size * k.toNat) = true := by
    rw [notLongL hlen]
    exact Bool.false_ne_true
  have hnew : List.foldl (fun x1 x2 => x1 ++ x2) #[] (List.replicate (if its.toArray.isEmpty = true then 0 else k.toNat) its.toArray) = (List.replicate k.toNat its).flatten.toArray := by
    have f0 : ∀ m : Nat, List.foldl (fun x1 x2 => x1 ++ x2) #[] (List.replicate m its.toArray) = (List.replicate m its).flatten.toArray := fun m => by
      have := foldl_rep its m []
      rw [List.nil_append] at this
      exact this
    rw [f0]
    cases its with
    | nil => simp
    | cons a r' => rw [if_neg (by simp)]
  refine PySem.wpAny_binaryOp_repeat_ref (T := "list") (U := "int") (by decide) ⟨_, e, rfl⟩ (fun s' => PySem.typeIs_int s' k t) PySem.noFill_list_mul PySem.F.fills_int_mul PySem.F.slot_int_rmul PySem.repeat_list PySem.F.slot_int_index.lookup
    (call_meets PySem.F.slot_int_rmul (PySem.typeIs_int s k t) PySem.F.entry_int_rmul (PySem.F.args_int_rmul_2 _ _) (int___rmul___int_list k t l its.toArray n)
      ⟨e, rfl, ⟨_, e, rfl⟩, call_meets PySem.F.slot_list_mul ⟨_, e, rfl⟩ PySem.F.entry_list_mul (PySem.F.args_list_mul_2 _ _) (PySem.AutoListH.list___mul___list_int_3 l its.toArray n k t hfit hcap hlong) ⟨e, ?_⟩⟩)
  rw [hnew]
  exact ⟨.ref _, _, I.lnew (t' := s.toks) (r.rep k.toNat) (by rw [PyProof.Rows.lm_len_rep_flat, Nat.mul_comm]; exact hz), rfl, q _ I.fresh⟩
/-- an operation of two values -/
def rV (K : PySem.W.Frag) (f : D → D → M D) : R2 := fun vx vy H Q => ∃ μ st x y d st', RpS K μ H st ∧ Rp K μ H x vx ∧ Rp K μ H y vy ∧ f x y st = .ok d st' ∧ Post K μ H st' d Q
section
variable {X : Cx}
theorem add_v : OpR X (binaryOp .Add) (rV X.K add) := by
  intro pins s σ H vx vy v u Q I rx ry ⟨μ, st, x, y, d, st', S, hx, hy, e, P⟩
  unfold add at e
  split at e
  · simp only [pure_ok] at e; obtain ⟨rfl, rfl⟩ := e
    exact op_add pins s σ H vx vy v u Q I rx ry ⟨_, _, hx, hy, P.here S rfl⟩
  · simp only [pure_ok] at e; obtain ⟨rfl, rfl⟩ := e
    exact op_add_ib pins s σ H vx vy v u Q I rx ry ⟨_, _, hx, hy, P.here S rfl⟩
  · simp only [bind_ok, guard_ok, pure_ok, decide_eq_true_eq] at e; obtain ⟨_, _, ⟨h1, rfl⟩, rfl, rfl⟩ := e
    exact op_add_str pins s σ H vx vy v u Q I rx ry ⟨_, _, hx, hy, h1, P.here S rfl⟩
  · simp only [bind_ok, guard_ok, pure_ok, decide_eq_true_eq] at e; obtain ⟨_, _, ⟨h1, rfl⟩, rfl, rfl⟩ := e
    obtain ⟨a, xs, rfl, ha, ra⟩ := hx
    obtain ⟨b, ys, rfl, hb, rb⟩ := hy
    cases rx
    cases ry
    obtain ⟨its, r1, p1, z1⟩ := I.tuple ha.t
    obtain ⟨jts, r2, p2, z2⟩ := I.tuple hb.t
    by_cases hx : xs = []
    · subst hx
      cases r1
      exact cat_tup0 p1 p2 ⟨.ref b, H, I, rfl, P.here S ⟨b, ys, rfl, hb, by simpa using ra.append rb⟩⟩
    · have hv : its ≠ [] := fun z => hx (r1.nil_iff.mp z)
      refine HT.cat_tup p1 p2 hv (fun z => ?_) (fun _ => ?_) (by rw [← r1.length, ← r2.length, ra.length, rb.length]; exact h1)
      · have hy : ys = [] := r2.nil_iff.mp z
        subst hy
        exact ⟨.ref a, H, I, rfl, P.here S ⟨a, xs, rfl, ha, by simpa using ra.append rb⟩⟩
      · exact fin_tup0 I S P (ra.append rb) (r1.append r2) (by rw [List.length_append, ra.length, rb.length]; exact h1)
  · simp only [bind_ok, guard_ok, alloc_ok, decide_eq_true_eq] at e
    obtain ⟨ds, _, e1, es, _, e2, _, _, ⟨h1, rfl⟩, rfl, rfl⟩ := e
    obtain ⟨rfl, a, xs, rfl, ha, ra⟩ := lsOf_lsr S e1 hx
    obtain ⟨rfl, b, ys, rfl, hb, rb⟩ := lsOf_lsr S e2 hy
    exact op_catL pins s σ H _ _ v u Q I rx ry ⟨a, b, xs, ys, rfl, rfl, ha, hb, by rw [ra.length, rb.length]; exact h1, fun p hp => P.lst S (ra.append rb) hp⟩
/-- t * k -/
theorem rep_tup {prog : Program} {w : World} {A : Around} {E : Value → Shared → Prop} {s : Shared} {a : Addr} {its : List Value} {k : Int} {t : Tok} {Q : Value → Shared → Prop} (ht : PyProof.Rows.IsTup s.heap a its.toArray) (hn : its ≠ []) (h1 : 2 ≤ k) (h2 : k ≤ 4000) (h3 : its.length ≤ 1000)
    (h : Q (.ref s.heap.objs.size) { s with heap := s.heap.push { cls := .type "tuple", data := .seq (List.replicate k.toNat its).flatten.toArray } }) : wpAny (model prog w) A (binaryOp .Mult (.ref a) (.int k t)) Q E s := by
  obtain ⟨⟨cls, dd, dt, sl⟩, ho, hc, n, hd⟩ := ht
  simp only at hc hd
  subst hc
  subst hd
  have he : its.toArray.isEmpty = false := by cases its <;> first | exact absurd rfl hn | rfl
  have hz : its.toArray.size = its.length := List.size_toArray
  have hm : ((its.toArray.size : Nat) : Int) * k ≤ 4000000 := by
    rw [hz]
    exact Int.le_trans (Int.mul_le_mul_of_nonneg_right (c := k) (show ((its.length : Nat) : Int) ≤ 1000 by omega) (by omega)) (by omega)
  have hl : (List.replicate k.toNat its).flatten.length ≤ sizeLine := by
    rw [PyProof.Rows.lm_len_rep_flat, sizeLine_eq]
    exact Nat.le_trans (Nat.mul_le_mul (by omega : _ ≤ 4000) h3) (by decide)
  have d0 : (decide (k < -(2 ^ 63)) || decide (k ≥ 2 ^ 63)) = false := by rw [Bool.or_eq_false_iff]; exact ⟨decide_eq_false (by omega), decide_eq_false (by omega)⟩
  have d1 : (its.toArray.isEmpty || k == 1) = false := by rw [he]; exact beq_eq_false_iff_ne.mpr (by omega)
  have d2 : (decide (k ≤ 0) || its.toArray.isEmpty) = false := by rw [he, decide_eq_false (by omega : ¬ k ≤ 0)]; rfl
  have d4 : Builtin.Tuple.tupleTooMany (((its.toArray.size : Nat) : Int) * k) = false := by
    unfold Builtin.Tuple.tupleTooMany
    exact decide_eq_false (by rw [sizeLine_eq]; omega)
  refine PySem.wpAny_binaryOp_repeat_ref (T := "tuple") (U := "int") (by decide) ⟨_, ho, rfl⟩ (fun q => typeIs_int q k t) noFill_tuple_mul F.fills_int_mul F.slot_int_rmul repeat_tuple F.slot_int_index.lookup ?_
  refine call_meets F.slot_int_rmul (typeIs_int s k t) F.entry_int_rmul (F.args_int_rmul_2 _ _) (int_rmul_tuple k t a its.toArray n dd sl) ⟨ho, rfl, ⟨_, ho, rfl⟩, ?_⟩
  refine call_meets F.slot_tuple_mul ⟨_, ho, rfl⟩ F.entry_tuple_mul (F.args_tuple_mul_2 _ _) (tuple_mulW a its.toArray n dd sl k t d0 d1 d2 (by omega) d4 ?_) ⟨ho, ?_⟩
  · rw [size_rep, List.size_toArray]; exact hl
  · rw [size_rep]; exact h
theorem tuple_mul1 (l : Addr) (items : Array Value) (n : Nat) (dd : Option Addr) (sl : Array (Option Value)) (x : Int) (u : Tok) (c0 : (decide (x < -(2 ^ 63)) || decide (x ≥ 2 ^ 63)) = false) (c1 : (items.isEmpty || x == 1) = true) :
    Meets (Builtin.«tuple.__mul__» ⟨[.ref l, .int x u], []⟩) (fun _ R s => s.heap.get? l = some { cls := .type "tuple", dict := dd, data := .seq items n, slots := sl } ∧ R (.ok (.ret (Value.ref l))) s) :=
  .of_wp fun prog w A R s h => by
    obtain ⟨hp, g, d, tk, os⟩ := s
    obtain ⟨hl, h⟩ := h
    have f1 := AutoSeq1.idx_int
    wp_walk using wpAny_loadPart' hl
    repeat (first
      | (refine wpAny_ite_false (decide_eq_false (by rw [c0]; exact Bool.false_ne_true)) ?_; wp_walk using wpAny_loadPart' hl)
      | (refine wpAny_ite_true (decide_eq_true (by rw [c1])) ?_; wp_walk using wpAny_loadPart' hl))
    exact ⟨_, rfl, h⟩
theorem tuple_mul0 (l : Addr) (items : Array Value) (n : Nat) (dd : Option Addr) (sl : Array (Option Value)) (x : Int) (u : Tok) (c0 : (decide (x < -(2 ^ 63)) || decide (x ≥ 2 ^ 63)) = false) (c1 : (items.isEmpty || x == 1) = false) (c2 : (decide (x ≤ 0) || items.isEmpty) = true) :
    Meets (Builtin.«tuple.__mul__» ⟨[.ref l, .int x u], []⟩) (fun _ R s => s.heap.get? l = some { cls := .type "tuple", dict := dd, data := .seq items n, slots := sl } ∧
      R (.ok (.ret (Value.ref s.heap.objs.size))) { s with heap := s.heap.push { cls := Value.type "tuple", data := Data.seq #[] }, toks := s.toks }) :=
  .of_wp fun prog w A R s h => by
    obtain ⟨hp, g, d, tk, os⟩ := s
    obtain ⟨hl, h⟩ := h
    have f1 := AutoSeq1.idx_int
    wp_walk using wpAny_loadPart' hl
    repeat (first
      | (refine wpAny_ite_false (decide_eq_false (by rw [c0]; exact Bool.false_ne_true)) ?_; wp_walk using wpAny_loadPart' hl)
      | (refine wpAny_ite_false (decide_eq_false (by rw [c1]; exact Bool.false_ne_true)) ?_; wp_walk using wpAny_loadPart' hl)
      | (refine wpAny_ite_true (decide_eq_true (by rw [c2])) ?_; wp_walk using wpAny_loadPart' hl))
    exact ⟨_, rfl, h⟩
theorem sub_v : OpR X (binaryOp .Sub) (rV X.K sub) := by
  intro pins s σ H vx vy v u Q I rx ry ⟨μ, st, x, y, d, st', S, hx, hy, e, P⟩
  unfold sub at e
  split at e
  · simp only [pure_ok] at e; obtain ⟨rfl, rfl⟩ := e
    exact op_sub pins s σ H vx vy v u Q I rx ry ⟨_, _, hx, hy, P.here S rfl⟩
  · simp [bad_ok] at e
theorem mul_v : OpR X (binaryOp .Mult) (rV X.K mul) := by
  intro pins s σ H vx vy v u Q I rx ry ⟨μ, st, x, y, d, st', S, hx, hy, e, P⟩
  unfold mul at e
  split at e
  · simp only [bind_ok, guard_ok, pure_ok, inBig, Bool.or_eq_true, Bool.and_eq_true, decide_eq_true_eq] at e; obtain ⟨_, _, ⟨h1, rfl⟩, rfl, rfl⟩ := e
    exact op_mul pins s σ H vx vy v u Q I rx ry ⟨_, _, hx, hy, h1, P.here S rfl⟩
  · simp only [bind_ok, guard_ok, pure_ok, Bool.and_eq_true, decide_eq_true_eq] at e
    obtain ⟨_, _, ⟨⟨⟨⟨h1, h2⟩, h3⟩, h4⟩, rfl⟩, rfl, rfl⟩ := e
    obtain ⟨a, xs, rfl, ha, ra⟩ := hx
    obtain rfl := (show vy = V.int _ from hy)
    cases rx
    obtain ⟨t, rfl⟩ := ry
    obtain ⟨its, r, p, hs⟩ := I.tuple ha.t
    have hle : its.length = xs.length := r.length.symm
    have hlx : xs.length = _ := ra.length
    have hne : its ≠ [] := fun z => by
      rw [z, hlx] at hle
      rw [List.eq_nil_of_length_eq_zero hle.symm] at h4
      simp at h4
    refine rep_tup p hne h1 h2 (by omega) ?_
    refine fin_tup0 I S P (ra.rep _) (r.rep _) ?_
    rw [PyProof.Rows.lm_len_rep_flat, sizeLine_eq, hlx]
    exact Nat.le_trans (Nat.mul_le_mul (by omega : _ ≤ 4000) h3) (by decide)
  · rename_i a k
    simp only [bind_ok, guard_ok, pure_ok, Bool.and_eq_true, decide_eq_true_eq] at e
    obtain ⟨_, _, ⟨⟨⟨h1, h2⟩, h3⟩, rfl⟩, rfl, rfl⟩ := e
    obtain rfl := (show vx = V.str a from hx)
    obtain rfl := (show vy = V.int k from hy)
    obtain ⟨t, rfl⟩ := rx
    obtain ⟨t2, rfl⟩ := ry
    refine SB.mul ⟨?_, fun g1 _ g2 => ?_, fun _ _ => ?_⟩ fun t' k' => ⟨.str _, H, I.tok _, ⟨_, rfl⟩, P.here S rfl⟩
    · rw [Bool.or_eq_false_iff]; exact ⟨decide_eq_false (by omega), decide_eq_false (by omega)⟩
    · have : (2 ^ 63 - 1 : Int) / 1000 ≤ (2 ^ 63 - 1) / k := by
        refine Int.le_ediv_of_mul_le (by omega) ?_
        have : (2 ^ 63 - 1 : Int) / 1000 * k ≤ (2 ^ 63 - 1) / 1000 * 1000 := Int.mul_le_mul_of_nonneg_left h2 (by decide)
        exact Int.le_trans this (by decide)
      have h4 : ((2 ^ 63 - 1 : Int) / 1000) = 9223372036854775 := by decide
      omega
    · have : a.length * k.toNat ≤ 1000 * 1000 := Nat.mul_le_mul h3 (by omega)
      show decide (_ > sizeLine) = false
      exact decide_eq_false (by rw [sizeLine_eq]; omega)
  · simp only [bind_ok, guard_ok, alloc_ok, Bool.and_eq_true, decide_eq_true_eq] at e
    obtain ⟨ds, _, e1, _, _, ⟨⟨⟨h1, h2⟩, h3⟩, rfl⟩, rfl, rfl⟩ := e
    obtain ⟨rfl, a, xs, rfl, ha, ra⟩ := lsOf_lsr S e1 hx
    exact op_repL pins s σ H _ _ v u Q I rx ry ⟨a, _, xs, rfl, hy, ha, h1, h2, by rw [ra.length]; exact h3, fun p hp => P.lst S (ra.rep _) hp⟩
  · simp [bad_ok] at e
theorem fdiv_v : OpR X (binaryOp .FloorDiv) (rV X.K fdiv) := by
  intro pins s σ H vx vy v u Q I rx ry ⟨μ, st, x, y, d, st', S, hx, hy, e, P⟩
  unfold fdiv at e
  split at e
  · simp only [bind_ok, guard_ok, pure_ok, Bool.and_eq_true, decide_eq_true_eq] at e; obtain ⟨_, _, ⟨h1, rfl⟩, rfl, rfl⟩ := e
    exact op_fdivN pins s σ H vx vy v u Q I rx ry ⟨_, _, hx, hy, h1, P.here S rfl⟩
  · simp [bad_ok] at e
theorem mod_v : OpR X (binaryOp .Mod) (rV X.K mod) := by
  intro pins s σ H vx vy v u Q I rx ry ⟨μ, st, x, y, d, st', S, hx, hy, e, P⟩
  unfold mod at e
  split at e
  · simp only [bind_ok, guard_ok, pure_ok, Bool.and_eq_true, decide_eq_true_eq] at e; obtain ⟨_, _, ⟨h1, rfl⟩, rfl, rfl⟩ := e
    exact op_modN pins s σ H vx vy v u Q I rx ry ⟨_, _, hx, hy, h1, P.here S rfl⟩
  · simp [bad_ok] at e
theorem pow_v : OpR X (binaryOp .Pow) (rV X.K pow) := by
  intro pins s σ H vx vy v u Q I rx ry ⟨μ, st, x, y, d, st', S, hx, hy, e, P⟩
  unfold pow at e
  split at e
  · simp only [bind_ok, guard_ok, pure_ok, Bool.and_eq_true, decide_eq_true_eq] at e; obtain ⟨_, _, ⟨⟨⟨h1, h2⟩, h3⟩, rfl⟩, rfl, rfl⟩ := e
    exact op_pow pins s σ H vx vy v u Q I rx ry ⟨_, _, hx, hy, ⟨h1, h2, h3⟩, P.here S rfl⟩
  · simp [bad_ok] at e
theorem mulW_v : OpR X (binaryOp .Mult) (rV X.K mulW) := by
  intro pins s σ H vx vy v u Q I rx ry ⟨μ, st, x, y, d, st', S, hx, hy, e, P⟩
  unfold mulW at e
  split at e
  · rename_i xs k
    by_cases c : (xs.isEmpty || k == 1) = true
    · rw [if_pos c] at e
      simp only [bind_ok, guard_ok, pure_ok, Bool.and_eq_true, decide_eq_true_eq] at e
      obtain ⟨_, _, ⟨⟨h1, h2⟩, rfl⟩, rfl, rfl⟩ := e
      obtain ⟨a, ws, rfl, ha, ra⟩ := hx
      obtain rfl := (show vy = V.int _ from hy)
      cases rx
      obtain ⟨t, rfl⟩ := ry
      obtain ⟨its, r, ⟨⟨cls, dd, dt, sl⟩, ho, hc, n, hd⟩, hs⟩ := I.tuple ha.t
      simp only at hc hd
      subst hc
      subst hd
      have d0 : (decide (k < -(2 ^ 63)) || decide (k ≥ 2 ^ 63)) = false := by rw [Bool.or_eq_false_iff]; exact ⟨decide_eq_false (by omega), decide_eq_false (by omega)⟩
      have d1 : (its.toArray.isEmpty || k == 1) = true := by
        rcases Bool.or_eq_true_iff.mp c with c | c
        · have e1 : its.length = 0 := by rw [← r.length, ra.length, List.isEmpty_iff.mp c]; rfl
          rw [List.eq_nil_of_length_eq_zero e1]; rfl
        · rw [c, Bool.or_true]
      refine PySem.wpAny_binaryOp_repeat_ref (T := "tuple") (U := "int") (by decide) ⟨_, ho, rfl⟩ (fun q => typeIs_int q k t) noFill_tuple_mul F.fills_int_mul F.slot_int_rmul repeat_tuple F.slot_int_index.lookup ?_
      refine call_meets F.slot_int_rmul (typeIs_int s k t) F.entry_int_rmul (F.args_int_rmul_2 _ _) (int_rmul_tuple k t a its.toArray n dd sl) ⟨ho, rfl, ⟨_, ho, rfl⟩, ?_⟩
      refine call_meets F.slot_tuple_mul ⟨_, ho, rfl⟩ F.entry_tuple_mul (F.args_tuple_mul_2 _ _) (tuple_mul1 a its.toArray n dd sl k t d0 d1) ⟨ho, ?_⟩
      exact ⟨.ref a, H, I, rfl, P.here S ⟨a, ws, rfl, ha, ra⟩⟩
    · rw [if_neg c] at e
      by_cases cz : k ≤ 0
      · rw [if_pos cz] at e
        simp only [bind_ok, guard_ok, pure_ok, decide_eq_true_eq] at e
        obtain ⟨_, _, ⟨h1, rfl⟩, rfl, rfl⟩ := e
        obtain ⟨a, ws, rfl, ha, ra⟩ := hx
        obtain rfl := (show vy = V.int _ from hy)
        cases rx
        obtain ⟨t, rfl⟩ := ry
        obtain ⟨its, r, ⟨⟨cls, dd, dt, sl⟩, ho, hc, n, hd⟩, hs⟩ := I.tuple ha.t
        simp only at hc hd
        subst hc
        subst hd
        have d0 : (decide (k < -(2 ^ 63)) || decide (k ≥ 2 ^ 63)) = false := by rw [Bool.or_eq_false_iff]; exact ⟨decide_eq_false (by omega), decide_eq_false (by omega)⟩
        have he : its.toArray.isEmpty = false := by
          cases its with
          | nil =>
            have l0 : xs.length = 0 := by rw [← ra.length, r.length]; rfl
            rw [List.eq_nil_of_length_eq_zero l0] at c
            exact absurd rfl c
          | cons _ _ => rfl
        have d1 : (its.toArray.isEmpty || k == 1) = false := by rw [he]; exact beq_eq_false_iff_ne.mpr (by omega)
        have d2 : (decide (k ≤ 0) || its.toArray.isEmpty) = true := by rw [decide_eq_true cz]; rfl
        refine PySem.wpAny_binaryOp_repeat_ref (T := "tuple") (U := "int") (by decide) ⟨_, ho, rfl⟩ (fun q => typeIs_int q k t) noFill_tuple_mul F.fills_int_mul F.slot_int_rmul repeat_tuple F.slot_int_index.lookup ?_
        refine call_meets F.slot_int_rmul (typeIs_int s k t) F.entry_int_rmul (F.args_int_rmul_2 _ _) (int_rmul_tuple k t a its.toArray n dd sl) ⟨ho, rfl, ⟨_, ho, rfl⟩, ?_⟩
        refine call_meets F.slot_tuple_mul ⟨_, ho, rfl⟩ F.entry_tuple_mul (F.args_tuple_mul_2 _ _) (tuple_mul0 a its.toArray n dd sl k t d0 d1 d2) ⟨ho, ?_⟩
        exact fin_tup0 I S P (xs := []) (its := []) .nil .nil (Nat.zero_le _)
      · rw [if_neg cz] at e
        exact mul_v pins s σ H vx vy v u Q I rx ry ⟨μ, st, .tup xs, .int k, d, st', S, hx, hy, e, P⟩
  · simp [bad_ok] at e
theorem fdivW_v : OpR X (binaryOp .FloorDiv) (rV X.K fdivW) := by
  intro pins s σ H vx vy v u Q I rx ry ⟨μ, st, x, y, d, st', S, hx, hy, e, P⟩
  unfold fdivW at e
  split at e
  · simp only [bind_ok, guard_ok, pure_ok, Bool.and_eq_true, decide_eq_true_eq] at e; obtain ⟨_, _, ⟨h1, rfl⟩, rfl, rfl⟩ := e
    exact op_fdivW pins s σ H vx vy v u Q I rx ry ⟨_, _, hx, hy, h1, P.here S rfl⟩
  · simp [bad_ok] at e
theorem mulX_v : OpR X (binaryOp .Mult) (rV X.K mulX) := by
  intro pins s σ H vx vy v u Q I rx ry ⟨μ, st, x, y, d, st', S, hx, hy, e, P⟩
  unfold mulX at e
  split at e
  · simp only [bind_ok, guard_ok, pure_ok, decide_eq_true_eq] at e; obtain ⟨_, _, ⟨h1, rfl⟩, rfl, rfl⟩ := e
    exact op_mulW pins s σ H vx vy v u Q I rx ry ⟨_, _, hx, hy, h1, P.here S rfl⟩
  · simp [bad_ok] at e
def opB : BOp → Operator
  | .add => .Add | .sub => .Sub | .mul => .Mult | .fdiv => .FloorDiv | .mod => .Mod | .pow => .Pow | .fdivW => .FloorDiv | .mulW => .Mult | .mulX => .Mult
theorem opB_v : ∀ o : BOp, OpR X (binaryOp (opB o)) (rV X.K (runB o))
  | .add => add_v | .sub => sub_v | .mul => mul_v | .fdiv => fdiv_v | .mod => mod_v | .pow => pow_v | .fdivW => fdivW_v | .mulW => mulW_v | .mulX => mulX_v

end
end RV

/-! RED: a dict beside a tuple: not equal. -/
namespace RV
open PySem L2
open MeetsSeq AutoSeq1 SeqAt
theorem teq_no (l b : Addr) (items : Array Value) (n : Nat) (dd : Option Addr) (sl : Array (Option Value)) (o : Obj) :
    Meets (Builtin.«tuple.__eq__» ⟨[.ref l, .ref b], []⟩) (fun _ R s => s.heap.get? l = some { cls := .type "tuple", dict := dd, data := .seq items n, slots := sl } ∧ (s.heap.get? b = some o ∧ o.cls = .type "dict") ∧ R (.ok (.ret .notImplemented)) s) :=
  .of_wp fun prog w A R s h => by
    obtain ⟨hp, g, d, tk, os⟩ := s
    obtain ⟨hl, ⟨hb, hc⟩, h⟩ := h
    obtain ⟨c, d2, dt, s2⟩ := o
    simp only at hc
    subst hc
    have f1 := F.sub_dict_tuple
    wp_walk using wpAny_loadPart' hl, wpAny_loadPart' hb
    exact ⟨_, rfl, h⟩
theorem tne_no (l b : Addr) (items : Array Value) (n : Nat) (dd : Option Addr) (sl : Array (Option Value)) (o : Obj) :
    Meets (Builtin.«tuple.__ne__» ⟨[.ref l, .ref b], []⟩) (fun _ R s => s.heap.get? l = some { cls := .type "tuple", dict := dd, data := .seq items n, slots := sl } ∧ (s.heap.get? b = some o ∧ o.cls = .type "dict") ∧ R (.ok (.ret .notImplemented)) s) :=
  .of_wp fun prog w A R s h => by
    obtain ⟨hp, g, d, tk, os⟩ := s
    obtain ⟨hl, ⟨hb, hc⟩, h⟩ := h
    obtain ⟨c, d2, dt, s2⟩ := o
    simp only at hc
    subst hc
    have f1 := F.sub_dict_tuple
    wp_walk using wpAny_loadPart' hl, wpAny_loadPart' hb
    exact ⟨_, rfl, h⟩
section
variable {A : Around} {s : Shared}
theorem dictSlot_no {nm : String} {prog : Program} {w : World} {E : Value → Shared → Prop} {x y : Value} {Q : Value × Value → Shared → Prop} (hx : s.TypeIs x "dict") (h : Q (x, y) s) : wpAny (model prog w) A (Builtin.Dict.dictSlotArgs nm ⟨[x, y], []⟩) Q E s := by
  unfold Builtin.Dict.dictSlotArgs
  refine wpAny_bind (wpAny_notOrdered_dict hx ?_)
  exact wpAny_pure h
theorem dict_tuple_no {l b : Addr} {o : Obj} {items : Array Value} (ho : s.heap.get? l = some o) (oc : o.cls = .type "dict") (hb : s.heap.IsTuple b items) : l ≠ b := fun e => by
  subst e
  obtain ⟨o2, h1, h2, _⟩ := hb
  rw [ho] at h1
  cases h1
  rw [oc] at h2
  exact absurd h2 (by simp)
theorem rc_dict_tuple {l b : Addr} {o : Obj} {items : Array Value} (ho : s.heap.get? l = some o) (oc : o.cls = .type "dict") (hb : s.heap.IsTuple b items) (hu : A.units < cLine) : SeqAt.RcAt A s (.ref l) (.ref b) false := fun prog w E Q h => by
  have tl : s.TypeIs (.ref l) "dict" := ⟨_, ho, oc⟩
  have hne := dict_tuple_no ho oc hb
  obtain ⟨⟨c2, d2, dt2, s2⟩, ho2, hc2, n2, hd2⟩ := id hb
  simp only at hc2 hd2
  subst hc2 hd2
  have tb : s.TypeIs (.ref b) "tuple" := ⟨_, ho2, rfl⟩
  refine SeqAt.rc_eq_decline_or (k := false) tl tb (by decide) F.sub_tuple_dict F.slot_dict_eq F.slot_tuple_eq_refl (fun Q' hq => ?_) (fun Q' hq => ?_) (fun _ hq => wpAny_isSame_ref_other hne ho ho2 (by rw [oc]; simp) hq) (.inr hu) h
  · refine wpAny_call_entry F.slot_dict_eq tl F.entry_dict_eq ?_ (F.args_dict_eq_2 _ _)
    show wpAny _ _ (Builtin.Dict.dictSlotArgs "__eq__" ⟨[.ref l, .ref b], []⟩ >>= _) _ _ s
    refine wpAny_bind (dictSlot_no tl ?_)
    refine wpAny_bind (wpAny_isInstance (T := "tuple") tb F.sub_tuple_dict ?_)
    simp only [Bool.not_false, if_true]
    refine wpAny_bind (wpAny_rule ?_)
    exact wpAny_pure ⟨_, rfl, hq⟩
  · exact call_meets F.slot_tuple_eq_refl tb F.entry_tuple_eq (F.args_tuple_eq_2 _ _) (teq_no b l items n2 d2 s2 o) ⟨ho2, ⟨ho, oc⟩, hq⟩
theorem rcn_dict_tuple {l b : Addr} {o : Obj} {items : Array Value} (ho : s.heap.get? l = some o) (oc : o.cls = .type "dict") (hb : s.heap.IsTuple b items) (hu : A.units < cLine) : SeqAt.RcNeAt A s (.ref l) (.ref b) true := fun prog w E Q h => by
  have tl : s.TypeIs (.ref l) "dict" := ⟨_, ho, oc⟩
  have hne := dict_tuple_no ho oc hb
  obtain ⟨⟨c2, d2, dt2, s2⟩, ho2, hc2, n2, hd2⟩ := id hb
  simp only at hc2 hd2
  subst hc2 hd2
  have tb : s.TypeIs (.ref b) "tuple" := ⟨_, ho2, rfl⟩
  refine SeqAt.rc_ne_decline_or (k := false) tl tb (by decide) F.sub_tuple_dict F.slot_dict_ne F.slot_tuple_ne_refl (fun Q' hq => ?_) (fun Q' hq => ?_) (fun _ hq => wpAny_isSame_ref_other hne ho ho2 (by rw [oc]; simp) hq) (.inr hu) h
  · refine wpAny_call_entry F.slot_dict_ne tl F.entry_dict_ne ?_ (F.args_dict_ne_2 _ _)
    show wpAny _ _ (Builtin.Dict.dictSlotArgs "__ne__" ⟨[.ref l, .ref b], []⟩ >>= _) _ _ s
    refine wpAny_bind (dictSlot_no tl ?_)
    refine wpAny_bind (wpAny_isInstance (T := "tuple") tb F.sub_tuple_dict ?_)
    simp only [Bool.not_false, if_true]
    refine wpAny_bind (wpAny_rule ?_)
    exact wpAny_pure ⟨_, rfl, hq⟩
  · exact call_meets F.slot_tuple_ne_refl tb F.entry_tuple_ne (F.args_tuple_ne_2 _ _) (tne_no b l items n2 d2 s2 o) ⟨ho2, ⟨ho, oc⟩, hq⟩
end
end RV

/-! R4: comparisons, truth. -/
namespace RV
open PySem L2
variable [Wd]
section
variable {X : Cx} {pins : List (Addr × Obj)} {s : Shared} {σ : L2.St} {H : Hp} {μ : List Addr} {st : Sto}
def RdP (h : Heap) (u : Value) (p : PyData) : Prop := ∃ as, Reads h u p as ∧ (noL p = true → sysModules ∉ as)
def RdPL (h : Heap) (us : List Value) (ps : List PyData) : Prop := ∃ as, ReadsAll h us ps as ∧ (noLL ps = true → sysModules ∉ as)
theorem rd_obj {a : Addr} (h : ObjOk X.prog X.w H s.heap a (.dK [])) : RdP s.heap (.ref a) (.dict []) := by
  obtain ⟨_, hs, vs, kv, o, es, ep, he, hx, hd, _, hes, _⟩ := h
  cases kv
  have e0 : es.toList = [] := by
    generalize es.toList = l at hes
    cases hes; rfl
  refine ⟨[a], ?_, fun _ => ?_⟩
  · have := Reads.dict (h := s.heap) (kvs := []) he hx.1 hd (as := []) (bs := []) (by rw [e0]; exact .nil) (by rw [e0]; exact .nil)
    simpa using this
  · simp only [List.mem_singleton]
    intro z
    rw [z] at hs
    simp at hs
theorem rd_dictF (I : Inv X pins σ H s) {a : Addr} {o : Obj} (h : H a = some (.frz o (.dK []))) : RdP s.heap (.ref a) (.dict []) := rd_obj (I.hok a _ h).2
theorem ed_obj (I : Inv X pins σ H s) {a : Addr} {o : Obj} (h : H a = some (.frz o (.dK []))) : ∃ oa, s.heap.get? a = some oa ∧ oa.cls = .type "dict" := by
  obtain ⟨_, _, _, _, oa, _, _, g1, g2, _⟩ := (I.hok a _ h).2
  exact ⟨oa, g1, g2.1⟩
mutual
theorem rd_with (I : Inv X pins σ H s) {f : Nat → Option PyData} (hf : ∀ n p v u, f n = some p → Rp X.K μ H (.ref n) v → RelV v u → RdP s.heap u p) : ∀ {d : D} {p : PyData} {v : V} {u : Value}, pyWith f d = some p → Rp X.K μ H d v → RelV v u → RdP s.heap u p
  | .non, _, _, _, e, h, r => by
    simp [pyWith] at e; subst e; rw [show _ = V.non from h] at r; cases r
    exact ⟨_, Reads.none, fun _ => by simp⟩
  | .bl b, _, _, _, e, h, r => by
    simp [pyWith] at e; subst e; rw [show _ = V.bl b from h] at r; cases r
    exact ⟨_, Reads.bool b, fun _ => by simp⟩
  | .int b, _, _, _, e, h, r => by
    simp [pyWith] at e; subst e; rw [show _ = V.int b from h] at r; obtain ⟨t, rfl⟩ := r
    exact ⟨_, Reads.int b t, fun _ => by simp⟩
  | .str b, _, _, _, e, h, r => by
    simp [pyWith] at e; subst e; rw [show _ = V.str b from h] at r; obtain ⟨t, rfl⟩ := r
    exact ⟨_, Reads.str b t, fun _ => by simp⟩
  | .tup ds, _, _, _, e, ⟨a, xs, e', h, t⟩, r => by
    rw [pyWith] at e
    obtain ⟨ps, e1, e2⟩ := Option.map_eq_some_iff.mp e
    subst e2
    subst e'
    cases r
    obtain ⟨its, rv, ⟨o, ho, hc, n, hd⟩, _⟩ := I.tuple h.t
    obtain ⟨as, q1, q2⟩ := rd_withL I hf e1 t rv
    exact ⟨as, Reads.tuple ho hc hd q1, fun z => q2 z⟩
  | .fl ds, _, _, _, e, ⟨a, xs, e', h, t⟩, r => by
    rw [pyWith] at e
    obtain ⟨ps, e1, e2⟩ := Option.map_eq_some_iff.mp e
    subst e2
    subst e'
    cases r
    obtain ⟨its, rv, ⟨o, n, ho, hc, _, hd⟩, _⟩ := I.list h.seq
    obtain ⟨as, q1, q2⟩ := rd_withL I hf e1 t rv
    exact ⟨_, Reads.list ho hc hd q1, fun z => by cases z⟩
  | .ref n, _, _, _, e, h, r => hf n _ _ _ e h r
  | .ed, _, _, _, e, ⟨a, o, e', h⟩, r => by
    simp [pyWith] at e; subst e; subst e'; cases r
    exact rd_dictF I h
  | .ob _ _ _, _, _, _, e, _, _ => by simp [pyWith] at e
theorem rd_withL (I : Inv X pins σ H s) {f : Nat → Option PyData} (hf : ∀ n p v u, f n = some p → Rp X.K μ H (.ref n) v → RelV v u → RdP s.heap u p) : ∀ {ds : List D} {ps : List PyData} {vs : List V} {us : List Value}, pyWithL f ds = some ps → RpL X.K μ H ds vs → Vals vs us → RdPL s.heap us ps
  | [], _, _, _, e, h, r => by
    simp [pyWithL] at e; subst e; rw [show _ = ([] : List V) from h] at r; cases r
    exact ⟨_, ReadsAll.nil, fun _ => by simp⟩
  | d :: ds, _, _, _, e, ⟨x, rr, e', h, t⟩, r => by
    rw [pyWithL] at e
    split at e
    · rename_i a as e1 e2
      cases e
      subst e'
      cases r with
      | cons r1 r2 =>
        obtain ⟨as, q1, q2⟩ := rd_with I hf e1 h r1
        obtain ⟨bs, q3, q4⟩ := rd_withL I hf e2 t r2
        refine ⟨_, ReadsAll.cons q1 q3, fun z => ?_⟩
        rw [noLL, Bool.and_eq_true] at z
        intro hm
        rcases List.mem_append.mp hm with hm | hm
        · exact q2 z.1 hm
        · exact q4 z.2 hm
    · cases e
end
theorem rd_dict (I : Inv X pins σ H s) {a : Addr} (h : H a = some (.dK [])) : RdP s.heap (.ref a) (.dict []) := by
  exact rd_obj (I.hok a _ h)
theorem toPy_reads (I : Inv X pins σ H s) (S : RpS X.K μ H st) : ∀ (k : Nat) {d : D} {p : PyData} {v : V} {u : Value}, toPy st k d = some p → Rp X.K μ H d v → RelV v u → RdP s.heap u p
  | 0, _, _, _, _, e, h, r => rd_with I (fun _ _ _ _ e _ _ => by cases e) e h r
  | k + 1, _, _, _, _, e, h, r => by
    refine rd_with I (fun n p v u e h r => ?_) e h r
    split at e
    · rename_i xs ex
      obtain ⟨ps, e1, e2⟩ := Option.map_eq_some_iff.mp e
      subst e2
      obtain ⟨a, ys, rfl, _, ha, ra⟩ := S.items ex h
      cases r
      obtain ⟨its, rv, ⟨o, n, ho, hc, _, hd⟩, _⟩ := I.list (.of ha)
      obtain ⟨as, q1, _⟩ := rd_withL I (fun m p v u e h r => toPy_reads I S k e h r) e1 ra rv
      exact ⟨_, Reads.list ho hc hd q1, fun z => by cases z⟩
    · split at e
      · rename_i ex
        cases e
        obtain ⟨a, rfl, ha⟩ := h
        obtain ⟨b, hb, ok⟩ := S.ob _ _ ex
        rw [ha] at hb
        cases hb
        cases r
        exact rd_dict I ok.nil
      · cases e

def rC (K : PySem.W.Frag) (o : COp) : R2 := fun vx vy H Q => ∃ μ st x y b st', RpS K μ H st ∧ Rp K μ H x vx ∧ Rp K μ H y vy ∧ runC o x y st = .ok b st' ∧ Post K μ H st' (.bl b) Q
theorem eq_data {x y : D} {b : Bool} {st' : Sto} {P Q : PyData} : M.bind (asPy x) (fun p => M.bind (asPy y) fun q => M.bind (guard (SeqAt.shaped p && SeqAt.shaped q)) fun _ => M.pure (PyData.eqv p q)) st = .ok b st' →
    ∃ p q, toPy st deep x = some p ∧ toPy st deep y = some q ∧ SeqAt.shaped p = true ∧ SeqAt.shaped q = true ∧ b = PyData.eqv p q ∧ st' = st := by
  intro e
  simp only [bind_ok, asPy_ok, guard_ok, pure_ok, Bool.and_eq_true] at e
  obtain ⟨p, _, ⟨e1, rfl⟩, q, _, ⟨e2, rfl⟩, _, _, ⟨⟨e3, e4⟩, rfl⟩, e5, e6⟩ := e
  exact ⟨p, q, e1, e2, e3, e4, e5.symm, e6.symm⟩
theorem eqD_ok {x y : D} {b : Bool} {st' : Sto} (e : eqD x y st = .ok b st') : st' = st ∧ ((∃ i j, x = .int i ∧ y = .int j ∧ b = (i == j)) ∨ (∃ i j, x = .str i ∧ y = .str j ∧ b = (i == j)) ∨ (∃ i j, x = .bl i ∧ y = .bl j ∧ b = (i == j)) ∨ (∃ i, x = .tup i ∧ y = .tup [] ∧ b = i.isEmpty) ∨ (∃ ys, x = .ed ∧ y = .tup ys ∧ b = false) ∨
    ∃ p q, toPy st deep x = some p ∧ toPy st deep y = some q ∧ SeqAt.shaped p = true ∧ SeqAt.shaped q = true ∧ b = PyData.eqv p q) := by
  unfold eqD at e
  split at e
  · simp only [pure_ok] at e; obtain ⟨rfl, rfl⟩ := e; exact ⟨rfl, .inl ⟨_, _, rfl, rfl, rfl⟩⟩
  · simp only [pure_ok] at e; obtain ⟨rfl, rfl⟩ := e; exact ⟨rfl, .inr (.inl ⟨_, _, rfl, rfl, rfl⟩)⟩
  · simp only [pure_ok] at e; obtain ⟨rfl, rfl⟩ := e; exact ⟨rfl, .inr (.inr (.inl ⟨_, _, rfl, rfl, rfl⟩))⟩
  · simp only [pure_ok] at e; obtain ⟨rfl, rfl⟩ := e; exact ⟨rfl, .inr (.inr (.inr (.inl ⟨_, rfl, rfl, rfl⟩)))⟩
  · simp only [pure_ok] at e; obtain ⟨rfl, rfl⟩ := e; exact ⟨rfl, .inr (.inr (.inr (.inr (.inl ⟨_, rfl, rfl, rfl⟩))))⟩
  · obtain ⟨p, q, h1, h2, h3, h4, h5, h6⟩ := eq_data (P := .none) (Q := .none) e
    exact ⟨h6, .inr (.inr (.inr (.inr (.inr ⟨p, q, h1, h2, h3, h4, h5⟩))))⟩
theorem no_items {K : PySem.W.Frag} {xs : List V} {its : List Value} {ds : List D} (r : Vals xs its) (ra : RpL K μ H ds xs) : ((List.range (min its.toArray.size (#[] : Array Value).size)).all (fun _ => true) && its.toArray.size == (#[] : Array Value).size) = ds.isEmpty := by
  have h1 := r.length
  have h2 := ra.length
  have e : its.toArray.size = ds.length := by rw [List.size_toArray, ← h1, h2]
  rw [e]
  cases ds <;> simp
theorem eq_v (hu : X.A.units + 66 < cLine) : OpR X (compareOp .Eq) (rC X.K .eq) := by
  intro pins s σ H vx vy v u Q I rx ry ⟨μ, st, x, y, b, st', S, hx, hy, e, P⟩
  obtain ⟨rfl, h⟩ := eqD_ok (show eqD x y st = .ok b st' from e)
  have q := P.here S (v := .bl b) rfl
  rcases h with ⟨i, j, rfl, rfl, rfl⟩ | ⟨i, j, rfl, rfl, rfl⟩ | ⟨i, j, rfl, rfl, rfl⟩ | ⟨i, rfl, rfl, rfl⟩ | ⟨zs, rfl, rfl, rfl⟩ | ⟨p, p', h1, h2, h3, h4, rfl⟩
  · rw [show vx = V.int i from hx] at rx; rw [show vy = V.int j from hy] at ry
    exact op_eq pins s σ H _ _ v u Q I rx ry ⟨rfl, by rw [dec_int]; exact q⟩
  · rw [show vx = V.str i from hx] at rx; rw [show vy = V.str j from hy] at ry
    exact op_eq pins s σ H _ _ v u Q I rx ry ⟨rfl, by rw [dec_str]; exact q⟩
  · rw [show vx = V.bl i from hx] at rx; rw [show vy = V.bl j from hy] at ry
    exact op_eq pins s σ H _ _ v u Q I rx ry ⟨rfl, by rw [dec_bl]; exact q⟩
  · obtain ⟨a, xs, rfl, ha, ra⟩ := hx
    obtain ⟨c, ys, rfl, hc, rc⟩ := hy
    cases rx
    cases ry
    obtain ⟨its, r1, p1, _⟩ := I.tuple ha.t
    obtain ⟨jts, r2, p2, _⟩ := I.tuple hc.t
    obtain rfl := (show ys = [] from rc)
    cases r2
    refine SeqAt.eq_tupleAt (e := fun _ => true) p1 p2 (by omega) (fun j _ h2 => absurd h2 (by simp)) ?_
    rw [no_items r1 ra]
    exact ⟨.bl _, H, I, rfl, q⟩
  · obtain ⟨a, o, rfl, ha⟩ := hx
    obtain ⟨c, ys, rfl, hc, rc⟩ := hy
    cases rx
    cases ry
    obtain ⟨its, _, p1, _⟩ := I.tuple hc.t
    obtain ⟨oa, g1, g2⟩ := ed_obj I ha
    exact rc_dict_tuple g1 g2 p1 (by omega) _ _ _ _ ⟨.bl _, H, I, rfl, q⟩
  · obtain ⟨as, r1, _⟩ := toPy_reads I S _ h1 hx rx
    obtain ⟨bs, r2, _⟩ := toPy_reads I S _ h2 hy ry
    exact SeqAt.compareEq_shaped r1 r2 h3 h4 (by omega) ⟨.bl _, H, I, rfl, q⟩
theorem ne_v (hu : X.A.units + 66 < cLine) : OpR X (compareOp .NotEq) (rC X.K .ne) := by
  intro pins s σ H vx vy v u Q I rx ry ⟨μ, st, x, y, b, st', S, hx, hy, e, P⟩
  replace e : M.bind (eqD x y) (fun b => M.pure !b) st = .ok b st' := e
  simp only [bind_ok, pure_ok] at e
  obtain ⟨c, _, e, rfl, rfl⟩ := e
  obtain ⟨rfl, h⟩ := eqD_ok e
  have q := P.here S (v := .bl (!c)) rfl
  rcases h with ⟨i, j, rfl, rfl, rfl⟩ | ⟨i, j, rfl, rfl, rfl⟩ | ⟨i, j, rfl, rfl, rfl⟩ | ⟨i, rfl, rfl, rfl⟩ | ⟨zs, rfl, rfl, rfl⟩ | ⟨p, p', h1, h2, h3, h4, rfl⟩
  · rw [show vx = V.int i from hx] at rx; rw [show vy = V.int j from hy] at ry
    exact op_ne pins s σ H _ _ v u Q I rx ry ⟨rfl, by rw [dec_int]; exact q⟩
  · rw [show vx = V.str i from hx] at rx; rw [show vy = V.str j from hy] at ry
    exact op_ne pins s σ H _ _ v u Q I rx ry ⟨rfl, by rw [dec_str]; exact q⟩
  · rw [show vx = V.bl i from hx] at rx; rw [show vy = V.bl j from hy] at ry
    exact op_ne pins s σ H _ _ v u Q I rx ry ⟨rfl, by rw [dec_bl]; exact q⟩
  · obtain ⟨a, xs, rfl, ha, ra⟩ := hx
    obtain ⟨c, ys, rfl, hc, rc⟩ := hy
    cases rx
    cases ry
    obtain ⟨its, r1, p1, _⟩ := I.tuple ha.t
    obtain ⟨jts, r2, p2, _⟩ := I.tuple hc.t
    obtain rfl := (show ys = [] from rc)
    cases r2
    refine SeqAt.RcNeAt.tuples (e := fun _ => true) p1 p2 (by omega) (fun j _ h2 => absurd h2 (by simp)) _ _ _ _ ?_
    rw [no_items r1 ra]
    exact ⟨.bl _, H, I, rfl, q⟩
  · obtain ⟨a, o, rfl, ha⟩ := hx
    obtain ⟨c, ys, rfl, hc, rc⟩ := hy
    cases rx
    cases ry
    obtain ⟨its, _, p1, _⟩ := I.tuple hc.t
    obtain ⟨oa, g1, g2⟩ := ed_obj I ha
    exact rcn_dict_tuple g1 g2 p1 (by omega) _ _ _ _ ⟨.bl _, H, I, rfl, q⟩
  · obtain ⟨as, r1, _⟩ := toPy_reads I S _ h1 hx rx
    obtain ⟨bs, r2, _⟩ := toPy_reads I S _ h2 hy ry
    exact SeqAt.compareNe_shaped r1 r2 h3 h4 (by omega) ⟨.bl _, H, I, rfl, q⟩
theorem flat_v {K : PySem.W.Frag} {d : D} {v : V} (f : flat d = true) (h : Rp K μ H d v) : flatV v = true ∧ (∀ (e : D) (w : V), flat e = true → Rp K μ H e w → eqV v w = eqF d e) := by
  cases d <;> first | (simp [flat] at f; done) | skip
  all_goals (obtain rfl := (show v = _ from h); refine ⟨rfl, fun e w fe he => ?_⟩; cases e <;> first | (simp [flat] at fe; done) | (obtain rfl := (show w = _ from he); rfl))
theorem flat_vs {K : PySem.W.Frag} : ∀ {ds : List D} {vs : List V}, ds.all flat = true → RpL K μ H ds vs → vs.all flatV = true ∧ ∀ (e : D) (w : V), flat e = true → Rp K μ H e w → (vs.any fun y => eqV y w) = ds.any fun z => eqF z e
  | [], _, _, h => by rw [show _ = ([] : List V) from h]; exact ⟨rfl, fun _ _ _ _ => rfl⟩
  | d :: ds, _, f, ⟨x, r, e', h, t⟩ => by
    rw [List.all_cons, Bool.and_eq_true] at f
    obtain ⟨h1, h2⟩ := flat_v f.1 h
    obtain ⟨h3, h4⟩ := flat_vs f.2 t
    rw [e', List.all_cons, h1, h3]
    exact ⟨rfl, fun e w fe he => by rw [List.any_cons, List.any_cons, h2 e w fe he, h4 e w fe he]⟩
theorem seqOf_ok {d : D} {xs : List D} {st' : Sto} (e : seqOf d st = .ok xs st') {K : PySem.W.Frag} (S : RpS K μ H st) {v : V} (h : Rp K μ H d v) : st' = st ∧ ∃ a vs, v = .ref a ∧ (SqL K H a vs ∨ SqT K H a vs) ∧ RpL K μ H xs vs := by
  unfold seqOf at e
  split at e
  · simp only [pure_ok] at e; obtain ⟨rfl, rfl⟩ := e
    obtain ⟨a, vs, h1, h2, h3⟩ := h
    exact ⟨rfl, a, vs, h1, .inr h2.t, h3⟩
  · simp only [pure_ok] at e; obtain ⟨rfl, rfl⟩ := e
    obtain ⟨a, vs, h1, h2, h3⟩ := h
    exact ⟨rfl, a, vs, h1, .inl h2.seq, h3⟩
  · simp only [getL_ok] at e; obtain ⟨e1, rfl⟩ := e
    obtain ⟨a, vs, h1, _, h2, h3⟩ := S.items e1 h
    exact ⟨rfl, a, vs, h1, .inl (.of h2), h3⟩
  · simp [bad_ok] at e
theorem isIn_ok {x y : D} {b : Bool} {st' : Sto} (e : isIn x y st = .ok b st') {K : PySem.W.Frag} (S : RpS K μ H st) {vx vy : V} (hx : Rp K μ H x vx) (hy : Rp K μ H y vy) :
    st' = st ∧ ((∃ i j, vx = .str i ∧ vy = .str j ∧ b = !(Builtin.Str.occurrences j i 0 j.length 1).isEmpty) ∨ (∃ p xs, vy = .ref p ∧ (SqL K H p xs ∨ SqT K H p xs) ∧ flatV vx = true ∧ xs.all flatV = true ∧ b = inV vx xs) ∨
      ∃ p q ps, toPy st deep x = some p ∧ toPy st deep y = some q ∧ SeqAt.shaped p = true ∧ SeqAt.shaped q = true ∧ (q = .tuple ps ∨ q = .list ps) ∧ b = ps.any fun z => PyData.eqv z p) := by
  unfold isIn at e
  split at e
  · simp only [pure_ok] at e; obtain ⟨rfl, rfl⟩ := e
    exact ⟨rfl, .inl ⟨_, _, hx, hy, rfl⟩⟩
  · simp only [bind_ok] at e
    obtain ⟨ds, s1, e1, e⟩ := e
    obtain ⟨rfl, a, vs, rfl, h1, h2⟩ := seqOf_ok e1 S hy
    split at e
    · rename_i f
      simp only [Bool.and_eq_true] at f
      obtain ⟨f1, f2⟩ := f
      simp only [pure_ok] at e
      obtain ⟨rfl, rfl⟩ := e
      obtain ⟨g1, g2⟩ := flat_vs f2 h2
      refine ⟨rfl, .inr (.inl ⟨a, vs, rfl, h1, (flat_v f1 hx).1, g1, ?_⟩)⟩
      unfold inV
      rw [g2 _ _ f1 hx]
    · simp only [bind_ok, asPy_ok, guard_ok, Bool.and_eq_true] at e
      obtain ⟨p, _, ⟨e1, rfl⟩, q, _, ⟨e2, rfl⟩, _, _, ⟨⟨e3, e4⟩, rfl⟩, e⟩ := e
      split at e
      · simp only [pure_ok] at e; obtain ⟨rfl, rfl⟩ := e
        exact ⟨rfl, .inr (.inr ⟨p, _, _, e1, e2, e3, e4, .inl rfl, rfl⟩)⟩
      · simp only [pure_ok] at e; obtain ⟨rfl, rfl⟩ := e
        exact ⟨rfl, .inr (.inr ⟨p, _, _, e1, e2, e3, e4, .inr rfl, rfl⟩)⟩
      · simp [bad_ok] at e
theorem in_v (hu : X.A.units + 66 < cLine) : OpR X (compareOp .In) (rC X.K .in_) := by
  intro pins s σ H vx vy v u Q I rx ry ⟨μ, st, x, y, b, st', S, hx, hy, e, P⟩
  obtain ⟨rfl, h⟩ := isIn_ok (show isIn x y st = .ok b st' from e) S hx hy
  have q := P.here S (v := .bl b) rfl
  rcases h with ⟨i, j, rfl, rfl, rfl⟩ | ⟨p, xs, rfl, h1, h2, h3, rfl⟩ | ⟨p, q2, ps, h1, h2, h3, h4, h5, rfl⟩
  · exact op_in_str pins s σ H _ _ v u Q I rx ry ⟨i, j, rfl, rfl, q⟩
  · exact op_in_seq pins s σ H _ _ v u Q I rx ry ⟨p, xs, rfl, h1, h2, h3, q⟩
  · obtain ⟨as, r1, _⟩ := toPy_reads I S _ h1 hx rx
    obtain ⟨bs, r2, _⟩ := toPy_reads I S _ h2 hy ry
    have rm := fun {xs : List PyData} => PyProof.Rows.room_in_shaped (A := X.A) (xs := xs) h3 (by omega)
    rcases h5 with rfl | rfl
    · exact SeqAt.in_tuple_reads r2 r1 (by have := SeqAt.canLay_of_shaped h4; rwa [PyData.canLay0] at this) (SeqAt.canLay_of_shaped h3) rm ⟨.bl _, H, I, rfl, q⟩
    · exact SeqAt.in_list_reads r2 r1 (by have := SeqAt.canLay_of_shaped h4; rwa [PyData.canLay0] at this) (SeqAt.canLay_of_shaped h3) rm ⟨.bl _, H, I, rfl, q⟩
theorem notIn_v (hu : X.A.units + 66 < cLine) : OpR X (compareOp .NotIn) (rC X.K .notIn) := by
  intro pins s σ H vx vy v u Q I rx ry ⟨μ, st, x, y, b, st', S, hx, hy, e, P⟩
  replace e : M.bind (isIn x y) (fun b => M.pure !b) st = .ok b st' := e
  simp only [bind_ok, pure_ok] at e
  obtain ⟨c, _, e, rfl, rfl⟩ := e
  obtain ⟨rfl, h⟩ := isIn_ok e S hx hy
  have q := P.here S (v := .bl (!c)) rfl
  rcases h with ⟨i, j, rfl, rfl, rfl⟩ | ⟨p, xs, rfl, h1, h2, h3, rfl⟩ | ⟨p, q2, ps, h1, h2, h3, h4, h5, rfl⟩
  · exact op_notIn_str pins s σ H _ _ v u Q I rx ry ⟨i, j, rfl, rfl, q⟩
  · exact op_notIn_seq pins s σ H _ _ v u Q I rx ry ⟨p, xs, rfl, h1, h2, h3, q⟩
  · obtain ⟨as, r1, _⟩ := toPy_reads I S _ h1 hx rx
    obtain ⟨bs, r2, _⟩ := toPy_reads I S _ h2 hy ry
    have rm := fun {xs : List PyData} => PyProof.Rows.room_in_shaped (A := X.A) (xs := xs) h3 (by omega)
    rcases h5 with rfl | rfl
    · exact SeqAt.notIn_tuple_reads r2 r1 (by have := SeqAt.canLay_of_shaped h4; rwa [PyData.canLay0] at this) (SeqAt.canLay_of_shaped h3) rm ⟨.bl _, H, I, rfl, q⟩
    · exact SeqAt.notIn_list_reads r2 r1 (by have := SeqAt.canLay_of_shaped h4; rwa [PyData.canLay0] at this) (SeqAt.canLay_of_shaped h3) rm ⟨.bl _, H, I, rfl, q⟩
theorem isNon_v {K : PySem.W.Frag} {d : D} {v : V} (h : Rp K μ H d v) : decide (v = V.non) = isNon d := by
  cases d with
  | non => rw [show v = V.non from h]; rfl
  | bl b => rw [show v = V.bl b from h]; rfl
  | int b => rw [show v = V.int b from h]; rfl
  | str b => rw [show v = V.str b from h]; rfl
  | tup ds => obtain ⟨a, _, rfl, _⟩ := h; rfl
  | fl ds => obtain ⟨a, _, rfl, _⟩ := h; rfl
  | ref n => obtain ⟨a, rfl, _⟩ := h; rfl
  | ed => obtain ⟨a, _, rfl, _⟩ := h; rfl
  | ob t ns ds => obtain ⟨a, _, rfl, _⟩ := h; rfl
theorem is_v : OpR X (compareOp .Is) (rC X.K .is) := by
  intro pins s σ H vx vy v u Q I rx ry ⟨μ, st, x, y, b, st', S, hx, hy, e, P⟩
  replace e : isD x y st = .ok b st' := e
  unfold isD at e
  split at e <;> first | (simp [bad_ok] at e; done) | skip
  · simp only [pure_ok] at e; obtain ⟨rfl, rfl⟩ := e
    exact op_isN pins s σ H _ _ v u Q I rx ry ⟨hy, by rw [isNon_v hx]; exact P.here S rfl⟩
  · rename_i c d
    simp only [pure_ok] at e; obtain ⟨rfl, rfl⟩ := e
    exact op_is_bl pins s σ H _ _ v u Q I rx ry ⟨c, d, hx, hy, by rw [show decide (c = d) = (c == d) by cases c <;> cases d <;> rfl]; exact P.here S rfl⟩
theorem isNot_v : OpR X (compareOp .IsNot) (rC X.K .isNot) := by
  intro pins s σ H vx vy v u Q I rx ry ⟨μ, st, x, y, b, st', S, hx, hy, e, P⟩
  replace e : isNotD x y st = .ok b st' := e
  unfold isNotD at e
  split at e <;> first | (simp [bad_ok] at e; done) | skip
  · simp only [pure_ok] at e; obtain ⟨rfl, rfl⟩ := e
    exact op_notN pins s σ H _ _ v u Q I rx ry ⟨hy, by rw [isNon_v hx]; exact P.here S rfl⟩
  · rename_i c d
    simp only [pure_ok] at e; obtain ⟨rfl, rfl⟩ := e
    exact op_isnot_bl pins s σ H _ _ v u Q I rx ry ⟨c, d, hx, hy, by rw [show decide (c = d) = (c == d) by cases c <;> cases d <;> rfl]; exact P.here S rfl⟩
end
end RV

/-! R5: order, truth, places, slices. -/
namespace RV
open PySem L2
variable [Wd]
section
variable {X : Cx} {pins : List (Addr × Obj)} {s : Shared} {σ : L2.St} {H : Hp} {μ : List Addr} {st : Sto}
theorem cmpP_ok {f : PyData → PyData → Bool} {x y : D} {b : Bool} {st' : Sto} (e : cmpP f x y st = .ok b st') : st' = st ∧ ∃ p q, toPy st deep x = some p ∧ toPy st deep y = some q ∧ PySem.W.alike p q = true ∧ p ≠ .none ∧ p.depth ≤ 64 ∧ b = f p q := by
  unfold cmpP at e
  simp only [bind_ok, asPy_ok, guard_ok, pure_ok, Bool.and_eq_true, decide_eq_true_eq] at e
  obtain ⟨p, _, ⟨e1, rfl⟩, q, _, ⟨e2, rfl⟩, _, _, ⟨⟨⟨e3, e4⟩, e5⟩, rfl⟩, e6, e7⟩ := e
  exact ⟨e7.symm, p, q, e1, e2, e3, (fun z => by rw [z] at e4; cases e4), e5, e6.symm⟩
theorem lt_v (hu : X.A.units + 66 < cLine) : OpR X (compareOp .Lt) (rC X.K .lt) := by
  intro pins s σ H vx vy v u Q I rx ry ⟨μ, st, x, y, b, st', S, hx, hy, e, P⟩
  replace e : ltD x y st = .ok b st' := e
  unfold ltD at e
  split at e
  · simp only [pure_ok] at e; obtain ⟨rfl, rfl⟩ := e
    exact op_lt pins s σ H _ _ v u Q I rx ry ⟨_, _, hx, hy, P.here S rfl⟩
  · simp only [pure_ok] at e; obtain ⟨rfl, rfl⟩ := e
    exact op_lt_str pins s σ H _ _ v u Q I rx ry ⟨_, _, hx, hy, P.here S rfl⟩
  · obtain ⟨rfl, p, q, h1, h2, h3, h4, h5, rfl⟩ := cmpP_ok e
    obtain ⟨as, r1, _⟩ := toPy_reads I S _ h1 hx rx
    obtain ⟨bs, r2, _⟩ := toPy_reads I S _ h2 hy ry
    exact PySem.W.lt_data r1 r2 h3 h4 (by omega) ⟨.bl _, H, I, rfl, P.here S rfl⟩
theorem le_v (hu : X.A.units + 66 < cLine) : OpR X (compareOp .LtE) (rC X.K .le) := by
  intro pins s σ H vx vy v u Q I rx ry ⟨μ, st, x, y, b, st', S, hx, hy, e, P⟩
  replace e : leD x y st = .ok b st' := e
  unfold leD at e
  split at e
  · simp only [pure_ok] at e; obtain ⟨rfl, rfl⟩ := e
    exact op_le pins s σ H _ _ v u Q I rx ry ⟨_, _, hx, hy, P.here S rfl⟩
  · simp only [pure_ok] at e; obtain ⟨rfl, rfl⟩ := e
    exact op_le_str pins s σ H _ _ v u Q I rx ry ⟨_, _, hx, hy, P.here S rfl⟩
  · obtain ⟨rfl, p, q, h1, h2, h3, h4, h5, rfl⟩ := cmpP_ok e
    obtain ⟨as, r1, _⟩ := toPy_reads I S _ h1 hx rx
    obtain ⟨bs, r2, _⟩ := toPy_reads I S _ h2 hy ry
    exact PySem.W.le_data r1 r2 h3 h4 (by omega) ⟨.bl _, H, I, rfl, P.here S rfl⟩
theorem gt_v (hu : X.A.units + 66 < cLine) : OpR X (compareOp .Gt) (rC X.K .gt) := by
  intro pins s σ H vx vy v u Q I rx ry ⟨μ, st, x, y, b, st', S, hx, hy, e, P⟩
  replace e : gtD x y st = .ok b st' := e
  unfold gtD at e
  split at e
  · simp only [pure_ok] at e; obtain ⟨rfl, rfl⟩ := e
    exact op_gt pins s σ H _ _ v u Q I rx ry ⟨_, _, hx, hy, P.here S rfl⟩
  · obtain ⟨rfl, p, q, h1, h2, h3, h4, h5, rfl⟩ := cmpP_ok e
    obtain ⟨as, r1, _⟩ := toPy_reads I S _ h1 hx rx
    obtain ⟨bs, r2, _⟩ := toPy_reads I S _ h2 hy ry
    exact PySem.W.gt_data r1 r2 h3 h4 (by omega) ⟨.bl _, H, I, rfl, P.here S rfl⟩
theorem ge_v (hu : X.A.units + 66 < cLine) : OpR X (compareOp .GtE) (rC X.K .ge) := by
  intro pins s σ H vx vy v u Q I rx ry ⟨μ, st, x, y, b, st', S, hx, hy, e, P⟩
  replace e : geD x y st = .ok b st' := e
  unfold geD at e
  split at e
  · simp only [pure_ok] at e; obtain ⟨rfl, rfl⟩ := e
    exact op_ge pins s σ H _ _ v u Q I rx ry ⟨_, _, hx, hy, P.here S rfl⟩
  · obtain ⟨rfl, p, q, h1, h2, h3, h4, h5, rfl⟩ := cmpP_ok e
    obtain ⟨as, r1, _⟩ := toPy_reads I S _ h1 hx rx
    obtain ⟨bs, r2, _⟩ := toPy_reads I S _ h2 hy ry
    exact PySem.W.ge_data r1 r2 h3 h4 (by omega) ⟨.bl _, H, I, rfl, P.here S rfl⟩
def opC : COp → CmpOp
  | .eq => .Eq | .ne => .NotEq | .lt => .Lt | .le => .LtE | .gt => .Gt | .ge => .GtE | .is => .Is | .isNot => .IsNot | .in_ => .In | .notIn => .NotIn
theorem opC_v (hu : X.A.units + 66 < cLine) : ∀ o : COp, OpR X (compareOp (opC o)) (rC X.K o)
  | .eq => eq_v hu | .ne => ne_v hu | .lt => lt_v hu | .le => le_v hu | .gt => gt_v hu | .ge => ge_v hu | .is => is_v | .isNot => isNot_v | .in_ => in_v hu | .notIn => notIn_v hu

theorem isEmpty_of_rp {K : PySem.W.Frag} {ds : List D} {vs : List V} (r : RpL K μ H ds vs) : ds.isEmpty = vs.isEmpty := by
  have := r.length
  cases ds <;> cases vs <;> first | rfl | (simp at this)
theorem truth_v {d : D} {b : Bool} {st' : Sto} (e : truth d st = .ok b st') {K : PySem.W.Frag} (S : RpS K μ H st) {v : V} (h : Rp K μ H d v) : st' = st ∧ TruV K v H b := by
  unfold truth at e
  split at e
  · simp only [pure_ok] at e; obtain ⟨rfl, rfl⟩ := e; rw [show v = V.non from h]; exact ⟨rfl, rfl⟩
  · simp only [pure_ok] at e; obtain ⟨rfl, rfl⟩ := e; rw [show v = V.bl _ from h]; exact ⟨rfl, rfl⟩
  · simp only [pure_ok] at e; obtain ⟨rfl, rfl⟩ := e; rw [show v = V.int _ from h]; exact ⟨rfl, rfl⟩
  · split at e
    · cases e; rw [show v = V.str _ from h]; exact ⟨rfl, by assumption, rfl⟩
    · cases e
  · simp only [pure_ok] at e; obtain ⟨rfl, rfl⟩ := e
    obtain ⟨a, xs, rfl, h1, h2⟩ := h
    exact ⟨rfl, .inr (.inl ⟨xs, h1.t, by rw [isEmpty_of_rp h2]⟩)⟩
  · simp only [pure_ok] at e; obtain ⟨rfl, rfl⟩ := e
    obtain ⟨a, xs, rfl, h1, h2⟩ := h
    exact ⟨rfl, .inl ⟨xs, h1.seq, by rw [isEmpty_of_rp h2]⟩⟩
  · simp only [bind_ok, getL_ok, pure_ok] at e
    obtain ⟨xs, _, ⟨e1, rfl⟩, rfl, rfl⟩ := e
    obtain ⟨a, ys, rfl, _, h1, h2⟩ := S.items e1 h
    exact ⟨rfl, .inl ⟨ys, .of h1, by rw [isEmpty_of_rp h2]⟩⟩
  · simp [bad_ok] at e
  · simp [bad_ok] at e

theorem atI_rp {K : PySem.W.Frag} {ds : List D} {vs : List V} {i : Int} {d : D} (r : RpL K μ H ds vs) (e : ((L2.ixN ds.length i).bind fun j => ds[j]?) = some d) : ∃ v, atI vs i = some v ∧ Rp K μ H d v := by
  obtain ⟨j, e1, e2⟩ := Option.bind_eq_some_iff.mp e
  obtain ⟨v, h1, h2⟩ := r.get e2
  refine ⟨v, ?_, h2⟩
  unfold atI
  rw [r.length, e1]
  exact h1
theorem index_v : IxR X (rV X.K index) := by
  intro value slice pins s σ H vx vy v u Q I rx ry ⟨μ, st, x, y, d, st', S, hx, hy, e, P⟩ hs
  unfold index at e
  split at e
  · simp only [ofO_ok] at e; obtain ⟨e1, rfl⟩ := e
    obtain ⟨a, xs, rfl, h1, h2⟩ := hx
    obtain ⟨w, q1, q2⟩ := atI_rp h2 e1
    exact ix_list value slice pins s σ H _ _ v u Q I rx ry ⟨a, xs, _, w, rfl, hy, h1.seq, q1, P.here S q2⟩ hs
  · simp only [ofO_ok] at e; obtain ⟨e1, rfl⟩ := e
    obtain ⟨a, xs, rfl, h1, h2⟩ := hx
    obtain ⟨w, q1, q2⟩ := atI_rp h2 e1
    exact ix_tup value slice pins s σ H _ _ v u Q I rx ry ⟨a, xs, _, w, rfl, hy, h1.t, q1, P.here S q2⟩ hs
  · simp only [bind_ok, getL_ok, ofO_ok] at e; obtain ⟨ds, _, ⟨e0, rfl⟩, e1, rfl⟩ := e
    obtain ⟨a, xs, rfl, _, h1, h2⟩ := S.items e0 hx
    obtain ⟨w, q1, q2⟩ := atI_rp h2 e1
    exact ix_list value slice pins s σ H _ _ v u Q I rx ry ⟨a, xs, _, w, rfl, hy, .of h1, q1, P.here S q2⟩ hs
  · simp only [bind_ok, guard_ok, ofO_ok, pure_ok, decide_eq_true_eq] at e; obtain ⟨_, _, ⟨e0, rfl⟩, c, _, ⟨e1, rfl⟩, rfl, rfl⟩ := e
    exact ix_str value slice pins s σ H _ _ v u Q I rx ry ⟨_, _, c, hx, hy, e0, e1, P.here S rfl⟩ hs
  · simp [bad_ok] at e
theorem cut_rp {K : PySem.W.Frag} {ds : List D} {vs : List V} (lo hi : Option Int) (r : RpL K μ H ds vs) : RpL K μ H (cutD ds lo hi) (cutV vs lo hi) := by
  unfold cutD cutV
  rw [r.length]
  exact (r.drop _).take _
theorem cut_all (ds : List D) (lo hi : Option Int) (h : HT.sIx ds.length 0 lo = 0 ∧ HT.sIx ds.length ds.length hi = ds.length) : cutD ds lo hi = ds := by
  unfold cutD
  rw [h.1, h.2]
  simp
def rS (K : PySem.W.Frag) : V → Option Int → Option Int → Hp → VK → Prop := fun vx lo hi H Q => ∃ μ st x d st', RpS K μ H st ∧ Rp K μ H x vx ∧ slice x lo hi st = .ok d st' ∧ Post K μ H st' d Q
theorem slice_v : SlR X (rS X.K) := by
  intro pins s σ H vx v vl vu lo hi sl Q I rx hs pl pu ⟨μ, st, x, d, st', S, hx, e, P⟩
  unfold slice at e
  split at e
  · simp only [pure_ok] at e; obtain ⟨rfl, rfl⟩ := e
    obtain ⟨a, xs, rfl, h1, h2⟩ := hx
    cases rx
    obtain ⟨its, r, ht, hz⟩ := I.tuple h1.t
    have hlen : its.toArray.size = xs.length := by simp [r.length]
    refine ⟨"tuple", _, PyProof.Rows.slot_tuple_getitem.lookup, ht.typeIs, ?_⟩
    by_cases hw : HT.sIx xs.length 0 lo = 0 ∧ HT.sIx xs.length xs.length hi = xs.length
    · refine getItem_tuple_whole ht hs pl pu (by rw [hlen]; exact hw) ?_
      rw [h2.length] at hw
      rw [cut_all _ _ _ hw] at P
      exact ⟨.ref a, H, I, rfl, P.here S ⟨a, xs, rfl, h1, h2⟩⟩
    · refine HT.getItem_tuple_cut ht hs pl pu (by rw [hlen]; exact hw) ?_ (by rw [hlen]; exact hz)
      rw [hlen]
      exact fin_tup0 I S P (cut_rp lo hi h2) ((r.drop _).take _) (Nat.le_trans (cutV_length xs lo hi) hz)
  · simp only [alloc_ok] at e; obtain ⟨rfl, rfl⟩ := e
    obtain ⟨a, xs, rfl, h1, h2⟩ := hx
    exact sl_list pins s σ H _ v vl vu lo hi sl Q I rx hs pl pu ⟨a, xs, rfl, h1.seq, fun p hp => P.lst S (cut_rp lo hi h2) hp⟩
  · simp only [bind_ok, getM_ok, alloc_ok] at e; obtain ⟨ds, _, ⟨e0, rfl⟩, rfl, rfl⟩ := e
    obtain ⟨a, xs, rfl, _, h1, h2⟩ := S.lst e0 hx
    exact sl_list pins s σ H _ v vl vu lo hi sl Q I rx hs pl pu ⟨a, xs, rfl, .of h1, fun p hp => P.lst S (cut_rp lo hi h2) hp⟩
  · simp only [bind_ok, guard_ok, pure_ok, decide_eq_true_eq] at e; obtain ⟨_, _, ⟨e0, rfl⟩, rfl, rfl⟩ := e
    exact sl_str pins s σ H _ v vl vu lo hi sl Q I rx hs pl pu ⟨_, hx, e0, P.here S rfl⟩
  · simp [bad_ok] at e
theorem set_v : PSet X (fun vo vi vv H Q => ∃ μ st o i w st', RpS X.K μ H st ∧ Rp X.K μ H o vo ∧ Rp X.K μ H i vi ∧ Rp X.K μ H w vv ∧ setIx o i w st = .ok () st' ∧ ∀ μ' H', Ext μ H μ' H' → RpS X.K μ' H' st' → Q H') := by
  intro pins s σ H vo vi vv ov iv u Q I ro ri ru ⟨μ, st, o, i, w, st', S, ho, hi, hw, e, P⟩
  unfold setIx at e
  split at e
  · simp only [bind_ok, getM_ok, ofO_ok, putL_ok, guard_ok] at e
    obtain ⟨ds, _, ⟨e0, rfl⟩, j, _, ⟨e1, rfl⟩, _, _, ⟨e2, rfl⟩, rfl⟩ := e
    obtain ⟨a, xs, rfl, ha, h1, h2⟩ := S.lst e0 ho
    refine set_list pins s σ H _ _ vv ov iv u Q I ro ri ru ⟨a, xs, _, j, rfl, hi, h1, by rw [h2.length]; exact e1, ?_⟩
    have r2 := RpL.set hw j h2
    exact P μ _ (ext_put S ha) (S.put ha r2 (belowL_set (S.wf _ _ e0) e2))
  · simp [bad_ok] at e
end
end RV

/-! R6: built-in functions and methods. -/
namespace RV
open PySem L2
variable [Wd]
def rBI (K : PySem.W.Frag) (f : List D → M D) : List V → Hp → VK → Prop := fun vs H Q => ∃ μ st ds d st', RpS K μ H st ∧ RpL K μ H ds vs ∧ f ds st = .ok d st' ∧ Post K μ H st' d Q
section
variable {X : Cx} {H : Hp} {μ : List Addr} {st : Sto}
theorem rp1 {K : PySem.W.Frag} {d : D} {vs : List V} (h : RpL K μ H [d] vs) : ∃ v, vs = [v] ∧ Rp K μ H d v := by
  obtain ⟨x, r, e, h1, h2⟩ := h
  rw [show r = ([] : List V) from h2] at e
  exact ⟨x, e, h1⟩
theorem rp2 {K : PySem.W.Frag} {d e : D} {vs : List V} (h : RpL K μ H [d, e] vs) : ∃ v w, vs = [v, w] ∧ Rp K μ H d v ∧ Rp K μ H e w := by
  obtain ⟨x, r, e, h1, h2⟩ := h
  obtain ⟨w, e2, h3⟩ := rp1 h2
  rw [e2] at e
  exact ⟨x, w, e, h1, h3⟩
theorem lsOf_ok {d : D} {xs : List D} {st' : Sto} (e : lsOf d st = .ok xs st') {K : PySem.W.Frag} (S : RpS K μ H st) {v : V} (h : Rp K μ H d v) : st' = st ∧ ∃ a vs, v = .ref a ∧ SqL K H a vs ∧ RpL K μ H xs vs := by
  unfold lsOf at e
  split at e
  · simp only [pure_ok] at e; obtain ⟨rfl, rfl⟩ := e
    obtain ⟨a, vs, h1, h2, h3⟩ := h
    exact ⟨rfl, a, vs, h1, h2.seq, h3⟩
  · simp only [getL_ok] at e; obtain ⟨e1, rfl⟩ := e
    obtain ⟨a, vs, h1, _, h2, h3⟩ := S.items e1 h
    exact ⟨rfl, a, vs, h1, .of h2, h3⟩
  · simp [bad_ok] at e
theorem len_c : CallR X (.builtin "len") (rBI X.K bLen) := by
  intro pins s σ H xs us Q I r ⟨μ, st, ds, d, st', S, hd, e, P⟩
  unfold bLen at e
  split at e
  · simp only [bind_ok, guard_ok, pure_ok, decide_eq_true_eq] at e; obtain ⟨_, _, ⟨e0, rfl⟩, rfl, rfl⟩ := e
    obtain ⟨v, rfl, hv⟩ := rp1 hd
    obtain rfl := (show v = V.str _ from hv)
    exact call_len_str pins s σ H _ us Q I r ⟨_, rfl, e0, P.here S rfl⟩
  · simp only [bind_ok, pure_ok] at e; obtain ⟨ys, _, e1, rfl, rfl⟩ := e
    obtain ⟨v, rfl, hv⟩ := rp1 hd
    obtain ⟨rfl, a, vs, rfl, h1, h2⟩ := seqOf_ok e1 S hv
    refine call_len_seq pins s σ H _ us Q I r ⟨a, vs, rfl, h1, ?_⟩
    rw [h2.length]
    exact P.here S rfl
  · simp [bad_ok] at e
theorem abs_c : CallR X (.builtin "abs") (rBI X.K bAbs) := by
  intro pins s σ H xs us Q I r ⟨μ, st, ds, d, st', S, hd, e, P⟩
  unfold bAbs at e
  split at e
  · simp only [pure_ok] at e; obtain ⟨rfl, rfl⟩ := e
    obtain ⟨v, rfl, hv⟩ := rp1 hd
    obtain rfl := (show v = V.int _ from hv)
    exact call_abs pins s σ H _ us Q I r ⟨_, rfl, P.here S rfl⟩
  · simp [bad_ok] at e
theorem max2_c (hc : X.calm = true) : CallR X (.builtin "max") (rBI X.K bMax2) := by
  intro pins s σ H xs us Q I r ⟨μ, st, ds, d, st', S, hd, e, P⟩
  unfold bMax2 at e
  split at e
  · simp only [pure_ok] at e; obtain ⟨rfl, rfl⟩ := e
    obtain ⟨v, w, rfl, hv, hw⟩ := rp2 hd
    obtain rfl := (show v = V.int _ from hv)
    obtain rfl := (show w = V.int _ from hw)
    exact call_max2 hc pins s σ H _ us Q I r ⟨_, _, rfl, P.here S rfl⟩
  · simp [bad_ok] at e
theorem min2_c (hc : X.calm = true) : CallR X (.builtin "min") (rBI X.K bMin2) := by
  intro pins s σ H xs us Q I r ⟨μ, st, ds, d, st', S, hd, e, P⟩
  unfold bMin2 at e
  split at e
  · simp only [pure_ok] at e; obtain ⟨rfl, rfl⟩ := e
    obtain ⟨v, w, rfl, hv, hw⟩ := rp2 hd
    obtain rfl := (show v = V.int _ from hv)
    obtain rfl := (show w = V.int _ from hw)
    exact call_min2 hc pins s σ H _ us Q I r ⟨_, _, rfl, P.here S rfl⟩
  · simp [bad_ok] at e
theorem all_c (hc : X.calm = true) : CallR X (.builtin "all") (rBI X.K bAll) := by
  intro pins s σ H xs us Q I r ⟨μ, st, ds, d, st', S, hd, e, P⟩
  unfold bAll at e
  split at e
  · simp only [bind_ok, ofO_ok, pure_ok] at e; obtain ⟨ys, _, e1, is, _, ⟨e2, rfl⟩, rfl, rfl⟩ := e
    obtain ⟨v, rfl, hv⟩ := rp1 hd
    obtain ⟨rfl, a, vs, rfl, h1, h2⟩ := lsOf_ok e1 S hv
    rw [h2.bls e2] at h1
    exact cr_all hc pins s σ H _ us Q I r ⟨a, is, rfl, h1, P.here S rfl⟩
  · simp [bad_ok] at e
theorem divmod_c : CallR X (.builtin "divmod") (rBI X.K bDivmod) := by
  intro pins s σ H xs us Q I r ⟨μ, st, ds, d, st', S, hd, e, P⟩
  unfold bDivmod at e
  split at e
  · simp only [bind_ok, guard_ok, pure_ok, Bool.and_eq_true, decide_eq_true_eq, Bool.not_eq_true'] at e; obtain ⟨_, _, ⟨e0, rfl⟩, rfl, rfl⟩ := e
    obtain ⟨v, w, rfl, hv, hw⟩ := rp2 hd
    obtain rfl := (show v = V.int _ from hv)
    obtain rfl := (show w = V.int _ from hw)
    obtain ⟨u1, u2, rfl, ⟨t, rfl⟩, ⟨t', rfl⟩⟩ := vals2 r
    refine PyProof.Rows.divmod_int (by omega) ?_ (.inl e0.2)
    rw [Int.fdiv_eq_ediv_of_nonneg _ (by omega), Int.fmod_eq_emod_of_nonneg _ (by omega)]
    exact fin_tup I S P (.cons rfl (.cons rfl .nil)) (.cons ⟨_, rfl⟩ (.cons ⟨_, rfl⟩ .nil)) (by rw [sizeLine_eq]; exact (by decide : 2 ≤ 16777216))
  · simp [bad_ok] at e
end
end RV

/-! RRE: the text of lists that hold {}: the modules' dict stands in the base, and is no list. -/
namespace RV
open PySem PySem.Spec PyProof.Rows L2
mutual
theorem reads_sys {h : Heap} (sd : SysD h) : ∀ (d : PyData) {v : Value} {as : List Addr}, Reads h v d as → eD d = true → sysModules ∉ as
  | .none, _, _, r, _ => by cases r; exact List.not_mem_nil
  | .bool _, _, _, r, _ => by cases r; exact List.not_mem_nil
  | .int _, _, _, r, _ => by cases r; exact List.not_mem_nil
  | .str _, _, _, r, _ => by cases r; exact List.not_mem_nil
  | .list xs, _, _, r, e => by
    cases r with
    | list h1 h2 h3 h4 =>
      rw [eD] at e
      intro hm
      rcases List.mem_cons.mp hm with z | z
      · obtain ⟨o, es, ep, q, q2, _⟩ := sd
        rw [← z, q] at h1
        cases h1
        rw [q2] at h3
        cases h3
      · exact reads_sysL sd xs h4 e z
  | .tuple xs, _, _, r, e => by
    cases r with
    | tuple h1 h2 h3 h4 =>
      rw [eD] at e
      exact reads_sysL sd xs h4 e
  | .dict kvs, _, _, r, e => by
    cases r with
    | dict h1 h2 h3 h4 h5 =>
      rw [eD] at e
      obtain rfl := List.isEmpty_iff.mp e
      intro hm
      rename_i es n as bs
      have ek : es.toList = [] := by
        generalize es.toList = l at h4
        cases l with
        | nil => rfl
        | cons a r => cases h4
      rw [ek] at h4 h5
      cases h4
      cases h5
      rw [List.append_nil, List.mem_singleton] at hm
      obtain ⟨o, es2, ep, q, q2, q3⟩ := sd
      rw [← hm, q] at h1
      cases h1
      rw [q2] at h3
      cases h3
      exact q3 ek
theorem reads_sysL {h : Heap} (sd : SysD h) : ∀ (ds : List PyData) {vs : List Value} {as : List Addr}, ReadsAll h vs ds as → eDL ds = true → sysModules ∉ as
  | [], _, _, r, _ => by cases r; exact List.not_mem_nil
  | d :: ds, _, _, r, e => by
    cases r with
    | cons r1 r2 =>
      rw [eDL, Bool.and_eq_true] at e
      intro hm
      rcases List.mem_append.mp hm with z | z
      · exact reads_sys sd d r1 e.1 z
      · exact reads_sysL sd ds r2 e.2 z
end
variable [Wd]
section
variable {X : Cx}
theorem reprE_c (hu : X.A.units + 66 < cLine) (hg : X.A.guards = some []) (hs : SysD X.base) : CallR X (.builtin "repr") (rBI X.K bReprE) := by
  intro pins s σ H xs us Q I r ⟨μ, st, ds, d, st', S, hd, e, P⟩
  have sd : SysD s.heap := hs.keep fun b o z => I.bk b o z
  unfold bReprE at e
  split at e
  · rename_i d
    obtain ⟨v, rfl, hv⟩ := rp1 hd
    unfold reprDE at e
    simp only [bind_ok, asPy_ok, guard_ok, pure_ok, Bool.and_eq_true, decide_eq_true_eq] at e
    obtain ⟨p, _, ⟨e1, rfl⟩, _, _, ⟨⟨⟨⟨e2, e3⟩, e4⟩, e5⟩, rfl⟩, rfl, rfl⟩ := e
    obtain ⟨u, rfl, rv⟩ := vals1 r
    obtain ⟨as, q1, _⟩ := toPy_reads I S _ e1 hv rv
    have q2 := reads_sys sd _ q1 e5
    have q := P.here S (v := .str p.shown) rfl
    cases q1 with
    | none => exact PySem.P.repr_of_none ⟨.str _, H, I.tok _, ⟨_, rfl⟩, q⟩
    | bool b => exact PySem.P.repr_of_bool ⟨.str _, H, I.tok _, ⟨_, rfl⟩, q⟩
    | int i t => exact PySem.P.repr_of_int (by simpa [PyData.showable] using e2) ⟨.str _, H, I.tok _, ⟨_, rfl⟩, q⟩
    | str x t => exact PySem.P.repr_of_str ⟨.str _, H, I.tok _, ⟨_, rfl⟩, q⟩ e4
    | list h1 h2 h3 h4 =>
      refine repr_of_reads' (.list h1 h2 h3 h4) e2 (fun _ => q2) hg (by omega) (fun _ _ h => h) (fun h' u tk hk => ?_) e4
      exact ⟨.str _, H, I.kept (t' := tk) hk, ⟨_, rfl⟩, q⟩
    | tuple h1 h2 h3 h4 =>
      refine repr_of_reads' (.tuple h1 h2 h3 h4) e2 (fun _ => q2) hg (by omega) (fun _ _ h => h) (fun h' u tk hk => ?_) e4
      exact ⟨.str _, H, I.kept (t' := tk) hk, ⟨_, rfl⟩, q⟩
    | dict h1 h2 h3 h4 h5 =>
      refine repr_of_reads' (.dict h1 h2 h3 h4 h5) e2 (fun _ => q2) hg (by omega) (fun _ _ h => h) (fun h' u tk hk => ?_) e4
      exact ⟨.str _, H, I.kept (t' := tk) hk, ⟨_, rfl⟩, q⟩
  · simp [bad_ok] at e
end
end RV

namespace RV
open PySem L2
variable [Wd]
def rMI (K : PySem.W.Frag) (f : D → List D → M D) : V → List V → Hp → VK → Prop := fun vx vs H Q => ∃ μ st x ds d st', RpS K μ H st ∧ Rp K μ H x vx ∧ RpL K μ H ds vs ∧ f x ds st = .ok d st' ∧ Post K μ H st' d Q
section
variable {X : Cx} {H : Hp} {μ : List Addr} {st : Sto}
mutual
theorem KeyIs.nested {pins : List (Addr × Obj)} {σ : L2.St} {s : Shared} (I : Inv X pins σ H s) : ∀ {k : NestedKey} {v : V} {u : Value}, KeyIs H k v → RelV v u → NestedIs s.heap k u
  | .none, _, u, h, r => by
    rw [show _ = V.non from h] at r
    cases (show u = Value.none from r)
    exact .none
  | .num i, _, u, h, r => by
    rcases h with rfl | ⟨b, rfl, e⟩
    · obtain ⟨t, rfl⟩ := r
      exact .int _ _
    · cases (show u = Value.bool b from r)
      exact .bool e
  | .text z, _, u, h, r => by
    rw [show _ = V.str z from h] at r
    obtain ⟨t, rfl⟩ := r
    exact .text _ _
  | .tup ks, _, u, ⟨a, xs, e, hq, r2⟩, r => by
    rw [e] at r
    cases r
    obtain ⟨its, rv, ⟨o, ho, hc, n, hd⟩, _⟩ := I.tuple (hq.t (K := X.K))
    exact .tup ho hc hd (by simpa using KeyAll.nested I r2 rv)
theorem KeyAll.nested {pins : List (Addr × Obj)} {σ : L2.St} {s : Shared} (I : Inv X pins σ H s) : ∀ {ks : List NestedKey} {vs : List V} {us : List Value}, KeyAll H ks vs → Vals vs us → NestedAll s.heap ks us
  | [], _, us, h, r => by
    rw [show _ = ([] : List V) from h] at r
    cases r
    exact .nil
  | k :: ks, _, us, ⟨x, q, e, h, t⟩, r => by
    rw [e] at r
    cases r with
    | cons r1 r2 => exact .cons (KeyIs.nested I h r1) (KeyAll.nested I t r2)
end
theorem append_m : MtR X "list.append" (rMI X.K mAppend) := by
  intro pins s σ H vx vs v us Q I rx rs ⟨μ, st, x, ds, d, st', S, hx, hd, e, P⟩
  unfold mAppend at e
  split at e
  · simp only [bind_ok, getM_ok, guard_ok, putL_ok, pure_ok, Bool.and_eq_true, decide_eq_true_eq] at e
    obtain ⟨xs, _, ⟨e1, rfl⟩, _, _, ⟨⟨e2, eb⟩, rfl⟩, _, _, rfl, rfl, rfl⟩ := e
    obtain ⟨a, ys, rfl, ha, h1, h2⟩ := S.lst e1 hx
    obtain ⟨w, rfl, hw⟩ := rp1 hd
    exact mt_append pins s σ H _ _ v us Q I rx rs ⟨a, ys, w, rfl, rfl, h1, by rw [h2.length]; exact e2, P.put S ha (h2.append (.cons hw .nil)) rfl (belowL_app (S.wf _ _ e1) (by unfold belowL; rw [eb]; rfl))⟩
  · simp [bad_ok] at e
theorem RpL.dropLast {K : PySem.W.Frag} {ds : List D} {vs : List V} (r : RpL K μ H ds vs) : RpL K μ H ds.dropLast vs.dropLast := by
  rw [List.dropLast_eq_take, List.dropLast_eq_take, r.length]
  exact r.take _
theorem idxF_ok {x : D} : ∀ {ds : List D} {j : Nat}, idxF x ds = some j → (∃ z, ds[j]? = some z ∧ eqF z x = true) ∧ ∀ m z, m < j → ds[m]? = some z → eqF z x = false
  | [], _, e => by cases e
  | d :: ds, j, e => by
    rw [idxF] at e
    split at e
    · rename_i h
      cases e
      exact ⟨⟨d, rfl, h⟩, fun m z hm => by omega⟩
    · rename_i h
      obtain ⟨k, e1, rfl⟩ := Option.map_eq_some_iff.mp e
      obtain ⟨⟨z, h1, h2⟩, h3⟩ := idxF_ok e1
      refine ⟨⟨z, by simpa using h1, h2⟩, fun m y hm hy => ?_⟩
      cases m with
      | zero => simp at hy; subst hy; exact Bool.eq_false_iff.mpr h
      | succ m => exact h3 m y (by omega) (by simpa using hy)
theorem strsOf_map : ∀ {ds : List D} {ss : List Str}, strsOf ds = some ss → ds = ss.map D.str
  | [], _, e => by cases e; rfl
  | .str x :: r, _, e => by
    rw [strsOf] at e
    obtain ⟨t, e1, rfl⟩ := Option.map_eq_some_iff.mp e
    rw [strsOf_map e1]; rfl
theorem indexL_m (hu : X.A.units + 66 < cLine) : MtR X "list.index" (fun vx vs H Q => (∃ a xs, vx = .ref a ∧ SqL X.K H a xs) ∧ rMI X.K mIndex vx vs H Q) := by
  intro pins s σ H vx vs v us Q I rx rs hh
  obtain ⟨⟨a0, xs0, rfl, ha0⟩, μ, st, x, ds, d, st', S, hx, hd, e, P⟩ := hh
  unfold mIndex at e
  split at e
  · obtain ⟨a, xs, e', ht, _⟩ := hx
    cases e'
    cases rx
    obtain ⟨_, _, ⟨o, n, ho, hc, _⟩, _⟩ := I.list ha0
    obtain ⟨_, _, ⟨o2, ho2, hc2, _⟩, _⟩ := I.tuple ht.t
    rw [ho] at ho2
    cases ho2
    rw [hc] at hc2
    simp at hc2
  · simp [bad_ok] at e
  · exact absurd (show V.ref a0 = V.str _ from hx) (fun z => nomatch z)
  · rw [bind_ok] at e
    obtain ⟨ys, s1, e1, e⟩ := e
    obtain ⟨rfl, a, ws, e', h1, h2⟩ := lsOf_ok e1 S hx
    cases e'
    obtain ⟨w, rfl, hw⟩ := rp1 hd
    split at e
    rotate_left
    · simp only [bind_ok, guard_ok, ofO_ok, pure_ok, Bool.and_eq_true, decide_eq_true_eq] at e
      obtain ⟨k, _, ⟨e2, rfl⟩, ks, _, ⟨e3, rfl⟩, _, _, ⟨⟨e4, e5⟩, rfl⟩, rfl, rfl⟩ := e
      cases rx
      obtain ⟨its, rv, pl, hz⟩ := I.list h1
      have ha := KeyAll.nested I (KeyAll.of e3 h2) rv
      obtain ⟨u, rfl, ru⟩ := vals1 rs
      have hx := KeyIs.nested I (KeyIs.of e2 hw) ru
      have hlen : ks.length ≤ sizeLine := by rw [← NestedAll.length _ _ ha, ← rv.length]; exact hz
      exact SeqAt.call_list_index pl.isList (.nested ha hx (by show X.A.units + 1 + k.depth < cLine; omega)) hlen e5 ⟨.int _, H, I.tok _, ⟨_, rfl⟩, P.here S rfl⟩
    rename_i hflat
    rw [Bool.and_eq_true] at hflat
    obtain ⟨f1, f2⟩ := hflat
    simp only [bind_ok, ofO_ok, pure_ok] at e
    obtain ⟨j, _, ⟨e3, rfl⟩, rfl, rfl⟩ := e
    obtain ⟨⟨z, q1, q2⟩, q3⟩ := idxF_ok e3
    obtain ⟨g1, g2⟩ := flat_vs f2 h2
    obtain ⟨z', p1, p2⟩ := h2.get q1
    have fz : ∀ {y : D}, y ∈ ys → flat y = true := fun hy => List.all_eq_true.mp f2 _ hy
    refine mt_index pins s σ H _ _ v us Q I rx rs ⟨_, ws, w, j, z', rfl, rfl, h1, (flat_v f1 hw).1, g1, p1, ?_, fun m zm hm hzm => ?_, P.here S rfl⟩
    · rw [(flat_v (fz (List.mem_of_getElem? q1)) p2).2 _ _ f1 hw]; exact q2
    · obtain ⟨dm, r1, r2⟩ := h2.getV hzm
      rw [(flat_v (fz (List.mem_of_getElem? r1)) r2).2 _ _ f1 hw]
      exact q3 m dm hm r1
  · simp [bad_ok] at e
theorem countL_m (hu : X.A.units + 66 < cLine) : MtR X "list.count" (fun vx vs H Q => (∃ a xs, vx = .ref a ∧ SqL X.K H a xs) ∧ rMI X.K mCount vx vs H Q) := by
  intro pins s σ H vx vs v us Q I rx rs hh
  obtain ⟨⟨a0, xs0, rfl, ha0⟩, μ, st, x, ds, d, st', S, hx, hd, e, P⟩ := hh
  unfold mCount at e
  split at e
  · simp only [bind_ok, asPy_ok] at e
    obtain ⟨ys, _, e1, p, _, ⟨e2, rfl⟩, q, _, ⟨e3, rfl⟩, e⟩ := e
    obtain ⟨rfl, a, ws, e', h1, h2⟩ := lsOf_ok e1 S hx
    cases e'
    split at e
    · simp only [bind_ok, guard_ok, pure_ok, Bool.and_eq_true, decide_eq_true_eq] at e
      obtain ⟨_, _, ⟨⟨⟨g1, g2⟩, g3⟩, rfl⟩, rfl, rfl⟩ := e
      obtain ⟨w, rfl, hw⟩ := rp1 hd
      obtain ⟨u, rfl, ru⟩ := vals1 rs
      obtain ⟨as, r1, _⟩ := toPy_reads I S _ e2 hw ru
      obtain ⟨bs, r2, _⟩ := toPy_reads I S _ e3 hx rx
      cases rx
      cases r2 with
      | list ho hc hd2 rs2 => exact SeqAt.count_list_data ⟨_, ho, hc, _, hd2⟩ rs2 r1 g1 g2 (by omega) ⟨.int _, H, I.tok _, ⟨_, rfl⟩, P.here S rfl⟩
    · simp [bad_ok] at e
  · simp [bad_ok] at e
theorem indexS_m : MtR X "str.index" (rMI X.K mIndex') := by
  intro pins s σ H vx vs v us Q I rx rs ⟨μ, st, x, ds, d, st', S, hx, hd, e, P⟩
  unfold mIndex' at e
  split at e
  · rename_i a b
    obtain rfl := (show vx = V.str a from hx)
    obtain ⟨w, rfl, hw⟩ := rp1 hd
    obtain rfl := (show w = V.str b from hw)
    obtain ⟨t, rfl⟩ := rx
    obtain ⟨u, rfl, ru⟩ := vals1 rs
    obtain ⟨t2, rfl⟩ := ru
    cases q : Builtin.Str.occurrences a b 0 a.length 1 with
    | cons i r =>
      rw [q] at e
      simp only [pure_ok] at e
      obtain ⟨rfl, rfl⟩ := e
      exact PySem.SC.index q ⟨.int (i : Nat), H, I.tok _, ⟨_, rfl⟩, P.here S rfl⟩
    | nil =>
      rw [q] at e
      simp [bad_ok] at e
  · simp [bad_ok] at e
theorem indexT_m : MtR X "tuple.index" (fun vx vs H Q => (∃ a xs, vx = .ref a ∧ SqT X.K H a xs) ∧ rMI X.K mIndex vx vs H Q) := by
  intro pins s σ H vx vs v us Q I rx rs hh
  obtain ⟨⟨a0, xs0, rfl, ha0⟩, μ, st, x, ds, d, st', S, hx, hd, e, P⟩ := hh
  unfold mIndex at e
  split at e
  · simp only [bind_ok, ofO_ok, pure_ok] at e
    obtain ⟨ss, _, ⟨e1, rfl⟩, j, _, ⟨e3, rfl⟩, rfl, rfl⟩ := e
    obtain ⟨a, xs, e', ht, hr⟩ := hx
    cases e'
    replace ht := ht.t (K := X.K)
    obtain ⟨w, rfl, hw⟩ := rp1 hd
    obtain rfl := (show w = V.str _ from hw)
    have es := strsOf_map e1
    rw [hr.strs e1] at ht
    obtain ⟨⟨z, q1, q2⟩, q3⟩ := idxF_ok e3
    rw [es, List.getElem?_map] at q1
    obtain ⟨y, q1', rfl⟩ := Option.map_eq_some_iff.mp q1
    have hy : y = _ := eq_of_beq (show (y == _) = true from q2)
    subst hy
    refine mt_tup_index pins s σ H _ _ v us Q I rx rs ⟨_, ss, _, j, rfl, rfl, ht, q1', fun m hm hz => ?_, P.here S rfl⟩
    have := q3 m (.str y) hm (by rw [es, List.getElem?_map, hz]; rfl)
    simp [eqF] at this
  · simp [bad_ok] at e
  · exact absurd (show V.ref a0 = V.str _ from hx) (fun z => nomatch z)
  · exfalso
    simp only [bind_ok] at e
    obtain ⟨ys, _, e1, _⟩ := e
    obtain ⟨rfl, a, ws, e', h1, h2⟩ := lsOf_ok e1 S hx
    cases e'
    obtain ⟨_, _, ⟨o, n, ho, hc, _⟩, _⟩ := I.list h1
    obtain ⟨_, _, ⟨o2, ho2, hc2, _⟩, _⟩ := I.tuple ha0
    rw [ho] at ho2
    cases ho2
    rw [hc] at hc2
    simp at hc2
  · simp [bad_ok] at e
end
end RV

/-! R7: runs as readings; the rules of expressions. -/
namespace RV
open PySem L2
variable [Wd]

/-- a wish about errors -/
abbrev FW := Ex → Sto → List Addr → Hp → Prop
def FX (K : PySem.W.Frag) (F : FW) (μ : List Addr) (H : Hp) (x : Ex) (st : Sto) : Prop := ∀ μ' H', Ext μ H μ' H' → RpS K μ' H' st → F x st μ' H'
def Wp {α : Type} (K : PySem.W.Frag) (F : FW) (m : N α) (st : Sto) (μ : List Addr) (H : Hp) (k : α → Sto → List Addr → Hp → Prop) : Prop :=
  match m st with
  | .ok a st' => ∀ μ' H', Ext μ H μ' H' → k a st' μ' H'
  | .err x st' => FX K F μ H x st'
  | .bad => False
section
variable {α β : Type} {K : PySem.W.Frag} {F : FW} {st : Sto} {μ : List Addr} {H : Hp}
theorem Wp.mono {m : N α} {k k' : α → Sto → List Addr → Hp → Prop} (h : Wp K F m st μ H k) (hk : ∀ a st' μ' H', Ext μ H μ' H' → k a st' μ' H' → k' a st' μ' H') : Wp K F m st μ H k' := by
  unfold Wp at h ⊢
  cases e : m st with
  | ok a st' => rw [e] at h; exact fun μ' H' x => hk a st' μ' H' x (h μ' H' x)
  | err x st' => rw [e] at h; exact h
  | bad => rw [e] at h; exact h
theorem Wp.ext {μ' : List Addr} {H' : Hp} {m : N α} {k : α → Sto → List Addr → Hp → Prop} (h : Wp K F m st μ H k) (x : Ext μ H μ' H') : Wp K F m st μ' H' k := by
  unfold Wp at h ⊢
  cases e : m st with
  | ok a st' => rw [e] at h; exact fun μ2 H2 y => h μ2 H2 (x.trans y)
  | err z st' => rw [e] at h; exact fun μ2 H2 y => h μ2 H2 (x.trans y)
  | bad => rw [e] at h; exact h
theorem Wp.bind {m : N α} {f : α → N β} {k : β → Sto → List Addr → Hp → Prop} (h : Wp K F (N.bind m f) st μ H k) : Wp K F m st μ H fun a st1 μ1 H1 => Wp K F (f a) st1 μ1 H1 k := by
  unfold Wp N.bind at h
  unfold Wp
  cases e : m st with
  | ok a st' => rw [e] at h; exact fun μ' H' x => Wp.ext (m := f a) h x
  | err x st' => rw [e] at h; exact h
  | bad => rw [e] at h; exact h
theorem Wp.pure {a : α} {k : α → Sto → List Addr → Hp → Prop} (h : Wp K F (N.pure a) st μ H k) : k a st μ H := h μ H .refl
theorem Wp.bad {k : α → Sto → List Addr → Hp → Prop} (h : Wp K F N.bad st μ H k) : False := h
theorem Wp.up {m : M α} {k : α → Sto → List Addr → Hp → Prop} (h : Wp K F (up m) st μ H k) : ∃ a st', m st = .ok a st' ∧ ∀ μ' H', Ext μ H μ' H' → k a st' μ' H' := by
  unfold Wp RV.up at h
  cases e : m st with
  | ok a st' => rw [e] at h; exact ⟨a, st', rfl, h⟩
  | bad => rw [e] at h; exact h.elim
end
/-- names' values -/
structure RpE (K : PySem.W.Frag) (μ : List Addr) (H : Hp) (env : Env) (σ : L2.St) : Prop where
  len : σ.length = env.length
  at_ : ∀ (i : Nat) (d : D), env[i]? = some (some d) → ∃ v, σ[i]? = some (some v) ∧ Rp K μ H d v
def kV (K : PySem.W.Frag) (Q : VK) : D → Sto → List Addr → Hp → Prop := fun d st' μ' H' => ∀ v, RpS K μ' H' st' → Rp K μ' H' d v → Q v H'
def kL (K : PySem.W.Frag) (Q : List V → Hp → Prop) : List D → Sto → List Addr → Hp → Prop := fun ds st' μ' H' => ∀ vs, RpS K μ' H' st' → RpL K μ' H' ds vs → Q vs H'
def kB (K : PySem.W.Frag) (Q : Bool → Hp → Prop) : Bool → Sto → List Addr → Hp → Prop := fun b st' μ' H' => RpS K μ' H' st' → Q b H'
section
variable (K : PySem.W.Frag) (F : L2.St → FW) (Φ : Str → List D → N D) (W : Nat)
def rdN (f : Env → N D) : TE := fun σ H Q => ∃ μ env st, RpS K μ H st ∧ RpE K μ H env σ ∧ Wp K (F σ) (f env) st μ H (kV K Q)
def rdE (c : C) : TE := rdN K F (runE Φ W c)
def rdL (cs : Cs) : TA := fun σ H Q => ∃ μ env st, RpS K μ H st ∧ RpE K μ H env σ ∧ Wp K (F σ) (runEs Φ W cs env) st μ H (kL K Q)
def tst (c : C) (env : Env) : N Bool := N.bind (runE Φ W c env) fun x => up (truth x)
def rdT (c : C) : TT := fun σ H Q => ∃ μ env st, RpS K μ H st ∧ RpE K μ H env σ ∧ Wp K (F σ) (tst Φ W c env) st μ H (kB K Q)
end
theorem RpE.ext {K : PySem.W.Frag} {μ μ' : List Addr} {H H' : Hp} {st : Sto} {env : Env} {σ : L2.St} (E : RpE K μ H env σ) (S : RpS K μ H st) (x : Ext μ H μ' H') : RpE K μ' H' env σ :=
  ⟨E.len, fun i d e => let ⟨v, h1, h2⟩ := E.at_ i d e; ⟨v, h1, h2.ext S x⟩⟩
theorem _root_.L2.PE.weak {X : Cx} {e : Expr} {t t' : TE} (h : PE X e t) (k : ∀ σ H Q, t' σ H Q → t σ H Q) : PE X e t' := ⟨fun pins s σ H Q I q => h.run pins s σ H Q I (k σ H Q q)⟩
theorem _root_.L2.PT.weak {X : Cx} {e : Expr} {t t' : TT} (h : PT X e t) (k : ∀ σ H Q, t' σ H Q → t σ H Q) : PT X e t' := ⟨fun pins s σ H Q I q => h.run pins s σ H Q I (k σ H Q q)⟩
theorem _root_.L2.PW.weak {X : Cx} {e : Expr} {t t' : TT} (h : PW X e t) (k : ∀ σ H Q, t' σ H Q → t σ H Q) : PW X e t' := ⟨fun w pins s σ H Q I q => h.run w pins s σ H Q I (k σ H Q q)⟩
theorem _root_.L2.PA.weak {X : Cx} {e : List Expr} {t t' : TA} (h : PA X e t) (k : ∀ σ H Q, t' σ H Q → t σ H Q) : PA X e t' := ⟨fun w pins s σ H Q I q => h.run w pins s σ H Q I (k σ H Q q)⟩
section
variable {X : Cx} {F : L2.St → FW} {Φ : Str → List D → N D} {W : Nat} {a b c e : Expr} {ca cb cc : C} {pos : Pos}
/-- what stands behind a part: the value v stands for d, and the rest runs -/
theorem kV_step {G : FW} {α : Type} {K : PySem.W.Frag} {μ : List Addr} {H : Hp} {st : Sto} {m : N D} {f : D → N α} {k : α → Sto → List Addr → Hp → Prop} {Q : VK} (h : Wp K G (N.bind m f) st μ H k)
    (hq : ∀ d st' μ' H' v, Ext μ H μ' H' → RpS K μ' H' st' → Rp K μ' H' d v → Wp K G (f d) st' μ' H' k → Q v H') : Wp K G m st μ H (kV K Q) :=
  h.bind.mono fun d st' μ' H' x w v S r => hq d st' μ' H' v x S r w
theorem up_post {G : FW} {K : PySem.W.Frag} {μ : List Addr} {H : Hp} {st : Sto} {m : M D} {Q : VK} (h : Wp K G (up m) st μ H (kV K Q)) : ∃ d st', m st = .ok d st' ∧ Post K μ H st' d Q := by
  obtain ⟨d, st', e, q⟩ := h.up
  exact ⟨d, st', e, fun μ' H' v x S r => q μ' H' x v S r⟩
theorem r_var {i : Nat} (h : PE X e (tVar i)) : PE X e (rdE X.K F Φ W (.var i)) := h.weak fun σ H Q ⟨μ, env, st, S, E, w⟩ => by
  unfold runE at w
  split at w
  · rename_i d he
    obtain ⟨v, h1, h2⟩ := E.at_ i d he
    exact ⟨v, h1, w.pure v S h2⟩
  · exact w.bad.elim
/-- a value without parts of the heap -/
def flatD : D → Option V
  | .non => some .non
  | .bl b => some (.bl b)
  | .int i => some (.int i)
  | .str s => some (.str s)
  | _ => none
theorem r_cst {d : D} {v : V} (hd : flatD d = some v) (h : PE X e (tC v)) : PE X e (rdE X.K F Φ W (.cst d)) := h.weak fun σ H Q ⟨μ, env, st, S, E, w⟩ => by
  unfold runE at w
  refine w.pure v S ?_
  cases d <;> first | (cases hd; rfl) | cases hd
theorem r_bin {o : BOp} (ha : PE X a (rdE X.K F Φ W ca)) (hb : PE X b (rdE X.K F Φ W cb)) : PE X (.BinOp a (opB o) b pos) (rdE X.K F Φ W (.bin o ca cb)) :=
  (pe_op (opB_v o) ha hb).weak fun σ H Q ⟨μ, env, st, S, E, w⟩ => by
    unfold runE at w
    refine ⟨μ, env, st, S, E, kV_step w fun x st1 μ1 H1 v x1 S1 hx w1 => ⟨μ1, env, st1, S1, E.ext S x1, kV_step w1 fun y st2 μ2 H2 u x2 S2 hy w2 => ?_⟩⟩
    obtain ⟨d, st', e, P⟩ := up_post w2
    exact ⟨μ2, st2, x, y, d, st', S2, hx.ext S1 x2, hy, e, P⟩
theorem up_bl {G : FW} {K : PySem.W.Frag} {μ : List Addr} {H : Hp} {st : Sto} {m : M Bool} {Q : VK} (h : Wp K G (N.bind (up m) fun r => N.pure (.bl r)) st μ H (kV K Q)) : ∃ b st', m st = .ok b st' ∧ Post K μ H st' (.bl b) Q := by
  obtain ⟨d, st', e, q⟩ := h.bind.up
  exact ⟨d, st', e, fun μ' H' v x S r => (q μ' H' x).pure v S r⟩
theorem r_cmp {o : COp} (hu : X.A.units + 66 < cLine) (hm : behindInMarks (opC o) b = false) (ha : PE X a (rdE X.K F Φ W ca)) (hb : PE X b (rdE X.K F Φ W cb)) : PE X (.Compare a [opC o] [b] pos) (rdE X.K F Φ W (.cmp o ca cb)) :=
  (pe_cmpR (opC_v hu o) ha hb hm).weak fun σ H Q ⟨μ, env, st, S, E, w⟩ => by
    unfold runE at w
    refine ⟨μ, env, st, S, E, kV_step w fun x st1 μ1 H1 v x1 S1 hx w1 => ⟨μ1, env, st1, S1, E.ext S x1, kV_step w1 fun y st2 μ2 H2 u x2 S2 hy w2 => ?_⟩⟩
    obtain ⟨d, st', e, P⟩ := up_bl w2
    exact ⟨μ2, st2, x, y, d, st', S2, hx.ext S1 x2, hy, e, P⟩
/-- a test of something that gives a truth value -/
theorem tst_bl {G : FW} {K : PySem.W.Frag} {μ : List Addr} {H : Hp} {st : Sto} {m : M Bool} {Q : Bool → Hp → Prop} (h : Wp K G (N.bind (N.bind (up m) fun r => N.pure (.bl r)) fun x => up (truth x)) st μ H (kB K Q)) : ∃ b st', m st = .ok b st' ∧ ∀ μ' H', Ext μ H μ' H' → RpS K μ' H' st' → Q b H' := by
  obtain ⟨d, st', e, q⟩ := h.bind.bind.up
  refine ⟨d, st', e, fun μ' H' x S => ?_⟩
  obtain ⟨b, s2, e2, q2⟩ := (q μ' H' x).pure.up
  cases e2
  exact q2 μ' H' .refl S
theorem bind_assoc {α β γ : Type} (m : N α) (f : α → N β) (g : β → N γ) : N.bind (N.bind m f) g = N.bind m fun a => N.bind (f a) g := by
  funext st
  unfold N.bind
  cases m st <;> rfl
theorem pure_bind {α β : Type} (a : α) (f : α → N β) : N.bind (N.pure a) f = f a := rfl
theorem t_cmp {o : COp} (hu : X.A.units + 66 < cLine) (hm : behindInMarks (opC o) b = false) (ha : PE X a (rdE X.K F Φ W ca)) (hb : PE X b (rdE X.K F Φ W cb)) : PT X (.Compare a [opC o] [b] pos) (rdT X.K F Φ W (.cmp o ca cb)) :=
  (pt_cmpR (opC_v hu o) ha hb hm).weak fun σ H Q ⟨μ, env, st, S, E, w⟩ => by
    unfold tst runE at w
    rw [bind_assoc] at w
    refine ⟨μ, env, st, S, E, kV_step w fun x st1 μ1 H1 v x1 S1 hx w1 => ?_⟩
    rw [bind_assoc] at w1
    refine ⟨μ1, env, st1, S1, E.ext S x1, kV_step w1 fun y st2 μ2 H2 u x2 S2 hy w2 => ?_⟩
    obtain ⟨d, st', e, q⟩ := tst_bl w2
    exact ⟨μ2, st2, x, y, d, st', S2, hx.ext S1 x2, hy, e, fun μ3 H3 z x3 S3 hz => ⟨d, hz, q μ3 H3 x3 S3⟩⟩
theorem r_chn {o p : COp} (hu : X.A.units + 66 < cLine) (hm : lastMarks [opC o, opC p] [b, c] = false) (ha : PE X a (rdE X.K F Φ W ca)) (hb : PE X b (rdE X.K F Φ W cb)) (hc : PE X c (rdE X.K F Φ W cc)) : PE X (.Compare a [opC o, opC p] [b, c] pos) (rdE X.K F Φ W (.chn o p ca cb cc)) :=
  (pe_chain (opC_v hu o) (opC_v hu p) ha hb hc hm).weak fun σ H Q ⟨μ, env, st, S, E, w⟩ => by
    unfold runE at w
    refine ⟨μ, env, st, S, E, kV_step w fun x st1 μ1 H1 v x1 S1 hx w1 => ⟨μ1, env, st1, S1, E.ext S x1, kV_step w1 fun y st2 μ2 H2 u x2 S2 hy w2 => ?_⟩⟩
    obtain ⟨d, st', e, q⟩ := w2.bind.up
    refine ⟨μ2, st2, x, y, d, st', S2, hx.ext S1 x2, hy, e, fun μ3 H3 z x3 S3 hz => ⟨d, hz, ?_⟩⟩
    have q := q μ3 H3 x3
    cases d with
    | false => exact q.pure (.bl false) S3 rfl
    | true =>
      rw [if_pos rfl] at q ⊢
      refine ⟨μ3, env, st', S3, (E.ext S x1).ext S1 x2 |>.ext S2 x3, kV_step q fun z' st4 μ4 H4 t x4 S4 hz' w4 => ?_⟩
      obtain ⟨d2, st5, e5, P⟩ := up_bl w4
      exact ⟨μ4, st4, y, z', d2, st5, S4, (hy.ext S2 x3).ext S3 x4, hz', e5, P⟩
end
end RV

/-! R8: more rules of expressions. -/
namespace RV
open PySem L2
variable [Wd]
section
variable {X : Cx} {F : L2.St → FW} {Φ : Str → List D → N D} {W : Nat} {a b c e : Expr} {es : List Expr} {ca cb cc : C} {cs : Cs} {pos : Pos}
/-! tests -/
theorem t_plain (he : ∀ whole, isTrue e X.env whole = (do let v ← whole; standAt e.pos; holding [v] (truthy v))) (ha : PE X e (rdE X.K F Φ W ca)) : PT X e (rdT X.K F Φ W ca) :=
  (pt_truth ha he).weak fun σ H Q ⟨μ, env, st, S, E, w⟩ => by
    unfold tst at w
    refine ⟨μ, env, st, S, E, kV_step w fun x st1 μ1 H1 v x1 S1 hx w1 => ?_⟩
    obtain ⟨t, st', e, q⟩ := w1.up
    obtain ⟨rfl, tv⟩ := truth_v e S1 hx
    exact ⟨t, tv, q μ1 H1 .refl S1⟩
theorem kB_step {G : FW} {α : Type} {K : PySem.W.Frag} {μ : List Addr} {H : Hp} {st : Sto} {m : N Bool} {f : Bool → N α} {k : α → Sto → List Addr → Hp → Prop} {Q : Bool → Hp → Prop} (h : Wp K G (N.bind m f) st μ H k)
    (hq : ∀ b st' μ' H', Ext μ H μ' H' → RpS K μ' H' st' → Wp K G (f b) st' μ' H' k → Q b H') : Wp K G m st μ H (kB K Q) :=
  h.bind.mono fun b st' μ' H' x w S => hq b st' μ' H' x S w
theorem t_or1 (ha : PT X a (rdT X.K F Φ W ca)) : PW X (.BoolOp .Or [a] pos) (rdT X.K F Φ W ca) := pw_or1 ha
theorem tst_or (env : Env) : tst Φ W (.or ca cb) env = N.bind (runE Φ W ca env) fun x => N.bind (up (truth x)) fun t => if t then up (truth x) else tst Φ W cb env := by
  unfold tst
  rw [runE, bind_assoc]
  congr 1
  funext x
  rw [bind_assoc]
  congr 1
  funext t
  cases t <;> rfl
/-- a look at the truth changes nothing, and comes out the same again -/
theorem truth_again {x : D} {st st' : Sto} {t : Bool} (e : truth x st = .ok t st') : st' = st ∧ truth x st = .ok t st := by
  unfold truth at e ⊢
  split at e
  · simp only [pure_ok] at e; obtain ⟨rfl, rfl⟩ := e; exact ⟨rfl, rfl⟩
  · simp only [pure_ok] at e; obtain ⟨rfl, rfl⟩ := e; exact ⟨rfl, rfl⟩
  · simp only [pure_ok] at e; obtain ⟨rfl, rfl⟩ := e; exact ⟨rfl, rfl⟩
  · split at e
    · cases e; exact ⟨rfl, by simp [*]⟩
    · cases e
  · simp only [pure_ok] at e; obtain ⟨rfl, rfl⟩ := e; exact ⟨rfl, rfl⟩
  · simp only [pure_ok] at e; obtain ⟨rfl, rfl⟩ := e; exact ⟨rfl, rfl⟩
  · have e' := e
    simp only [bind_ok, getL_ok, pure_ok] at e
    obtain ⟨xs, _, ⟨e1, rfl⟩, rfl, rfl⟩ := e
    exact ⟨rfl, e'⟩
  · simp [bad_ok] at e
  · simp [bad_ok] at e
theorem t_or {rest : List Expr} (ha : PT X a (rdT X.K F Φ W ca)) (hb : PW X (.BoolOp .Or (b :: rest) pos) (rdT X.K F Φ W cb)) : PW X (.BoolOp .Or (a :: b :: rest) pos) (rdT X.K F Φ W (.or ca cb)) :=
  (pw_or ha hb).weak fun σ H Q ⟨μ, env, st, S, E, w⟩ => by
    rw [tst_or] at w
    refine ⟨μ, env, st, S, E, ?_⟩
    show Wp X.K (F σ) (N.bind (runE Φ W ca env) fun x => up (truth x)) st μ H _
    unfold Wp N.bind at w ⊢
    cases hr : runE Φ W ca env st with
    | bad => rw [hr] at w; exact w
    | err x st1 => rw [hr] at w; exact w
    | ok x st1 =>
      rw [hr] at w
      dsimp only at w ⊢
      unfold up at w ⊢
      cases ht : truth x st1 with
      | bad => rw [ht] at w; exact w
      | ok t st2 =>
        rw [ht] at w
        obtain ⟨rfl, ht2⟩ := truth_again ht
        dsimp only at w ⊢
        intro μ1 H1 x1 S1
        cases t with
        | false => exact ⟨μ1, env, st2, S1, E.ext S x1, Wp.ext (m := tst Φ W cb env) w x1⟩
        | true =>
          have w2 : Wp X.K (F σ) (up (truth x)) st2 μ H (kB X.K Q) := w
          obtain ⟨t', st', e', q⟩ := w2.up
          rw [ht2] at e'
          cases e'
          exact q μ1 H1 x1 S1
theorem t_not (ha : PT X a (rdT X.K F Φ W ca)) : PT X (.UnaryOp .Not a pos) (rdT X.K F Φ W (.not ca)) :=
  (pt_not ha).weak fun σ H Q ⟨μ, env, st, S, E, w⟩ => by
    refine ⟨μ, env, st, S, E, ?_⟩
    unfold tst at w ⊢
    rw [runE, bind_assoc] at w
    have e : (fun x => N.bind (N.bind (up (truth x)) fun t => N.pure (D.bl !t)) fun x => up (truth x)) = fun x => N.bind (up (truth x)) fun t => N.pure !t := by
      funext x
      rw [bind_assoc]
      rfl
    rw [e, ← bind_assoc] at w
    exact w.bind.mono fun t st' μ' H' x w1 S1 => w1.pure S1
theorem r_ite {t : Expr} {ct : C} (ht : PT X t (rdT X.K F Φ W ct)) (ha : PE X a (rdE X.K F Φ W ca)) (hb : PE X b (rdE X.K F Φ W cb)) : PE X (.IfExp t a b pos) (rdE X.K F Φ W (.ite ct ca cb)) :=
  (pe_ifExp ht ha hb).weak fun σ H Q ⟨μ, env, st, S, E, w⟩ => by
    rw [rdE, rdN] at *
    refine ⟨μ, env, st, S, E, ?_⟩
    have e : runE Φ W (.ite ct ca cb) env = N.bind (tst Φ W ct env) fun t => if t then runE Φ W ca env else runE Φ W cb env := by
      unfold tst
      rw [runE, bind_assoc]
    rw [e] at w
    refine kB_step w fun t st1 μ1 H1 x1 S1 w1 => ?_
    cases t with
    | true => exact ⟨μ1, env, st1, S1, E.ext S x1, w1⟩
    | false => exact ⟨μ1, env, st1, S1, E.ext S x1, w1⟩
/-! displays, arguments -/
theorem r_nil : PA X [] (rdL X.K F Φ W .nil) := pa_nil.weak fun σ H Q ⟨μ, env, st, S, E, w⟩ => by
  unfold runEs at w
  exact w.pure [] S rfl
theorem r_cons (hs : starEach (e :: es) X.env = (false, eval e X.env) :: starEach es X.env) (ha : PE X e (rdE X.K F Φ W ca)) (hr : PA X es (rdL X.K F Φ W cs)) : PA X (e :: es) (rdL X.K F Φ W (.cons ca cs)) :=
  (pa_cons ha hr hs).weak fun σ H Q ⟨μ, env, st, S, E, w⟩ => by
    unfold runEs at w
    refine ⟨μ, env, st, S, E, kV_step w fun x st1 μ1 H1 v x1 S1 hx w1 => ⟨μ1, env, st1, S1, E.ext S x1, w1.bind.mono fun ys st2 μ2 H2 x2 w2 us S2 hy => ?_⟩⟩
    exact w2.pure (v :: us) S2 (.cons (hx.ext S1 x2) hy)
theorem kL_step {G : FW} {α : Type} {K : PySem.W.Frag} {μ : List Addr} {H : Hp} {st : Sto} {m : N (List D)} {f : List D → N α} {k : α → Sto → List Addr → Hp → Prop} {Q : List V → Hp → Prop} (h : Wp K G (N.bind m f) st μ H k)
    (hq : ∀ d st' μ' H' v, Ext μ H μ' H' → RpS K μ' H' st' → RpL K μ' H' d v → Wp K G (f d) st' μ' H' k → Q v H') : Wp K G m st μ H (kL K Q) :=
  h.bind.mono fun d st' μ' H' x w v S r => hq d st' μ' H' v x S r w
theorem r_tup {x1} (h : PA X es (rdL X.K F Φ W cs)) : PE X (.Tuple es x1 pos) (rdE X.K F Φ W (.tup cs)) := by
  refine ⟨fun pins s σ H Q I ⟨μ, env, st, S, E, w⟩ => ?_⟩
  unfold runE at w
  refine wpAny_Tuple_spliced (thn (h.run pos pins s σ H (fun vs H1 => ∃ μ1 st1 ds, RpS X.K μ1 H1 st1 ∧ RpL X.K μ1 H1 ds vs ∧ ds.length ≤ sizeLine ∧ Post X.K μ1 H1 st1 (.tup ds) Q) I ⟨μ, env, st, S, E, kL_step w fun ds st1 μ1 H1 vs x1 S1 hd w1 => ?_⟩) fun us s1 ⟨xs, H1, I1, r, μ1, st1, ds, S1, hd, z, P⟩ => ⟨?_, ?_⟩)
  · obtain ⟨_, st2, e, q⟩ := w1.bind.up
    simp only [guard_ok, decide_eq_true_eq] at e
    obtain ⟨e, rfl⟩ := e
    exact ⟨μ1, st1, ds, S1, hd, e, fun μ' H' v x S r => (q μ' H' x).pure v S r⟩
  · rw [← r.length, hd.length]; exact z
  · exact fin_tup0 I1 S1 P hd r (by rw [hd.length]; exact z)
theorem r_lst (h : PA X es (rdL X.K F Φ W cs)) : PE X (.List es pos) (rdE X.K F Φ W (.lst cs)) :=
  (pe_lst h).weak fun σ H Q ⟨μ, env, st, S, E, w⟩ => by
    unfold runE at w
    refine ⟨μ, env, st, S, E, kL_step w fun ds st1 μ1 H1 vs x1 S1 hd w1 => ?_⟩
    obtain ⟨_, st2, e, q⟩ := w1.bind.up
    simp only [guard_ok, decide_eq_true_eq] at e
    obtain ⟨e, rfl⟩ := e
    refine ⟨by rw [hd.length]; exact e, fun p hp => ?_⟩
    obtain ⟨d, st3, e3, P⟩ := up_post (q μ1 H1 .refl)
    simp only [alloc_ok] at e3
    obtain ⟨rfl, rfl⟩ := e3
    exact P.lst S1 hd hp
theorem r_idx (hs : PlainIx b) (ha : PE X a (rdE X.K F Φ W ca)) (hb : PE X b (rdE X.K F Φ W cb)) : PE X (.Subscript a b pos) (rdE X.K F Φ W (.idx ca cb)) :=
  (pe_ix index_v ha hb hs).weak fun σ H Q ⟨μ, env, st, S, E, w⟩ => by
    unfold runE at w
    refine ⟨μ, env, st, S, E, kV_step w fun x st1 μ1 H1 v x1 S1 hx w1 => ⟨μ1, env, st1, S1, E.ext S x1, kV_step w1 fun y st2 μ2 H2 u x2 S2 hy w2 => ?_⟩⟩
    obtain ⟨d, st', e, P⟩ := up_post w2
    exact ⟨μ2, st2, x, y, d, st', S2, hx.ext S1 x2, hy, e, P⟩
/-- an optional part of a slice -/
def rdO (K : PySem.W.Frag) (F : L2.St → FW) (Φ : Str → List D → N D) (W : Nat) (c : Co) : TO := fun σ H Q => ∃ μ env st, RpS K μ H st ∧ RpE K μ H env σ ∧ Wp K (F σ) (N.bind (runO Φ W c env) fun d => up (part d)) st μ H fun o st' μ' H' => RpS K μ' H' st' → Q o H'
theorem _root_.L2.PO.weak {X : Cx} {e : Option Expr} {t t' : TO} (h : PO X e t) (k : ∀ σ H Q, t' σ H Q → t σ H Q) : PO X e t' := ⟨fun pins s σ H Q I q => h.run pins s σ H Q I (k σ H Q q)⟩
theorem o_no : PO X none (rdO X.K F Φ W .no) := po_none.weak fun σ H Q ⟨μ, env, st, S, E, w⟩ => by
  unfold runO at w
  obtain ⟨o, st', e, q⟩ := w.bind.pure.up
  cases e
  exact q μ H .refl S
theorem o_so (h : PE X e (rdE X.K F Φ W ca)) : PO X (some e) (rdO X.K F Φ W (.so ca)) := (po_some h).weak fun σ H Q ⟨μ, env, st, S, E, w⟩ => by
  unfold runO at w
  rw [bind_assoc] at w
  refine ⟨μ, env, st, S, E, kV_step w fun x st1 μ1 H1 v x1 S1 hx w1 => ?_⟩
  obtain ⟨o, st', e, q⟩ := w1.bind.pure.up
  cases x with
  | int i =>
    cases e
    exact ⟨i, hx, q μ1 H1 .refl S1⟩
  | _ => cases e
theorem r_slc {lo hi : Option Expr} {cl ch : Co} {p2 : Pos} (ha : PE X a (rdE X.K F Φ W ca)) (hl : PO X lo (rdO X.K F Φ W cl)) (hh : PO X hi (rdO X.K F Φ W ch)) : PE X (.Subscript a (.Slice lo hi none p2) pos) (rdE X.K F Φ W (.slc ca cl ch)) :=
  (pe_slice slice_v ha hl hh).weak fun σ H Q ⟨μ, env, st, S, E, w⟩ => by
    unfold runE at w
    refine ⟨μ, env, st, S, E, kV_step w fun x st1 μ1 H1 v x1 S1 hx w1 => ?_⟩
    have e : (N.bind (runO Φ W cl env) fun l => N.bind (up (part l)) fun l => N.bind (runO Φ W ch env) fun u => N.bind (up (part u)) fun u => up (slice x l u)) =
        N.bind (N.bind (runO Φ W cl env) fun l => up (part l)) fun l => N.bind (N.bind (runO Φ W ch env) fun u => up (part u)) fun u => up (slice x l u) := by
      rw [bind_assoc]
      congr 1; funext l; congr 1; funext l'
      rw [bind_assoc]
    rw [e] at w1
    refine ⟨μ1, env, st1, S1, E.ext S x1, w1.bind.mono fun l st2 μ2 H2 x2 w2 S2 => ⟨μ2, env, st2, S2, (E.ext S x1).ext S1 x2, w2.bind.mono fun u st3 μ3 H3 x3 w3 S3 => ?_⟩⟩
    obtain ⟨d, st', e, P⟩ := up_post w3
    exact ⟨μ3, st3, x, d, st', S3, (hx.ext S1 x2).ext S2 x3, e, P⟩
end
end RV

/-! R9: calls. -/
namespace RV
open PySem L2
variable [Wd]
def Cs.len : Cs → Nat
  | .nil => 0
  | .cons _ r => r.len + 1
theorem runEs_len {Φ : Str → List D → N D} {W : Nat} : ∀ {cs : Cs} {env : Env} {st st' : Sto} {ds : List D}, runEs Φ W cs env st = .ok ds st' → ds.length = cs.len
  | .nil, _, _, _, _, h => by
    unfold runEs N.pure at h
    cases h
    rfl
  | .cons a r, env, st, st', ds, h => by
    unfold runEs at h
    unfold N.bind at h
    cases e1 : runE Φ W a env st with
    | bad => rw [e1] at h; cases h
    | err _ _ => rw [e1] at h; cases h
    | ok x s1 =>
      rw [e1] at h
      dsimp only at h
      cases e2 : runEs Φ W r env s1 with
      | bad => rw [e2] at h; cases h
      | err _ _ => rw [e2] at h; cases h
      | ok xs s2 =>
        rw [e2] at h
        unfold N.pure at h
        cases h
        rw [List.length_cons, runEs_len e2, Cs.len]
section
variable {X : Cx} {F : L2.St → FW} {Φ : Str → List D → N D} {W : Nat} {a b c e o : Expr} {es : List Expr} {ca cb cc co : C} {cs ck : Cs} {pos p : Pos} {x : Str} {kws : List Keyword}
/-- a def of the text can be called -/
structure FunX (X : Cx) (F : L2.St → FW) (Φ : Str → List D → N D) (x : Str) (fd : FuncData) (ps : List Str) (f : Addr) : Prop where
  mg : X.mg x = some (.ref f)
  kp : PySem.W.keepIn X.K (.ref f) = true
  run : ∀ (pins : List (Addr × Obj)) (s : Shared) (σ : L2.St) (H : Hp) (vs : List V) (us : List Value) (args : Args) (Q : VK) (μ : List Addr) (st : Sto) (ds : List D), Inv X pins σ H s → BindsTo s fd args (ps.zip us) → us.length = ps.length → Vals vs us →
    RpS X.K μ H st → RpL X.K μ H ds vs → Wp X.K (F σ) (Φ x ds) st μ H (kV X.K Q) → wpAny (model X.prog X.w) X.A (call (.ref f) args.pos args.kw) (EP X pins σ Q) X.xe s
theorem kL_len {G : FW} {α : Type} {K : PySem.W.Frag} {μ : List Addr} {H : Hp} {env : Env} {st : Sto} {f : List D → N α} {k : α → Sto → List Addr → Hp → Prop} {Q : List V → Hp → Prop} (h : Wp K G (N.bind (runEs Φ W cs env) f) st μ H k)
    (hq : ∀ ds st' μ' H' vs, ds.length = cs.len → Ext μ H μ' H' → RpS K μ' H' st' → RpL K μ' H' ds vs → Wp K G (f ds) st' μ' H' k → Q vs H') : Wp K G (runEs Φ W cs env) st μ H (kL K Q) := by
  unfold Wp N.bind at h
  unfold Wp
  cases hr : runEs Φ W cs env st with
  | bad => rw [hr] at h; exact h
  | err x st1 => rw [hr] at h; exact h
  | ok ds st1 =>
    rw [hr] at h
    exact fun μ1 H1 x1 vs S1 rd => hq ds st1 μ1 H1 vs (runEs_len hr) x1 S1 rd (Wp.ext h x1)
theorem r_call {fd : FuncData} {ps : List Str} {f : Addr} (T : FunX X F Φ x fd ps f) (hb : Binds X.K fd ps []) (hl : cs.len = ps.length) (hg : Gl X x) (hdb : (x == ("__debug__" : Str)) = false) (he : starEach (e :: es) X.env = (false, eval e X.env) :: starEach es X.env)
    (hpl : (backTo pos (starEach es X.env)).any (·.1) = false) (ha : PA X (e :: es) (rdL X.K F Φ W cs)) : PE X (.Call (.Name x p) (e :: es) [] pos) (rdE X.K F Φ W (.call x cs)) := by
  refine ⟨fun pins s σ H Q I ⟨μ, env, st, S, E, w⟩ => ?_⟩
  unfold runE at w
  refine wpAny_Call_Name_kw (ld_glob I hg T.mg ?_ hdb)
  refine PySem.W.callWith_K (h₀ := X.base) I.ok.mod.kin T.kp ?_ he hpl
  refine thn (ha.run pos pins s σ H (fun vs H1 => ∃ μ1 st1 ds, ds.length = ps.length ∧ RpS X.K μ1 H1 st1 ∧ RpL X.K μ1 H1 ds vs ∧ Wp X.K (F σ) (Φ x ds) st1 μ1 H1 (kV X.K Q)) I
    ⟨μ, env, st, S, E, kL_len w fun ds st1 μ1 H1 vs hd x1 S1 rd w1 => ⟨μ1, st1, ds, hd.trans hl, S1, rd, w1⟩⟩) fun us s1 ⟨vs, H1, I1, r, μ1, st1, ds, hd, S1, rd, w1⟩ => ⟨I1.kIn, ?_⟩
  have hus : us.length = ps.length := by rw [← r.length, rd.length]; exact hd
  have hb1 := hb s1 us I1.kIn (by simpa using hus)
  rw [List.append_nil] at hb1
  exact T.run pins s1 σ H1 vs us ⟨us, []⟩ Q μ1 st1 ds I1 hb1 hus r S1 rd w1
theorem r_call0 {fd : FuncData} {f : Addr} (T : FunX X F Φ x fd [] f) (hb : Binds X.K fd [] []) (hg : Gl X x) (hdb : (x == ("__debug__" : Str)) = false) : PE X (.Call (.Name x p) [] [] pos) (rdE X.K F Φ W (.call x .nil)) := by
  refine ⟨fun pins s σ H Q I ⟨μ, env, st, S, E, w⟩ => ?_⟩
  unfold runE at w
  refine wpAny_Call_Name_kw (ld_glob I hg T.mg ?_ hdb)
  refine PySem.W.callWith_K0 I.kIn T.kp ?_
  have hb1 := hb s [] I.kIn rfl
  exact T.run pins s σ H [] [] ⟨[], []⟩ Q μ st [] I hb1 rfl .nil S rfl w
/-! keywords -/
theorem _root_.L2.PK.weak {X : Cx} {e : List Keyword} {t t' : TA} (h : PK X e t) (k : ∀ σ H Q, t' σ H Q → t σ H Q) : PK X e t' := ⟨fun w pins s σ H Q I q => h.run w pins s σ H Q I (k σ H Q q)⟩
theorem k_nil : PK X [] (rdL X.K F Φ W .nil) := pk_nil.weak fun σ H Q ⟨μ, env, st, S, E, w⟩ => by
  unfold runEs at w
  exact w.pure [] S rfl
theorem k_cons {nm : Option Str} {kpos : Pos} (ha : PE X e (rdE X.K F Φ W ca)) (hr : PK X kws (rdL X.K F Φ W cs)) : PK X (⟨nm, e, kpos⟩ :: kws) (rdL X.K F Φ W (.cons ca cs)) :=
  (pk_cons ha hr).weak fun σ H Q ⟨μ, env, st, S, E, w⟩ => by
    unfold runEs at w
    refine ⟨μ, env, st, S, E, kV_step w fun x st1 μ1 H1 v x1 S1 hx w1 => ⟨μ1, env, st1, S1, E.ext S x1, w1.bind.mono fun ys st2 μ2 H2 x2 w2 us S2 hy => ?_⟩⟩
    exact w2.pure (v :: us) S2 (.cons (hx.ext S1 x2) hy)
/-! built-in functions -/
theorem r_bif {bi : BI} {id : String} (hc : CallR X (.builtin id) (rBI X.K (runBI bi))) (hg : Gl X x) (hm : X.mg x = none) (hv : bootBuiltins x = some (.builtin id)) (hn : x ≠ "__name__") (hdb : (x == ("__debug__" : Str)) = false)
    (he : starEach (e :: es) X.env = (false, eval e X.env) :: starEach es X.env) (hpl : (backTo pos (starEach es X.env)).any (·.1) = false) (ha : PA X (e :: es) (rdL X.K F Φ W cs)) : PE X (.Call (.Name x p) (e :: es) [] pos) (rdE X.K F Φ W (.bif bi cs)) :=
  (pe_callB hc hg hm hv ha hn hdb he hpl).weak fun σ H Q ⟨μ, env, st, S, E, w⟩ => by
    unfold runE at w
    refine ⟨μ, env, st, S, E, kL_step w fun ds st1 μ1 H1 vs x1 S1 hd w1 => ?_⟩
    obtain ⟨d, st', e, P⟩ := up_post w1
    exact ⟨μ1, st1, ds, d, st', S1, hd, e, P⟩
end
end RV

/-! R10: isinstance, methods. -/
namespace RV
open PySem L2
variable [Wd]
section
variable {K : PySem.W.Frag} {μ : List Addr} {H : Hp} {st st' : Sto}
theorem SqF.ty {a : Addr} {xs : List V} (h : SqF K H a xs) : TyX K H (.ref a) (.type "list") := by
  rcases h with ⟨o, h⟩ | ⟨its, n, h, _, _⟩
  · exact .base (.frz h)
  · exact .kList h rfl
theorem SqX.ty {a : Addr} {xs : List V} (h : SqX H a xs) : TyX K H (.ref a) (.type "tuple") := let ⟨_, h, _⟩ := h; .fTuple h
end
section
variable {X : Cx} {F : L2.St → FW} {Φ : Str → List D → N D} {W : Nat} {a b c e o : Expr} {es : List Expr} {ca cb cc co : C} {cs ck : Cs} {pos p q : Pos} {x y : Str}
/-- what a method needs -/
def MthX (X : Cx) (m : MI) (name : Str) : Prop :=
  ∀ (pins : List (Addr × Obj)) (σ : L2.St) (H : Hp) (s : Shared) (x : D) (v : V) (ov : Value) (μ : List Addr) (st st' : Sto), Inv X pins σ H s → RpS X.K μ H st → Rp X.K μ H x v → RelV v ov → rcv m x st = .ok () st' → st' = st ∧
    ∃ (T id : String) (r : V → List V → Hp → VK → Prop), PlainAttrs T ∧ Slot T name id ∧ typeOf (.builtin id) = pure (.type "method_descriptor") ∧ s.TypeIs ov T ∧ (∀ a, ov = .ref a → ∃ ob, s.heap.get? a = some ob ∧ ob.dict = none) ∧ MtR X id r ∧
      ∀ (vs : List V) (H2 : Hp) (Q : VK) (μ2 : List Addr) (st2 st3 : Sto) (ds : List D) (d : D), RpS X.K μ2 H2 st2 → Rp X.K μ2 H2 x v → RpL X.K μ2 H2 ds vs → runMI m x ds st2 = .ok d st3 → Post X.K μ2 H2 st3 d Q → r v vs H2 Q
theorem r_mth {m : MI} {name : Str} (hM : MthX X m name) (hbase : attributeBase o name X.env (eval o X.env) = eval o X.env)
    (hfew : ((backTo pos (starEach (e :: es) X.env)).all (fun x => !x.1) && (backToKw pos (keywordEach [] X.env)).all (fun x => x.1.isSome) && decide ((e :: es).length + ([] : List Keyword).length + (if ([] : List Keyword).isEmpty then 0 else 1) < 30)) = true)
    (hline : (p.endLine == pos.line) = true) (hs : starEach (e :: es) X.env = (false, eval e X.env) :: starEach es X.env) (hpl : (backTo pos (starEach es X.env)).any (·.1) = false)
    (ho : PE X o (rdE X.K F Φ W co)) (ha : PA X (e :: es) (rdL X.K F Φ W cs)) : PE X (.Call (.Attribute o name p) (e :: es) [] pos) (rdE X.K F Φ W (.mth m co cs)) := by
  refine ⟨fun pins s σ H Q I ⟨μ, env, st, S, E, w⟩ => ?_⟩
  unfold runE at w
  refine wpAny_Call_method_late hbase hfew hline rfl (thn (ho.run pins s σ H (fun v H1 => ∃ μ1 st1 x, RpS X.K μ1 H1 st1 ∧ RpE X.K μ1 H1 env σ ∧ Rp X.K μ1 H1 x v ∧ Wp X.K (F σ) (N.bind (up (rcv m x)) fun _ => N.bind (runEs Φ W cs env) fun ds => up (runMI m x ds)) st1 μ1 H1 (kV X.K Q)) I
    ⟨μ, env, st, S, E, kV_step w fun x st1 μ1 H1 v x1 S1 hx w1 => ⟨μ1, st1, x, S1, E.ext S x1, hx, w1⟩⟩) fun ov s1 ⟨v, H1, I1, rv, μ1, st1, x, S1, E1, hx, w1⟩ => ?_)
  obtain ⟨⟨⟩, st', er, q⟩ := w1.bind.up
  obtain ⟨rfl, T, id, r, pa, sl, hty, h1, h2, mt, fin⟩ := hM pins σ H1 s1 x v ov μ1 st1 st' I1 S1 hx rv er
  refine ⟨T, id, pa, sl, hty, h1, h2, ?_⟩
  have q := q μ1 H1 .refl
  have hA := ha.run pos pins s1 σ H1 (fun vs H2 => ∃ μ2 st2 ds d st3, RpS X.K μ2 H2 st2 ∧ Rp X.K μ2 H2 x v ∧ RpL X.K μ2 H2 ds vs ∧ runMI m x ds st2 = .ok d st3 ∧ Post X.K μ2 H2 st3 d Q) I1
    ⟨μ1, env, st', S1, E1, kL_step q fun ds st2 μ2 H2 vs x2 S2 hd w2 => by
      obtain ⟨d, st3, e, P⟩ := up_post w2
      exact ⟨μ2, st2, ds, d, st3, S2, hx.ext S1 x2, hd, e, P⟩⟩
  rw [hs] at hA ⊢
  refine Calls.callWith_builtin (by show (false || (backTo pos (starEach es X.env)).any (·.1)) = false; rw [hpl] <;> rfl) (Calls.evalArgs_plain ?_)
  exact thn hA fun us s2 ⟨vs, H2, I2, r2, μ2, st2, ds, d, st3, S2, hx2, hd, e, P⟩ => mt pins s2 σ H2 v vs ov us Q I2 rv r2 (fin vs H2 Q μ2 st2 st3 ds d S2 hx2 hd e P)
/-! the methods -/
theorem refM {n : Nat} {st st' : Sto} (h : M.bind (getM n) (fun _ => M.pure ()) st = .ok () st') : st' = st ∧ ∃ xs, st[n]? = some (.lst xs) := by
  simp only [bind_ok, getM_ok, pure_ok] at h
  obtain ⟨xs, _, ⟨h1, rfl⟩, _, rfl⟩ := h
  exact ⟨rfl, xs, h1⟩
theorem ref_tyl {n : Nat} {xs : List D} {K : PySem.W.Frag} {μ : List Addr} {H : Hp} {st : Sto} {v : V} (S : RpS K μ H st) (e : st[n]? = some (.lst xs)) (h : Rp K μ H (.ref n) v) : tyV K "list" v H := by
  obtain ⟨a, ys, rfl, _, h1, _⟩ := S.lst e h
  exact .inl ⟨rfl, ys, .of h1⟩
theorem mthL {m : MI} {name : Str} {id : String} (hr : ∀ x, rcv m x = match x with
    | .ref n => M.bind (getM n) fun _ => M.pure ()
    | _ => bad) (sl : Slot "list" name id) (hty : typeOf (.builtin id) = pure (.type "method_descriptor")) (mt : MtR X id (rMI X.K (runMI m))) : MthX X m name := by
  intro pins σ H s x v ov μ st st' I S h rv er
  rw [hr] at er
  cases x with
  | ref n =>
    obtain ⟨rfl, xs, e⟩ := refM er
    obtain ⟨h1, h2⟩ := tyV_is I rv (ref_tyl S e h)
    exact ⟨rfl, "list", id, _, PySem.F.plainAttrs_list, sl, hty, h1, h2, mt, fun vs H2 Q μ2 st2 st3 ds d S2 hx hd e2 P => ⟨μ2, st2, _, ds, d, st3, S2, hx, hd, e2, P⟩⟩
  | _ => exact (bad_ok.mp er).elim
theorem append_x : MthX X .append "append" := mthL (fun x => by cases x <;> rfl) PySem.F.slot_list_append PySem.F.type_list_append append_m
theorem count_x (hu : X.A.units + 66 < cLine) : MthX X .count "count" := by
  intro pins σ H s x v ov μ st st' I S h rv er
  have key : M.bind (lsOf x) (fun _ => M.pure ()) st = .ok () st' := by
    cases x <;> exact er
  simp only [bind_ok, pure_ok] at key
  obtain ⟨xs, s1, e1, _, rfl⟩ := key
  obtain ⟨rfl, a, ws, rfl, hq, _⟩ := lsOf_ok e1 S h
  obtain ⟨h1, h2⟩ := tyV_is (T := "list") I rv (.inl ⟨rfl, _, hq⟩)
  refine ⟨rfl, "list", "list.count", _, PySem.F.plainAttrs_list, PySem.F.slot_list_count, PySem.F.type_list_count, h1, h2, countL_m hu, fun vs H2 Q μ2 st2 st3 ds d S2 hx2 hd e2 P => ?_⟩
  refine ⟨?_, μ2, st2, _, ds, d, st3, S2, hx2, hd, e2, P⟩
  have e2 : mCount x ds st2 = .ok d st3 := e2
  unfold mCount at e2
  split at e2
  · rw [bind_ok] at e2
    obtain ⟨ys, _, e3, _⟩ := e2
    obtain ⟨_, a', ws', e4, hq', _⟩ := lsOf_ok e3 S2 hx2
    exact ⟨a', ws', e4, hq'⟩
  · exact (bad_ok.mp e2).elim
theorem index_x (hu : X.A.units + 66 < cLine) : MthX X .index "index" := by
  intro pins σ H s x v ov μ st st' I S h rv er
  have lcase : (∀ t, rcv .index x = t → t = M.bind (lsOf x) fun _ => M.pure ()) → (∀ ys, x ≠ .tup ys) → (∀ z, x ≠ .str z) → st' = st ∧ ∃ (T id : String) (r : V → List V → Hp → VK → Prop), PlainAttrs T ∧ Slot T "index" id ∧ typeOf (.builtin id) = pure (.type "method_descriptor") ∧ s.TypeIs ov T ∧ (∀ a, ov = .ref a → ∃ ob, s.heap.get? a = some ob ∧ ob.dict = none) ∧ MtR X id r ∧
      ∀ (vs : List V) (H2 : Hp) (Q : VK) (μ2 : List Addr) (st2 st3 : Sto) (ds : List D) (d : D), RpS X.K μ2 H2 st2 → Rp X.K μ2 H2 x v → RpL X.K μ2 H2 ds vs → runMI .index x ds st2 = .ok d st3 → Post X.K μ2 H2 st3 d Q → r v vs H2 Q := by
    intro hr hx hs
    rw [hr _ rfl] at er
    simp only [bind_ok, pure_ok] at er
    obtain ⟨xs, s1, e1, _, rfl⟩ := er
    obtain ⟨rfl, a, ws, rfl, hq, _⟩ := lsOf_ok e1 S h
    obtain ⟨h1, h2⟩ := tyV_is (T := "list") I rv (.inl ⟨rfl, _, hq⟩)
    refine ⟨rfl, "list", "list.index", _, PySem.F.plainAttrs_list, PySem.F.slot_list_index, PySem.F.type_list_index, h1, h2, indexL_m hu, fun vs H2 Q μ2 st2 st3 ds d S2 hx2 hd e2 P => ?_⟩
    refine ⟨?_, μ2, st2, _, ds, d, st3, S2, hx2, hd, e2, P⟩
    have e2 : mIndex x ds st2 = .ok d st3 := e2
    unfold mIndex at e2
    split at e2
    · exact absurd rfl (hx _)
    · exact absurd rfl (hx _)
    · exact absurd rfl (hs _)
    · rw [bind_ok] at e2
      obtain ⟨ys, _, e3, _⟩ := e2
      obtain ⟨_, a', ws', e4, hq', _⟩ := lsOf_ok e3 S2 hx2
      exact ⟨a', ws', e4, hq'⟩
    · exact (bad_ok.mp e2).elim
  cases x with
  | tup ys =>
    obtain ⟨_, rfl⟩ := pure_ok.mp er
    obtain ⟨a, xs, rfl, ⟨o, ho, hd⟩, hr⟩ := h
    cases rv
    obtain ⟨og, hz, its, _, ob, hob, hoc, _⟩ := I.hok a _ ho
    rw [og] at hob
    cases hob
    refine ⟨rfl, "tuple", "tuple.index", _, PySem.F.plainAttrs_tuple, PySem.F.slot_tuple_index, PySem.F.type_tuple_index, ⟨_, og, hoc⟩, fun a' e => by cases e; exact ⟨_, og, hd⟩, indexT_m, fun vs H2 Q μ2 st2 st3 ds d S2 hx2 hd2 e2 P => ?_⟩
    refine ⟨?_, μ2, st2, _, ds, d, st3, S2, hx2, hd2, e2, P⟩
    obtain ⟨a', xs', e', h', _⟩ := hx2
    cases e'
    exact ⟨_, xs', rfl, h'.t⟩
  | non => exact lcase (fun _ e => e.symm) (fun _ z => nomatch z) (fun _ z => nomatch z)
  | bl _ => exact lcase (fun _ e => e.symm) (fun _ z => nomatch z) (fun _ z => nomatch z)
  | int _ => exact lcase (fun _ e => e.symm) (fun _ z => nomatch z) (fun _ z => nomatch z)
  | str z =>
    obtain ⟨_, rfl⟩ := pure_ok.mp er
    cases h
    obtain ⟨h1, h2⟩ := tyV_is (T := "str") I rv rfl
    exact ⟨rfl, "str", "str.index", _, PySem.F.plainAttrs_str, PySem.F.slot_str_index, PySem.F.type_str_index, h1, h2, indexS_m, fun vs H2 Q μ2 st2 st3 ds d S2 hx hd e2 P => ⟨μ2, st2, .str z, ds, d, st3, S2, hx, hd, e2, P⟩⟩
  | fl _ => exact lcase (fun _ e => e.symm) (fun _ z => nomatch z) (fun _ z => nomatch z)
  | ref _ => exact lcase (fun _ e => e.symm) (fun _ z => nomatch z) (fun _ z => nomatch z)
  | ed => exact lcase (fun _ e => e.symm) (fun _ z => nomatch z) (fun _ z => nomatch z)
  | ob _ _ _ => exact lcase (fun _ e => e.symm) (fun _ z => nomatch z) (fun _ z => nomatch z)
end
end RV

/-! R11: what is walked. -/
namespace RV
open PySem L2
variable [Wd]
/-- what a turn gets -/
def RpI (K : PySem.W.Frag) (μ : List Addr) (H : Hp) : Itm → V → Prop
  | .one d, v => Rp K μ H d v
  | .two d e, v => ∃ a v1 v2, v = .ref a ∧ SqT K H a [v1, v2] ∧ Rp K μ H d v1 ∧ Rp K μ H e v2
/-- the source is walked by J -/
def JOk (K : PySem.W.Frag) (μ0 : List Addr) (H0 : Hp) (src : Src) (J : It) : Prop :=
  ∀ (μ : List Addr) (H : Hp) (st : Sto) (i : Nat) (o : Option Itm) (st' : Sto), ExF μ0 H0 μ H → RpS K μ H st → src.item i st = .ok o st' → st' = st ∧
    match o with
    | none => J.stop i H
    | some x => J.go i H ∧ ∀ v H', J.yld i H v H' → Ext μ H μ H' ∧ RpS K μ H' st ∧ RpI K μ H' x v
theorem JOk.ext {K : PySem.W.Frag} {μ0 μ1 : List Addr} {H0 H1 : Hp} {src : Src} {J : It} (h : JOk K μ0 H0 src J) (x : ExF μ0 H0 μ1 H1) : JOk K μ1 H1 src J := fun μ H st i o st' y => h μ H st i o st' (x.trans y)
section
variable {X : Cx} {F : L2.St → FW} {Φ : Str → List D → N D} {W : Nat} {a b c e o tg : Expr} {es : List Expr} {ca cb cc co : C} {cs ck : Cs} {pos p q : Pos} {x y : Str}
variable {K : PySem.W.Frag} {μ : List Addr} {H : Hp} {st : Sto}
def rdI (K : PySem.W.Frag) (F : L2.St → FW) (Φ : Str → List D → N D) (W : Nat) (it : I) : TI := fun σ H R => ∃ μ env st, RpS K μ H st ∧ RpE K μ H env σ ∧ Wp K (F σ) (runI Φ W it env) st μ H fun src st' μ' H' => RpS K μ' H' st' → ∀ J, JOk K μ' H' src J → R J H'
theorem _root_.L2.PI.weak {X : Cx} {tg e : Expr} {t t' : TI} (h : PI X tg e t) (k : ∀ σ H Q, t' σ H Q → t σ H Q) : PI X tg e t' := ⟨fun pins s σ H Q I q => h.run pins s σ H Q I (k σ H Q q)⟩
/-! the sources -/
theorem one_stat {xs : List D} {i : Nat} {o : Option Itm} {st' : Sto} (h : (Src.stat xs).item i st = .ok o st') : st' = st ∧ o = xs[i]?.map .one := by
  simp only [Src.item, Src.one, bind_ok, pure_ok] at h
  obtain ⟨_, _, ⟨rfl, rfl⟩, rfl, rfl⟩ := h
  exact ⟨rfl, rfl⟩
theorem one_live {n : Nat} {i : Nat} {o : Option Itm} {st' : Sto} (h : (Src.live n).item i st = .ok o st') : st' = st ∧ ∃ xs, itemsAt st n = some xs ∧ o = xs[i]?.map .one := by
  simp only [Src.item, Src.one, bind_ok, getL_ok, pure_ok] at h
  obtain ⟨_, _, ⟨xs, _, ⟨h1, rfl⟩, rfl, rfl⟩, rfl, rfl⟩ := h
  exact ⟨rfl, xs, h1, rfl⟩
theorem j_of {J : It} {i : Nat} {ds : List D} {vs : List V} (S : RpS K μ H st) (r : RpL K μ H ds vs) (stop : vs.length ≤ i → J.stop i H) (go : ∀ x, vs[i]? = some x → J.go i H) (yld : ∀ x v H', vs[i]? = some x → J.yld i H v H' → H' = H ∧ v = x) :
    match ds[i]?.map Itm.one with
    | none => J.stop i H
    | some x => J.go i H ∧ ∀ v H', J.yld i H v H' → Ext μ H μ H' ∧ RpS K μ H' st ∧ RpI K μ H' x v := by
  cases e : ds[i]? with
  | none => exact stop (by rw [r.length]; exact List.getElem?_eq_none_iff.mp e)
  | some d =>
    obtain ⟨v, hv, rv⟩ := r.get e
    refine ⟨go v hv, fun v' H' y => ?_⟩
    obtain ⟨rfl, rfl⟩ := yld v v' H' hv y
    exact ⟨.refl, S, rv⟩
theorem jok_tup {a : Addr} {ds : List D} {vs : List V} (S0 : RpS K μ H st) (h : SqX H a vs) (r : RpL K μ H ds vs) : JOk K μ H (.stat ds) (Itt K a) := by
  intro μ1 H1 st1 i o st' x S1 e
  obtain ⟨rfl, rfl⟩ := one_stat e
  have h1 := (SqX.exf x h).t (K := K)
  exact ⟨rfl, j_of (J := Itt K a) S1 (r.exf x) (fun z => ⟨vs, h1, z⟩) (fun v z => ⟨vs, v, h1, z⟩) fun v v' H' z y => ⟨y.1, Option.some.inj ((y.2 vs h1).symm.trans z)⟩⟩
theorem jok_fl {a : Addr} {ds : List D} {vs : List V} (S0 : RpS K μ H st) (h : SqF K H a vs) (r : RpL K μ H ds vs) : JOk K μ H (.stat ds) (Itl K a) := by
  intro μ1 H1 st1 i o st' x S1 e
  obtain ⟨rfl, rfl⟩ := one_stat e
  have h1 := (SqF.exf x h).seq
  exact ⟨rfl, j_of (J := Itl K a) S1 (r.exf x) (fun z => ⟨vs, h1, z⟩) (fun v z => ⟨vs, v, h1, z⟩) fun v v' H' z y => ⟨y.1, Option.some.inj ((y.2 vs h1).symm.trans z)⟩⟩
theorem jok_live {a : Addr} {n : Nat} (ha : μ[n]? = some a) : JOk K μ H (.live n) (Itl K a) := by
  intro μ1 H1 st1 i o st' x S1 e
  obtain ⟨rfl, xs, e1, rfl⟩ := one_live e
  obtain ⟨a', vs, e2, h1, h2, r⟩ := S1.items e1 (v := .ref a) ⟨a, rfl, x.get ha⟩
  cases e2
  exact ⟨rfl, j_of (J := Itl K a) S1 r (fun z => ⟨vs, .of h2, z⟩) (fun v z => ⟨vs, v, .of h2, z⟩) fun v v' H' z y => ⟨y.1, Option.some.inj ((y.2 vs (.of h2)).symm.trans z)⟩⟩
theorem jok_str {z : Str} : JOk K μ H (.stat (z.cps.toList.map fun c => .str ⟨#[c]⟩)) (Its z) := by
  intro μ1 H1 st1 i o st' x S1 e
  obtain ⟨rfl, rfl⟩ := one_stat e
  refine ⟨rfl, j_of (J := Its z) S1 (vs := z.cps.toList.map fun c => V.str ⟨#[c]⟩) (RpL.map_of (fun c => D.str ⟨#[c]⟩) (fun c => V.str ⟨#[c]⟩) (fun _ => rfl) _) (fun h => ?_) (fun v h => ?_) fun v v' H' h y => ?_⟩
  · rw [List.length_map, Array.length_toList] at h; exact h
  · rw [List.getElem?_map, Array.getElem?_toList] at h
    cases h2 : z.cps[i]? with
    | none => rw [h2] at h; cases h
    | some c => exact (Array.getElem?_eq_some_iff.mp h2).1
  · obtain ⟨rfl, c, h2, rfl⟩ := y
    rw [List.getElem?_map, Array.getElem?_toList, h2] at h
    cases h
    exact ⟨rfl, rfl⟩
theorem jok_rng {lo hi : Int} : JOk K μ H (.stat (rangeD lo hi)) (Itr lo (hi - lo).toNat) := by
  intro μ1 H1 st1 i o st' x S1 e
  obtain ⟨rfl, rfl⟩ := one_stat e
  refine ⟨rfl, j_of (J := Itr lo (hi - lo).toNat) S1 (vs := (List.range (hi - lo).toNat).map fun (j : Nat) => V.int (lo + j)) (RpL.map_of (fun (j : Nat) => D.int (lo + j)) (fun (j : Nat) => V.int (lo + j)) (fun _ => rfl) _) (fun h => ?_) (fun v h => ?_) fun v v' H' h y => ?_⟩
  · rw [List.length_map, List.length_range] at h; exact h
  · have h2 := (List.getElem?_eq_some_iff.mp h).1
    rw [List.length_map, List.length_range] at h2; exact h2
  · obtain ⟨rfl, rfl⟩ := y
    rw [List.getElem?_map] at h
    cases h2 : (List.range (hi - lo).toNat)[i]? with
    | none => rw [h2] at h; cases h
    | some c =>
      rw [h2] at h; cases h
      have := (List.getElem?_eq_some_iff.mp h2).2
      rw [List.getElem_range] at this
      subst this
      exact ⟨rfl, rfl⟩
theorem i_seq (h : PE X a (rdE X.K F Φ W ca)) : PI X tg a (rdI X.K F Φ W (.seq ca)) := by
  refine ⟨fun pins s σ H R I ⟨μ, env, st, S, E, w⟩ => ?_⟩
  unfold runI at w
  refine thn (h.run pins s σ H (fun v H1 => ∃ μ1 st1 d, RpS X.K μ1 H1 st1 ∧ Rp X.K μ1 H1 d v ∧ ∃ src st2, srcOf d st1 = .ok src st2 ∧ (RpS X.K μ1 H1 st2 → ∀ J, JOk X.K μ1 H1 src J → R J H1)) I
    ⟨μ, env, st, S, E, kV_step w fun d st1 μ1 H1 v x1 S1 hd w1 => ?_⟩) fun u s1 ⟨v, H1, I1, ru, μ1, st1, d, S1, hd, src, st2, e, q⟩ => ?_
  · obtain ⟨src, st2, e, q⟩ := w1.up
    exact ⟨μ1, st1, d, S1, hd, src, st2, e, q μ1 H1 .refl⟩
  · cases d with
    | tup ds =>
      obtain ⟨rfl, rfl⟩ := pure_ok.mp e
      obtain ⟨la, vs, rfl, hq, r⟩ := hd
      cases ru
      obtain ⟨its, rv, ht, hz⟩ := I1.tuple (hq.t (K := X.K))
      exact wpAny_pyIter_tuple (show s1.heap.IsTuple la its.toArray from ht) (pi_one (tk := s1.toks) I1 _ (turn_tuple la _) ⟨_, Heap.get?_push_size _ rfl, rfl, rfl⟩ (q S1 _ (jok_tup S1 hq r)))
    | fl ds =>
      obtain ⟨rfl, rfl⟩ := pure_ok.mp e
      obtain ⟨la, vs, rfl, hq, r⟩ := hd
      cases ru
      obtain ⟨its, rv, ht, hz⟩ := I1.list hq.seq
      exact wpAny_pyIter_list ht.isList (pi_one (tk := s1.toks) I1 _ (turn_list la _) ⟨_, Heap.get?_push_size _ rfl, rfl, rfl⟩ (q S1 _ (jok_fl S1 hq r)))
    | ref n =>
      simp only [srcOf, bind_ok, getL_ok, pure_ok] at e
      obtain ⟨xs, _, ⟨e1, rfl⟩, rfl, rfl⟩ := e
      obtain ⟨la, vs, rfl, ha, h1, r⟩ := S1.items e1 hd
      cases ru
      obtain ⟨its, rv, ht, hz⟩ := I1.list (.of h1)
      exact wpAny_pyIter_list ht.isList (pi_one (tk := s1.toks) I1 _ (turn_list la _) ⟨_, Heap.get?_push_size _ rfl, rfl, rfl⟩ (q S1 _ (jok_live ha)))
    | str z =>
      obtain ⟨rfl, rfl⟩ := pure_ok.mp e
      cases hd
      obtain ⟨t, rfl⟩ := ru
      have qq := q S1 _ (jok_str (K := X.K) (μ := μ1) (H := H1) (z := z))
      cases ha : z.cps.all (· < 128)
      · exact wpAny_pyIter_wide ha (pi_one (tk := s1.toks) I1 _ (turn_str _ z t "str_iterator" (.inr rfl)) ⟨_, Heap.get?_push_size _ rfl, rfl, rfl⟩ qq)
      · exact wpAny_pyIter_ascii ha (pi_one (tk := s1.toks) I1 _ (turn_str _ z t "str_ascii_iterator" (.inl rfl)) ⟨_, Heap.get?_push_size _ rfl, rfl, rfl⟩ qq)
    | _ => cases e
theorem in62_ok {i : Int} (h : in62 i = true) : -(2 ^ 62) ≤ i ∧ i < 2 ^ 62 := by
  simpa [in62] using h
theorem i_rng (hg : Gl X "range") (hm : X.mg "range" = none) (he : starEach [a] X.env = [(false, eval a X.env)]) (ha : PE X a (rdE X.K F Φ W ca)) : PI X tg (.Call (.Name "range" p) [a] [] pos) (rdI X.K F Φ W (.rng ca)) :=
  (pi_range1 hg hm (pa_cons ha pa_nil he) he).weak fun σ H R ⟨μ, env, st, S, E, w⟩ => by
    unfold runI at w
    refine ⟨μ, env, st, S, E, kV_step w fun d st1 μ1 H1 v x1 S1 hd w1 => ?_⟩
    cases d with
    | int j =>
      obtain ⟨_, st2, e, q⟩ := w1.bind.up
      simp only [guard_ok] at e
      obtain ⟨e, rfl⟩ := e
      have hb := in62_ok e
      cases hd
      refine ⟨j, rfl, hb.1, hb.2, ?_⟩
      have := (q μ1 H1 .refl).pure S1 _ (jok_rng (K := X.K) (μ := μ1) (H := H1) (lo := 0) (hi := j))
      simpa using this
    | _ => exact w1.bad.elim
end
end RV

/-! R12: targets. -/
namespace RV
open PySem L2
variable [Wd]
/-- only these places changed -/
def Chg (ns : List Nat) (σ σ' : L2.St) : Prop := ∀ vs : List Nat, (∀ i ∈ ns, i ∈ vs) → wipe σ' vs = wipe σ vs
theorem Chg.refl {σ : L2.St} {ns : List Nat} : Chg ns σ σ := fun _ _ => rfl
theorem wipe_get (σ : L2.St) (j : Nat) : ∀ vs : List Nat, (wipe σ vs)[j]? = if j ∈ vs then (σ[j]?).map (fun _ => none) else σ[j]?
  | [] => by simp [wipe]
  | v :: vs => by
    unfold wipe
    by_cases h : j = v
    · subst h
      rw [List.getElem?_set, wipe_length]
      by_cases hl : j < σ.length
      · simp [hl]
      · simp [hl]
    · rw [List.getElem?_set_ne (Ne.symm h), wipe_get σ j vs]
      simp [h]
theorem Chg.set {σ : L2.St} {i : Nat} {v : Option V} : Chg [i] σ (σ.set i v) := fun vs h => by
  apply List.ext_getElem?
  intro j
  rw [wipe_get, wipe_get]
  by_cases hj : j ∈ vs
  · rw [if_pos hj, if_pos hj, List.getElem?_set]
    split
    · rename_i e
      subst e
      split
      · rename_i hl
        simp [hl]
      · rename_i hl
        simp [hl]
    · rfl
  · rw [if_neg hj, if_neg hj, List.getElem?_set_ne]
    rintro rfl
    exact hj (h i (by simp))
theorem Chg.trans {σ1 σ2 σ3 : L2.St} {ns ms : List Nat} (a : Chg ns σ1 σ2) (b : Chg ms σ2 σ3) : Chg (ns ++ ms) σ1 σ3 := fun vs h =>
  (b vs fun i hi => h i (List.mem_append_right _ hi)).trans (a vs fun i hi => h i (List.mem_append_left _ hi))
theorem RpE.set {K : PySem.W.Frag} {μ : List Addr} {H : Hp} {env : Env} {σ : L2.St} {d : D} {v : V} {i : Nat} (E : RpE K μ H env σ) (h : Rp K μ H d v) : RpE K μ H (env.set i (some d)) (σ.set i (some v)) := by
  refine ⟨by rw [List.length_set, List.length_set]; exact E.len, fun j x e => ?_⟩
  rw [List.getElem?_set] at e
  split at e
  · rename_i hij
    subst hij
    split at e
    · rename_i hl
      cases e
      refine ⟨v, ?_, h⟩
      rw [List.getElem?_set_self (by rw [E.len]; exact hl)]
    · cases e
  · rename_i hij
    obtain ⟨w, h1, h2⟩ := E.at_ j x e
    exact ⟨w, by rw [List.getElem?_set_ne hij]; exact h1, h2⟩
theorem RpE.wipe {K : PySem.W.Frag} {μ : List Addr} {H : Hp} {env : Env} {σ : L2.St} (E : RpE K μ H env σ) : ∀ vs : List Nat, RpE K μ H (wipeE env vs) (L2.wipe σ vs)
  | [] => E
  | v :: vs => by
    have E' := E.wipe vs
    unfold wipeE L2.wipe
    refine ⟨by rw [List.length_set, List.length_set]; exact E'.len, fun j x e => ?_⟩
    rw [List.getElem?_set] at e
    split at e
    · split at e <;> cases e
    · rename_i hij
      obtain ⟨w, h1, h2⟩ := E'.at_ j x e
      exact ⟨w, by rw [List.getElem?_set_ne hij]; exact h1, h2⟩
section
variable {X : Cx} {F : L2.St → FW} {Φ : Str → List D → N D} {W : Nat} {a b c e o tg : Expr} {es : List Expr} {ca cb cc co ci : C} {cs ck : Cs} {g : G} {gs : Gs} {pos p q : Pos} {x y : Str} {k : Nat}
variable {K : PySem.W.Frag} {μ : List Addr} {H : Hp} {st : Sto}
/-- what is wanted behind a store -/
def kG (K : PySem.W.Frag) (ns : List Nat) (σ : L2.St) (Q : L2.St → Hp → Prop) : Env → Sto → List Addr → Hp → Prop := fun env' st' μ' H' => ∀ σ', RpS K μ' H' st' → RpE K μ' H' env' σ' → Chg ns σ σ' → Q σ' H'
def rdG (K : PySem.W.Frag) (F : FW) (Φ : Str → List D → N D) (W : Nat) (g : G) : TG := fun v σ H Q => ∃ μ env st x, RpS K μ H st ∧ RpE K μ H env σ ∧ RpI K μ H x v ∧ Wp K F (runP Φ W g x env) st μ H (kG K g.nms σ Q)
def rdGs (K : PySem.W.Frag) (F : FW) (Φ : Str → List D → N D) (W : Nat) (gs : Gs) : TGs := fun vs σ H Q => ∃ μ env st ds, RpS K μ H st ∧ RpE K μ H env σ ∧ RpL K μ H ds vs ∧ Wp K F (runGs Φ W gs ds env) st μ H (kG K gs.nms σ Q)
theorem _root_.L2.PG.weak {X : Cx} {e : Expr} {t t' : TG} (h : PG X e t) (k : ∀ v σ H Q, t' v σ H Q → t v σ H Q) : PG X e t' := ⟨fun pins s σ H v u Q I r q => h.run pins s σ H v u Q I r (k v σ H Q q)⟩
theorem _root_.L2.PGs.weak {X : Cx} {e : List Expr} {t t' : TGs} (h : PGs X e t) (k : ∀ v σ H Q, t' v σ H Q → t v σ H Q) : PGs X e t' := ⟨fun pins s σ H v u Q I r q => h.run pins s σ H v u Q I r (k v σ H Q q)⟩
variable {F0 : FW}
theorem g_nm {i : Nat} (hN : X.N.Nodup) (hi : X.N[i]? = some x) (hx : Loc X.env.scope x) (hf : X.fn x = true ∨ X.env.scope.names.lookup x = some .local) : PG X (.Name x pos) (rdG X.K F0 Φ W (.nm i)) :=
  (pg_name hN hi hx hf).weak fun v σ H Q ⟨μ, env, st, x, S, E, r, w⟩ => by
    cases x with
    | one d =>
      simp only [runP] at w
      unfold runG at w
      exact w.pure _ S (E.set r) Chg.set
    | two d e =>
      simp only [runP] at w
      unfold runG2 at w
      exact w.bad.elim
theorem gs_nil : PGs X [] (rdGs X.K F0 Φ W .nil) := pgs_nil.weak fun v σ H Q ⟨μ, env, st, ds, S, E, r, w⟩ => by
  unfold runGs at w
  split at w
  · exact ⟨r, w.pure σ S E .refl⟩
  · rename_i h; exact (Gs.noConfusion h)
  · exact w.bad.elim
theorem gs_cons (hs : (assignEach (e :: es) X.env).map (·.2) = assign e X.env :: (assignEach es X.env).map (·.2)) (hg : PG X e (rdG X.K F0 Φ W g)) (hr : PGs X es (rdGs X.K F0 Φ W gs)) : PGs X (e :: es) (rdGs X.K F0 Φ W (.cons g gs)) :=
  (pgs_cons hg hr hs).weak fun v σ H Q ⟨μ, env, st, ds, S, E, r, w⟩ => by
    cases ds with
    | nil =>
      unfold runGs at w
      exact w.bad.elim
    | cons d ds' =>
      unfold runGs at w
      obtain ⟨v, vs, rfl, h1, h2⟩ := r
      refine ⟨v, vs, rfl, μ, env, st, .one d, S, E, h1, w.bind.mono fun env1 st1 μ1 H1 x1 w1 σ1 S1 E1 c1 => ⟨μ1, env1, st1, ds', S1, E1, h2.ext S x1, w1.mono fun env2 st2 μ2 H2 x2 w2 σ2 S2 E2 c2 => ?_⟩⟩
      exact w2 σ2 S2 E2 (c1.trans c2)
theorem g_tp (hc : X.calm = true) (hn : (assignEach es X.env).length = gs.len) (hst : (assignEach es X.env).findIdx? (·.1) = none) (h : PGs X es (rdGs X.K F0 Φ W gs)) : PG X (.Tuple es k pos) (rdG X.K F0 Φ W (.tp gs)) := by
  refine ⟨fun pins s σ H v u Q I ru ⟨μ, env, st, x, S, E, r, w⟩ => ?_⟩
  cases x with
  | two d e =>
    simp only [runP] at w
    unfold runG2 at w
    obtain ⟨_, st1, e1, w1⟩ := w.bind.up
    simp only [guard_ok, beq_iff_eq] at e1
    obtain ⟨e1, rfl⟩ := e1
    obtain ⟨a, v1, v2, rfl, hq, r1, r2⟩ := r
    exact (pg_tup hc h hn hst).run pins s σ H _ u Q I ru ⟨a, _, rfl, hq, e1.symm, μ, env, st, [d, e], S, E, .cons r1 (.cons r2 .nil), w1 μ H .refl⟩
  | one d =>
    simp only [runP] at w
    unfold runG at w
    obtain ⟨xs, st1, e1, w1⟩ := w.bind.up
    obtain ⟨_, st2, e2, w2⟩ := (w1 μ H .refl).bind.up
    simp only [guard_ok, beq_iff_eq] at e2
    obtain ⟨e2, rfl⟩ := e2
    have w2 := w2 μ H .refl
    cases d with
    | tup ds =>
      obtain ⟨rfl, rfl⟩ := pure_ok.mp e1
      obtain ⟨a, vs, rfl, hq, r1⟩ := r
      exact (pg_tup hc h hn hst).run pins s σ H _ u Q I ru ⟨a, vs, rfl, hq.t, r1.length.trans e2, μ, env, _, _, S, E, r1, w2⟩
    | fl ds =>
      obtain ⟨rfl, rfl⟩ := pure_ok.mp e1
      obtain ⟨a, vs, rfl, hq, r1⟩ := r
      exact (pg_unl hc h hn hst).run pins s σ H _ u Q I ru ⟨a, vs, rfl, hq.seq, r1.length.trans e2, μ, env, _, _, S, E, r1, w2⟩
    | ref n =>
      obtain ⟨e3, rfl⟩ := getL_ok.mp (show getL n st = _ from e1)
      obtain ⟨a, vs, rfl, ha, h1, r1⟩ := S.items e3 r
      exact (pg_unl hc h hn hst).run pins s σ H _ u Q I ru ⟨a, vs, rfl, .of h1, r1.length.trans e2, μ, env, _, _, S, E, r1, w2⟩
    | _ => cases e1
theorem g_sub (ha : ∀ u, assign (.Subscript a b pos) X.env u = (do { let o1 ← holding [u] (eval a X.env); let i1 ← holding [u, o1] (eval b X.env); standAt pos; holding [u, o1, i1] (setItem o1 i1 u); release [u, o1, i1] [] })) (ho : PE X a (rdE X.K (fun _ => F0) Φ W co)) (hi : PE X b (rdE X.K (fun _ => F0) Φ W ci)) : PG X (.Subscript a b pos) (rdG X.K F0 Φ W (.sub co ci)) :=
  (pg_sub ho hi set_v ha).weak fun v σ H Q ⟨μ, env, st, x, S, E, r, w⟩ => by
    cases x with
    | two d e =>
      simp only [runP] at w
      unfold runG2 at w
      exact w.bad.elim
    | one d =>
      simp only [runP] at w
      unfold runG at w
      refine ⟨μ, env, st, S, E, kV_step w fun o st1 μ1 H1 vo x1 S1 hvo w1 => ⟨μ1, env, st1, S1, E.ext S x1, kV_step w1 fun i st2 μ2 H2 vi x2 S2 hvi w2 => ?_⟩⟩
      obtain ⟨⟨⟩, st3, e, q⟩ := w2.bind.up
      exact ⟨μ2, st2, o, i, d, st3, S2, hvo.ext S1 x2, hvi, (Rp.ext S x1 r).ext S1 x2, e, fun μ3 H3 x3 S3 => (q μ3 H3 x3).pure σ S3 (((E.ext S x1).ext S1 x2).ext S2 x3) .refl⟩
end
end RV

/-! R13: list comprehensions. -/
namespace RV
open PySem L2
variable [Wd]
def less (D : Addr) (H : Hp) : Hp := fun b => if b = D then none else H b
section
variable {K : PySem.W.Frag} {μ μ' : List Addr} {H H' : Hp} {st : Sto} {A : Addr} {xs : List V}
theorem less_self : less A H A = none := by simp [less]
theorem less_ne {b : Addr} (h : b ≠ A) : less A H b = H b := by simp [less, h]
theorem less_some {b : Addr} {o : HO} (h : less A H b = some o) : b ≠ A ∧ H b = some o := by
  unfold less at h
  split at h
  · cases h
  · exact ⟨by assumption, h⟩
theorem less_upd {o : HO} : less A (upd H A o) = less A H := by
  funext b
  unfold less
  split
  · rfl
  · rename_i h; exact upd_ne h
theorem less_of {H : Hp} (h : H A = none) : less A H = H := by
  funext b
  unfold less
  split
  · rename_i e; rw [e, h]
  · rfl
theorem upd_less {o : HO} (h : H A = some o) : upd (less A H) A o = H := by
  funext b
  by_cases e : b = A
  · subst e; rw [upd_same, h]
  · rw [upd_ne e, less_ne e]
mutual
theorem Rp.less (hA : H A = some (.lst xs)) : ∀ {d : D} {v : V}, Rp K μ H d v → Rp K μ (less A H) d v
  | .non, _, h => h
  | .bl _, _, h => h
  | .int _, _, h => h
  | .str _, _, h => h
  | .tup ds, _, ⟨a, vs, e, ⟨o, h, hd⟩, r⟩ => ⟨a, vs, e, ⟨o, by rw [less_ne (fun z => by rw [z, hA] at h; cases h)]; exact h, hd⟩, RpL.less hA r⟩
  | .fl ds, _, ⟨a, vs, e, h, r⟩ => ⟨a, vs, e, by
      rcases h with ⟨o, h⟩ | h
      · exact .inl ⟨o, by rw [less_ne (fun z => by rw [z, hA] at h; cases h)]; exact h⟩
      · exact .inr h, RpL.less hA r⟩
  | .ref n, _, ⟨a, e, h⟩ => ⟨a, e, h⟩
  | .ed, _, ⟨a, o, e, h⟩ => ⟨a, o, e, by rw [less_ne (fun z => by rw [z, hA] at h; cases h)]; exact h⟩
  | .ob _ _ ds, _, ⟨a, vs, e, h, r⟩ => ⟨a, vs, e, h.keep fun b o u q => by rw [less_ne (fun z => by rw [z, hA] at q; cases q)]; exact q, RpL.less hA r⟩
theorem RpL.less (hA : H A = some (.lst xs)) : ∀ {ds : List D} {vs : List V}, RpL K μ H ds vs → RpL K μ (less A H) ds vs
  | [], _, h => h
  | _ :: _, _, ⟨y, r, e, h, t⟩ => ⟨y, r, e, Rp.less hA h, RpL.less hA t⟩
end
theorem RpS.less (S : RpS K μ H st) (hA : H A = some (.lst xs)) (n : A ∉ μ) : RpS K μ (less A H) st := by
  refine ⟨S.len, S.nd, fun i o e => ?_, S.wf, tabs_stay S.tb fun b o hb hn => by rw [less_ne (fun z => hn (by rw [z, hA] at hb; cases hb; exact ntc_lst))]; exact hb⟩
  obtain ⟨a, ha, ok⟩ := S.ob i o e
  have ne : a ≠ A := fun z => n (z ▸ List.mem_of_getElem? ha)
  refine ⟨a, ha, ?_⟩
  cases o with
  | lst ds =>
    obtain ⟨vs, h1, h2⟩ := ok
    exact ⟨vs, by rw [less_ne ne]; exact h1, h2.less hA⟩
  | dct kvs =>
    obtain ⟨kv, h1, h2, h3⟩ := ok
    exact ⟨kv, by rw [less_ne ne]; exact h1, ⟨h2.1, h2.2.less hA⟩, h3⟩
  | kct kvs =>
    obtain ⟨kv, h1, h2, h3⟩ := ok
    exact ⟨kv, by rw [less_ne ne]; exact h1, ⟨h2.1, h2.2.1.less hA, h2.2.2.less hA⟩, h3⟩
theorem Ext.less (x : Ext μ H μ' H') : Ext μ (less A H) μ' (less A H') := by
  refine ⟨x.pre, fun b o h nb nt => ?_⟩
  obtain ⟨ne, h⟩ := less_some h
  obtain ⟨h1, h2⟩ := x.fr b o h nb
  exact ⟨by rw [less_ne ne]; exact h1, h2⟩
theorem Ext.more : Ext μ (RV.less A H) μ H := ⟨⟨[], by simp⟩, fun b o h nb _ => ⟨(less_some h).2, nb⟩⟩
theorem RpS.more {o : HO} (S : RpS K μ (RV.less A H) st) (hA : H A = some o) : RpS K μ H st := by
  have := S.new (p := A) (o := o) less_self
  rwa [upd_less hA] at this
end
/-- no error is wanted -/
def FZ : FW := fun _ _ _ _ => False
theorem Wp.noErr {α : Type} {K : PySem.W.Frag} {F : FW} {m : N α} {st : Sto} {μ : List Addr} {H : Hp} {k : α → Sto → List Addr → Hp → Prop} (h : Wp K F (noErr m) st μ H k) : Wp K FZ m st μ H k := by
  unfold Wp RV.noErr at h
  unfold Wp
  cases e : m st with
  | ok a s => rw [e] at h; exact h
  | err x s => rw [e] at h; exact h.elim
  | bad => rw [e] at h; exact h
theorem Wp.less {α : Type} {K : PySem.W.Frag} {m : N α} {st : Sto} {μ : List Addr} {H : Hp} {A : Addr} {xs : List V} {k : α → Sto → List Addr → Hp → Prop} (hA : H A = some (.lst xs)) (n : A ∉ μ) (S : RpS K μ H st) (h : Wp K FZ m st μ (RV.less A H) k) :
    Wp K FZ m st μ H fun a st' μ' H' => k a st' μ' (RV.less A H') ∧ H' A = some (.lst xs) ∧ A ∉ μ' ∧ Ext μ (RV.less A H) μ' (RV.less A H') := by
  unfold Wp at h ⊢
  cases e : m st with
  | ok a s =>
    rw [e] at h
    exact fun μ' H' x => ⟨h μ' _ x.less, (x.fr A _ hA n).1, (x.fr A _ hA n).2, x.less⟩
  | err x s => rw [e] at h; exact fun μ' H' y z => h μ' (RV.less A H') y.less (z.less (y.fr A _ hA n).1 (y.fr A _ hA n).2)
  | bad => rw [e] at h; exact h
/-! the loop -/
theorem runE_comp {Φ : Str → List D → N D} {W : Nat} {elt : C} {g : G} {it : I} {ifs : Co} {own : List Nat} {env : Env} : runE Φ W (.comp elt g it ifs own) env = N.bind (runI Φ W it env) fun src =>
    N.bind (compRun src (fun x => N.bind (runP Φ W g x (wipeE env own)) fun env2 => N.bind (runIf Φ W ifs env2) fun b => if b then N.bind (runE Φ W elt env2) fun v => N.pure (some v) else N.pure none) (src.fuel W) 0 []) fun ys => up (alloc (.lst ys)) := by
  rw [runE]
  rfl
section
variable {X : Cx} {F : L2.St → FW} {Φ : Str → List D → N D} {W : Nat} {elt tg iter e : Expr} {ifs : List Expr} {ce : C} {cf : Co} {g : G} {ci : I} {vs : List Nat} {pos : Pos}
def rdIf (K : PySem.W.Frag) (F : L2.St → FW) (Φ : Str → List D → N D) (W : Nat) (c : Co) : TT := fun σ H Q => ∃ μ env st, RpS K μ H st ∧ RpE K μ H env σ ∧ Wp K (F σ) (runIf Φ W c env) st μ H (kB K Q)
theorem _root_.L2.PTs.weak {X : Cx} {e : List Expr} {t t' : TT} (h : PTs X e t) (k : ∀ σ H Q, t' σ H Q → t σ H Q) : PTs X e t' := ⟨fun pins s σ H Q I q => h.run pins s σ H Q I (k σ H Q q)⟩
theorem f_no : PTs X [] (rdIf X.K F Φ W .no) := pts_nil.weak fun σ H Q ⟨μ, env, st, S, E, w⟩ => by
  unfold runIf at w
  exact w.pure S
theorem wipe_wipe (σ : L2.St) (vs : List Nat) : L2.wipe (L2.wipe σ vs) vs = L2.wipe σ vs := by
  apply List.ext_getElem?
  intro j
  rw [wipe_get, wipe_get]
  split
  · cases σ[j]? <;> rfl
  · rfl
theorem comp_core {K : PySem.W.Frag} {σ : L2.St} {H : Hp} {Q : VK} (hgv : ∀ i ∈ g.nms, i ∈ vs) (w : rdE K F Φ W (.comp ce g ci cf vs) σ H Q) :
    tLc (rdI K F Φ W ci) (rdG K FZ Φ W g) (rdIf K (fun _ => FZ) Φ W cf) (rdE K (fun _ => FZ) Φ W ce) vs σ H Q := by
  obtain ⟨μ, env, st, S, E, w⟩ := w
  rw [runE_comp] at w
  refine ⟨μ, env, st, S, E, w.bind.mono fun src st1 μ1 H1 x1 w1 S1 J hJ A hA => ?_⟩
  have E1 := E.ext S x1
  have n1 : A ∉ μ1 := fun h => S1.live h hA
  generalize hturn : (fun x => N.bind (runP Φ W g x (wipeE env vs)) fun env2 => N.bind (runIf Φ W cf env2) fun b => if b then N.bind (runE Φ W ce env2) fun v => N.pure (some v) else N.pure none) = turn at w1
  refine ⟨fun i m H' => ∃ μ' st' acc accV, H' A = some (.lst accV) ∧ A ∉ μ' ∧ Ext μ1 H1 μ' (less A H') ∧ RpS K μ' (less A H') st' ∧ RpL K μ' (less A H') acc accV ∧ Wp K (F σ) (N.bind (compRun src turn m i acc) fun ys => up (alloc (.lst ys))) st' μ' (less A H') (kV K Q),
    ⟨src.fuel W, μ1, st1, [], [], upd_same, n1, by rw [less_upd, less_of hA]; exact .refl, by rw [less_upd, less_of hA]; exact S1, .nil, by rw [less_upd, less_of hA]; exact w1⟩, ?_⟩
  rintro i m H' ⟨μ', st', acc, accV, hd, nd, x', S', ra, w'⟩
  cases m with
  | zero => exact (w'.bind : Wp K (F σ) N.bad st' μ' (less A H') _).bad.elim
  | succ m =>
    rw [compRun, bind_assoc] at w'
    obtain ⟨o, st2, e, q⟩ := w'.bind.up
    obtain ⟨rfl, z⟩ := hJ μ' H' st' i o st2 ((x'.trans .more).exf S1) (S'.more hd) e
    have q := q μ' (less A H') .refl
    cases o with
    | none =>
      refine .inl ⟨z, ?_⟩
      obtain ⟨d, st3, e3, P⟩ := up_post q.bind.pure
      obtain ⟨rfl, rfl⟩ := alloc_ok.mp e3
      have := P.lst S' ra less_self
      rwa [upd_less hd] at this
    | some x =>
      refine .inr ⟨z.1, fun H'' => ∃ μ' st' acc accV, H'' A = some (.lst accV) ∧ A ∉ μ' ∧ Ext μ1 H1 μ' (less A H'') ∧ RpS K μ' (less A H'') st' ∧ RpL K μ' (less A H'') acc accV ∧ Wp K (F σ) (N.bind (compRun src turn m (i + 1) acc) fun ys => up (alloc (.lst ys))) st' μ' (less A H'') (kV K Q),
        fun H'' h => ⟨m, Nat.lt_succ_self m, h⟩, fun v H'' y => ?_⟩
      obtain ⟨y1, S'', ri⟩ := z.2 v H'' y
      obtain ⟨hd2, nd2⟩ := y1.fr A _ hd nd
      have x'' : Ext μ1 H1 μ' (less A H'') := x'.trans y1.less
      have E'' : RpE K μ' H'' (wipeE env vs) (L2.wipe σ vs) := (E1.ext S1 (x''.trans .more)).wipe vs
      have ra'' := RpL.ext S' y1.less ra
      dsimp only at q
      rw [bind_assoc] at q
      have q2 := (Wp.ext q y1.less).bind.noErr
      subst hturn
      refine ⟨μ', wipeE env vs, st2, x, S'', E'', ri, (Wp.less hd2 nd2 S'' q2.bind).mono fun env2 st3 μ3 H3 x3 ⟨w3, hd3, nd3, l3⟩ σ2 S3 E3 c3 => ⟨(c3 vs hgv).trans (wipe_wipe σ vs), μ3, env2, st3, S3, E3, (Wp.less hd3 nd3 S3 w3.bind).mono fun b st4 μ4 H4 x4 ⟨w4, hd4, nd4, l4⟩ S4 => ?_⟩⟩
      cases b with
      | false =>
        rw [if_neg Bool.false_ne_true]
        rw [if_neg Bool.false_ne_true] at w4
        have w5 := w4.pure
        exact ⟨μ4, st4, acc, accV, hd4, nd4, (x''.trans l3).trans l4, S4.less hd4 nd4, (RpL.ext (S''.less hd2 nd2) l3 ra'').ext (S3.less hd3 nd3) l4, w5⟩
      | true =>
        rw [if_pos rfl]
        rw [if_pos rfl] at w4
        refine ⟨μ4, env2, st4, S4, E3.ext S3 x4, (Wp.less hd4 nd4 S4 w4.bind).mono fun y st5 μ5 H5 x5 ⟨w5, hd5, nd5, l5⟩ yv S5 r5 => ?_⟩
        have w6 := w5.pure
        rw [bind_assoc] at w6
        obtain ⟨_, st6, e6, q6⟩ := w6.bind.up
        simp only [guard_ok, decide_eq_true_eq] at e6
        obtain ⟨e6, rfl⟩ := e6
        have ra5 := (((RpL.ext (S''.less hd2 nd2) l3 ra'').ext (S3.less hd3 nd3) l4).ext (S4.less hd4 nd4) l5)
        refine ⟨accV, hd5, by rw [ra5.length]; exact e6, μ5, st5, acc ++ [y], accV ++ [yv], upd_same, nd5, ?_, ?_, ?_, ?_⟩
        · rw [less_upd]; exact ((x''.trans l3).trans l4).trans l5
        · rw [less_upd]; exact S5.less hd5 nd5
        · rw [less_upd]; exact ra5.append (.cons (r5.less hd5) .nil)
        · rw [less_upd]; exact q6 μ5 _ .refl
theorem r_comp {scope : Scope} {own : List (Str × Nat)} (hc : X.calm = true) (hN : X.N.Nodup) (hi : PI X tg iter (rdI X.K F Φ W ci)) (ok : BlkOk X.N X.env.scope scope own) (hv : own.map (·.2) = vs) (hgv : ∀ i ∈ g.nms, i ∈ vs)
    (hg : ∀ (s : Shared) (H : Hp) (C : Addr) (cl : List (Str × Addr)) (fp : List Addr), PG (X.blk s H scope (compEnvC scope cl C X.env) fp) tg (rdG X.K FZ Φ W g)) (ht : ∀ (s : Shared) (H : Hp) (C : Addr) (cl : List (Str × Addr)) (fp : List Addr), PTs (X.blk s H scope (compEnvC scope cl C X.env) fp) ifs (rdIf X.K (fun _ => FZ) Φ W cf))
    (he : ∀ (s : Shared) (H : Hp) (C : Addr) (cl : List (Str × Addr)) (fp : List Addr), PE (X.blk s H scope (compEnvC scope cl C X.env) fp) elt (rdE X.K (fun _ => FZ) Φ W ce)) (hs : ∀ x, foldedSetIterable iter X.env x = pure x) :
    PE X (.ListComp elt [⟨tg, iter, ifs, 0⟩] scope pos) (rdE X.K F Φ W (.comp ce g ci cf vs)) :=
  (pe_lc hc hN hi ok hg ht he hs).weak fun σ H Q w => by
    subst hv
    exact comp_core hgv w
end
end RV

/-! R14: statements. -/
namespace RV
open PySem L2
variable [Wd]
section
variable {X : Cx} {F : L2.St → FW} {Φ : Str → List D → N D} {W : Nat} {elt tg iter e a b : Expr} {ifs : List Expr} {ce ca cb : C} {cf : Co} {g : G} {ci : I} {vs : List Nat} {pos : Pos} {st : Stmt} {sts p q : List Stmt} {cs : S} {cp cq : Ss}
/-- what is wanted behind a statement -/
def kS (K : PySem.W.Frag) (F : L2.St → FW) (D : Ends) : Fl × Env → Sto → List Addr → Hp → Prop := fun r st' μ' H' => ∀ σ', RpS K μ' H' st' → RpE K μ' H' r.2 σ' →
  match r.1 with
  | .next => D.nx σ' H'
  | .brk => D.bk σ' H'
  | .cont => D.ct σ' H'
  | .ret d => ∀ v, Rp K μ' H' d v → D.rt v H'
  | .exn x => F σ' x st' μ' H'
def rdS (K : PySem.W.Frag) (F : L2.St → FW) (Φ : Str → List D → N D) (W : Nat) (s : S) : TS := fun D σ H => ∃ μ env st, RpS K μ H st ∧ RpE K μ H env σ ∧ Wp K FZ (runS Φ W s env) st μ H (kS K F D)
def rdSs (K : PySem.W.Frag) (F : L2.St → FW) (Φ : Str → List D → N D) (W : Nat) (s : Ss) : TS := fun D σ H => ∃ μ env st, RpS K μ H st ∧ RpE K μ H env σ ∧ Wp K FZ (runSs Φ W s env) st μ H (kS K F D)
theorem _root_.L2.PS.weak {X : Cx} {e : Stmt} {t t' : TS} (h : PS X e t) (k : ∀ D σ H, t' D σ H → t D σ H) : PS X e t' := ⟨fun pins s σ H D I q => h.run pins s σ H D I (k D σ H q)⟩
theorem _root_.L2.PSs.weak {X : Cx} {e : List Stmt} {t t' : TS} (h : PSs X e t) (k : ∀ D σ H, t' D σ H → t D σ H) : PSs X e t' := ⟨fun pins s σ H D I q => h.run pins s σ H D I (k D σ H q)⟩
theorem tr_step {α : Type} {K : PySem.W.Frag} {D : Ends} {σ : L2.St} {μ : List Addr} {H : Hp} {st : Sto} {env : Env} {m : N α} {f : α → N (Fl × Env)} (S : RpS K μ H st) (E : RpE K μ H env σ) (h : Wp K FZ (tr env m f) st μ H (kS K F D)) :
    Wp K (F σ) m st μ H fun a st' μ' H' => Wp K FZ (f a) st' μ' H' (kS K F D) := by
  unfold Wp tr at h
  unfold Wp
  cases e : m st with
  | ok a s => rw [e] at h; exact fun μ' H' x => Wp.ext (m := f a) h x
  | err x s => rw [e] at h; exact fun μ' H' y S' => h μ' H' y σ S' (E.ext S y)
  | bad => rw [e] at h; exact h
theorem tr_V {K : PySem.W.Frag} {D : Ends} {σ : L2.St} {μ : List Addr} {H : Hp} {st : Sto} {env : Env} {m : N RV.D} {f : RV.D → N (Fl × Env)} {Q : VK} (S : RpS K μ H st) (E : RpE K μ H env σ) (h : Wp K FZ (tr env m f) st μ H (kS K F D))
    (hq : ∀ d st' μ' H' v, Ext μ H μ' H' → RpS K μ' H' st' → Rp K μ' H' d v → Wp K FZ (f d) st' μ' H' (kS K F D) → Q v H') : Wp K (F σ) m st μ H (kV K Q) :=
  (tr_step S E h).mono fun d st' μ' H' x w v S' r => hq d st' μ' H' v x S' r w
theorem s_expr (he : PE X e (rdE X.K F Φ W ca)) (hs : swapsWith e none pos.line X.env = pure false) : PS X (.Expr e pos) (rdS X.K F Φ W (.expr ca)) :=
  (ps_expr he hs).weak fun D σ H ⟨μ, env, st, S, E, w⟩ => by
    unfold runS at w
    exact ⟨μ, env, st, S, E, tr_V S E w fun d st1 μ1 H1 v x1 S1 r w1 => w1.pure σ S1 (E.ext S x1)⟩
theorem s_ret (he : PE X e (rdE X.K F Φ W ca)) : PS X (.Return (some e) pos) (rdS X.K F Φ W (.ret ca)) :=
  (ps_ret he).weak fun D σ H ⟨μ, env, st, S, E, w⟩ => by
    unfold runS at w
    exact ⟨μ, env, st, S, E, tr_V S E w fun d st1 μ1 H1 v x1 S1 r w1 => w1.pure σ S1 (E.ext S x1) v r⟩
theorem s_if (hc : PT X e (rdT X.K F Φ W ca)) (ha : PSs X p (rdSs X.K F Φ W cp)) (hb : PSs X q (rdSs X.K F Φ W cq)) : PS X (.If e p q pos) (rdS X.K F Φ W (.ite ca cp cq)) :=
  (ps_if hc ha hb).weak fun D σ H ⟨μ, env, st, S, E, w⟩ => by
    unfold runS at w
    refine ⟨μ, env, st, S, E, (tr_step S E w).mono fun b st1 μ1 H1 x1 w1 S1 => ?_⟩
    cases b with
    | true => exact ⟨μ1, env, st1, S1, E.ext S x1, w1⟩
    | false => exact ⟨μ1, env, st1, S1, E.ext S x1, w1⟩
theorem ss_nil : PSs X [] (rdSs X.K F Φ W .nil) := pss_nil.weak fun D σ H ⟨μ, env, st, S, E, w⟩ => by
  unfold runSs at w
  exact w.pure σ S E
theorem ss_cons (h1 : PS X st (rdS X.K F Φ W cs)) (h2 : PSs X sts (rdSs X.K F Φ W cp)) : PSs X (st :: sts) (rdSs X.K F Φ W (.cons cs cp)) :=
  (pss_cons h1 h2).weak fun D σ H ⟨μ, env, st, S, E, w⟩ => by
    unfold runSs at w
    refine ⟨μ, env, st, S, E, w.bind.mono fun r st1 μ1 H1 x1 w1 σ1 S1 E1 => ?_⟩
    obtain ⟨fl, env1⟩ := r
    cases fl with
    | next => exact ⟨μ1, env1, st1, S1, E1, w1⟩
    | brk => exact w1.pure σ1 S1 E1
    | cont => exact w1.pure σ1 S1 E1
    | ret d => exact w1.pure σ1 S1 E1
    | exn x => exact w1.pure σ1 S1 E1
theorem s_asg (hs : swapsWithSole [tg] e pos.line X.env = pure false) (hw : swappedStores [tg] e X.env = pure none) (h1 : (assignEach [tg] X.env).map (·.2) = [assign tg X.env]) (he : PE X e (rdE X.K F Φ W ca)) (hg : PG X tg (rdG X.K FZ Φ W g)) :
    PS X (.Assign [tg] e pos) (rdS X.K F Φ W (.asg g ca)) :=
  (ps_asg he hg hs hw h1).weak fun D σ H ⟨μ, env, st, S, E, w⟩ => by
    unfold runS at w
    refine ⟨μ, env, st, S, E, tr_V S E w fun d st1 μ1 H1 v x1 S1 r w1 => ⟨μ1, env, st1, .one d, S1, E.ext S x1, r, w1.bind.noErr.mono fun env2 st2 μ2 H2 x2 w2 σ2 S2 E2 c2 => w2.pure σ2 S2 E2⟩⟩
theorem two_of {ds : List RV.D} (h : ds.length = 2) : ∃ d e, ds = [d, e] := by
  match ds, h with
  | [d, e], _ => exact ⟨d, e, rfl⟩
/-- the values of a row, then a tuple of them taken apart -/
theorem par_step {cs : Cs} {gs : Gs} {K : PySem.W.Frag} {D : Ends} {σ : L2.St} {μ : List Addr} {H : Hp} {st : Sto} {env : Env} {Q : List V → Hp → Prop} (S : RpS K μ H st) (E : RpE K μ H env σ) (h : Wp K FZ (runS Φ W (.asg (.tp gs) (.tup cs)) env) st μ H (kS K F D))
    (hq : ∀ ds st' μ' H' vs, ds.length = cs.len → Ext μ H μ' H' → RpS K μ' H' st' → RpL K μ' H' ds vs → Wp K FZ (runGs Φ W gs ds env) st' μ' H' (fun env2 st2 μ2 H2 => ∀ σ2, RpS K μ2 H2 st2 → RpE K μ2 H2 env2 σ2 → D.nx σ2 H2) → Q vs H') : Wp K (F σ) (runEs Φ W cs env) st μ H (kL K Q) := by
  unfold runS at h
  have h2 := tr_step S E h
  unfold runE at h2
  refine kL_len h2 fun ds st1 μ1 H1 vs hl x1 S1 r w1 => hq ds st1 μ1 H1 vs hl x1 S1 r ?_
  obtain ⟨_, st2, e, q⟩ := w1.bind.up
  obtain ⟨_, rfl⟩ := guard_ok.mp e
  have q := (q μ1 H1 .refl).pure
  have q2 : Wp K FZ (RV.N.bind (noErr (runG Φ W (.tp gs) (.tup ds) env)) fun env => RV.N.pure (Fl.next, env)) st1 μ1 H1 (kS K F D) := q
  have q3 := q2.bind.noErr
  unfold runG at q3
  obtain ⟨xs, st3, e3, q4⟩ := q3.bind.up
  obtain ⟨rfl, rfl⟩ := pure_ok.mp (show M.pure ds st1 = .ok xs st3 from e3)
  obtain ⟨_, st4, e4, q5⟩ := (q4 μ1 H1 .refl).bind.up
  obtain ⟨_, rfl⟩ := guard_ok.mp e4
  exact (q5 μ1 H1 .refl).mono fun env2 st5 μ5 H5 x5 w5 σ5 S5 E5 => w5.pure σ5 S5 E5
theorem s_par {i j : Nat} {x y : Str} {px py pt : Pos} {kt k2 pt2} {cs : Cs} (hc : X.calm = true) (hN : X.N.Nodup) (hi : X.N[i]? = some x) (hj : X.N[j]? = some y) (hij : i ≠ j)
    (hx : X.env.scope.names.lookup x = some .local) (hy : X.env.scope.names.lookup y = some .local) (hl : cs.len = 2)
    (hw : swappedStores [.Tuple [.Name x px, .Name y py] kt pt] (.Tuple [a, b] k2 pt2) X.env = pure (some [x, y]))
    (hs : swapsWithSole [.Tuple [.Name x px, .Name y py] kt pt] (.Tuple [a, b] k2 pt2) pos.line X.env = pure false) (ha : PA X [a, b] (rdL X.K F Φ W cs)) :
    PS X (.Assign [.Tuple [.Name x px, .Name y py] kt pt] (.Tuple [a, b] k2 pt2) pos) (rdS X.K F Φ W (.asg (.tp (.cons (.nm i) (.cons (.nm j) .nil))) (.tup cs))) :=
  (ps_par hc hN hi hj hij hx hy ha hw hs).weak fun D σ H ⟨μ, env, st, S, E, w⟩ => by
    refine ⟨μ, env, st, S, E, par_step S E w fun ds st1 μ1 H1 vs hd x1 S1 r w1 => ?_⟩
    obtain ⟨d, e, rfl⟩ := two_of (hd.trans hl)
    obtain ⟨v, u, rfl, r1, r2⟩ := rp2 r
    refine ⟨v, u, rfl, ?_⟩
    simp only [runGs, runG, pure_bind] at w1
    exact w1.pure _ S1 (((E.ext S x1).set r1).set r2)
/-! loops -/
theorem s_for (hp : PassesOwn (model X.prog X.w) X.A X.env X.xe) (hc : X.calm = true) (hs : ∀ x, foldedSetIterable iter X.env x = pure x) (hi : PI X tg iter (rdI X.K F Φ W ci)) (hg : PG X tg (rdG X.K FZ Φ W g)) (hb : PSs X p (rdSs X.K F Φ W cp)) :
    PS X (.For tg iter p [] pos) (rdS X.K F Φ W (.for_ g ci cp)) :=
  (ps_for hp hc hi hg hb hs).weak fun D σ H ⟨μ, env, st, S, E, w⟩ => by
    unfold runS at w
    refine ⟨μ, env, st, S, E, (tr_step S E w).mono fun src st1 μ1 H1 x1 w1 S1 J hJ => ?_⟩
    refine ⟨fun i m σ H => ∃ μ env st, Ext μ1 H1 μ H ∧ RpS X.K μ H st ∧ RpE X.K μ H env σ ∧ Wp X.K FZ (forRun src (fun x env => RV.N.bind (noErr (runP Φ W g x env)) fun env => runSs Φ W cp env) m i env) st μ H (kS X.K F D), ⟨src.fuel W, μ1, env, st1, .refl, S1, E.ext S x1, w1⟩, ?_⟩
    rintro i m σ H ⟨μ, env, st, x, S, E, w⟩
    cases m with
    | zero => exact w.bad.elim
    | succ m =>
      rw [forRun] at w
      obtain ⟨o, st2, e, q⟩ := w.bind.up
      obtain ⟨rfl, z⟩ := hJ μ H st i o st2 (x.exf S1) S e
      have q := q μ H .refl
      cases o with
      | none => exact .inl ⟨z, q.pure σ S E⟩
      | some y =>
        refine .inr ⟨z.1, fun σ H => ∃ μ env st, Ext μ1 H1 μ H ∧ RpS X.K μ H st ∧ RpE X.K μ H env σ ∧ Wp X.K FZ (forRun src (fun x env => RV.N.bind (noErr (runP Φ W g x env)) fun env => runSs Φ W cp env) m (i + 1) env) st μ H (kS X.K F D), fun σ' H' h => ⟨m, Nat.lt_succ_self m, h⟩, fun v H' hy => ?_⟩
        obtain ⟨y1, S', ri⟩ := z.2 v H' hy
        dsimp only at q
        rw [bind_assoc] at q
        refine ⟨μ, env, st2, y, S', E.ext S y1, ri, (Wp.ext q y1).bind.noErr.mono fun env2 st3 μ3 H3 x3 w3 σ3 S3 E3 _ => ⟨μ3, env2, st3, S3, E3, w3.bind.mono fun r st4 μ4 H4 x4 w4 σ4 S4 E4 => ?_⟩⟩
        have xx : Ext μ1 H1 μ4 H4 := ((x.trans y1).trans x3).trans x4
        obtain ⟨fl, env4⟩ := r
        cases fl with
        | next => exact ⟨μ4, env4, st4, xx, S4, E4, w4⟩
        | cont => exact ⟨μ4, env4, st4, xx, S4, E4, w4⟩
        | brk => exact w4.pure σ4 S4 E4
        | ret d => exact w4.pure σ4 S4 E4
        | exn x => exact w4.pure σ4 S4 E4
end
end RV

/-! R14b: lists that never change any more. -/
namespace RV
open PySem L2
variable [Wd]
/-- a list or a dict that changes -/
def MutL (u : HO) : Prop := Mut (some u) ∧ NTc u
def Locked (as : List Addr) (H H' : Hp) : Prop := (∀ a ∈ as, ∃ od u, H a = some u ∧ MutL u ∧ H' a = some (.frz od u)) ∧ ∀ b, b ∉ as → H' b = H b
theorem inv_locks {X : Cx} {pins : List (Addr × Obj)} {σ : L2.St} {s : Shared} : ∀ (as : List Addr) {H : Hp}, L2.Inv X pins σ H s → as.Nodup → (∀ a ∈ as, ∃ u, H a = some u ∧ MutL u) → ∃ H', Locked as H H' ∧ L2.Inv X pins σ H' s
  | [], H, I, _, _ => ⟨H, ⟨(fun a h => nomatch h), fun _ _ => rfl⟩, I⟩
  | a :: as, H, I, nd, h => by
    obtain ⟨u, e, mu⟩ := h a List.mem_cons_self
    obtain ⟨od, I1⟩ := I.lock e mu.1
    have nd := List.nodup_cons.mp nd
    obtain ⟨H', L, I2⟩ := inv_locks as (H := upd H a (.frz od u)) I1 nd.2 fun b hb => by
      obtain ⟨w, e2, m2⟩ := h b (List.mem_cons_of_mem _ hb)
      exact ⟨w, by rw [upd_ne (fun z => nd.1 (by rw [← z]; exact hb))]; exact e2, m2⟩
    refine ⟨H', ⟨(fun b hb => ?_), (fun b hb => ?_)⟩, I2⟩
    · by_cases hba : b = a
      · subst hba
        exact ⟨od, u, e, mu, by rw [L.2 b nd.1, upd_same]⟩
      · rcases List.mem_cons.mp hb with z | z
        · exact absurd z hba
        · obtain ⟨o1, u1, e1, m1, f1⟩ := L.1 b z
          rw [upd_ne hba] at e1
          exact ⟨o1, u1, e1, m1, f1⟩
    · rw [L.2 b fun z => hb (List.mem_cons_of_mem _ z), upd_ne fun z => hb (by rw [z]; exact List.mem_cons_self)]
/-- behind locks of one's own choice -/
def LK (q : Hp → Prop) (H : Hp) : Prop := ∃ as : List Addr, as.Nodup ∧ (∀ a ∈ as, ∃ u, H a = some u ∧ MutL u) ∧ ∀ H', Locked as H H' → q H'
theorem LK.here {q : Hp → Prop} {H : Hp} (h : q H) : LK q H := ⟨[], List.nodup_nil, (fun a z => by cases z), fun H' L => by
  have : H' = H := funext fun b => L.2 b List.not_mem_nil
  rw [this]; exact h⟩
theorem LK.get {X : Cx} {pins : List (Addr × Obj)} {σ : L2.St} {s : Shared} {q : Hp → Prop} {H : Hp} (h : LK q H) (I : Inv X pins σ H s) : ∃ H', Inv X pins σ H' s ∧ q H' := by
  obtain ⟨as, nd, m, k⟩ := h
  obtain ⟨H', L, I'⟩ := inv_locks as I nd m
  exact ⟨H', I', k H' L⟩
theorem pe_lock {X : Cx} {e : Expr} {t : TE} (h : PE X e t) : PE X e (fun σ H Q => t σ H fun v => LK (Q v)) := ⟨fun pins s σ H Q I q => thn (h.run pins s σ H _ I q) fun u s' ⟨v, H', I', r, l⟩ => by
  obtain ⟨H2, I2, q2⟩ := l.get I'
  exact ⟨v, H2, I2, r, q2⟩⟩
section
variable {K : PySem.W.Frag} {μ μ' ν : List Addr} {H H' H'' : Hp} {st st' : Sto}
mutual
theorem Rp.heap (k : ∀ b o u, H b = some (.frz o u) → H' b = some (.frz o u)) : ∀ {d : D} {v : V}, Rp K μ H d v → Rp K μ H' d v
  | .non, _, h => h
  | .bl _, _, h => h
  | .int _, _, h => h
  | .str _, _, h => h
  | .tup ds, _, ⟨a, xs, e, ⟨o, h, z⟩, r⟩ => ⟨a, xs, e, ⟨o, k _ _ _ h, z⟩, RpL.heap k r⟩
  | .fl ds, _, ⟨a, xs, e, h, r⟩ => ⟨a, xs, e, by
      rcases h with ⟨o, h⟩ | h
      · exact .inl ⟨o, k _ _ _ h⟩
      · exact .inr h, RpL.heap k r⟩
  | .ref n, _, ⟨a, e, h⟩ => ⟨a, e, h⟩
  | .ed, _, ⟨a, o, e, h⟩ => ⟨a, o, e, k _ _ _ h⟩
  | .ob _ _ ds, _, ⟨a, xs, e, h, r⟩ => ⟨a, xs, e, h.keep k, RpL.heap k r⟩
theorem RpL.heap (k : ∀ b o u, H b = some (.frz o u) → H' b = some (.frz o u)) : ∀ {ds : List D} {vs : List V}, RpL K μ H ds vs → RpL K μ H' ds vs
  | [], _, h => h
  | _ :: _, _, ⟨y, r, e, h, t⟩ => ⟨y, r, e, Rp.heap k h, RpL.heap k t⟩
end
theorem Locked.frz {as : List Addr} (L : Locked as H H') : ∀ b o u, H b = some (.frz o u) → H' b = some (.frz o u) := fun b o u e => by
  by_cases hb : b ∈ as
  · obtain ⟨od, w, e1, mu, _⟩ := L.1 b hb
    rw [e] at e1
    cases e1
    exact mu.1.elim
  · rw [L.2 b hb]; exact e
theorem Locked.tabs {T : List (Addr × Str)} {as : List Addr} (L : Locked as H H') (t : LamX.Tabs T H) : LamX.Tabs T H' := tabs_stay t fun b o e n => by
  by_cases hb : b ∈ as
  · obtain ⟨od, w, e1, mu, _⟩ := L.1 b hb
    rw [e] at e1
    cases e1
    exact (n mu.2).elim
  · rw [L.2 b hb]; exact e
theorem OkO.mut {a : Addr} {o : O} (h : OkO K μ H a o) : ∃ u, H a = some u ∧ MutL u := by
  cases o with
  | lst ds => obtain ⟨xs, e, _⟩ := h; exact ⟨_, e, trivial, ntc_lst⟩
  | dct kv => obtain ⟨_, e, _⟩ := h; exact ⟨_, e, trivial, ntc_dk⟩
  | kct kv => obtain ⟨_, e, _⟩ := h; exact ⟨_, e, trivial, ntc_ko⟩
/-- an object stays what it is: its place, its content -/
theorem OkO.cut {a : Addr} {o : O} {k : Nat} (hν : ∀ n a, n < k → μ[n]? = some a → ν[n]? = some a) (hb : o.below k = true) (hf : ∀ b o u, H b = some (.frz o u) → H' b = some (.frz o u)) (e : H' a = H a) (h : OkO K μ H a o) : OkO K ν H' a o := by
  cases o with
  | lst ds =>
    obtain ⟨xs, h1, r⟩ := h
    exact ⟨xs, e.trans h1, (r.cut hν hb).heap hf⟩
  | dct kvs =>
    obtain ⟨kv, h1, h2, h3⟩ := h
    exact ⟨kv, e.trans h1, ⟨h2.1, (h2.2.any h3).heap hf⟩, h3⟩
  | kct kvs =>
    obtain ⟨kv, h1, h2, h3⟩ := h
    exact ⟨kv, e.trans h1, ⟨h2.1, (h2.2.1.any (noRef_keys h2)).heap hf, (h2.2.2.any h3).heap hf⟩, h3⟩
theorem items_some {st : Sto} {n : Nat} {xs : List D} (e : itemsAt st n = some xs) : st[n]? = some (.lst xs) := by
  unfold itemsAt at e
  split at e
  · rename_i h; rw [h]; cases e; rfl
  · cases e
theorem frzO_inv {k : Nat} {d d' : D} {s s' : Sto} (h : frzO k d s = .ok d' s') : (d' = d ∧ s' = s) ∨ ∃ n, d = .ref n ∧ k ≤ n ∧ s.length = n + 1 ∧ s' = s.take n ∧ ((∃ xs, s[n]? = some (.lst xs) ∧ d' = .fl xs) ∨ (s[n]? = some (.dct []) ∧ d' = .ed)) := by
  cases d with
  | ref n =>
    unfold frzO at h
    dsimp only at h
    by_cases c : k ≤ n ∧ s.length = n + 1
    · rw [if_pos c] at h
      cases e : itemsAt s n with
      | none =>
        rw [e] at h
        dsimp only at h
        split at h
        · rename_i q
          cases h
          exact .inr ⟨n, rfl, c.1, c.2, rfl, .inr ⟨q, rfl⟩⟩
        · cases h
      | some xs =>
        rw [e] at h
        cases h
        exact .inr ⟨n, rfl, c.1, c.2, rfl, .inl ⟨xs, items_some e, rfl⟩⟩
    · rw [if_neg c] at h; cases h
  | _ => cases h; exact .inl ⟨rfl, rfl⟩
theorem frzO_err {k : Nat} {d : D} {s s' : Sto} {x : Ex} (h : frzO k d s = .err x s') : False := by
  cases d with
  | ref n =>
    unfold frzO at h
    dsimp only at h
    by_cases c : k ≤ n ∧ s.length = n + 1
    · rw [if_pos c] at h
      cases e : itemsAt s n with
      | none =>
        rw [e] at h
        dsimp only at h
        split at h <;> cases h
      | some xs => rw [e] at h; cases h
    · rw [if_neg c] at h; cases h
  | _ => cases h
theorem Wp_frz {F : FW} {m : N D} {Q : VK} (S : RpS K μ H st) (h : Wp K F (frzN m) st μ H (kV K Q)) : Wp K F m st μ H (kV K fun v => LK (Q v)) := by
  unfold Wp frzN at h
  unfold Wp
  cases e : m st with
  | bad => rw [e] at h; exact h
  | err x s1 => rw [e] at h; exact h
  | ok d s1 =>
    rw [e] at h
    dsimp only at h ⊢
    cases e2 : frzO st.length d s1 with
    | bad => rw [e2] at h; exact h.elim
    | err x s2 => exact (frzO_err e2).elim
    | ok d2 s2 =>
      rw [e2] at h
      intro μ1 H1 x1 v S1 r
      rcases frzO_inv e2 with ⟨rfl, rfl⟩ | ⟨n, rfl, hk, hl, rfl, hx⟩
      · exact LK.here (h μ1 H1 x1 v S1 r)
      · have key : ∃ a, v = .ref a ∧ μ1[n]? = some a ∧ (∃ u, H1 a = some u ∧ MutL u) ∧ ∀ H2, Locked [a] H1 H2 → Rp K (μ1.take n) H2 d2 (.ref a) := by
          have hν : ∀ j b, j < n → μ1[j]? = some b → (μ1.take n)[j]? = some b := fun j b hj e => by rw [List.getElem?_take_of_lt hj]; exact e
          rcases hx with ⟨xs, hx, rfl⟩ | ⟨hx, rfl⟩
          · obtain ⟨a, vs, rfl, ha, h1, r1⟩ := S1.lst hx r
            refine ⟨a, rfl, ha, ⟨_, h1, trivial, ntc_lst⟩, fun H2 L => ?_⟩
            obtain ⟨od, u, e1, mu, f1⟩ := L.1 a (List.mem_singleton.mpr rfl)
            rw [h1] at e1
            cases e1
            exact ⟨a, vs, rfl, .inl ⟨od, f1⟩, ((r1.cut hν (S1.wf n _ hx)).heap L.frz)⟩
          · obtain ⟨a, rfl, ha⟩ := r
            obtain ⟨b, hb, kv, h1, h2, _⟩ := S1.ob n _ hx
            rw [ha] at hb; cases hb
            cases kv with
            | cons p q => exact nomatch h2.1
            | nil =>
              refine ⟨a, rfl, ha, ⟨_, h1, trivial, ntc_dk⟩, fun H2 L => ?_⟩
              obtain ⟨od, u, e1, mu, f1⟩ := L.1 a (List.mem_singleton.mpr rfl)
              rw [h1] at e1
              cases e1
              exact ⟨a, od, rfl, f1⟩
        obtain ⟨a, rfl, ha, hmu, hrp⟩ := key
        refine ⟨[a], by simp, fun b hb => by cases (List.mem_singleton.mp hb); exact hmu, fun H2 L => ?_⟩
        have hν : ∀ j b, j < n → μ1[j]? = some b → (μ1.take n)[j]? = some b := fun j b hj e => by rw [List.getElem?_take_of_lt hj]; exact e
        have hn : n < μ1.length := (List.getElem?_eq_some_iff.mp ha).1
        refine h (μ1.take n) H2 ⟨?_, fun b o hb nb nt => ?_⟩ (.ref a) ⟨?_, ?_, fun i o e => ?_, fun i o e => ?_, L.tabs S1.tb⟩ (hrp H2 L)
        · obtain ⟨ν, e⟩ := x1.pre
          refine ⟨ν.take (n - μ.length), ?_⟩
          have hm : μ.length ≤ n := by rw [S.len]; exact hk
          rw [e, List.take_append, List.take_of_length_le hm]
        · obtain ⟨q1, q2⟩ := x1.fr b o hb nb
          refine ⟨?_, fun z => q2 (List.mem_of_mem_take z)⟩
          rw [L.2 b fun z => q2 (by rw [List.mem_singleton.mp z]; exact List.mem_of_getElem? ha)]
          exact q1
        · rw [List.length_take, List.length_take, S1.len]
        · exact S1.nd.sublist (List.take_sublist _ _)
        · have hi : i < n := by
            have := (List.getElem?_eq_some_iff.mp e).1
            rw [List.length_take] at this
            omega
          rw [List.getElem?_take_of_lt hi] at e
          obtain ⟨b, hb, ok⟩ := S1.ob i o e
          have ne : b ≠ a := fun z => by
            subst z
            have := (List.getElem?_inj (List.getElem?_eq_some_iff.mp hb).1 S1.nd).mp (hb.trans ha.symm)
            omega
          refine ⟨b, hν i b hi hb, ok.cut hν (k := n) ?_ L.frz (L.2 b fun z => ne (List.mem_singleton.mp z))⟩
          have := S1.wf i o e
          cases o with
          | lst ds => exact belowL_mono (Nat.le_of_lt hi) this
          | dct kv => rfl
          | kct kv => rfl
        · have hi : i < n := by
            have := (List.getElem?_eq_some_iff.mp e).1
            rw [List.length_take] at this
            omega
          rw [List.getElem?_take_of_lt hi] at e
          exact S1.wf i o e
section
variable {X : Cx} {F : L2.St → FW} {Φ : Str → List D → N D} {W : Nat} {e : Expr} {ca : C}
theorem r_frz (h : PE X e (rdE X.K F Φ W ca)) : PE X e (rdE X.K F Φ W (.frz ca)) := (pe_lock h).weak fun σ H Q ⟨μ, env, st, S, E, w⟩ => by
  unfold runE at w
  exact ⟨μ, env, st, S, E, Wp_frz S w⟩
end
end
/-! a comprehension that is given to a name, and never changes -/
section
variable {X : Cx} {F : L2.St → FW} {Φ : Str → List D → N D} {W : Nat} {elt tg iter e a b : Expr} {ifs : List Expr} {ce ca cb : C} {cf : Co} {g : G} {ci : I} {vs : List Nat} {pos : Pos} {st : Stmt}
end
end RV

/-! R14c: what a call leaves. -/
namespace RV
open PySem L2
variable [Wd]
section
variable {K : PySem.W.Frag} {μ μ1 μc ν : List Addr} {H H1 H2 : Hp} {st s' : Sto}
mutual
theorem digW_rp {f : Nat → Option D} (hf : ∀ n d', f n = some d' → noRef d' = true ∧ ∀ v, Rp K μ1 H1 (.ref n) v → Rp K ν H2 d' v) (k : ∀ b o u, H1 b = some (.frz o u) → H2 b = some (.frz o u)) :
    ∀ {d d' : D}, digW f d = some d' → noRef d' = true ∧ ∀ v, Rp K μ1 H1 d v → Rp K ν H2 d' v
  | .non, _, e => by unfold digW at e; cases e; exact ⟨rfl, fun v h => h⟩
  | .bl _, _, e => by unfold digW at e; cases e; exact ⟨rfl, fun v h => h⟩
  | .int _, _, e => by unfold digW at e; cases e; exact ⟨rfl, fun v h => h⟩
  | .str _, _, e => by unfold digW at e; cases e; exact ⟨rfl, fun v h => h⟩
  | .tup ds, d', e => by
    unfold digW at e
    obtain ⟨es, e1, rfl⟩ := Option.map_eq_some_iff.mp e
    obtain ⟨h1, h2⟩ := digWL_rp hf k e1
    refine ⟨by unfold noRef; exact h1, fun v ⟨a, xs, ev, ⟨o, h, z⟩, r⟩ => ⟨a, xs, ev, ⟨o, k _ _ _ h, z⟩, h2 _ r⟩⟩
  | .fl ds, d', e => by
    unfold digW at e
    obtain ⟨es, e1, rfl⟩ := Option.map_eq_some_iff.mp e
    obtain ⟨h1, h2⟩ := digWL_rp hf k e1
    refine ⟨by unfold noRef; exact h1, fun v ⟨a, xs, ev, h, r⟩ => ⟨a, xs, ev, ?_, h2 _ r⟩⟩
    rcases h with ⟨o, h⟩ | h
    · exact .inl ⟨o, k _ _ _ h⟩
    · exact .inr h
  | .ref n, d', e => by unfold digW at e; exact hf n d' e
  | .ed, _, e => by unfold digW at e; cases e; exact ⟨rfl, fun v ⟨a, o, ev, h⟩ => ⟨a, o, ev, k _ _ _ h⟩⟩
  | .ob t ns ds, d', e => by
    unfold digW at e
    obtain ⟨es, e1, rfl⟩ := Option.map_eq_some_iff.mp e
    obtain ⟨h1, h2⟩ := digWL_rp hf k e1
    exact ⟨by unfold noRef; exact h1, fun v ⟨a, xs, ev, h, r⟩ => ⟨a, xs, ev, h.keep k, h2 _ r⟩⟩
theorem digWL_rp {f : Nat → Option D} (hf : ∀ n d', f n = some d' → noRef d' = true ∧ ∀ v, Rp K μ1 H1 (.ref n) v → Rp K ν H2 d' v) (k : ∀ b o u, H1 b = some (.frz o u) → H2 b = some (.frz o u)) :
    ∀ {ds ds' : List D}, digWL f ds = some ds' → noRefL ds' = true ∧ ∀ vs, RpL K μ1 H1 ds vs → RpL K ν H2 ds' vs
  | [], _, e => by unfold digWL at e; cases e; exact ⟨rfl, fun v h => h⟩
  | d :: ds, ds', e => by
    unfold digWL at e
    cases e1 : digW f d with
    | none => rw [e1] at e; cases e
    | some a =>
      cases e2 : digWL f ds with
      | none => rw [e1, e2] at e; cases e
      | some as =>
        rw [e1, e2] at e
        cases e
        obtain ⟨h1, h2⟩ := digW_rp hf k e1
        obtain ⟨h3, h4⟩ := digWL_rp hf k e2
        exact ⟨by unfold noRefL; rw [h1, h3]; rfl, fun vs ⟨x, r, ev, h, t⟩ => ⟨x, r, ev, h2 x h, h4 r t⟩⟩
end
theorem dig_rp {k : Nat} {as : List Addr} (S : RpS K μ1 H1 s') (L : Locked as H1 H2) (hk : ∀ i b, k ≤ i → μ1[i]? = some b → b ∈ as) : ∀ (m : Nat) {d d' : D}, dig s' k m d = some d' → noRef d' = true ∧ ∀ v, Rp K μ1 H1 d v → Rp K ν H2 d' v
  | 0, d, d', e => by
    unfold dig at e
    exact digW_rp (fun n d' z => by cases z) L.frz e
  | m + 1, d, d', e => by
    unfold dig at e
    refine digW_rp (fun n d' z => ?_) L.frz e
    by_cases c : n < k
    · rw [if_pos c] at z; cases z
    · rw [if_neg c] at z
      cases e1 : itemsAt s' n with
      | none =>
        rw [e1] at z
        dsimp only at z
        cases e2 : s'[n]? with
        | none => rw [e2] at z; cases z
        | some o =>
          rw [e2] at z
          cases o with
          | lst ys => cases z
          | dct kvs =>
            cases z
            refine ⟨?_, fun v hv => ?_⟩
            · obtain ⟨b, hb, kv, h1, h2, h3⟩ := S.ob n _ e2
              unfold noRef
              exact noRef_flat h2 h3
            · obtain ⟨a, rfl, ha⟩ := hv
              obtain ⟨b, hb, kv, h1, h2, h3⟩ := S.ob n _ e2
              rw [ha] at hb; cases hb
              obtain ⟨od, u, q1, mu, q2⟩ := L.1 a (hk n a (by omega) ha)
              rw [h1] at q1
              cases q1
              exact ⟨a, _, rfl, .dct q2, ((kv_flat h2).any (noRef_flat h2 h3)).heap L.frz⟩
          | kct kvs =>
            cases z
            refine ⟨?_, fun v hv => ?_⟩
            · obtain ⟨b, hb, kv, h1, h2, h3⟩ := S.ob n _ e2
              unfold noRef
              exact noRef_flatK h2 h3
            · obtain ⟨a, rfl, ha⟩ := hv
              obtain ⟨b, hb, kv, h1, h2, h3⟩ := S.ob n _ e2
              rw [ha] at hb; cases hb
              obtain ⟨od, u, q1, mu, q2⟩ := L.1 a (hk n a (by omega) ha)
              rw [h1] at q1
              cases q1
              exact ⟨a, _, rfl, .kct q2 fun p hp => ⟨(h2.keys p hp).1.keep L.frz, (h2.keys p hp).2⟩, ((kc_flat h2).any (noRef_flatK h2 h3)).heap L.frz⟩
      | some xs =>
        rw [e1] at z
        obtain ⟨es, e2, rfl⟩ := Option.map_eq_some_iff.mp z
        obtain ⟨h1, h2⟩ := digWL_rp (K := K) (μ1 := μ1) (ν := ν) (H1 := H1) (H2 := H2) (fun j d' z => dig_rp S L hk m (d := .ref j) z) L.frz e2
        refine ⟨by unfold noRef; exact h1, fun v hv => ?_⟩
        obtain ⟨a, vs, rfl, ha, hl, r⟩ := S.lst (items_some e1) hv
        obtain ⟨od, u, q1, mu, q2⟩ := L.1 a (hk n a (by omega) ha)
        rw [hl] at q1
        cases q1
        exact ⟨a, vs, rfl, .inl ⟨od, q2⟩, h2 vs r⟩
theorem fz_rp {k : Nat} {as : List Addr} {d d' : D} (S : RpS K μ1 H1 s') (L : Locked as H1 H2) (hk : ∀ i b, k ≤ i → μ1[i]? = some b → b ∈ as) (e : fz s' k d = some d') {v : V} (r : Rp K μ1 H1 d v) : Rp K ν H2 d' v := by
  unfold fz at e
  by_cases c : noRef d = true
  · rw [if_pos c] at e
    cases e
    exact (r.any c).heap L.frz
  · rw [if_neg c] at e
    exact (dig_rp S L hk 4 e).2 v r
theorem win_ext {as : List Addr} (x : Ext μc H μ1 H1) (hc : ∀ b ∈ μc, b ∈ μ) (h : ∀ b, b ∉ μ1 → H2 b = H1 b) : Ext μ H μ H2 :=
  ⟨⟨[], by simp⟩, fun b o e nb nt => by
    obtain ⟨q1, q2⟩ := x.fr b o e fun z => nb (hc b z)
    exact ⟨by rw [h b q2]; exact q1, nb⟩⟩
theorem back_rps {n : Nat} {ys : List D} (S : RpS K μ H st) (keep : ∀ b o u, H b = some (.frz o u) → H2 b = some (.frz o u)) (same : ∀ i b, i ≠ n → μ[i]? = some b → H2 b = H b)
    (slot : ∀ a, μ[n]? = some a → ∃ vs, H2 a = some (.lst vs) ∧ RpL K μ H2 ys vs) (hy : noRefL ys = true) (ht : LamX.Tabs Wd.T H2) : RpS K μ H2 (st.set n (.lst ys)) := by
  refine ⟨by rw [List.length_set]; exact S.len, S.nd, fun i o e => ?_, fun i o e => ?_, ht⟩
  · by_cases hi : i = n
    · subst hi
      have hl : i < st.length := by
        have := (List.getElem?_eq_some_iff.mp e).1
        rwa [List.length_set] at this
      rw [List.getElem?_set_self hl] at e
      cases e
      have hm : i < μ.length := by rw [S.len]; exact hl
      obtain ⟨vs, h1, h2⟩ := slot _ (List.getElem?_eq_getElem hm)
      exact ⟨_, List.getElem?_eq_getElem hm, vs, h1, h2⟩
    · rw [List.getElem?_set_ne (Ne.symm hi)] at e
      obtain ⟨b, hb, ok⟩ := S.ob i o e
      exact ⟨b, hb, ok.cut (fun _ _ _ z => z) (k := i) (S.wf i o e) keep (same i b hi hb)⟩
  · by_cases hi : i = n
    · subst hi
      have hl : i < st.length := by
        have := (List.getElem?_eq_some_iff.mp e).1
        rwa [List.length_set] at this
      rw [List.getElem?_set_self hl] at e
      cases e
      exact belowL_mono (Nat.zero_le _) (noRefL_below hy)
    · rw [List.getElem?_set_ne (Ne.symm hi)] at e
      exact S.wf i o e
def xNo (x : Ex) : Bool := match x.fld with
  | none => true
  | some (_, d) => noRef d
theorem fzE_inv {s : Sto} {k : Nat} {x x' : Ex} (h : fzE s k x = some x') : x' = x ∧ xNo x = true := by
  unfold fzE at h
  unfold xNo
  split at h
  · rename_i e; (try rw [e]); exact ⟨(Option.some.inj h).symm, rfl⟩
  · rename_i f d e
    (try rw [e])
    by_cases c : noRef d = true
    · rw [if_pos c] at h; exact ⟨(Option.some.inj h).symm, c⟩
    · rw [if_neg c] at h; cases h
/-- a caller's wish about errors, as the callee sees it -/
def inW (K : PySem.W.Frag) (μ : List Addr) (G : FW) : FW := fun x _ _ H1 => ∃ s2, RpS K μ H1 s2 ∧ G x s2 μ H1 ∧ xNo x = true
/-- the core: a callee with the store [] or [one list] -/
theorem out_core {raw : Bool} {k n : Nat} {m : N D} {sc : Sto} {g : Sto → Option Sto} {Q : VK} {G : FW} (S : RpS K μ H st) (Sc : RpS K μc H sc) (hc : ∀ b ∈ μc, b ∈ μ) (hk : μc.length = k) (hμ : ∀ i b, i ≠ n → μ[i]? = some b → b ∉ μc) (hn : ∀ a, μ[n]? = some a → μc[0]? = some a)
    (hg : ∀ s1 s2, g s1 = some s2 → ∃ ys, noRefL ys = true ∧ s2 = st.set n (.lst ys) ∧ ∀ a, μ[n]? = some a → s1[(0 : Nat)]? = some (.lst ys))
    (h : Wp K G (fun _ => outN raw k g (m sc)) st μ H (kV K Q)) : Wp K (inW K μ G) m sc μc H (kV K fun v => LK (Q v)) := by
  unfold Wp at h
  dsimp only at h
  unfold Wp
  cases e : m sc with
  | bad => rw [e] at h; exact h
  | err x s1 =>
    rw [e] at h
    unfold outN at h
    dsimp only at h
    cases e1 : g s1 with
    | none => rw [e1] at h; exact h.elim
    | some s2 =>
      rw [e1] at h
      dsimp only at h
      cases e2 : fzE s1 k x with
      | none => rw [e2] at h; exact h.elim
      | some x' =>
        rw [e2] at h
        intro μ1 H1 x1 S1
        obtain ⟨ys, hy, rfl, hs⟩ := hg _ _ e1
        have sameT : ∀ b, b ∈ μ → b ∉ μc → H1 b = H b ∧ b ∉ μ1 := fun b hb nb => by
          cases eb : H b with
          | none => exact (S.live hb eb).elim
          | some o => exact x1.fr b o eb nb (by obtain ⟨u, q1, q2⟩ := S.ntc hb; rw [eb] at q1; cases q1; exact q2.1)
        have keep : ∀ b o u, H b = some (.frz o u) → H1 b = some (.frz o u) := fun b o u eb => (x1.fr b _ eb fun z => Sc.fixed eb trivial z).1
        obtain ⟨rfl, hxn⟩ := fzE_inv e2
        suffices hb : RpS K μ H1 (st.set n (.lst ys)) from ⟨_, hb, h μ H1 (win_ext (as := []) x1 hc fun b _ => rfl) hb, hxn⟩
        refine back_rps S keep (fun i b hi hb => (sameT b (List.mem_of_getElem? hb) (hμ i b hi hb)).1) (fun a ha => ?_) hy S1.tb
        have h0 := hs a ha
        obtain ⟨b, hb, vs, hv, r⟩ := S1.ob 0 _ h0
        have := x1.get (hn a ha)
        rw [this] at hb
        cases hb
        exact ⟨vs, hv, r.any hy⟩
  | ok d s1 =>
    rw [e] at h
    unfold outN at h
    dsimp only at h
    cases e1 : g s1 with
    | none => rw [e1] at h; exact h.elim
    | some s2 =>
      rw [e1] at h
      dsimp only at h
      obtain ⟨ys, hy, rfl, hs⟩ := hg _ _ e1
      intro μ1 H1 x1 v S1 r
      have sameT : ∀ b, b ∈ μ → b ∉ μc → H1 b = H b ∧ b ∉ μ1 := fun b hb nb => by
        cases eb : H b with
        | none => exact (S.live hb eb).elim
        | some o => exact x1.fr b o eb nb (by obtain ⟨u, q1, q2⟩ := S.ntc hb; rw [eb] at q1; cases q1; exact q2.1)
      have keep : ∀ b o u, H b = some (.frz o u) → H1 b = some (.frz o u) := fun b o u eb => (x1.fr b _ eb fun z => Sc.fixed eb trivial z).1
      obtain ⟨ν', hν⟩ := x1.pre
      cases raw with
      | false =>
        rw [if_neg (by decide)] at h
        cases e2 : fz s1 k d with
        | none => rw [e2] at h; exact h.elim
        | some d' =>
          rw [e2] at h
          have ndv := S1.nd
          rw [hν, List.nodup_append] at ndv
          have inμ1 : ∀ b ∈ ν', b ∈ μ1 := fun b hb => by rw [hν]; exact List.mem_append_right _ hb
          refine ⟨ν', ndv.2.1, fun b hb => ?_, fun H2 L => ?_⟩
          · obtain ⟨i, o, _, _, ok⟩ := S1.mem (inμ1 b hb)
            exact ok.mut
          · have keep2 : ∀ b o u, H b = some (.frz o u) → H2 b = some (.frz o u) := fun b o u eb => L.frz b o u (keep b o u eb)
            have out1 : ∀ b, b ∉ μ1 → H2 b = H1 b := fun b hb => L.2 b fun z => hb (inμ1 b z)
            refine h μ H2 (win_ext (as := ν') x1 hc out1) v (back_rps S keep2 (fun i b hi hb => ?_) (fun a ha => ?_) hy (L.tabs S1.tb)) (fz_rp S1 L (fun i b hi hb => ?_) e2 r)
            · obtain ⟨q1, q2⟩ := sameT b (List.mem_of_getElem? hb) (hμ i b hi hb)
              rw [out1 b q2, q1]
            · have h0 := hs a ha
              obtain ⟨b, hb, vs, hv, rr⟩ := S1.ob 0 _ h0
              have := x1.get (hn a ha)
              rw [this] at hb
              cases hb
              have na : a ∉ ν' := fun z => ndv.2.2 a (List.mem_of_getElem? (hn a ha)) a z rfl
              exact ⟨vs, by rw [L.2 a na]; exact hv, (rr.any hy).heap L.frz⟩
            · rw [hν, List.getElem?_append_right (by omega)] at hb
              exact List.mem_of_getElem? hb
      | true =>
        rw [if_pos rfl] at h
        cases d with
        | ref j =>
          dsimp only at h
          by_cases c : k ≤ j
          · rw [if_pos c] at h
            cases e2 : s1[j]? with
            | none => rw [e2] at h; exact h.elim
            | some o =>
              rw [e2] at h
              cases o with
              | dct kv => exact h.elim
              | kct kv => exact h.elim
              | lst zs =>
                dsimp only at h
                by_cases c2 : noRefL zs = true
                · rw [if_pos c2] at h
                  obtain ⟨a, vs, rfl, ha, hl, rz⟩ := S1.lst e2 r
                  have hav : a ∈ ν' := by
                    rw [hν, List.getElem?_append_right (by omega)] at ha
                    exact List.mem_of_getElem? ha
                  have ndv := S1.nd
                  rw [hν, List.nodup_append] at ndv
                  have nac : a ∉ μc := fun z => ndv.2.2 a z a hav rfl
                  have naμ : a ∉ μ := fun z => (sameT a z nac).2 (List.mem_of_getElem? ha)
                  have base : RpS K μ H1 (st.set n (.lst ys)) := back_rps S keep (fun i b hi hb => (sameT b (List.mem_of_getElem? hb) (hμ i b hi hb)).1) (fun a ha => by
                    have h0 := hs a ha
                    obtain ⟨b, hb, vs, hv, rr⟩ := S1.ob 0 _ h0
                    have := x1.get (hn a ha)
                    rw [this] at hb
                    cases hb
                    exact ⟨vs, hv, rr.any hy⟩) hy S1.tb
                  refine LK.here (h (μ ++ [a]) H1 ⟨⟨[a], rfl⟩, fun b o eb nb nt => ?_⟩ (.ref a) ⟨?_, ?_, fun i o ei => ?_, fun i o ei => ?_, S1.tb⟩ ⟨a, rfl, ?_⟩)
                  · obtain ⟨q1, q2⟩ := x1.fr b o eb fun z => nb (hc b z)
                    refine ⟨q1, fun z => ?_⟩
                    rcases List.mem_append.mp z with z | z
                    · exact nb z
                    · exact q2 (by rw [List.mem_singleton.mp z]; exact List.mem_of_getElem? ha)
                  · rw [List.length_append, List.length_append, base.len]; rfl
                  · rw [List.nodup_append]
                    exact ⟨S.nd, by simp, fun x hx y hy z => by rw [List.mem_singleton.mp hy] at z; exact naμ (z ▸ hx)⟩
                  · by_cases hi : i < (st.set n (.lst ys)).length
                    · rw [List.getElem?_append_left hi] at ei
                      obtain ⟨b, hb, ok⟩ := base.ob i o ei
                      exact ⟨b, by rw [List.getElem?_append_left (List.getElem?_eq_some_iff.mp hb).1]; exact hb, ok.cut (k := i) (fun j c _ q => by rw [List.getElem?_append_left (List.getElem?_eq_some_iff.mp q).1]; exact q) (base.wf i o ei) (fun _ _ _ z => z) rfl⟩
                    · have hl2 := (List.getElem?_eq_some_iff.mp ei).1
                      rw [List.length_append] at hl2
                      have hi2 : i = (st.set n (.lst ys)).length := by simp only [List.length_cons, List.length_nil] at hl2; omega
                      subst hi2
                      rw [List.getElem?_append_right (Nat.le_refl _), Nat.sub_self] at ei
                      cases ei
                      refine ⟨a, ?_, vs, hl, rz.any c2⟩
                      rw [← base.len, List.getElem?_append_right (Nat.le_refl _), Nat.sub_self]
                      rfl
                  · by_cases hi : i < (st.set n (.lst ys)).length
                    · rw [List.getElem?_append_left hi] at ei
                      exact base.wf i o ei
                    · rw [List.getElem?_append_right (by omega)] at ei
                      cases hh : i - (st.set n (.lst ys)).length with
                      | zero =>
                        rw [hh] at ei
                        cases ei
                        exact belowL_mono (Nat.zero_le _) (noRefL_below c2)
                      | succ q => rw [hh] at ei; cases ei
                  · rw [← base.len, List.getElem?_append_right (Nat.le_refl _), Nat.sub_self]
                    rfl
                · rw [if_neg c2] at h; exact h.elim
          · rw [if_neg c] at h; exact h.elim
        | non => exact h.elim
        | bl b => exact h.elim
        | int i => exact h.elim
        | str z => exact h.elim
        | tup xs => exact h.elim
        | fl xs => exact h.elim
        | ed => exact h.elim
        | ob _ _ _ => exact h.elim
theorem call_core {pl raw : Bool} {f : List D → N D} {ds : List D} {vs : List V} {Q : VK} {G : FW} (S : RpS K μ H st) (r : RpL K μ H ds vs) (h : Wp K G (callN pl raw f ds) st μ H (kV K Q)) :
    ∃ μc sc es, RpS K μc H sc ∧ RpL K μc H es vs ∧ es.length = ds.length ∧ Wp K (inW K μ G) (f es) sc μc H (kV K fun v => LK (Q v)) := by
  cases pl with
  | false =>
    by_cases c : noRefL ds = true
    · refine ⟨[], [], ds, ⟨rfl, List.nodup_nil, fun i o z => by simp at z, fun i o z => by simp at z, S.tb⟩, r.any c, rfl, ?_⟩
      refine out_core (n := st.length) (g := fun _ => some st) (raw := raw) (k := 0) S ⟨rfl, List.nodup_nil, fun i o z => by simp at z, fun i o z => by simp at z, S.tb⟩ (fun b z => by cases z) rfl (fun _ _ _ _ z => by cases z) (fun a ha => ?_) (fun s1 s2 e => ⟨[], rfl, ?_, fun a ha => ?_⟩) ?_
      · rw [← S.len] at ha; simp at ha
      · cases e; rw [List.set_eq_of_length_le (Nat.le_refl _)]
      · rw [← S.len] at ha; simp at ha
      · unfold Wp callN at h
        unfold Wp
        simp only [Bool.false_eq_true, if_false, c, if_true] at h
        exact h
    · unfold Wp callN at h
      simp only [Bool.false_eq_true, if_false, c] at h
  | true =>
    unfold Wp callN at h
    simp only [if_true] at h
    cases ds with
    | nil => exact h.elim
    | cons d rs =>
      cases d with
      | ref n =>
        dsimp only at h
        cases e : st[n]? with
        | none => rw [e] at h; exact h.elim
        | some o =>
          rw [e] at h
          cases o with
          | dct kv => exact h.elim
          | kct kv => exact h.elim
          | lst xs =>
            dsimp only at h
            by_cases c : (noRefL xs && noRefL rs) = true
            · rw [if_pos c] at h
              rw [Bool.and_eq_true] at c
              obtain ⟨v0, vr, rfl, r0, r1⟩ := r
              obtain ⟨a, ws, rfl, ha, hl, rx⟩ := S.lst e r0
              have Sc : RpS K [a] H [.lst xs] := by
                refine ⟨rfl, by simp, fun i o z => ?_, fun i o z => ?_, S.tb⟩
                · cases i with
                  | zero => cases z; exact ⟨a, rfl, ws, hl, rx.any c.1⟩
                  | succ i => simp at z
                · cases i with
                  | zero => cases z; exact noRefL_below c.1
                  | succ i => simp at z
              refine ⟨[a], [.lst xs], .ref 0 :: rs, Sc, ⟨_, _, rfl, ⟨a, rfl, rfl⟩, r1.any c.2⟩, rfl, ?_⟩
              refine out_core (n := n) (g := back st n) (raw := raw) (k := 1) S Sc (fun b z => by rw [List.mem_singleton.mp z]; exact List.mem_of_getElem? ha) rfl (fun i b hi hb z => ?_) (fun b hb => ?_) (fun s1 s2 eb => ?_) h
              · rw [List.mem_singleton.mp z] at hb
                exact hi ((List.getElem?_inj (List.getElem?_eq_some_iff.mp hb).1 S.nd).mp (hb.trans ha.symm))
              · rw [ha] at hb; cases hb; rfl
              · unfold back at eb
                cases e0 : s1[(0 : Nat)]? with
                | none => rw [e0] at eb; cases eb
                | some o =>
                  rw [e0] at eb
                  cases o with
                  | dct kv => cases eb
                  | kct kv => cases eb
                  | lst ys =>
                    dsimp only at eb
                    by_cases cy : noRefL ys = true
                    · rw [if_pos cy] at eb; cases eb; exact ⟨ys, cy, rfl, fun _ _ => rfl⟩
                    · rw [if_neg cy] at eb; cases eb
            · rw [if_neg c] at h; exact h.elim
      | non => exact h.elim
      | bl b => exact h.elim
      | int i => exact h.elim
      | str z => exact h.elim
      | tup xs => exact h.elim
      | fl xs => exact h.elim
      | ed => exact h.elim
      | ob _ _ _ => exact h.elim
end
end RV

/-! R14d: list comprehensions with two fors. -/
namespace RV
open PySem L2
variable [Wd]
section
variable {X : Cx} {F : L2.St → FW} {Φ : Str → List D → N D} {W : Nat} {elt tg iter tg1 iter1 e : Expr} {ifs ifs1 : List Expr} {ce : C} {cf cf1 : Co} {g g1 : G} {ci ci1 : I} {vs vs1 : List Nat} {pos : Pos}
theorem _root_.RV.RpE.exf {K : PySem.W.Frag} {μ μ' : List Addr} {H H' : Hp} {env : Env} {σ : L2.St} (E : RpE K μ H env σ) (x : ExF μ H μ' H') : RpE K μ' H' env σ :=
  ⟨E.len, fun i d e => let ⟨v, h1, h2⟩ := E.at_ i d e; ⟨v, h1, h2.exf x⟩⟩
end
end RV

/-! R15: defs, calls of defs, the law's call; the guards are known. -/
namespace RV
open PySem PySem.Spec PyProof.Rows L2
variable [Wd]
/-- a run that never ends in an error -/
def NE {α : Type} (m : N α) : Prop := ∀ st x st', m st ≠ .err x st'
section
variable {α β : Type}
theorem NE.pure {a : α} : NE (RV.N.pure a) := fun _ _ _ h => by cases h
theorem NE.bad : NE (RV.N.bad : N α) := fun _ _ _ h => by cases h
theorem NE.bind {m : N α} {f : α → N β} (h : NE m) (k : ∀ a, NE (f a)) : NE (RV.N.bind m f) := fun st x st' e => by
  unfold RV.N.bind at e
  cases q : m st with
  | ok a s => rw [q] at e; exact k a _ _ _ e
  | err y s => exact h _ _ _ q
  | bad => rw [q] at e; cases e
theorem NE.noErr {m : N α} : NE (RV.noErr m) := fun st x st' e => by
  unfold RV.noErr at e
  cases q : m st <;> rw [q] at e <;> cases e
theorem NE.tr {env : Env} {m : N α} {f : α → N (Fl × Env)} (k : ∀ a, NE (f a)) : NE (RV.tr env m f) := fun st x st' e => by
  unfold RV.tr at e
  cases q : m st with
  | ok a s => rw [q] at e; exact k a _ _ _ e
  | err y s => rw [q] at e; cases e
  | bad => rw [q] at e; cases e
theorem NE.up {m : M α} : NE (RV.up m) := fun st x st' e => by
  unfold RV.up at e
  cases q : m st <;> rw [q] at e <;> cases e
theorem NE.for_ {src : Src} {turn : Itm → Env → N (Fl × Env)} (h : ∀ x env, NE (turn x env)) : ∀ n i env, NE (forRun src turn n i env)
  | 0, _, _ => NE.bad
  | n + 1, i, env => by
    unfold forRun
    refine NE.bind NE.up fun o => ?_
    cases o with
    | none => exact NE.pure
    | some x =>
      refine NE.bind (h x env) fun r => ?_
      obtain ⟨fl, env2⟩ := r
      cases fl with
      | next => exact NE.for_ h n _ _
      | cont => exact NE.for_ h n _ _
      | brk => exact NE.pure
      | ret d => exact NE.pure
      | exn x => exact NE.pure
theorem NE.whl {test : Env → N Bool} {body : Env → N (Fl × Env)} (h : ∀ env, NE (body env)) : ∀ n env, NE (whlRun test body n env)
  | 0, _ => NE.bad
  | n + 1, env => by
    unfold whlRun
    refine NE.tr fun b => ?_
    cases b with
    | false => exact NE.pure
    | true =>
      refine NE.bind (h env) fun r => ?_
      obtain ⟨fl, env2⟩ := r
      cases fl with
      | next => exact NE.whl h n _
      | cont => exact NE.whl h n _
      | brk => exact NE.pure
      | ret d => exact NE.pure
      | exn x => exact NE.pure
end
section
variable {Φ : Str → List D → N D} {W : Nat}
mutual
theorem ne_S : ∀ (s : S) (env : Env), NE (runS Φ W s env)
  | .expr a, env => by unfold runS; exact NE.tr fun _ => NE.pure
  | .asg g a, env => by unfold runS; exact NE.tr fun _ => NE.bind NE.noErr fun _ => NE.pure
  | .aug i o a, env => by
    unfold runS
    split
    · refine NE.tr fun y => ?_
      split
      · exact NE.pure
      · exact NE.pure
      · exact NE.bad
    · exact NE.bad
  | .ret a, env => by unfold runS; exact NE.tr fun _ => NE.pure
  | .retN, env => by unfold runS; exact NE.pure
  | .ite t a b, env => by
    unfold runS
    refine NE.tr fun t => ?_
    cases t with
    | true => exact ne_Ss a env
    | false => exact ne_Ss b env
  | .whl t b, env => by unfold runS; exact NE.whl (fun env => ne_Ss b env) _ _
  | .for_ g it b, env => by unfold runS; exact NE.tr fun src => NE.for_ (fun x env => NE.bind NE.noErr fun env => ne_Ss b env) _ _ _
  | .pass, env => by unfold runS; exact NE.pure
  | .brk, env => by unfold runS; exact NE.pure
  | .cont, env => by unfold runS; exact NE.pure
  | .never, env => by unfold runS; exact NE.bad
  | .augs o i e, env => by unfold runS; exact NE.tr fun _ => NE.tr fun _ => NE.tr fun _ => NE.tr fun _ => NE.tr fun _ => NE.pure
  | .dput o k v, env => by unfold runS; exact NE.tr fun _ => NE.tr fun _ => NE.tr fun _ => NE.tr fun _ => NE.pure
  | .kput o k v, env => by unfold runS; exact NE.tr fun _ => NE.tr fun _ => NE.tr fun _ => NE.tr fun _ => NE.pure
  | .raise0 c, env => by unfold runS; exact NE.pure
  | .raise1 c f a, env => by unfold runS; exact NE.tr fun _ => NE.pure
  | .try_ b all ys i h, env => by
    unfold runS
    refine NE.bind (ne_Ss b env) fun r => ?_
    obtain ⟨fl, env2⟩ := r
    cases fl with
    | exn x =>
      dsimp only
      split
      · split
        · refine NE.bind (ne_Ss h _) fun q => ?_
          obtain ⟨fl2, env3⟩ := q
          cases fl2 <;> first | exact NE.pure | exact NE.bad
        · exact NE.pure
      · exact NE.bad
    | next => exact NE.pure
    | brk => exact NE.pure
    | cont => exact NE.pure
    | ret d => exact NE.pure
  | .thunk _ _ _, env => by unfold runS; exact NE.bad
theorem ne_Ss : ∀ (s : Ss) (env : Env), NE (runSs Φ W s env)
  | .nil, env => by unfold runSs; exact NE.pure
  | .cons s r, env => by
    unfold runSs
    refine NE.bind (ne_S s env) fun q => ?_
    obtain ⟨fl, env2⟩ := q
    cases fl with
    | next => exact ne_Ss r env2
    | brk => exact NE.pure
    | cont => exact NE.pure
    | ret d => exact NE.pure
    | exn x => exact NE.pure
end
end
theorem Wp.bindE {α β : Type} {K : PySem.W.Frag} {G : FW} {μ : List Addr} {H : Hp} {st : Sto} {m : N α} {f : α → N β} {k : β → Sto → List Addr → Hp → Prop} (h : Wp K G (N.bind m f) st μ H k) (ne : NE m) : Wp K FZ m st μ H fun a st1 μ1 H1 => Wp K G (f a) st1 μ1 H1 k := by
  have q := h.bind
  unfold Wp at q ⊢
  cases e : m st with
  | ok a s => rw [e] at q; exact q
  | err x s => exact (ne _ _ _ e).elim
  | bad => rw [e] at q; exact q
/-- an error as an exception: its class, where its dict is -/
def ExR (K : PySem.W.Frag) (μ : List Addr) (H : Hp) (x : Ex) (cls : Value) (d : Option Addr) : Prop :=
  ∃ C : Addr, PySem.W.nsIn K mainGlobals x.cls = some (some (.ref C)) ∧ cls = .ref C ∧ match x.fld with
    | none => d = none
    | some (f, dv) => ∃ (dx : Addr) (od : Obj) (v : V), d = some dx ∧ H dx = some (.frz od (.xd [(f, v)])) ∧ Rp K μ H dv v
def exK (K : PySem.W.Frag) (G : FW) : XK := fun cls d H => ∃ x st μ, RpS K μ H st ∧ ExR K μ H x cls d ∧ G x st μ H
def exW (K : PySem.W.Frag) (F : L2.St → FW) : WX := fun cls d σ H => exK K (F σ) cls d H
theorem exK_no {K : PySem.W.Frag} {cls : Value} {d : Option Addr} {H : Hp} (h : exK K FZ cls d H) : False := by
  obtain ⟨_, _, _, _, _, z⟩ := h
  exact z
theorem takesZ {X : Cx} : L2N.Takes X (exW X.K fun _ => FZ) := fun _ _ x => by
  obtain ⟨_, _, _, _, _, _, _, _, _, _, _, _, _, _, _, _, z⟩ := x
  exact (exK_no z).elim
structure FnG (P : Program) (w : World) (K : PySem.W.Frag) (mg : Str → Option Value) (base : Heap) (k : Nat) (f : Addr) (fd : FuncData) (ps : List Str) (sp : List V → Hp → VK → FW → Prop) : Prop where
  run : ∀ (A : Around) (outer : List PySem.Env) (s : Shared) (H : Hp) (args : Args) (us : List Value) (vs : List V) (Q : VK) (G : FW), A.guards = some [] → Room k A → Env0 P w K mg base A outer s H → BindsTo s fd args (ps.zip us) → Vals vs us → vs.length = ps.length → sp vs H Q G →
    codeAny (model P w) A (.call (.ref f) args) (CR (L2N.CX P w) outer P w H s Q (exK K G)) s
section
variable {P : Program} {w : World} {K : PySem.W.Frag} {mg : Str → Option Value} {base : Heap}
/-- a def's context -/
abbrev cxE (P : Program) (w : World) (K : PySem.W.Frag) (mg : Str → Option Value) (base : Heap) (N : List Str) (qual : Str) (scope : Scope) (f : Addr) (cd : Value) (A : Around) (outer : List PySem.Env) (s : Shared) (H : Hp) (G : FW) : Cx :=
  cxOf (L2N.CX P w) P w K mg base N qual scope f cd A outer s H (exK K G)
theorem fnG_ofC {k : Nat} {x qual : Str} {st : Stmt} {f : Addr} {fd : FuncData} {N ps : List Str} {sp : List V → Hp → VK → FW → Prop} (Fu : Fun K x qual st f fd) (Sc : FnScope N ps (defScope st))
    (bd : ∀ (cdv : Value) (_ : fd.code = cdv) (A : Around) (outer : List PySem.Env) (s : Shared) (H : Hp) (vs : List V) (Q : VK) (G : FW), A.guards = some [] → Room k (A.deeper (envOfC qual (defScope st) s.heap.objs.size f cdv)) → vs.length = ps.length → sp vs H Q G →
      ∃ t, PSs (cxE P w K mg base N qual (defScope st) f cdv A outer s H G) (defBody st) t ∧ t { nx := fun _ => LK (Q .non), rt := fun v => LK (Q v) } (start N vs) H) : FnG P w K mg base (k + 1) f fd ps sp := by
  obtain ⟨oc, od, kV, doc, pm, an, cdv, ct, osl, rfl, lk, hcd⟩ := Fu.ex
  constructor
  intro A outer s H args us vs Q G gd room e0 bi rel hl asked
  have kin : K.In s.heap := e0.mod.kin.keeps fun b o e => (e0.bs b o e).1
  have nolim : s.heap.NoLimit := e0.mod.nolimit.keeps fun b o e => (e0.bs b o e).1
  have kinds : ∀ p ∈ ps.zip us, (defScope st).names.lookup p.1 = some .local ∨ ((defScope st).names.lookup p.1 = some .cell ∧ ((cellsFrom (s.heap.objs.size + 1) (defScope st).names []).lookup p.1).isSome = true) := by
    rintro ⟨n, v⟩ hp
    rcases Sc.par n (List.of_mem_zip hp).1 with q | q
    · exact Or.inl q
    · exact Or.inr ⟨q, PySem.W.cellsFrom_some _ _ _ (Or.inl q)⟩
  have deep : A.depth < recursionLimit := by
    have := room.dp
    omega
  apply codeAny_call_function deep (kin _ _ lk) rfl Sc.co Sc.gen rfl (PySem.W.codeRec_of kin hcd)
  apply bi
  apply wpAny_newFunctionEnv_cells Sc.kind kinds
  rintro env rfl s1 ic
  refine ⟨nolim.keeps ic.toInCall.keep, codeAny_func ?_⟩
  obtain ⟨t, ht, hq⟩ := bd cdv rfl A outer s H vs Q G gd (room.deeper _) hl asked
  have inv : Inv (cxE P w K mg base N qual (defScope st) f cdv A outer s H G) [] (start N vs) H s1 := inv_start Sc room.hd e0 hl rel ic
  have ran := ht.run [] s1 (start N vs) H _ inv hq
  refine wpAny_mono ran (fun fl s' got => ?_) (fun _ _ got => got)
  have leave : ∀ {σ' : L2.St} {H' : Hp} {v : V} {u : Value}, Inv (cxE P w K mg base N qual (defScope st) f cdv A outer s H G) [] σ' H' s' → RelV v u → Q v H' → CE outer P w H s Q u s' := by
    intro σ' H' v u J rv q
    exact ⟨v, H', J.os, J.bare, J.base, J.hok, rv, q⟩
  cases fl with
  | ret u =>
    obtain ⟨v, σ', H', J, rv, q⟩ := got
    obtain ⟨H2, J2, q2⟩ := q.get J
    exact leave J2 rv q2
  | next =>
    obtain ⟨σ', H', J, q⟩ := got
    obtain ⟨H2, J2, q2⟩ := q.get J
    exact leave (v := .non) (u := .none) J2 rfl q2
  | brk => exact got.choose_spec.choose_spec.2.elim
  | cont => exact got.choose_spec.choose_spec.2.elim
theorem fnG_of {k : Nat} {x qual : Str} {st : Stmt} {f : Addr} {fd : FuncData} {N ps : List Str} {sp : List V → Hp → VK → FW → Prop} (Fu : Fun K x qual st f fd) (Sc : FnScope N ps (defScope st))
    (bd : ∀ (cdv : Value) (A : Around) (outer : List PySem.Env) (s : Shared) (H : Hp) (vs : List V) (Q : VK) (G : FW), A.guards = some [] → Room k (A.deeper (envOfC qual (defScope st) s.heap.objs.size f cdv)) → vs.length = ps.length → sp vs H Q G →
      ∃ t, PSs (cxE P w K mg base N qual (defScope st) f cdv A outer s H G) (defBody st) t ∧ t { nx := fun _ => LK (Q .non), rt := fun v => LK (Q v) } (start N vs) H) : FnG P w K mg base (k + 1) f fd ps sp :=
  fnG_ofC Fu Sc fun cdv _ => bd cdv
/-- one of our contexts, and what it wishes of errors -/
structure InX (P : Program) (w : World) (K : PySem.W.Frag) (mg : Str → Option Value) (base : Heap) (k : Nat) (F : L2.St → FW) (X : Cx) : Prop where
  p : X.prog = P
  w : X.w = w
  kf : X.K = K
  m : X.mg = mg
  b : X.base = base
  room : Room k X.A
  gd : X.A.guards = some []
  tk : L2N.Takes X (exW X.K F)
/-- what a def's call is asked: the evaluator's run of it -/
def spF (K : PySem.W.Frag) (Ψ : List D → N D) : List V → Hp → VK → FW → Prop := fun vs H Q G => ∃ μ st ds, RpS K μ H st ∧ RpL K μ H ds vs ∧ Wp K G (Ψ ds) st μ H (kV K Q)
theorem funX_of {k : Nat} {f : Addr} {fd : FuncData} {ps : List Str} {Φ : Str → List D → N D} {x : Str} {X : Cx} {F : L2.St → FW} (Fn : FnG P w K mg base k f fd ps (spF K (Φ x))) (hm : mg x = some (.ref f)) (hk : PySem.W.keepIn K (.ref f) = true) (hX : InX P w K mg base k F X) :
    FunX X F Φ x fd ps f := by
  obtain ⟨rfl, rfl, rfl, rfl, rfl, room, gd, tk⟩ := hX
  refine ⟨hm, hk, fun pins s σ H vs us args Q μ st ds I bi hl rel S r w => ?_⟩
  have hl2 : vs.length = ps.length := by rw [rel.length]; exact hl
  refine wpAny_call (codeAny_mono (Fn.run X.A X.stack s H args us vs Q (F σ) gd room I.env0 bi rel hl2 ⟨μ, st, ds, S, r, w⟩) fun r s' hq => ?_)
  cases r with
  | error e => exact tk e s' (L2N.XE.of_call I (W := exW X.K F) (fun _ _ _ h => h) hq)
  | ok fl =>
    cases fl with
    | ret u => exact I.after hq
    | next => exact hq.elim
    | brk => exact hq.elim
    | cont => exact hq.elim
/-- with no call left nothing is asked -/
theorem fnG_zero {k : Nat} {f : Addr} {fd : FuncData} {ps : List Str} : FnG P w K mg base k f fd ps (spF K fun _ => N.bad) := ⟨fun A outer s H args us vs Q _ _ _ _ _ _ _ h => by
  obtain ⟨μ, st, ds, _, _, z⟩ := h
  exact z.bad.elim⟩
/-- a def's own names at its entry -/
theorem start_rp {μ : List Addr} {H : Hp} {ds : List D} {vs : List V} {Ns : List Str} (r : RpL K μ H ds vs) (hn : ds.length ≤ Ns.length) : RpE K μ H (startE Ns.length ds) (start Ns vs) := by
  have hl := r.length
  refine ⟨by unfold L2.start startE; simp [hl], fun i d e => ?_⟩
  unfold startE at e
  unfold L2.start
  by_cases hi : i < ds.length
  · rw [List.getElem?_append_left (by simpa using hi), List.getElem?_map] at e
    rw [List.getElem?_append_left (by simpa [hl] using hi), List.getElem?_map]
    cases h2 : ds[i]? with
    | none => rw [h2] at e; cases e
    | some d' =>
      rw [h2] at e
      cases e
      obtain ⟨v, h3, h4⟩ := r.get h2
      exact ⟨v, by rw [h3]; rfl, h4⟩
  · rw [List.getElem?_append_right (by simpa using hi), List.getElem?_replicate] at e
    split at e <;> cases e
theorem takesE {N : List Str} {qual : Str} {scope : Scope} {f : Addr} {cd : Value} {A : Around} {outer : List PySem.Env} {s : Shared} {H : Hp} {G : FW} {μ : List Addr} :
    L2N.Takes (cxE P w K mg base N qual scope f cd A outer s H G) (exW K fun _ => inW K μ G) :=
  (L2N.takes_of (X := cxE P w K mg base N qual scope f cd A outer s H G) (E := exK K G) rfl rfl rfl rfl).imp fun c d _ H' ⟨x, s1, μ1, S1, ⟨C, h1, h2, h3⟩, s2, S2, g, hx⟩ => ⟨x, s2, μ, S2, ⟨C, h1, h2, by
    unfold xNo at hx
    cases e : x.fld with
    | none => rw [e] at h3; exact h3
    | some p =>
      obtain ⟨f, dv⟩ := p
      rw [e] at hx h3
      obtain ⟨dx, od, v, q1, q2, q3⟩ := h3
      exact ⟨dx, od, v, q1, q2, q3.any hx⟩⟩, g⟩
theorem ownsE {N : List Str} {qual : Str} {scope : Scope} {f : Addr} {cd : Value} {A : Around} {outer : List PySem.Env} {s : Shared} {H : Hp} {G : FW} :
    PassesOwn (model P w) (cxE P w K mg base N qual scope f cd A outer s H G).A (cxE P w K mg base N qual scope f cd A outer s H G).env (cxE P w K mg base N qual scope f cd A outer s H G).xe :=
  passes_of (X := cxE P w K mg base N qual scope f cd A outer s H G) rfl
/-- a def of the table, one call deeper -/
theorem fnG_step {k m : Nat} {T : Tab} {W : Nat} {x qual : Str} {st : Stmt} {f : Addr} {fd : FuncData} {Ns ps : List Str} {fn : Fn} (Fu : Fun K x qual st f fd) (Sc : FnScope Ns ps (defScope st)) (hT : T.lookup x = some fn) (ha : fn.ar = ps.length) (hn : fn.nn = Ns.length) (hle : ps.length ≤ Ns.length)
    (body : ∀ (cdv : Value) (A : Around) (outer : List PySem.Env) (s : Shared) (H : Hp) (G : FW) (F : L2.St → FW), InX P w K mg base k F (cxE P w K mg base Ns qual (defScope st) f cdv A outer s H G) →
      PSs (cxE P w K mg base Ns qual (defScope st) f cdv A outer s H G) (defBody st) (rdSs K F (runF T W m) W fn.body)) :
    FnG P w K mg base (k + 1) f fd ps (spF K (runF T W (m + 1) x)) := by
  refine fnG_of Fu Sc fun cdv A outer s H vs Q G gd room hl asked => ?_
  obtain ⟨μ, st0, ds, S, r, w1⟩ := asked
  refine ⟨_, body cdv A outer s H G (fun _ => inW K μ G) ⟨rfl, rfl, rfl, rfl, rfl, room, gd, takesE⟩, ?_⟩
  have hd : ds.length = ps.length := by rw [← r.length]; exact hl
  rw [runF, hT] at w1
  dsimp only at w1
  rw [if_pos (hd.trans ha.symm), hn] at w1
  obtain ⟨μc, sc, es, Sc, rc, he, wc⟩ := call_core S r w1
  refine ⟨μc, startE Ns.length es, sc, Sc, start_rp rc (by omega), (wc.bindE (ne_Ss _ _)).mono fun q st1 μ1 H1 x1 w2 σ1 S1 E1 => ?_⟩
  obtain ⟨fl, env1⟩ := q
  unfold fin at w2
  cases fl with
  | next => exact w2.pure .non S1 rfl
  | brk => exact w2.bad
  | cont => exact w2.bad
  | ret d => exact fun v rv => w2.pure v S1 rv
  | exn x => exact w2 μ1 H1 .refl S1
end
/-! the law -/
theorem ints_D (ns : List Int) (K : PySem.W.Frag) (μ : List Addr) (H : Hp) : RpL K μ H (ns.map D.int) (ns.map V.int) := RpL.of_ints ns
end RV

/-! R16: what a printed proof uses. -/
namespace RV
open PySem L2
variable [Wd]
section
variable {P : Program} {w : World} {K : PySem.W.Frag} {mg : Str → Option Value} {base : Heap} {k : Nat} {X : Cx} {F : L2.St → FW} {Φ : Str → List D → N D} {W : Nat} {a b c e o : Expr} {es : List Expr} {ca cb cc co : C} {cs ck : Cs} {pos p : Pos} {x : Str} {kws : List Keyword}
theorem InX.u (h : InX P w K mg base k F X) : X.A.units + 66 < cLine := by
  have := h.room.un
  omega
theorem InX.blk (h : InX P w K mg base k F X) {s : Shared} {H : Hp} {sc : Scope} {ce : PySem.Env} {fp : List Addr} : InX P w K mg base k (fun _ => FZ) (X.blk s H sc ce fp) := ⟨h.p, h.w, h.kf, h.m, h.b, h.room, h.gd, takesZ⟩
theorem Gl.of {x : Str} (h : X.env.kindOf x = some .globalImplicit) : Gl X x := h
end
end RV

/-! RRX: repr, where the modules' dict stands in the base. -/
namespace RV
open PySem PySem.Spec PyProof.Rows L2
variable [Wd]
theorem reprE_X {P : Program} {w : World} {K : PySem.W.Frag} {mg : Str → Option Value} {base : Heap} {k : Nat} {F : L2.St → FW} {X : Cx} (hX : InX P w K mg base k F X) (sm : SysD base) : CallR X (.builtin "repr") (rBI X.K bReprE) := reprE_c hX.u hX.gd (by rw [hX.b]; exact sm)
end RV

namespace RV
open PySem L2
variable [Wd]
section
variable {X : Cx} {F : L2.St → FW} {Φ : Str → List D → N D} {W : Nat} {pos : Pos} {x : Str}
theorem pe_gc {v : V} (hg : Gl X x) (h : ∃ u, X.mg x = some u ∧ RelV v u) (hd : (x == ("__debug__" : Str)) = false := by decide) : PE X (.Name x pos) (tC v) := by
  obtain ⟨u, h1, h2⟩ := h
  exact pe_glob hg h1 h2 hd
theorem r_dnew : PE X (.Dict [] [] pos) (rdE X.K F Φ W .dnew) := pe_dnewK.weak fun σ H Q ⟨μ, env, st, S, E, w⟩ => by
  unfold runE at w
  intro p hp
  obtain ⟨d, st', e, P⟩ := up_post w
  obtain ⟨rfl, rfl⟩ := alloc_ok.mp e
  refine P (μ ++ [p]) _ (.ref p) (ext_alloc S hp) (S.alloc hp ⟨[], upd_same, ⟨rfl, RpL.nil⟩, rfl⟩ rfl) ⟨p, rfl, ?_⟩
  rw [List.getElem?_append_right (by rw [S.len]; exact Nat.le_refl _), S.len, Nat.sub_self]
  rfl
end
end RV

/-! R17b: list(range(..)), tuple(range(..)). -/
namespace RV
open PySem PySem.Spec PyProof.Rows L2
variable [Wd]
section
variable {X : Cx} {F : L2.St → FW} {Φ : Str → List D → N D} {W : Nat} {e : Expr} {ce : C} {pos p q r : Pos}
end
end RV

/-! R17c: enumerate of lists. -/
namespace RV
open PySem PySem.Spec PyProof.Rows L2
variable [Wd]
section
variable {K : PySem.W.Frag} {μ : List Addr} {H : Hp} {st : Sto}
end
end RV

/-! R17d: enumerate(v) of one argument, by how v begins. -/
namespace RV
open PySem PySem.Spec PyProof.Rows
section
variable {prog : Program} {w : World} {A : Around} {E : Value → Shared → Prop} {s : Shared}
end
end RV

/-! R17e: enumerate over tuples and lists. -/
namespace RV
open PySem PySem.Spec PyProof.Rows L2
variable [Wd]
section
variable {prog : Program} {w : World} {A : Around} {E : Value → Shared → Prop} {s : Shared}
end
/-! .. over texts -/
section
variable {X : Cx} {F : L2.St → FW} {Φ : Str → List D → N D} {W : Nat} {a : Expr} {ca : C} {pos p tpos : Pos} {elts : List Expr} {kk : Nat}
end
end RV

/-! R17f: zip of two rows that never change, tuples or lists. -/
namespace RV
open PySem PySem.Spec PyProof.Rows L2
variable [Wd]
def ItK (t : Bool) (h : Heap) (it a : Addr) (i : Nat) : Prop := match t with
  | true => h.IsTupleIter it a i
  | false => h.IsListIter it a i
theorem ItK.at {t : Bool} {h h' : Heap} {it a : Addr} {i : Nat} (x : ItK t h it a i) (k : ∀ o, h.get? it = some o → h'.get? it = some o) : ItK t h' it a i := by
  cases t with
  | true => exact Heap.IsTupleIter.at x k
  | false => exact Heap.IsListIter.at x k
theorem ItK.obj {t : Bool} {h : Heap} {it a : Addr} {i : Nat} (x : ItK t h it a i) : ∃ o, h.get? it = some o ∧ ∀ v, o.data ≠ .cell v := by
  cases t with
  | true => obtain ⟨o, e, _, d⟩ := x; exact ⟨o, e, fun v q => by rw [d] at q; cases q⟩
  | false => obtain ⟨o, e, _, d⟩ := x; exact ⟨o, e, fun v q => by rw [d] at q; cases q⟩
section
variable {X : Cx} {F : L2.St → FW} {Φ : Str → List D → N D} {W : Nat} {a b : Expr} {ca cb : C} {pos p tpos : Pos} {elts : List Expr} {kk : Nat}
end
end RV

/-! RK1: dicts whose keys are tuples: o[k], k in o, o[k] = v. -/
namespace RV
open PySem L2
variable [Wd]
def RdK (H : Hp) (a : Addr) (kv : List (NestedKey × Addr × V)) : Prop := H a = some (.ext (KObj Wd.w a kv)) ∨ ∃ o, H a = some (.frz o (.ext (KObj Wd.w a kv)))
/-- a look at a dict: the dict, the key -/
structure KLook (H : Hp) (a b : Addr) (kv : List (NestedKey × Addr × V)) (k : NestedKey) : Prop where
  rd : RdK H a kv
  ks : ∀ p ∈ kv, KeyIs H p.1 (.ref p.2.1) ∧ p.1.depth ≤ 8
  key : KeyIs H k (.ref b)
  dep : k.depth ≤ 8
section
variable {K : PySem.W.Frag} {μ : List Addr} {H : Hp} {st st' : Sto}
theorem KcR.length {kvs : List (D × D)} {kv : List (NestedKey × Addr × V)} (h : KcR K μ H kvs kv) : kv.length = kvs.length := by
  have := congrArg List.length h.1
  simpa using this.symm
end
section
variable {X : Cx} {pins : List (Addr × Obj)} {σ : L2.St} {H : Hp} {s : Shared}
end
section
variable {X : Cx} {F : L2.St → FW} {Φ : Str → List D → N D} {W : Nat} {o i e : Expr} {co ck cx cv : C} {pos p q : Pos}
end
end RV

/-! RK2: y = {k: v for ..}, the keys tuples. -/
namespace RV
open PySem PySem.Spec PyProof.Rows L2
variable [Wd]
section
variable {X : Cx}
end
/-! the evaluator's loop -/
section
variable {K : PySem.W.Frag} {μ μ' : List Addr} {H H' : Hp} {st : Sto} {A : Addr} {w : World} {kv0 : List (NestedKey × Addr × V)}
theorem KcR.ext (S : RpS K μ H st) (x : Ext μ H μ' H') {kvs : List (D × D)} {kv : List (NestedKey × Addr × V)} (h : KcR K μ H kvs kv) : KcR K μ' H' kvs kv := ⟨h.1, h.2.1.ext S x, h.2.2.ext S x⟩
end
section
variable {X : Cx} {F : L2.St → FW} {Φ : Str → List D → N D} {W : Nat} {kx vx tg iter : Expr} {ifs : List Expr} {ck cv : C} {cf : Co} {g : G} {ci : I} {vs : List Nat} {pos : Pos}
end
end RV

/-! RK5: dict([(k, v), ..]): the keys tuples. -/
namespace RV
open PySem PySem.Spec PyProof.Rows L2
variable [Wd]
section
variable {X : Cx}
end
section
variable {X : Cx} {F : L2.St → FW} {Φ : Str → List D → N D} {W : Nat} {e : Expr} {ca : C} {pos p : Pos} {K : PySem.W.Frag} {μ : List Addr} {H : Hp}
end
end RV

set_option maxHeartbeats 1000000
/-! RX1: errors of the program's own classes are made. -/
namespace RV
open PySem PySem.Spec PyProof.Rows L2
/-! the text of an __init__ that keeps its one argument -/
def eA (f : Str) (p1 p2 : Pos) : Arguments := { posonlyargs := [], args := [{ arg := "self", annotation := none, pos := p1 }, { arg := f, annotation := none, pos := p2 }], vararg := none, kwonlyargs := [], kw_defaults := [], kwarg := none, defaults := [] }
def eB (f : Str) (q1 q2 q3 q4 : Pos) : List Stmt := [.Assign [.Attribute (.Name "self" q1) f q2] (.Name f q3) q4]
def eS (f : Str) : Scope := { kind := .function, names := [("self", .local), (f, .local)], isGenerator := false, isCoroutine := false, more := [] }
/-- what is seen of the field's name -/
structure InitF (f : Str) : Prop where
  ba : ∀ (qual : Str) (p1 p2 q1 q2 q3 q4 : Pos) (doc pm : Value) (an : Option Addr) (cdv ct x v : Value), bindArgs (PySem.W.fnOf "__init__" qual (eA f p1 p2) (eB f q1 q2 q3 q4) (eS f) .none .none doc pm an cdv ct) ⟨[x, v], []⟩ = pure [(("self" : Str), x), (f, v)]
  al : ∀ x v : Value, ([(("self" : Str), x), (f, v)].all fun y => List.lookup y.fst (eS f).names == some NameKind.local || List.lookup y.fst (eS f).names == some NameKind.cell) = true
  bf : ∀ (qual : Str) (L a : Addr) (cd x v : Value), bindL (envOfC qual (eS f) L a cd).kindOf [(("self" : Str), x), (f, v)] (fun _ => none) f = some v
  bs : ∀ (qual : Str) (L a : Addr) (cd x v : Value), bindL (envOfC qual (eS f) L a cd).kindOf [(("self" : Str), x), (f, v)] (fun _ => none) "self" = some x
  kf : ∀ (qual : Str) (L a : Addr) (cd : Value), (envOfC qual (eS f) L a cd).kindOf f = some .local
  ks : ∀ (qual : Str) (L a : Addr) (cd : Value), (envOfC qual (eS f) L a cd).kindOf "self" = some .local
  nd : (f == ("__debug__" : Str)) = false
/-- a class of errors over one of Python's -/
structure ExB (K : PySem.W.Frag) (mg : Str → Option Value) (t : Str) (C : Addr) : Prop where
  gC : mg t = some (.ref C)
  ns : PySem.W.nsIn K mainGlobals t = some (some (.ref C))
  bf : ∃ (B newId initId : String) (bm : List Value), ExcBaseFacts B newId initId bm ∧ StoreFacts B bm "object.__setattr__" "object" ∧ PySem.W.excInitIn K C bm newId = true ∧ PySem.W.excOver K C bm = true ∧ PySem.W.excIn K C bm newId = true
  ga : PySem.W.findIn K (.ref C) "__getattribute__" = some (some (.builtin "BaseException.__getattribute__"))
  gg : PySem.W.findIn K (.ref C) "__getattr__" = some none
  kC : PySem.W.keepIn K (.ref C) = true
  exC : PySem.W.subIn K (.ref C) (.type "BaseException") = some true
  tyC : PySem.W.typeIn K (.ref C) = some (.type "type")
  hdC : PySem.W.hasDictIn K C = true
/-- .. with one field -/
structure ExT (K : PySem.W.Frag) (mg : Str → Option Value) (t f : Str) (C fI : Addr) : Prop where
  gC : mg t = some (.ref C)
  ns : PySem.W.nsIn K mainGlobals t = some (some (.ref C))
  bf : ∃ (B newId initId : String) (bm : List Value), ExcBaseFacts B newId initId bm ∧ StoreFacts B bm "object.__setattr__" "object" ∧ PySem.W.excInitIn K C bm newId = true ∧ PySem.W.excOver K C bm = true
  sa : PySem.W.findIn K (.ref C) "__setattr__" = some (some (.builtin "object.__setattr__"))
  ga : PySem.W.findIn K (.ref C) "__getattribute__" = some (some (.builtin "BaseException.__getattribute__"))
  gg : PySem.W.findIn K (.ref C) "__getattr__" = some none
  noN : PySem.W.findIn K (.ref C) f = some none
  iC : PySem.W.findIn K (.ref C) "__init__" = some (some (.ref fI))
  tI : PySem.W.typeIn K (.ref fI) = some (.type "function")
  kC : PySem.W.keepIn K (.ref C) = true
  exC : PySem.W.subIn K (.ref C) (.type "BaseException") = some true
  tyC : PySem.W.typeIn K (.ref C) = some (.type "type")
  hdC : PySem.W.hasDictIn K C = true
  nm : InitF f
  fn : ∃ (oc : Value) (od : Option Addr) (doc pm : Value) (an : Option Addr) (cdv ct : Value) (osl : Array (Option Value)) (p1 p2 q1 q2 q3 q4 : Pos) (qual : Str),
    K.lookup fI = some ⟨oc, od, .func (PySem.W.fnOf "__init__" qual (eA f p1 p2) (eB f q1 q2 q3 q4) (eS f) .none .none doc pm an cdv ct), osl⟩ ∧ PySem.W.codeIn K cdv qual = true
abbrev exO1 (C : Addr) (d : Option Addr) (t : Addr) : Obj := { cls := .ref C, dict := d, data := .fields #[.ref t, .none, .none, .none, .bool false, .none] }
section
variable {prog : Program} {w : World} {A : Around} {E : Value → Shared → Prop} {R : Result → Shared → Prop} {K : PySem.W.Frag} {mg : Str → Option Value} {C fI : Addr} {t f : Str}
/-- x.name = v, x a new exception -/
theorem exc_set {hp : Heap} {g : Array GenState} {dr : Drawn} {tk0 : Nat} {os : OsState} {name : Str} {tk : Tok} {v : Value} {x t0 : Addr} {B : String} {bm : List Value} (SF : StoreFacts B bm "object.__setattr__" "object") (X : K.In hp)
    (ovr : PySem.W.excOver K C bm = true) (no : PySem.W.findIn K (.ref C) name = some none) (hd : PySem.W.hasDictIn K C = true) (hx : hp.get? x = some (exO1 C none t0))
    (hq : ∀ h' tk' dx, (∀ b o, b ≠ x → hp.get? b = some o → h'.get? b = some o) → hp.objs.size ≤ dx → dx ≠ x → h'.get? x = some (exO1 C (some dx) t0) → h'.Ns1 dx (fun y => if y = name then some v else none) → R (.ok (.ret .none)) ⟨h', g, dr, tk', os⟩) :
    codeAny (model prog w) A (.call (.builtin "object.__setattr__") ⟨[.ref x, .str name tk, v], []⟩) R ⟨hp, g, dr, tk0, os⟩ := by
  refine PySem.W.osa_openX (od := none) (r := none) SF X ⟨hx, rfl, rfl, trivial⟩ ovr (by unfold PySem.W.takerIn; rw [no]; rfl) fun b => ?_
  have hcls : ∃ cd, PySem.W.clsIn K C = some cd ∧ cd.hasDict = true := by
    unfold PySem.W.hasDictIn at hd
    cases e : PySem.W.clsIn K C with
    | none => rw [e] at hd; cases hd
    | some cd => rw [e] at hd; exact ⟨cd, rfl, hd⟩
  obtain ⟨cd, hc, hd'⟩ := hcls
  refine wpAny_bind (wpAny_pure (wpAny_bind (PySem.W.instanceDict_exc (t := t0) (c2 := .none) hx (PySem.W.looks_clsIn X hc) hd' ?_)))
  show wpAny _ _ (Builtin.ObjectAttr.storeInDict hp.objs.size (.str name tk) name v) _ _ _
  have lt : x < hp.objs.size := Heap.lt_size hx
  have apart : hp.objs.size ≠ x := Nat.ne_of_gt lt
  have pushed : (hp.push (PySem.W.dictOf [] 0)).get? x = some (exO1 C none t0) := Heap.get?_push_of_some _ hx
  refine PySem.HandSPX.store_in_new ?_ fun h' tk' hn hs => ?_
  · exact ⟨_, #[], _, (Heap.get?_update_ne _ _ _ _ apart).trans (Heap.get?_push_at rfl rfl), rfl, fun e he => absurd he (by simp), fun _ => rfl⟩
  · refine hq h' tk' hp.objs.size (fun b o hb ho => ?_) (Nat.le_refl _) apart ?_ hn
    · rw [hs.2 b (Nat.ne_of_lt (Heap.lt_size ho)), Heap.get?_update_ne _ _ _ _ hb]
      exact Heap.get?_push_of_some _ ho
    · rw [hs.2 x (Ne.symm apart)]
      exact Heap.get?_update_self _ pushed rfl
/-- what __init__ leaves -/
structure InitX (h h' : Heap) (x C dx t0 : Addr) (f : Str) (v : Value) : Prop where
  keep : ∀ b o, b ≠ x → h.get? b = some o → h'.get? b = some o
  obj : h'.get? x = some (exO1 C (some dx) t0)
  big : h.objs.size ≤ dx
  ne : dx ≠ x
  ns : h'.Ns1 dx (fun y => if y = f then some v else none)
theorem ldLoc {M : Model} {s : Shared} {qual : Str} {scope : Scope} {L a : Addr} {cd : Value} {m : Str → Option Value} {x : Str} {pos : Pos} {v : Value} {Q : Value → Shared → Prop} (hn : s.heap.Ns L m) (hv : m x = some v) (hk : scope.kind = .function) (hl : (envOfC qual scope L a cd).kindOf x = some .local)
    (hd : (x == ("__debug__" : Str)) = false) (h : Q v s) : wpAny M A (eval (.Name x pos) (envOfC qual scope L a cd)) Q E s := wpAny_Name (wpAny_loadName_local hk hl hn hv h) hd
theorem exc_init (T : ExT K mg t f C fI) {s : Shared} {x t0 : Addr} {v : Value} (X : K.In s.heap) (lim : s.heap.NoLimit) (hx : s.heap.get? x = some (exO1 C none t0)) (room : A.depth < recursionLimit)
    (hq : ∀ h' tk dx, InitX s.heap h' x C dx t0 f v → R (.ok (.ret .none)) { s with heap := h', toks := tk }) : codeAny (model prog w) A (.call (.ref fI) ⟨[.ref x, v], []⟩) R s := by
  obtain ⟨oc, od, doc, pm, an, cdv, ct, osl, p1, p2, q1, q2, q3, q4, qual, ho, hcd⟩ := T.fn
  obtain ⟨B, newId, initId, bm, FB, SF, ini, ovr⟩ := T.bf
  refine Att.call_fn (binds := [("self", .ref x), (f, v)]) X lim ho hcd room (BindsTo.of_eq ?_) ?_ (fun s₁ IC => ?_) rfl rfl rfl
  · exact T.nm.ba qual p1 p2 q1 q2 q3 q4 doc pm an cdv ct _ _
  · exact T.nm.al _ _
  obtain ⟨h₁, tk₁, rfl⟩ := IC.toInCall.same
  have k : ∀ b o, s.heap.get? b = some o → h₁.get? b = some o := IC.toInCall.keep
  have hn := IC.toInCall.ns
  have X₁ : K.In h₁ := X.keeps k
  have hx₁ := k _ _ hx
  show wpAny _ _ (execs _ _) _ _ _
  refine wpAny_execs_cons (plainObj_wpAny_Assign_Attribute ?_ ?_)
  · refine ldLoc (v := v) hn (T.nm.bf _ _ _ _ _ _) rfl (T.nm.kf _ _ _ _) T.nm.nd (ldLoc (v := .ref x) hn (T.nm.bs _ _ _ _ _ _) rfl (T.nm.ks _ _ _ _) (by decide) ?_)
    refine PySem.W.set_plain X₁ (ox := exO1 C none t0) (od := none) ⟨hx₁, rfl, rfl, trivial⟩ T.sa ?_
    refine exc_set SF X₁ ovr T.noN T.hdC hx₁ fun h₃ tk₃ dx k₃ dn dne hx₃ hn₃ => ?_
    show wpAny _ _ (execs _ _) _ _ _
    have z : s.heap.objs.size < h₁.objs.size := hn.lt
    exact wpAny_execs_nil (hq h₃ tk₃ dx ⟨fun b o hb e => k₃ b o hb (k b o e), hx₃, Nat.le_of_lt (Nat.lt_of_lt_of_le z dn), dne, hn₃⟩)
  · rfl
/-- a made exception -/
structure MadeX (h h' : Heap) (e C d : Addr) (f : Str) (v : Value) : Prop where
  keep : ∀ b o, h.get? b = some o → h'.get? b = some o
  new : h.objs.size ≤ e
  obj : ∃ t0, h'.get? e = some (exO1 C (some d) t0)
  big : h.objs.size ≤ d
  ne : d ≠ e
  ns : h'.Ns1 d (fun y => if y = f then some v else none)
theorem exc_made (T : ExT K mg t f C fI) {s : Shared} {v : Value} (X : K.In s.heap) (lim : s.heap.NoLimit) (room : A.depth + 1 < recursionLimit)
    (hq : ∀ h' tk e d, MadeX s.heap h' e C d f v → R (.ok (.ret (.ref e))) { s with heap := h', toks := tk }) : codeAny (model prog w) A (.call (.ref C) ⟨[v], []⟩) R s := by
  obtain ⟨B, newId, initId, bm, FB, SF, ini, ovr⟩ := T.bf
  obtain ⟨hp, g, dr, tk, os⟩ := s
  obtain ⟨nm, N, qn, bs, bm', hdct, sn, sub, ab, col, dd, k0, k1, k2, k3, k5, hC, hT⟩ := PySem.W.excInit_of X ini
  have keep2 : ∀ b o, hp.get? b = some o → ((hp.push (PySem.W.kdv_tup [v])).push (PySem.HandSPX.excO C hp.objs.size)).get? b = some o := fun b o e => Heap.get?_push_of_some _ (Heap.get?_push_of_some _ e)
  have here : ((hp.push (PySem.W.kdv_tup [v])).push (PySem.HandSPX.excO C hp.objs.size)).get? (hp.objs.size + 1) = some (exO1 C none hp.objs.size) := by heap_get
  refine PySem.HandSPX.call_own FB hT hC (PySem.W.looks_findIn X T.iC) (fun self => PySem.W.bind_fn X self T.tI) (by show 1 ≤ sizeLine; rw [sizeLine_eq]; decide) ?_
  refine exc_init (s := ⟨(hp.push (PySem.W.kdv_tup [v])).push (PySem.HandSPX.excO C hp.objs.size), g, dr, tk, os⟩) T (X.keeps keep2) (lim.keeps keep2) here ?_ fun h' tk' dx I => ?_
  · show A.depth + 1 < recursionLimit
    exact room
  · have big : hp.objs.size + 1 + 1 ≤ dx := by
      have q := I.big
      simpa only [Heap.size_push] using q
    exact ⟨rfl, hq h' tk' (hp.objs.size + 1) dx ⟨fun b o e => I.keep b o (Nat.ne_of_lt (Nat.lt_succ_of_lt (Heap.lt_size e))) (keep2 b o e), Nat.le_succ _, ⟨_, I.obj⟩, (by show hp.objs.size ≤ dx; omega), I.ne, I.ns⟩⟩
end
section
variable {X : Cx} {C fI : Addr} {t f : Str} {e : Expr} {ta : TA} {p pos pos2 : Pos} {k : Nat}
theorem relO_one {v : V} {v' : Value} (r : RelV v v') (g : Str) : RelO (List.lookup g [(f, v)]) (if g = f then some v' else none) := by
  by_cases h : g = f
  · subst h
    rw [if_pos rfl]
    simp only [List.lookup, beq_self_eq_true]
    exact r
  · rw [if_neg h]
    have h' : (g == f) = false := by simpa using h
    simp only [List.lookup, h']
    trivial
/-- C(e): what it makes -/
def tMkX (C : Addr) (f : Str) (ta : TA) : L2.St → Hp → XK → Prop := fun σ H Q => ta σ H fun vs H1 => ∃ v, vs = [v] ∧ ∀ (d : Addr) (od : Obj), H1 d = none → Q (.ref C) (some d) (upd H1 d (.frz od (.xd [(f, v)])))
theorem mk_exc (T : ExT X.K X.mg t f C fI) (room : Room k X.A) (ha : PA X [e] ta) (hg : Gl X t) (hdb : (t == ("__debug__" : Str)) = false) (he : starEach (e :: []) X.env = (false, eval e X.env) :: starEach [] X.env)
    (hpl : (backTo pos (starEach [] X.env)).any (·.1) = false) : L2N.PMk X (.Call (.Name t p) [e] [] pos) (tMkX C f ta) := by
  intro pins s σ H Q I asked
  refine wpAny_Call_Name_kw (ld_glob I hg T.gC ?_ hdb)
  refine PySem.W.callWith_K (h₀ := X.base) I.ok.mod.kin T.kC (thn (ha.run pos pins s σ H _ I asked) fun us s1 ⟨vs, H1, I1, r1, v, ev, q⟩ => ⟨I1.kIn, ?_⟩) he hpl
  subst ev
  obtain ⟨u, rfl, ru⟩ := vals1 r1
  have lim := I1.nolimit
  obtain ⟨hp, g, dr, tk, os⟩ := s1
  refine wpAny_call (exc_made T I1.kIn lim (by have := room.dp; omega) fun h' tk' e d M => ?_)
  obtain ⟨t0, hobj⟩ := M.obj
  obtain ⟨G', g1, g2⟩ := restrict h' fun b => decide (b ≠ e)
  have other : ∀ b, b ≠ e → G'.get? b = h'.get? b := fun b hb => g1 b (decide_eq_true hb)
  have gone : G'.get? e = none := g2 e (by simp)
  have old : ∀ b o, hp.get? b = some o → G'.get? b = some o := fun b o q => (other b (Nat.ne_of_lt (Nat.lt_of_lt_of_le (Heap.lt_size q) M.new))).trans (M.keep b o q)
  obtain ⟨od, es, ep, ho, hd, hr⟩ := id M.ns
  have hod : G'.get? d = some od := (other d M.ne).trans ho
  have fresh : H1 d = none := I1.hok.fresh M.big
  have ob : ObjOk X.prog X.w (upd H1 d (.frz od (.xd [(f, v)]))) G' d (.frz od (.xd [(f, v)])) :=
    ⟨hod, _, M.ns.at (fun o q => (other d M.ne).trans q), fun g => relO_one ru g⟩
  have J : Inv X pins σ (upd H1 d (.frz od (.xd [(f, v)]))) ⟨G', g, dr, tk', os⟩ := I1.laid (t' := tk') old M.big ob
  refine ⟨e, _, _, ⟨G', g, dr, tk', os⟩, _, .ref C, some d, rfl, J, fun b o q => ?_, gone, hobj, ⟨rfl, rfl, fun vs z => by cases z; rfl⟩, rfl, rfl, ?_, rfl, I1.bare, raises_own T.exC T.tyC, q d od fresh⟩
  · by_cases hb : b = e
    · rw [hb] at q
      exact absurd (gone.symm.trans q) (by simp)
    · exact (other b hb).symm.trans q
  · rw [upd_ne (Ne.symm M.ne)]
    exact I1.hok.fresh M.new
end
end RV

set_option maxHeartbeats 1000000
/-! RX2: errors: raised, caught, asked. -/
namespace RV
open PySem PySem.Spec PyProof.Rows L2
variable [Wd]
/-- whose field may be read -/
structure AtF (K : PySem.W.Frag) (C : Addr) (f : Str) : Prop where
  ga : PySem.W.findIn K (.ref C) "__getattribute__" = some (some (.builtin "BaseException.__getattribute__"))
  gg : PySem.W.findIn K (.ref C) "__getattr__" = some none
  exC : PySem.W.subIn K (.ref C) (.type "BaseException") = some true
  hdC : PySem.W.hasDictIn K C = true
  noN : PySem.W.findIn K (.ref C) f = some none
theorem ExT.atF {K : PySem.W.Frag} {mg : Str → Option Value} {t f : Str} {C fI : Addr} (T : ExT K mg t f C fI) : AtF K C f := ⟨T.ga, T.gg, T.exC, T.hdC, T.noN⟩
section
variable {X : Cx} {F : L2.St → FW} {Φ : Str → List D → N D} {W : Nat} {e : Expr} {ca : C} {f t : Str} {pos p pos2 : Pos} {all ys : List Str}
theorem r_attr (hd : all.contains "{}" = false) (hA : ∀ t ∈ all, ∃ C, PySem.W.nsIn X.K mainGlobals t = some (some (.ref C)) ∧ AtF X.K C f) (hb : attributeBase e f X.env (eval e X.env) = eval e X.env) (he : PE X e (rdE X.K F Φ W ca)) :
    PE X (.Attribute e f pos) (rdE X.K F Φ W (.attr ca all f)) := by
  refine ⟨fun pins s σ H Q I ⟨μ, env, st, S, E, w⟩ => ?_⟩
  unfold runE at w
  refine attr_of hb (thn (he.run pins s σ H (fun v H1 => ∃ μ1 st1 x, RpS X.K μ1 H1 st1 ∧ Rp X.K μ1 H1 x v ∧ Wp X.K (F σ) (match x with
    | .ob t ns xs => if all.contains t then (match (ns.zip xs).lookup f with
      | some d => N.pure d
      | none => N.bad) else N.bad
    | _ => N.bad) st1 μ1 H1 (kV X.K Q)) I ⟨μ, env, st, S, E, kV_step w fun x st1 μ1 H1 v x1 S1 hx w1 => ⟨μ1, st1, x, S1, hx, w1⟩⟩) fun u s1 ⟨v, H1, I1, rv, μ1, st1, x, S1, hx, w1⟩ => ?_)
  cases x with
  | ob t ns xs =>
    dsimp only at w1
    by_cases ht : all.contains t = true
    · rw [if_pos ht] at w1
      obtain ⟨C, hns, T⟩ := hA t (by simpa using ht)
      obtain ⟨a, vs, rfl, ho, hr⟩ := hx
      obtain rfl : u = Value.ref a := rv
      cases ho with
      | ins ht hc hn h =>
        rw [hns] at hc
        cases hc
        rw [T.exC] at hn
        cases hn
      | exc0 hc h h1 h2 h3 => exact w1.bad.elim
      | fn h => rw [hd] at ht; cases ht
      | dct h => rw [hd] at ht; cases ht
      | kct h hk => rw [hd] at ht; cases ht
      | @exc1 _ f' v' C' dx o od φ hc h h1 h2 h3 h4 =>
        rw [hns] at hc
        cases hc
        obtain ⟨d0, rfl, r0⟩ : ∃ d0, xs = [d0] ∧ Rp X.K μ1 H1 d0 v' := by
          match xs, hr with
          | [d0], ⟨y, r, e1, q, z⟩ => cases e1; exact ⟨d0, rfl, q⟩
          | [], z => cases (show [v'] = [] from z)
          | _ :: _ :: _, ⟨y, r, e1, q, ⟨y2, r2, e2, _⟩⟩ => cases e1; cases e2
        by_cases hf : f = f'
        · subst hf
          have hl : ([f].zip [d0]).lookup f = some d0 := by simp [List.lookup]
          rw [hl] at w1
          obtain ⟨g1, _⟩ := I1.hok a _ h
          obtain ⟨g2, mA, hns2, hrel⟩ := I1.hok dx _ h4
          obtain ⟨od', ho', hlk⟩ := lookIn_ns hns2
          rw [g2] at ho'
          cases ho'
          have l1 : List.lookup f [(f, v')] = some v' := by simp [List.lookup]
          obtain ⟨u', hu, ru⟩ := RelO.some_of (v := v') (o := mA f) (by rw [← l1]; exact hrel f)
          obtain ⟨fv, hfv⟩ := h2
          have J : PySem.W.InstAt s1.heap a o C (some od) := ⟨g1, h1, by unfold PySem.W.notCls; rw [hfv] <;> rfl, by rw [h3]; exact g2⟩
          exact PySem.HandSPX.exc_get I1.kIn J T.ga T.gg T.exC (PySem.W.findObj_own T.hdC T.noN rfl (by rw [hlk, hu])) (handed_of ru) ⟨v', H1, I1.tok _, ru, w1.pure v' S1 r0⟩
        · have hl : ([f'].zip [d0]).lookup f = none := by
            have : (f == f') = false := by simpa using hf
            simp [List.lookup, this]
          rw [hl] at w1
          exact w1.bad.elim
    · rw [if_neg ht] at w1; exact w1.bad.elim
  | _ => exact w1.bad.elim
/-- whose class may be asked -/
structure IscF (K : PySem.W.Frag) (C : Addr) : Prop where
  hcl : (PySem.W.clsIn K C).isSome = true
  ga : PySem.W.findIn K (.ref C) "__getattribute__" = some (some (.builtin "BaseException.__getattribute__"))
  gg : PySem.W.findIn K (.ref C) "__getattr__" = some none
  exC : PySem.W.subIn K (.ref C) (.type "BaseException") = some true
  ha : PySem.W.findIn K (.ref C) "__class__" = some (some (.builtin "object.__class__"))
  hn : PySem.W.specialIn K (.builtin "object.__class__") "__get__" = some (some (.builtin "getset_descriptor.__get__"))
  ht : PySem.W.takesIn K (.builtin "object.__class__") = some true
  hm : PySem.W.mroIn K C (.type "object") = some true
theorem obr_inst (hd : t ≠ ("{}" : Str)) {pins : List (Addr × Obj)} {σ : L2.St} {H : Hp} {s : Shared} {a C : Addr} {ns : List Str} {vs : List V} (I : Inv X pins σ H s) (hns : PySem.W.nsIn X.K mainGlobals t = some (some (.ref C))) (hx : PySem.W.subIn X.K (.ref C) (.type "BaseException") = some true) (h : ObR X.K H a t ns vs) :
    ∃ o od, PySem.W.InstAt s.heap a o C od := by
  cases h with
  | ins ht hc hn h =>
    rw [hns] at hc
    cases hc
    rw [hx] at hn
    cases hn
  | exc0 hc h h1 h2 h3 =>
    rename_i C' o φ
    rw [hns] at hc
    cases hc
    obtain ⟨g1, _⟩ := I.hok a _ h
    obtain ⟨fv, hfv⟩ := h2
    exact ⟨o, none, g1, h1, by unfold PySem.W.notCls; rw [hfv] <;> rfl, by rw [h3]; trivial⟩
  | fn h => exact absurd rfl hd
  | dct h => exact absurd rfl hd
  | kct h hk => exact absurd rfl hd
  | exc1 hc h h1 h2 h3 h4 =>
    rename_i f' v' C' dx o od φ
    rw [hns] at hc
    cases hc
    obtain ⟨g1, _⟩ := I.hok a _ h
    obtain ⟨g2, _⟩ := I.hok dx _ h4
    obtain ⟨fv, hfv⟩ := h2
    exact ⟨o, some od, g1, h1, by unfold PySem.W.notCls; rw [hfv] <;> rfl, by rw [h3]; exact g2⟩
theorem call_isc (hd : ("{}" : Str) ∉ all) {cv : Value} (hA : ∀ t ∈ all, ∃ C, PySem.W.nsIn X.K mainGlobals t = some (some (.ref C)) ∧ IscF X.K C ∧ PySem.W.kitOne X.K (.ref C) cv = some (ys.contains t)) :
    CallR X (.builtin "isinstance") (fun xs H Q => ∃ (a : Addr) (t : Str) (ns : List Str) (vs : List V) (c : V), xs = [.ref a, c] ∧ (∀ u, RelV c u → u = cv) ∧ t ∈ all ∧ ObR X.K H a t ns vs ∧ Q (.bl (ys.contains t)) H) := by
  intro pins s σ H xs us Q I r ⟨a, t, ns, vs, c, ex, hcv, ht, ho, q⟩
  subst ex
  obtain ⟨C, hns, T, hk⟩ := hA t ht
  obtain ⟨o, od, J⟩ := obr_inst (fun z => hd (z ▸ ht)) I hns T.exC ho
  obtain ⟨u1, u2, rfl, r1, r2⟩ := vals2 r
  obtain rfl : u1 = Value.ref a := r1
  obtain rfl := hcv _ r2
  exact PySem.W.kia_one (PySem.W.kitx_exc T.hcl T.ga T.gg T.exC T.ha T.hn T.ht T.hm) I.kIn J hk (fun z => nomatch z) fun tk => ⟨.bl _, H, I.kept (t' := tk) fun _ _ z => z, rfl, q⟩
theorem isc_core (hd : ("{}" : Str) ∉ all) {y : Str} {q : Pos} {c : V} {cv : Value} (hA : ∀ t ∈ all, ∃ C, PySem.W.nsIn X.K mainGlobals t = some (some (.ref C)) ∧ IscF X.K C ∧ PySem.W.kitOne X.K (.ref C) cv = some (ys.contains t)) (hcv : ∀ u, RelV c u → u = cv)
    (hg : Gl X "isinstance") (hm : X.mg "isinstance" = none) (pn : PE X (.Name y q) (tC c))
    (he : starEach [e, .Name y q] X.env = (false, eval e X.env) :: starEach [.Name y q] X.env) (he2 : starEach [.Name y q] X.env = [(false, eval (.Name y q) X.env)]) (ha : PE X e (rdE X.K F Φ W ca)) :
    PE X (.Call (.Name "isinstance" p) [e, .Name y q] [] pos) (rdE X.K F Φ W (.isc ca all ys)) := by
  have pa : PA X [e, .Name y q] _ := pa_cons ha (pa_cons pn pa_nil he2) he
  refine (pe_callB (call_isc hd hA) hg hm (by rfl) pa (by decide) (by decide) he (by rw [he2]; rfl)).weak fun σ H Q ⟨μ, env, st, S, E, w⟩ => ?_
  unfold runE at w
  refine ⟨μ, env, st, S, E, kV_step w fun x st1 μ1 H1 v x1 S1 hx w1 => ?_⟩
  cases x with
  | ob t ns xs =>
    dsimp only at w1
    by_cases ht : all.contains t = true
    · rw [if_pos ht] at w1
      obtain ⟨a, vs, rfl, ho, _⟩ := hx
      exact ⟨a, t, ns, vs, c, rfl, hcv, by simpa using ht, ho, w1.pure (.bl _) S1 rfl⟩
    · rw [if_neg ht] at w1; exact w1.bad.elim
  | _ => exact w1.bad.elim
/-- isinstance(e, Y), Y a class of the program -/
theorem r_iscG (hd : ("{}" : Str) ∉ all) {y : Str} {q : Pos} {C2 : Addr} (hA : ∀ t ∈ all, ∃ C, PySem.W.nsIn X.K mainGlobals t = some (some (.ref C)) ∧ IscF X.K C ∧ PySem.W.kitOne X.K (.ref C) (.ref C2) = some (ys.contains t))
    (hg : Gl X "isinstance") (hm : X.mg "isinstance" = none) (hgy : Gl X y) (hmy : X.mg y = some (.ref C2)) (hdy : (y == ("__debug__" : Str)) = false)
    (he : starEach [e, .Name y q] X.env = (false, eval e X.env) :: starEach [.Name y q] X.env) (he2 : starEach [.Name y q] X.env = [(false, eval (.Name y q) X.env)]) (ha : PE X e (rdE X.K F Φ W ca)) :
    PE X (.Call (.Name "isinstance" p) [e, .Name y q] [] pos) (rdE X.K F Φ W (.isc ca all ys)) :=
  isc_core hd hA (c := .ref C2) (fun _ z => z) hg hm (pe_glob hgy hmy rfl hdy) he he2 ha
/-- .. a built-in one -/
theorem r_iscB (hd : ("{}" : Str) ∉ all) {y : Str} {q : Pos} {T : String} (hA : ∀ t ∈ all, ∃ C, PySem.W.nsIn X.K mainGlobals t = some (some (.ref C)) ∧ IscF X.K C ∧ PySem.W.kitOne X.K (.ref C) (.type T) = some (ys.contains t))
    (hg : Gl X "isinstance") (hm : X.mg "isinstance" = none) (hgy : Gl X y) (hmy : X.mg y = none) (hy : bootBuiltins y = some (.type T)) (hny : y ≠ "__name__") (hdy : (y == ("__debug__" : Str)) = false)
    (he : starEach [e, .Name y q] X.env = (false, eval e X.env) :: starEach [.Name y q] X.env) (he2 : starEach [.Name y q] X.env = [(false, eval (.Name y q) X.env)]) (ha : PE X e (rdE X.K F Φ W ca)) :
    PE X (.Call (.Name "isinstance" p) [e, .Name y q] [] pos) (rdE X.K F Φ W (.isc ca all ys)) :=
  isc_core hd hA (c := .ty T) (fun _ z => z) hg hm (pe_bltn hgy hmy hy rfl hny hdy) he he2 ha
/-! raise -/
theorem s_raise1 {C fI : Addr} {k : Nat} (T : ExT X.K X.mg t f C fI) (hc : X.calm = true) (tk : L2N.Takes X (exW X.K F)) (room : Room k X.A) (hg : Gl X t) (hdb : (t == ("__debug__" : Str)) = false)
    (hs : starEach (e :: []) X.env = (false, eval e X.env) :: starEach [] X.env) (hpl : (backTo pos (starEach [] X.env)).any (·.1) = false) (he : PE X e (rdE X.K F Φ W ca)) :
    PS X (.Raise (some (.Call (.Name t p) [e] [] pos)) none pos2) (rdS X.K F Φ W (.raise1 t f ca)) :=
  (L2N.ps_raise hc tk (mk_exc T room (pa_cons he pa_nil hs) hg hdb hs hpl)).weak fun D σ H ⟨μ, env, st, S, E, w⟩ => by
    unfold runS at w
    refine ⟨μ, env, st, S, E, tr_V S E w fun d st1 μ1 H1 v x1 S1 r w1 => ⟨v, rfl, fun dx od hn => ?_⟩⟩
    have x2 : Ext μ1 H1 μ1 (upd H1 dx (.frz od (.xd [(f, v)]))) := ext_new S1 hn
    have S2 : RpS X.K μ1 (upd H1 dx (.frz od (.xd [(f, v)]))) st1 := S1.new hn
    exact ⟨⟨t, some (f, d)⟩, st1, μ1, S2, ⟨C, T.ns, rfl, dx, od, v, rfl, upd_same, r.ext S1 x2⟩, (Wp.ext (m := N.pure _) w1 x2).pure σ S2 ((E.ext S x1).ext S1 x2)⟩
end
end RV

set_option maxHeartbeats 1000000
/-! RX3: try. -/
namespace RV
open PySem PySem.Spec PyProof.Rows L2
variable [Wd]
section
variable {X : Cx} {pins : List (Addr × Obj)} {σ : L2.St} {H : Hp} {s : Shared}
/-- the suite's context, nothing pinned -/
theorem Inv.inSuite (I : Inv X pins σ H s) (a : Addr) : Inv (X.suite a (X.pn ++ pins)) [] σ H s :=
  ⟨I.ok.suite _ _, I.os, I.bare, I.base, I.loc, I.cell, I.free, I.freeC, fun q hq => I.pin q (by rw [List.append_nil] at hq; exact hq), I.hok, I.len⟩
theorem Inv.offSuite {a : Addr} {pn' : List (Addr × Obj)} (I : Inv (X.suite a (X.pn ++ pins)) pn' σ H s) (ok : X.Ok) : Inv X pins σ H s :=
  ⟨ok, I.os, I.bare, I.base, I.loc, I.cell, I.free, I.freeC, fun q hq => I.pin q (List.mem_append_left _ hq), I.hok, I.len⟩
/-- what the clause's classes tell of each class that may come -/
def HitOk (X : Cx) (te : Expr) (all ys : List Str) : Prop :=
  ∀ (a : Addr) (pn pins : List (Addr × Obj)) (s : Shared) (σ : L2.St) (H : Hp) (t : Str) (C : Addr) (oe : Obj) (Q : Bool → Shared → Prop) (E : Value → Shared → Prop), Inv (X.suite a pn) pins σ H s → t ∈ all → PySem.W.nsIn X.K mainGlobals t = some (some (.ref C)) →
    s.heap.get? a = some oe → oe.cls = .ref C → (∀ h' : Heap, (∀ b o, s.heap.get? b = some o → h'.get? b = some o) → Q (ys.contains t) { s with heap := h' }) →
    wpAny (model X.prog X.w) (X.A.mark (some (.ref a))) (eval te X.env) (fun c s1 => wpAny (model X.prog X.w) (X.A.mark (some (.ref a))) (excMatches (.ref a) c) Q E s1) E s
/-- one class of the program -/
theorem hit_one {x : Str} {np : Pos} {C2 : Addr} {all ys : List Str} (hg : Gl X x) (hm : X.mg x = some (.ref C2)) (hdb : (x == ("__debug__" : Str)) = false)
    (hA : ∀ t ∈ all, ∃ C, PySem.W.nsIn X.K mainGlobals t = some (some (.ref C)) ∧ PySem.W.exmOne X.K (.ref C) (.ref C2) = some (ys.contains t)) : HitOk X (.Name x np) all ys := by
  intro a pn pins s σ H t C oe Q E I ht hns he hc q
  obtain ⟨C', hns', hx⟩ := hA t ht
  rw [hns] at hns'
  cases hns'
  have LT : PySem.W.Looks (model X.prog X.w) s.heap (typeOf (.ref a)) (.ref C) := fun A Q E s k q => wpAny_typeOf_ref (k _ _ he) (by rw [hc]; exact q)
  refine ld_glob (X := X.suite a pn) I hg hm ?_ hdb
  exact (PySem.W.exm_one (M := model X.prog X.w) I.kIn LT hx).here (q s.heap fun _ _ z => z)
end
section
variable {X : Cx} {pins : List (Addr × Obj)} {σ : L2.St} {H : Hp} {sI s' : Shared} {B : Heap} {a : Addr} {Z : Obj → Prop} {fs : List PySem.Env}
/-- nothing that is kept disturbs it -/
theorem fly_kept {h h' : Heap} (fl : PySem.HandSPX.FlyingZ B fs a Z h) (k : ∀ b o, h.get? b = some o → h'.get? b = some o) : PySem.HandSPX.FlyingZ B fs a Z h' := by
  obtain ⟨q1, q2, q3, ox, vs, T, oT, ts, r1, r2, r3, r4, r5, r6, r7, r8, r9⟩ := fl
  exact ⟨fun b o z => k b o (q1 b o z), q2, Heap.FunFrames.of_keeps (fun b o z _ => ⟨o, k b o z, rfl⟩) q3, ox, vs, T, oT, ts, k _ _ r1, r2, r3, r4, r5, r6, k _ _ r7, r8, r9⟩
/-- the exception becomes an object of ours -/
theorem Inv.caught {cls : Value} {d : Option Addr} (J : Inv X pins σ H sI) (nb : ∀ b o, sI.heap.get? b = some o → b ∉ frs X.stack → B.get? b = some o) (fl : PySem.HandSPX.FlyingZ B X.stack a (L2N.Zn cls d) s'.heap) (up : sI.heap.UpToSlots s'.heap)
    (os : s'.os = sI.os) (ag : AllBare s'.gens) (na : H a = none) : ∃ oe, s'.heap.get? a = some oe ∧ (∃ fv, oe.data = .fields fv) ∧ oe.cls = cls ∧ oe.dict = d ∧ Inv X pins σ (upd H a (.frz oe (.ext fun _ => True))) s' := by
  obtain ⟨q1, q2, q3, oe, vs, T, oT, ts, r1, r2, r3, _⟩ := fl
  obtain ⟨G, g1, g2⟩ := restrict s'.heap fun b => decide (b ≠ a)
  have off : G.get? a = none := g2 a (by simp)
  have sub : ∀ b o, G.get? b = some o → s'.heap.get? b = some o := fun b o z => by
    by_cases hb : b = a
    · rw [hb, off] at z; cases z
    · rw [← g1 b (decide_eq_true hb)]; exact z
  have nfr : a ∉ frs X.stack := fun hm => by
    obtain ⟨_, o2, e2, n2⟩ := q3.mem hm
    rw [r1] at e2
    cases e2
    exact n2 _ r3
  have nI : sI.heap.get? a = none := by
    cases z : sI.heap.get? a with
    | none => rfl
    | some o =>
      have := nb a o z nfr
      rw [q2] at this
      cases this
  have JG : Inv X pins σ H { s' with heap := G } := by
    refine J.landed nb (fun b o z => ?_) (fun b o z nf => ?_) os ag
    · have hb : b ≠ a := fun w => by rw [w, q2] at z; cases z
      rw [g1 b (decide_eq_true hb)]
      exact q1 b o z
    · have hb : b ≠ a := fun w => by rw [w, nI] at z; cases z
      rw [g1 b (decide_eq_true hb)]
      exact up b o z nf
  refine ⟨oe, r1, ⟨vs, r3⟩, r2.1, r2.2.1, ?_⟩
  exact JG.laidN (h' := s'.heap) (t' := s'.toks) sub off na (show ObjOk X.prog X.w (upd H a (.frz oe (.ext fun _ => True))) s'.heap a (.frz oe (.ext fun _ => True)) from ⟨r1, trivial, ⟨oe, r1⟩, fun _ _ _ _ => trivial⟩)
/-- .. told as data -/
theorem ExR.rp {K : PySem.W.Frag} {μ : List Addr} {H : Hp} {st : Sto} {x : Ex} {cls : Value} {d : Option Addr} {oe : Obj} {a : Addr} (h : ExR K μ H x cls d) (S : RpS K μ H st) (na : H a = none) (hf : ∃ fv, oe.data = .fields fv) (hc : oe.cls = cls) (hd : oe.dict = d) :
    Rp K μ (upd H a (.frz oe (.ext fun _ => True))) x.toD (.ref a) := by
  obtain ⟨C, hns, rfl, hfd⟩ := h
  unfold Ex.toD
  cases hx : x.fld with
  | none =>
    rw [hx] at hfd
    exact ⟨a, [], rfl, .exc0 hns upd_same hc hf (hd.trans hfd), rfl⟩
  | some p =>
    obtain ⟨f, dv⟩ := p
    rw [hx] at hfd
    obtain ⟨dx, od, v, rfl, h2, r⟩ := hfd
    have ne : dx ≠ a := fun z => by rw [z, na] at h2; cases h2
    exact ⟨a, [v], rfl, .exc1 hns upd_same hc hf hd (by rw [upd_ne ne]; exact h2), ⟨v, [], rfl, r.ext S (ext_new S na), rfl⟩⟩
end
section
variable {X : Cx} {F : L2.St → FW} {Φ : Str → List D → N D} {W : Nat}
/-- behind a try's body that ends in an error -/
def aft (Φ : Str → List D → N D) (W : Nat) (all ys : List Str) (i : Nat) (ch : Ss) (x : Ex) (env : Env) : N (Fl × Env) :=
  if all.contains x.cls then (if ys.contains x.cls then N.bind (runSs Φ W ch (env.set i (some x.toD))) fun q => match q.1 with
        | .exn _ => N.bad
        | f => N.pure (f, q.2.set i none)
      else N.pure (.exn x, env)) else N.bad
def tryW (K : PySem.W.Frag) (F : L2.St → FW) (Φ : Str → List D → N D) (W : Nat) (all ys : List Str) (i : Nat) (ch : Ss) (D : Ends) : L2.St → FW := fun σ x st μ H => ∃ env, RpE K μ H env σ ∧ Wp K FZ (aft Φ W all ys i ch x env) st μ H (kS K F D)
theorem s_tryJ {J : L2.St → Hp → Prop} {te : Expr} {n : Str} {i : Nat} {body suite : List Stmt} {b₀ : Stmt} {pos pos' : Pos} {all ys : List Str} {cb ch : Ss} (hs : X.stack = X.env :: X.outer) (hf : X.env.frame = some X.env.locals) (hN : X.N.Nodup) (hi : X.N[i]? = some n) (hln : X.env.kindOf n = some .local)
    (tk : L2N.Takes X (exW X.K F)) (hh : HitOk X te all ys)
    (hb : ∀ (F' : L2.St → FW) (pn : List (Addr × Obj)) (xe : Value → Shared → Prop), L2N.Takes (X.tr pn xe) (exW X.K F') → PassesOwn (model X.prog X.w) X.A X.env xe → PSs (X.tr pn xe) body (fun D σ H => J σ H ∧ rdSs X.K F' Φ W cb D σ H))
    (hsu : ∀ (a : Addr) (pn : List (Addr × Obj)), PSs (X.suite a pn) (b₀ :: suite) (rdSs X.K (fun _ => FZ) Φ W ch)) :
    PS X (.Try body [.ExceptHandler (some te) (some n) (b₀ :: suite) pos'] [] [] pos) (fun D σ H => J σ H ∧ rdS X.K F Φ W (.try_ cb all ys i ch) D σ H) := by
  refine ⟨fun pins s σ H D I ⟨jj, μ, env, st, S, E, w⟩ => ?_⟩
  have ok := I.ok
  have hloc : Loc X.env.scope n := .inl hln
  have hfr : X.A.frames = some (X.env :: X.outer) := by rw [ok.frames, hs]
  unfold runS at w
  have asked : rdSs X.K (tryW X.K F Φ W all ys i ch D) Φ W cb D σ H := by
    refine ⟨μ, env, st, S, E, w.bind.mono fun r st1 μ1 H1 x1 w1 σ1 S1 E1 => ?_⟩
    obtain ⟨fl, env1⟩ := r
    cases fl with
    | exn x => exact ⟨env1, E1, w1⟩
    | next => exact w1.pure σ1 S1 E1
    | brk => exact w1.pure σ1 S1 E1
    | cont => exact w1.pure σ1 S1 E1
    | ret d => exact w1.pure σ1 S1 E1
  refine wpAny_Try_except ?_
  refine wpAny_mono ((hb (tryW X.K F Φ W all ys i ch D) (X.pn ++ pins) (fun e s₁ => wpAny (model X.prog X.w) X.A (noteFrame e X.env) (fun _ s₂ => wpAny (model X.prog X.w) X.A (setFlight e none) (fun _ s₃ =>
    wpAny (model X.prog X.w) X.A (handleBy e X.env [.ExceptHandler (some te) (some n) (b₀ :: suite) pos']) (SP X pins D) X.xe s₃) X.xe s₂) X.xe s₁) (fun u s' xx => ?_) PassesOwn.looking).run [] s σ H D (I.toTry _) ⟨jj, asked⟩) (fun f s1 got => ?_) (fun e s1 he => he)
  · obtain ⟨a, B, sI, pins', σ1, H1, cls, d, rfl, J0, nb, up, sky, na, os, ag, x, st1, μ1, S1, ⟨C, hns, hcls, hfd⟩, env1, E1, w1⟩ := xx
    have J : Inv X pins σ1 H1 sI := J0.ofTry ok
    have sky1 : Sky B (X.env :: X.outer) a (L2N.Zn cls d) X.env.locals s'.heap := by rw [← hs]; exact sky
    refine L2N.Sky.land L2N.Zn.steady hfr hf sky1 fun h3 fl3 up3 => ?_
    have J3 : Inv X pins σ1 H1 { s' with heap := h3 } := J.landed nb fl3.1 (up.trans up3) os ag
    obtain ⟨oe3, vs3, he3, hz3, hd3⟩ := fl3.there
    unfold aft at w1
    by_cases hall : all.contains x.cls = true
    case neg =>
      rw [if_neg hall] at w1
      exact w1.bad.elim
    rw [if_pos hall] at w1
    refine wpAny_handleBy_cons (codeAny_handlers_test ?_) (by intro z; cases z)
    refine hh a (X.pn ++ pins) [] { s' with heap := h3 } σ1 H1 x.cls C oe3 _ _ (RV.Inv.inSuite J3 a) (by simpa using hall) hns he3 (hz3.1.trans hcls) fun h5 k5 => ?_
    have fl5 := fly_kept fl3 k5
    have up5 := (up.trans up3).trans (Heap.UpToSlots.of_keeps k5)
    cases hy : ys.contains x.cls with
    | true =>
      rw [if_pos hy] at w1
      refine codeAny_handlers_suite_as (PySem.HandSPX.lands_againZ fl5 fun h6 fl6 up6 => ?_)
      obtain ⟨oe, g1, g2, g3, g4, J6⟩ := Inv.caught (s' := { s' with heap := h6 }) J nb (by rw [hs]; exact fl6) (up5.trans up6) os ag na
      refine store_ok (X := X.suite a (X.pn ++ pins)) (v := .ref a) (RV.Inv.inSuite J6 a) hN hi hloc rfl (fun s7 S7 => ?_) (.inr hln)
      have hR : ExR X.K μ1 H1 x cls d := ⟨C, hns, hcls, hfd⟩
      have x2 := ext_new (o := .frz oe (.ext fun _ => True)) S1 na
      have D2 : rdSs X.K (fun _ => FZ) Φ W ch { nx := fun σ H => D.nx (σ.set i none) H, bk := fun σ H => D.bk (σ.set i none) H, ct := fun σ H => D.ct (σ.set i none) H, rt := D.rt } (σ1.set i (some (.ref a))) (upd H1 a (.frz oe (.ext fun _ => True))) := by
        refine ⟨μ1, env1.set i (some x.toD), st1, S1.new na, (E1.ext S1 x2).set (hR.rp S1 na g2 g3 g4), (Wp.ext w1 x2).bind.mono fun r st2 μ2 H3 x3 w3 => ?_⟩
        obtain ⟨fl, env2⟩ := r
        intro σ3 S3 E3
        have E4 : RpE X.K μ2 H3 (env2.set i none) (σ3.set i none) := E3.wipe [i]
        cases fl with
        | exn y => exact (Wp.bad w3).elim
        | next => exact Wp.pure w3 _ S3 E4
        | brk => exact Wp.pure w3 _ S3 E4
        | cont => exact Wp.pure w3 _ S3 E4
        | ret z => exact Wp.pure w3 _ S3 E4
      refine wpAny_mono ((hsu a (X.pn ++ pins)).run [] s7 _ _ _ S7 D2) (fun f s8 got => ?_) fun _ _ z => z.elim
      have go : ∀ {σ8 : L2.St} {H8 : Hp} {Q : Shared → Prop}, Inv (X.suite a (X.pn ++ pins)) [] σ8 H8 s8 → (∀ s9, Inv X pins (σ8.set i none) H8 s9 → Q s9) →
          wpAny (model X.prog X.w) X.A (do bindName X.env n .none; unbindBehindTheSuite X.env n pos') (fun _ s9 => Q s9) X.xe s8 := fun {σ8 H8 Q} S8 k => gone_ok (RV.Inv.offSuite S8 ok) hN hi hln k
      cases f with
      | next => obtain ⟨_, _, S8, w8⟩ := got; exact go S8 fun s9 J9 => ⟨_, _, J9, w8⟩
      | brk => obtain ⟨_, _, S8, w8⟩ := got; exact go S8 fun s9 J9 => ⟨_, _, J9, w8⟩
      | cont => obtain ⟨_, _, S8, w8⟩ := got; exact go S8 fun s9 J9 => ⟨_, _, J9, w8⟩
      | ret u => obtain ⟨v8, _, _, S8, r8, w8⟩ := got; exact go S8 fun s9 J9 => ⟨v8, _, _, J9, r8, w8⟩
    | false =>
      rw [if_neg (by rw [hy]; decide)] at w1
      have wish : exW X.K F cls d σ1 H1 := ⟨x, st1, μ1, S1, ⟨C, hns, hcls, hfd⟩, Wp.pure w1 σ1 S1 E1⟩
      refine wpAny_handleBy_nil ?_
      obtain ⟨_, _, _, ox, vx, T, _, _, f1, _, f3, f4, _⟩ := id fl5
      unfold PySem.passOn
      refine wpAny_bind (wpAny_field f1 f3 f4 ?_)
      rw [if_neg (by simp : ¬ ((Value.ref T == Value.none) = true))]
      have out : wpAny (model X.prog X.w) X.A (setFlight (.ref a) X.env.frame) (fun _ s4 => wpAny (model X.prog X.w) X.A (throw (.ref a) : Sem Flow) (SP X pins D) X.xe s4) X.xe { s' with heap := h5 } := by
        rw [hf]
        refine PySem.HandSPX.setFlight_upZ fl5 fun h6 hl6 up6 => wpAny_throw (tk _ _ ⟨a, B, sI, pins, σ1, H1, cls, d, rfl, J, nb, up5.trans up6, .inr (.inr ?_), na, os, ag, wish⟩)
        rw [hs]
        exact hl6
      first
        | exact wpAny_bind (wpAny_pure (wpAny_bind out))
        | exact wpAny_bind out
  · cases f with
    | next =>
      obtain ⟨σ', H', J, q⟩ := got
      exact wpAny_execs_nil ⟨σ', H', J.ofTry ok, q⟩
    | brk =>
      obtain ⟨σ', H', J, q⟩ := got
      exact ⟨σ', H', J.ofTry ok, q⟩
    | cont =>
      obtain ⟨σ', H', J, q⟩ := got
      exact ⟨σ', H', J.ofTry ok, q⟩
    | ret u =>
      obtain ⟨v, σ', H', J, r, q⟩ := got
      exact ⟨v, σ', H', J.ofTry ok, r, q⟩
theorem s_try {te : Expr} {n : Str} {i : Nat} {body suite : List Stmt} {b₀ : Stmt} {pos pos' : Pos} {all ys : List Str} {cb ch : Ss} (hs : X.stack = X.env :: X.outer) (hf : X.env.frame = some X.env.locals) (hN : X.N.Nodup) (hi : X.N[i]? = some n) (hln : X.env.kindOf n = some .local)
    (tk : L2N.Takes X (exW X.K F)) (hh : HitOk X te all ys)
    (hb : ∀ (F' : L2.St → FW) (pn : List (Addr × Obj)) (xe : Value → Shared → Prop), L2N.Takes (X.tr pn xe) (exW X.K F') → PassesOwn (model X.prog X.w) X.A X.env xe → PSs (X.tr pn xe) body (rdSs X.K F' Φ W cb))
    (hsu : ∀ (a : Addr) (pn : List (Addr × Obj)), PSs (X.suite a pn) (b₀ :: suite) (rdSs X.K (fun _ => FZ) Φ W ch)) :
    PS X (.Try body [.ExceptHandler (some te) (some n) (b₀ :: suite) pos'] [] [] pos) (rdS X.K F Φ W (.try_ cb all ys i ch)) :=
  (s_tryJ (J := fun _ _ => True) hs hf hN hi hln tk hh (fun F' pn xe t p => (hb F' pn xe t p).weak fun _ _ _ h => h.2) hsu).weak fun D σ H h => ⟨trivial, h⟩
end
end RV

/-! RSet: set(texts), sorted(set(texts)), len(set(texts)). -/
namespace RV
open PySem PySem.Spec PyProof.Rows L2 PySem.Froz
/-- a set's payload that holds the texts l and can be walked -/
structure TxW (P : Program) (w : World) (D : SD) (l : List Str) : Prop where
  ok : TxOk P w D l
  ris : Ris D.2.2.place.toList
  led : w.params.followText "set-order" = true ∨ D.2.2.led = true
  nd : l.Nodup
section
variable {P : Program} {w : World} {A : Around} {E : Value → Shared → Prop} {s : Shared}
theorem tail_place {ep : Nat} {es : Array (Int × Value)} {t : SetTable} {b : Bool} (r : Ris t.place.toList) : Ris (tailTx ep es t b).2.2.place.toList := by
  unfold tailTx
  by_cases c : (!b && t.tooFull) = true
  · rw [if_pos c]; exact relayAll_ris _ _ _
  · rw [if_neg c]; exact r
theorem tail_ledgd {ep : Nat} {es : Array (Int × Value)} {t : SetTable} {b : Bool} : (tailTx ep es t b).2.2.led = t.led := by
  unfold tailTx
  by_cases c : (!b && t.tooFull) = true
  · rw [if_pos c]; exact relayAll_led _ _ _
  · rw [if_neg c]
theorem add_place {D : SD} {h : Int} {v : Value} (r : Ris D.2.2.place.toList) : Ris (addTx h v D).2.2.place.toList := by
  obtain ⟨es, ep, t⟩ := D
  have h1 : Ris (layNew t es h v).2.1.place.toList := layNew_ris t es h v r
  unfold addTx
  refine tail_place ?_
  by_cases c : (layNew t es h v).2.1.plain = true
  · rw [if_pos c]; exact h1
  · rw [if_neg c]; exact h1
theorem add_ledgd {D : SD} {h : Int} {v : Value} : (addTx h v D).2.2.led = D.2.2.led := by
  obtain ⟨es, ep, t⟩ := D
  have h1 : (layNew t es h v).2.1.led = t.led := layNew_led t es h v
  unfold addTx
  rw [tail_ledgd]
  by_cases c : (layNew t es h v).2.1.plain = true
  · rw [if_pos c]; exact h1
  · rw [if_neg c]; exact h1
theorem TxW.add {D : SD} {l : List Str} {k : Str} (u : Tok) (F : TxW P w D l) (hk : k ∉ l) : TxW P w (addTx (hashStr w k) (.str k u) D) (k :: l) :=
  ⟨add_ok u F.ok, add_place F.ris, F.led.imp id fun z => by rw [add_ledgd]; exact z, List.nodup_cons.mpr ⟨hk, F.nd⟩⟩
/-- a set at a: its payload holds l -/
def SetW (P : Program) (w : World) (h : Heap) (a : Addr) (l : List Str) : Prop := ∃ D, h.get? a = some (sObj "set" D) ∧ TxW P w D l
theorem SetW.at {h h' : Heap} {a : Addr} {l : List Str} (R : SetW P w h a l) (k : ∀ o, h.get? a = some o → h'.get? a = some o) : SetW P w h' a l := let ⟨D, e, F⟩ := R; ⟨D, k _ e, F⟩
end
end RV

/-! RSet2: the calls set(t), sorted(s). -/
namespace RV
open PySem PySem.Spec PyProof.Rows L2 PySem.Froz
section
variable {P : Program} {w : World} {A : Around} {E : Value → Shared → Prop} {s : Shared}
end
end RV

/-! RSet3: sorted of texts: of a set, a tuple, a list, of any length. -/
namespace RV
open PySem PySem.Spec PyProof.Rows L2 PySem.Froz
section
variable {P : Program} {w : World} {A : Around} {E : Value → Shared → Prop} {s : Shared}
/-- what went on: old things stay -/
structure Kept (s s1 : Shared) : Prop where
  k : ∀ b o, s.heap.get? b = some o → s1.heap.get? b = some o
  z : s.heap.objs.size ≤ s1.heap.objs.size
  g : s1.gens = s.gens
  o : s1.os = s.os
end
/-! sorted texts: one order alone -/
def RiseS (l : List Str) : Prop := l.Pairwise fun a b => ¬ b.cps.toList < a.cps.toList
theorem ins_perm (x : Str) : ∀ l : List Str, (insS x l).Perm (x :: l)
  | [] => List.Perm.refl _
  | y :: r => by
    unfold insS
    split
    · exact (List.Perm.cons y (ins_perm x r)).trans (List.Perm.swap x y r)
    · exact List.Perm.refl _
theorem sortS_perm : ∀ l : List Str, (sortS l).Perm l
  | [] => List.Perm.refl _
  | x :: r => (ins_perm x _).trans (List.Perm.cons x (sortS_perm r))
theorem ins_rise {x : Str} : ∀ {l : List Str}, RiseS l → RiseS (insS x l)
  | [], _ => List.pairwise_cons.mpr ⟨(fun y h => by cases h), List.Pairwise.nil⟩
  | y :: r, h => by
    have h' := List.pairwise_cons.mp h
    unfold insS
    split
    · rename_i c
      refine List.pairwise_cons.mpr ⟨fun z hz => ?_, ins_rise h'.2⟩
      rcases List.mem_cons.mp ((ins_perm x r).mem_iff.mp hz) with rfl | hz
      · exact fun lt => Std.lt_irrefl (Std.lt_trans lt c)
      · exact h'.1 z hz
    · rename_i c
      refine List.pairwise_cons.mpr ⟨fun z hz => ?_, h⟩
      rcases List.mem_cons.mp hz with rfl | hz
      · exact c
      · exact fun lt => h'.1 z hz (Std.lt_of_lt_of_le lt (Std.not_lt.mp c))
theorem sortS_rise : ∀ l : List Str, RiseS (sortS l)
  | [] => List.Pairwise.nil
  | x :: r => ins_rise (sortS_rise r)
end RV

/-! RSet4: the rules of sorted. -/
namespace RV
open PySem PySem.Spec PyProof.Rows L2 PySem.Froz
variable [Wd]
section
variable {X : Cx} {pins : List (Addr × Obj)} {σ : L2.St} {s : Shared} {H : Hp}
theorem Kept.inv (I : Inv X pins σ H s) {s2 : Shared} {p : Addr} {out : Array Value} {c : Nat} {ys : List V} (K : Kept s s2) (hp : s.heap.objs.size ≤ p) (e : s2.heap.get? p = some (seqObj "list" out c)) (v : Vals ys out.toList) (z : ys.length ≤ sizeLine) :
    Inv X pins σ (upd H p (.lst ys)) s2 := by
  have hn : H p = none := I.hok.fresh hp
  have J : Inv X pins σ (upd H p (.lst ys)) { s with heap := s2.heap, gens := s2.gens, drawn := s2.drawn, toks := s2.toks } :=
    I.call (ch := []) (Un.laid K.k hp hn) (I.hok.laid K.k hp ⟨z, out.toList, c, v, e⟩) (by rw [K.g]; exact I.bare) (fun _ z => nomatch z)
  have e2 : s2 = { s with heap := s2.heap, gens := s2.gens, drawn := s2.drawn, toks := s2.toks } := by
    obtain ⟨k, z, g, o⟩ := K
    cases s2
    cases s
    cases o
    rfl
  rw [e2]
  exact J
end
section
variable {X : Cx}
end
end RV

/-! RK3: sorted(o), len(o): o a dict whose keys are numbers. -/
namespace RV
open PySem PySem.Spec PyProof.Rows L2
variable [Wd]
section
variable {X : Cx}
end
section
variable {X : Cx} {F : L2.St → FW} {Φ : Str → List D → N D} {W : Nat} {e : Expr} {ca : C} {pos p : Pos}
end
end RV

/-! RSet5: len of a set of texts. -/
namespace RV
open PySem PySem.Spec PyProof.Rows L2
variable [Wd]
section
variable {X : Cx}
end
end RV

/-! RRev: t[::-1] of a tuple, of a list. -/
namespace RV
open PySem PySem.Spec PyProof.Rows L2
variable [Wd]
section
variable {prog : Program} {w : World} {A : Around} {E : Value → Shared → Prop} {s : Shared}
end
section
variable {X : Cx} {F : L2.St → FW} {Φ : Str → List D → N D} {W : Nat} {e : Expr} {ca : C} {k : Nat} {p1 p2 p3 pos : Pos}
end
end RV

/-! R18: what a run does: a calculus of ends. -/
namespace RV
open PySem
def Run {α : Type} (m : N α) (st : Sto) (P : α → Sto → Prop) (E : Ex → Sto → Prop) : Prop :=
  match m st with
  | .ok a s => P a s
  | .err x s => E x s
  | .bad => False
def RunM {α : Type} (m : M α) (st : Sto) (P : α → Sto → Prop) : Prop :=
  match m st with
  | .ok a s => P a s
  | .bad => False
def no : Ex → Sto → Prop := fun _ _ => False
section
variable {α β : Type} {st : Sto}
@[simp] theorem run_pure {a : α} {P E} : Run (N.pure a) st P E = P a st := (rfl)
@[simp] theorem run_raise {x : Ex} {P : α → Sto → Prop} {E} : Run (N.raise x) st P E = E x st := (rfl)
@[simp] theorem run_bad {P : α → Sto → Prop} {E} : Run N.bad st P E = False := (rfl)
@[simp] theorem run_bind {m : N α} {f : α → N β} {P E} : Run (N.bind m f) st P E = Run m st (fun a s => Run (f a) s P E) E := by
  unfold Run N.bind
  cases m st <;> rfl
@[simp] theorem run_up {m : M α} {P : α → Sto → Prop} {E} : Run (up m) st P E = RunM m st P := by
  unfold Run up RunM
  cases m st <;> rfl
@[simp] theorem run_noErr {m : N α} {P : α → Sto → Prop} {E} : Run (noErr m) st P E = Run m st P no := by
  unfold Run noErr
  cases m st <;> rfl
@[simp] theorem run_tr {env : Env} {m : N α} {f : α → N (Fl × Env)} {P E} : Run (tr env m f) st P E = Run m st (fun a s => Run (f a) s P E) (fun x s => P (.exn x, env) s) := by
  unfold Run tr
  cases m st <;> rfl
@[simp] theorem run_ite {c : Prop} [Decidable c] {m n : N α} {P E} : Run (if c then m else n) st P E = if c then Run m st P E else Run n st P E := by split <;> rfl
@[simp] theorem runM_pure {a : α} {P} : RunM (M.pure a) st P = P a st := (rfl)
@[simp] theorem runM_bad {P : α → Sto → Prop} : RunM bad st P = False := (rfl)
@[simp] theorem runM_bind {m : M α} {f : α → M β} {P} : RunM (M.bind m f) st P = RunM m st (fun a s => RunM (f a) s P) := by
  unfold RunM M.bind
  cases m st <;> rfl
@[simp] theorem runM_guard {b : Bool} {P} : RunM (guard b) st P = (b = true ∧ P () st) := by
  unfold RunM guard
  cases b <;> simp
@[simp] theorem runM_alloc {o : O} {P} : RunM (alloc o) st P = P (.ref st.length) (st ++ [o]) := (rfl)
@[simp] theorem runM_some {a : α} {P} : RunM (ofO (some a)) st P = P a st := (rfl)
@[simp] theorem runM_none {P : α → Sto → Prop} : RunM (ofO none) st P = False := (rfl)
@[simp] theorem runM_put {n : Nat} {xs : List D} {P} : RunM (putL n xs) st P = P () (st.set n (.lst xs)) := (rfl)
@[simp] theorem runM_ite {c : Prop} [Decidable c] {m n : M α} {P} : RunM (if c then m else n) st P = if c then RunM m st P else RunM n st P := by split <;> rfl
theorem runM_getM {n : Nat} {xs : List D} {P} (h : st[n]? = some (.lst xs)) : RunM (getM n) st P = P xs st := by
  unfold RunM getM
  rw [h]
theorem Run.mono {m : N α} {P P' : α → Sto → Prop} {E E' : Ex → Sto → Prop} (h : Run m st P E) (hp : ∀ a s, P a s → P' a s) (he : ∀ x s, E x s → E' x s) : Run m st P' E' := by
  unfold Run at h ⊢
  cases e : m st with
  | ok a s => rw [e] at h; exact hp a s h
  | err x s => rw [e] at h; exact he x s h
  | bad => rw [e] at h; exact h
theorem Run.imp {m : N α} {P P' : α → Sto → Prop} {E : Ex → Sto → Prop} (h : Run m st P no) (hp : ∀ a s, P a s → P' a s) : Run m st P' E := h.mono hp fun _ _ z => z.elim
theorem Run.ext {m : N α} {P P' : α → Sto → Prop} {E : Ex → Sto → Prop} (h : Run m st P E) (hp : ∀ a s, P a s → P' a s) : Run m st P' E := h.mono hp fun _ _ z => z
theorem Run.ok {m : N α} {P : α → Sto → Prop} (h : Run m st P no) : ∃ a s, m st = .ok a s ∧ P a s := by
  unfold Run at h
  cases e : m st with
  | ok a s => rw [e] at h; exact ⟨a, s, rfl, h⟩
  | err x s => rw [e] at h; exact h.elim
  | bad => rw [e] at h; exact h.elim
def RunO (o : Out α) (P : α → Sto → Prop) (E : Ex → Sto → Prop) : Prop :=
  match o with
  | .ok a s => P a s
  | .err x s => E x s
  | .bad => False
theorem run_frz {m : N D} {P : D → Sto → Prop} {E} : Run (frzN m) st P E = Run m st (fun d s => RunO (frzO st.length d s) P E) E := by
  unfold Run frzN RunO
  cases m st <;> rfl
theorem frz_int {k : Nat} {i : Int} {s : Sto} {P : D → Sto → Prop} {E} : RunO (frzO k (.int i) s) P E = P (.int i) s := (rfl)
theorem frz_bl {k : Nat} {i : Bool} {s : Sto} {P : D → Sto → Prop} {E} : RunO (frzO k (.bl i) s) P E = P (.bl i) s := (rfl)
theorem frz_str {k : Nat} {i : Str} {s : Sto} {P : D → Sto → Prop} {E} : RunO (frzO k (.str i) s) P E = P (.str i) s := (rfl)
theorem frz_tup {k : Nat} {i : List D} {s : Sto} {P : D → Sto → Prop} {E} : RunO (frzO k (.tup i) s) P E = P (.tup i) s := (rfl)
theorem frz_fl {k : Nat} {i : List D} {s : Sto} {P : D → Sto → Prop} {E} : RunO (frzO k (.fl i) s) P E = P (.fl i) s := (rfl)
theorem frz_ed {k : Nat} {s : Sto} {P : D → Sto → Prop} {E} : RunO (frzO k .ed s) P E = P .ed s := (rfl)
theorem frz_ob {k : Nat} {t : Str} {ns : List Str} {xs : List D} {s : Sto} {P : D → Sto → Prop} {E} : RunO (frzO k (.ob t ns xs) s) P E = P (.ob t ns xs) s := (rfl)
theorem frz_non {k : Nat} {s : Sto} {P : D → Sto → Prop} {E} : RunO (frzO k .non s) P E = P .non s := (rfl)
theorem frz_ref {k n : Nat} {s : Sto} {P : D → Sto → Prop} {E} : RunO (frzO k (.ref n) s) P E = (k ≤ n ∧ s.length = n + 1 ∧ ((∃ xs, s[n]? = some (.lst xs) ∧ P (.fl xs) (s.take n)) ∨ (s[n]? = some (.dct []) ∧ P .ed (s.take n)))) := by
  have h : frzO k (.ref n) s = if k ≤ n ∧ s.length = n + 1 then (match itemsAt s n with
      | some xs => .ok (.fl xs) (s.take n)
      | none => (match s[n]? with
        | some (.dct []) => .ok .ed (s.take n)
        | _ => .bad)) else .bad := by unfold frzO; rfl
  rw [h]
  by_cases c : k ≤ n ∧ s.length = n + 1
  · rw [if_pos c]
    unfold itemsAt
    cases e : s[n]? with
    | none => simp [RunO]
    | some o =>
      cases o with
      | lst xs => simp [RunO, c.1, c.2]
      | dct kv => cases kv <;> simp [RunO, c.1, c.2]
      | kct kv => simp [RunO, c.1, c.2]
  · rw [if_neg c]
    simp only [RunO, false_iff, eq_iff_iff]
    exact fun h => c ⟨h.1, h.2.1⟩
theorem frz_app {k : Nat} {s : Sto} {xs : List D} {P : D → Sto → Prop} {E} : RunO (frzO k (.ref s.length) (s ++ [.lst xs])) P E = (k ≤ s.length ∧ P (.fl xs) s) := by
  rw [frz_ref]
  simp
theorem frz_0 {k : Nat}  {xs : List D} {P : D → Sto → Prop} {E} : RunO (frzO k (.ref 0) [.lst xs]) P E = (k ≤ 0 ∧ P (.fl xs) []) := by
  rw [frz_ref]
  simp
theorem frz_1 {k : Nat} {x0 : O} {xs : List D} {P : D → Sto → Prop} {E} : RunO (frzO k (.ref 1) [x0, .lst xs]) P E = (k ≤ 1 ∧ P (.fl xs) [x0]) := by
  rw [frz_ref]
  simp
theorem frz_2 {k : Nat} {x0 x1 : O} {xs : List D} {P : D → Sto → Prop} {E} : RunO (frzO k (.ref 2) [x0, x1, .lst xs]) P E = (k ≤ 2 ∧ P (.fl xs) [x0, x1]) := by
  rw [frz_ref]
  simp
theorem frz_3 {k : Nat} {x0 x1 x2 : O} {xs : List D} {P : D → Sto → Prop} {E} : RunO (frzO k (.ref 3) [x0, x1, x2, .lst xs]) P E = (k ≤ 3 ∧ P (.fl xs) [x0, x1, x2]) := by
  rw [frz_ref]
  simp
theorem frz_4 {k : Nat} {x0 x1 x2 x3 : O} {xs : List D} {P : D → Sto → Prop} {E} : RunO (frzO k (.ref 4) [x0, x1, x2, x3, .lst xs]) P E = (k ≤ 4 ∧ P (.fl xs) [x0, x1, x2, x3]) := by
  rw [frz_ref]
  simp
theorem frz_5 {k : Nat} {x0 x1 x2 x3 x4 : O} {xs : List D} {P : D → Sto → Prop} {E} : RunO (frzO k (.ref 5) [x0, x1, x2, x3, x4, .lst xs]) P E = (k ≤ 5 ∧ P (.fl xs) [x0, x1, x2, x3, x4]) := by
  rw [frz_ref]
  simp
theorem frz_6 {k : Nat} {x0 x1 x2 x3 x4 x5 : O} {xs : List D} {P : D → Sto → Prop} {E} : RunO (frzO k (.ref 6) [x0, x1, x2, x3, x4, x5, .lst xs]) P E = (k ≤ 6 ∧ P (.fl xs) [x0, x1, x2, x3, x4, x5]) := by
  rw [frz_ref]
  simp
theorem frz_7 {k : Nat} {x0 x1 x2 x3 x4 x5 x6 : O} {xs : List D} {P : D → Sto → Prop} {E} : RunO (frzO k (.ref 7) [x0, x1, x2, x3, x4, x5, x6, .lst xs]) P E = (k ≤ 7 ∧ P (.fl xs) [x0, x1, x2, x3, x4, x5, x6]) := by
  rw [frz_ref]
  simp
theorem frzD_app {k : Nat} {s : Sto} {P : D → Sto → Prop} {E} : RunO (frzO k (.ref s.length) (s ++ [.dct []])) P E = (k ≤ s.length ∧ P .ed s) := by
  rw [frz_ref]
  simp
theorem frzD_0 {k : Nat} {P : D → Sto → Prop} {E} : RunO (frzO k (.ref 0) [.dct []]) P E = (k ≤ 0 ∧ P .ed []) := by
  rw [frz_ref]
  simp
theorem frzD_1 {k : Nat} {x0 : O} {P : D → Sto → Prop} {E} : RunO (frzO k (.ref 1) [x0, .dct []]) P E = (k ≤ 1 ∧ P .ed [x0]) := by
  rw [frz_ref]
  simp
theorem frzD_2 {k : Nat} {x0 x1 : O} {P : D → Sto → Prop} {E} : RunO (frzO k (.ref 2) [x0, x1, .dct []]) P E = (k ≤ 2 ∧ P .ed [x0, x1]) := by
  rw [frz_ref]
  simp
theorem frzD_3 {k : Nat} {x0 x1 x2 : O} {P : D → Sto → Prop} {E} : RunO (frzO k (.ref 3) [x0, x1, x2, .dct []]) P E = (k ≤ 3 ∧ P .ed [x0, x1, x2]) := by
  rw [frz_ref]
  simp
theorem frzD_4 {k : Nat} {x0 x1 x2 x3 : O} {P : D → Sto → Prop} {E} : RunO (frzO k (.ref 4) [x0, x1, x2, x3, .dct []]) P E = (k ≤ 4 ∧ P .ed [x0, x1, x2, x3]) := by
  rw [frz_ref]
  simp
theorem frzD_5 {k : Nat} {x0 x1 x2 x3 x4 : O} {P : D → Sto → Prop} {E} : RunO (frzO k (.ref 5) [x0, x1, x2, x3, x4, .dct []]) P E = (k ≤ 5 ∧ P .ed [x0, x1, x2, x3, x4]) := by
  rw [frz_ref]
  simp
theorem frzD_6 {k : Nat} {x0 x1 x2 x3 x4 x5 : O} {P : D → Sto → Prop} {E} : RunO (frzO k (.ref 6) [x0, x1, x2, x3, x4, x5, .dct []]) P E = (k ≤ 6 ∧ P .ed [x0, x1, x2, x3, x4, x5]) := by
  rw [frz_ref]
  simp
theorem frzD_7 {k : Nat} {x0 x1 x2 x3 x4 x5 x6 : O} {P : D → Sto → Prop} {E} : RunO (frzO k (.ref 7) [x0, x1, x2, x3, x4, x5, x6, .dct []]) P E = (k ≤ 7 ∧ P .ed [x0, x1, x2, x3, x4, x5, x6]) := by
  rw [frz_ref]
  simp
theorem frzD_8 {k : Nat} {x0 x1 x2 x3 x4 x5 x6 x7 : O} {P : D → Sto → Prop} {E} : RunO (frzO k (.ref 8) [x0, x1, x2, x3, x4, x5, x6, x7, .dct []]) P E = (k ≤ 8 ∧ P .ed [x0, x1, x2, x3, x4, x5, x6, x7]) := by
  rw [frz_ref]
  simp
theorem frzD_9 {k : Nat} {x0 x1 x2 x3 x4 x5 x6 x7 x8 : O} {P : D → Sto → Prop} {E} : RunO (frzO k (.ref 9) [x0, x1, x2, x3, x4, x5, x6, x7, x8, .dct []]) P E = (k ≤ 9 ∧ P .ed [x0, x1, x2, x3, x4, x5, x6, x7, x8]) := by
  rw [frz_ref]
  simp
theorem nb_pure {β : Type} {a : α} {f : α → N β} : N.bind (N.pure a) f = f a := (rfl)
theorem up_true : up (guard true) = N.pure () := (rfl)
theorem noErr_pure {a : α} : noErr (N.pure a) = N.pure a := (rfl)
theorem nb_bind {β γ : Type} {m : N α} {f : α → N β} {g : β → N γ} : N.bind (N.bind m f) g = N.bind m fun a => N.bind (f a) g := by
  funext st
  unfold N.bind
  cases m st <;> rfl
end
/-! ### loops -/
section
variable {st : Sto}
end
@[simp] theorem fin_ret {d : D} {env : Env} : fin (.ret d, env) = N.pure d := (rfl)
@[simp] theorem fin_next {env : Env} : fin (.next, env) = N.pure .non := (rfl)
@[simp] theorem fin_exn {x : Ex} {env : Env} : fin (.exn x, env) = N.raise x := (rfl)
/-! ### statement by statement -/
def NextSs (Φ : Str → List D → N D) (W : Nat) (r : Ss) (P : Fl × Env → Sto → Prop) (E : Ex → Sto → Prop) (q : Fl × Env) (s : Sto) : Prop := match q.1 with
  | .next => Run (runSs Φ W r q.2) s P E
  | _ => P q s
section
variable {Φ : Str → List D → N D} {W : Nat} {r : Ss} {P : Fl × Env → Sto → Prop} {E : Ex → Sto → Prop} {s : Sto} {env : Env}
theorem ss_run {c : S} : Run (runSs Φ W (.cons c r) env) s P E = Run (runS Φ W c env) s (NextSs Φ W r P E) E := by
  rw [runSs, run_bind]
  congr 1
  funext q s'
  obtain ⟨fl, e⟩ := q
  cases fl <;> rfl
theorem ss_nil_run : Run (runSs Φ W .nil env) s P E = P (.next, env) s := by rw [runSs, run_pure]
theorem n_next : NextSs Φ W r P E (.next, env) s = Run (runSs Φ W r env) s P E := (rfl)
theorem n_ret {d : D} : NextSs Φ W r P E (.ret d, env) s = P (.ret d, env) s := (rfl)
theorem n_brk : NextSs Φ W r P E (.brk, env) s = P (.brk, env) s := (rfl)
theorem n_cont : NextSs Φ W r P E (.cont, env) s = P (.cont, env) s := (rfl)
theorem n_exn {x : Ex} : NextSs Φ W r P E (.exn x, env) s = P (.exn x, env) s := (rfl)
end
/-! ### what a def hands back -/
theorem fz_int {s : Sto} {k : Nat} {i : Int} : fz s k (.int i) = some (.int i) := (rfl)
theorem fz_bl {s : Sto} {k : Nat} {i : Bool} : fz s k (.bl i) = some (.bl i) := (rfl)
theorem fz_str {s : Sto} {k : Nat} {i : Str} : fz s k (.str i) = some (.str i) := (rfl)
theorem fz_ed {s : Sto} {k : Nat} : fz s k .ed = some .ed := (rfl)
theorem fz_non {s : Sto} {k : Nat} : fz s k .non = some .non := (rfl)
section
variable {T : Tab} {W m : Nat} {f : Str} {ds r xs : List D} {fn : Fn} {env : Env} {st : Sto} {P : D → Sto → Prop} {E : Ex → Sto → Prop}
theorem runF_def (h : T.lookup f = some fn) (hl : ds.length = fn.ar) : runF T W (m + 1) f ds = callN fn.pl fn.raw (fun ds => N.bind (runSs (runF T W m) W fn.body (startE fn.nn ds)) fin) ds := by
  rw [runF, h]
  dsimp only
  rw [if_pos hl]
theorem run_pure_of {α : Type} {n : N α} {v : α} (h : ∀ st, n st = .ok v st) : n = N.pure v := funext h
/-- a def that gets no place: from the empty store -/
theorem go_run (h : T.lookup f = some fn) (hp : fn.pl = false) (hr : fn.raw = false) (hl : ds.length = fn.ar) (hn : noRefL ds = true) (he : startE fn.nn ds = env) (b : Run (N.bind (runSs (runF T W m) W fn.body env) fin) [] (fun d s => ∃ v, fz s 0 d = some v ∧ P v st) no) :
    Run (runF T W (m + 1) f ds) st P E := by
  rw [runF_def h hl, hp, hr]
  unfold Run callN
  simp only [Bool.false_eq_true, if_false, hn, if_true]
  rw [he]
  unfold Run at b
  cases e : N.bind (runSs (runF T W m) W fn.body env) fin [] with
  | bad => rw [e] at b; exact b
  | err x s => rw [e] at b; exact b.elim
  | ok d s =>
    rw [e] at b
    obtain ⟨v, e1, p⟩ := b
    simp only [outN, e1, Bool.false_eq_true, if_false]
    exact p
theorem go_pure {v : D} (h : T.lookup f = some fn) (hp : fn.pl = false) (hr : fn.raw = false) (hl : ds.length = fn.ar) (hn : noRefL ds = true) (he : startE fn.nn ds = env) (b : Run (N.bind (runSs (runF T W m) W fn.body env) fin) [] (fun d s => fz s 0 d = some v) no) :
    runF T W (m + 1) f ds = N.pure v := run_pure_of fun st => by
  have := go_run (st := st) (P := fun v' s' => v' = v ∧ s' = st) (E := no) h hp hr hl hn he (b.mono (fun d s q => ⟨v, q, rfl, rfl⟩) fun _ _ z => z)
  obtain ⟨a, s, e, rfl, rfl⟩ := this.ok
  exact e
/-- the list that is changed stands first -/
def Pl (xs : List D) : Prop := ∃ a b c : Int, xs = [.int a, .int b, .int c] ∧ 0 ≤ a ∧ a < 2147483423 ∧ 0 ≤ b
theorem Pl.no (h : Pl xs) : noRefL xs = true := by
  obtain ⟨a, b, c, rfl, _⟩ := h
  rfl
/-- what is wanted where a def ends that changes the pool -/
def Fin (P : D → Sto → Prop) (st : Sto) (d : D) (s : Sto) : Prop := ∃ ys s2 v, s = .lst ys :: s2 ∧ Pl ys ∧ fz s 1 d = some v ∧ P v (.lst ys :: st)
theorem go_pl (h : T.lookup f = some fn) (hp : fn.pl = true) (hr : fn.raw = false) (hl : r.length + 1 = fn.ar) (hx : Pl xs) (hn : noRefL r = true) (he : startE fn.nn (.ref 0 :: r) = env) (b : Run (N.bind (runSs (runF T W m) W fn.body env) fin) [.lst xs] (Fin P st) no) :
    Run (runF T W (m + 1) f (.ref 0 :: r)) (.lst xs :: st) P E := by
  rw [runF_def h (by simpa using hl), hp, hr]
  unfold Run callN
  simp only [if_true, List.getElem?_cons_zero, hx.no, hn, Bool.and_self]
  rw [he]
  unfold Run at b
  cases e : N.bind (runSs (runF T W m) W fn.body env) fin [.lst xs] with
  | bad => rw [e] at b; exact b
  | err x s => rw [e] at b; exact b.elim
  | ok d s =>
    rw [e] at b
    obtain ⟨ys, s2, v, rfl, hy, e1, p⟩ := b
    simp only [outN, back, List.getElem?_cons_zero, hy.no, if_true, e1, Bool.false_eq_true, if_false, List.set_cons_zero]
    exact p
/-- a def that hands back a new list -/
theorem go_raw (h : T.lookup f = some fn) (hp : fn.pl = false) (hr : fn.raw = true) (hl : ds.length = fn.ar) (hn : noRefL ds = true) (he : startE fn.nn ds = env) (b : Run (N.bind (runSs (runF T W m) W fn.body env) fin) [] (fun d s => ∃ j ys, d = .ref j ∧ s[j]? = some (.lst ys) ∧ noRefL ys = true ∧ P (.ref st.length) (st ++ [.lst ys])) no) :
    Run (runF T W (m + 1) f ds) st P E := by
  rw [runF_def h hl, hp, hr]
  unfold Run callN
  simp only [Bool.false_eq_true, if_false, hn, if_true]
  rw [he]
  unfold Run at b
  cases e : N.bind (runSs (runF T W m) W fn.body env) fin [] with
  | bad => rw [e] at b; exact b
  | err x s => rw [e] at b; exact b.elim
  | ok d s =>
    rw [e] at b
    obtain ⟨j, ys, rfl, e1, hy, p⟩ := b
    simp only [outN, if_true, Nat.zero_le, e1, hy]
    exact p
end
/-! ### loops over what stands still, item by item -/
def compL (turn : D → N (Option D)) : List D → List D → N (List D)
  | [], acc => N.pure acc
  | x :: xs, acc => N.bind (noErr (turn x)) fun y => match y with
    | none => compL turn xs acc
    | some v => N.bind (up (guard (decide (acc.length < sizeLine)))) fun _ => compL turn xs (acc ++ [v])
def forL (turn : D → Env → N (Fl × Env)) : List D → Env → N (Fl × Env)
  | [], env => N.pure (.next, env)
  | x :: xs, env => N.bind (turn x env) fun r => match r.1 with
    | .next => forL turn xs r.2
    | .cont => forL turn xs r.2
    | .brk => N.pure (.next, r.2)
    | f => N.pure (f, r.2)
theorem nbind_congr {α β : Type} {m : N α} {f g : α → N β} (h : ∀ a, f a = g a) : N.bind m f = N.bind m g := by rw [show f = g from funext h]
theorem comp_stat_aux {turn : Itm → N (Option D)} : ∀ (xs : List D) (pre : List D) (acc : List D), compRun (.stat (pre ++ xs)) turn (xs.length + 1) pre.length acc = compL (fun x => turn (.one x)) xs acc
  | [], pre, acc => by
    rw [List.length_nil, compRun]
    have : Src.item (.stat (pre ++ [])) pre.length = M.pure none := by simp only [Src.item, Src.one, List.append_nil, List.getElem?_append_right (Nat.le_refl _), Nat.sub_self, List.getElem?_cons_zero, List.getElem?_eq_none (Nat.le_refl _)]; rfl
    rw [this]
    rfl
  | x :: xs, pre, acc => by
    rw [List.length_cons, compRun]
    have : Src.item (.stat (pre ++ x :: xs)) pre.length = M.pure (some (.one x)) := by simp only [Src.item, Src.one, List.append_nil, List.getElem?_append_right (Nat.le_refl _), Nat.sub_self, List.getElem?_cons_zero, List.getElem?_eq_none (Nat.le_refl _)]; rfl
    rw [this]
    have e := fun acc => comp_stat_aux (turn := turn) xs (pre ++ [x]) acc
    simp only [List.append_assoc, List.cons_append, List.nil_append, List.length_append, List.length_cons, List.length_nil] at e
    show N.bind (noErr (turn (.one x))) _ = _
    rw [compL]
    refine nbind_congr fun y => ?_
    cases y with
    | none => exact e acc
    | some v => exact nbind_congr fun _ => e (acc ++ [v])
theorem comp_stat {xs : List D} {turn : Itm → N (Option D)} {W : Nat} {acc : List D} : compRun (.stat xs) turn (Src.fuel W (.stat xs)) 0 acc = compL (fun x => turn (.one x)) xs acc := comp_stat_aux xs [] acc
/-- two fors -/
def compLA (turn : D → List D → N (List D)) : List D → List D → N (List D)
  | [], acc => N.pure acc
  | x :: xs, acc => N.bind (noErr (turn x acc)) fun acc2 => compLA turn xs acc2
theorem compA_stat_aux {turn : Itm → List D → N (List D)} : ∀ (xs : List D) (pre : List D) (acc : List D), compRunA (.stat (pre ++ xs)) turn (xs.length + 1) pre.length acc = compLA (fun x => turn (.one x)) xs acc
  | [], pre, acc => by
    rw [List.length_nil, compRunA]
    have : Src.item (.stat (pre ++ [])) pre.length = M.pure none := by simp only [Src.item, Src.one, List.append_nil, List.getElem?_append_right (Nat.le_refl _), Nat.sub_self, List.getElem?_cons_zero, List.getElem?_eq_none (Nat.le_refl _)]; rfl
    rw [this]
    rfl
  | x :: xs, pre, acc => by
    rw [List.length_cons, compRunA]
    have : Src.item (.stat (pre ++ x :: xs)) pre.length = M.pure (some (.one x)) := by simp only [Src.item, Src.one, List.append_nil, List.getElem?_append_right (Nat.le_refl _), Nat.sub_self, List.getElem?_cons_zero, List.getElem?_eq_none (Nat.le_refl _)]; rfl
    rw [this]
    have e := fun acc => compA_stat_aux (turn := turn) xs (pre ++ [x]) acc
    simp only [List.append_assoc, List.cons_append, List.nil_append, List.length_append, List.length_cons, List.length_nil] at e
    show N.bind (noErr (turn (.one x) acc)) _ = _
    rw [compLA]
    exact nbind_congr fun acc2 => e acc2
theorem compA_stat {xs : List D} {turn : Itm → List D → N (List D)} {W : Nat} {acc : List D} : compRunA (.stat xs) turn (Src.fuel W (.stat xs)) 0 acc = compLA (fun x => turn (.one x)) xs acc := compA_stat_aux xs [] acc
theorem for_stat_aux {turn : Itm → Env → N (Fl × Env)} : ∀ (xs : List D) (pre : List D) (env : Env), forRun (.stat (pre ++ xs)) turn (xs.length + 1) pre.length env = forL (fun x => turn (.one x)) xs env
  | [], pre, env => by
    rw [List.length_nil, forRun]
    have : Src.item (.stat (pre ++ [])) pre.length = M.pure none := by simp only [Src.item, Src.one, List.append_nil, List.getElem?_append_right (Nat.le_refl _), Nat.sub_self, List.getElem?_cons_zero, List.getElem?_eq_none (Nat.le_refl _)]; rfl
    rw [this]
    rfl
  | x :: xs, pre, env => by
    rw [List.length_cons, forRun]
    have : Src.item (.stat (pre ++ x :: xs)) pre.length = M.pure (some (.one x)) := by simp only [Src.item, Src.one, List.append_nil, List.getElem?_append_right (Nat.le_refl _), Nat.sub_self, List.getElem?_cons_zero, List.getElem?_eq_none (Nat.le_refl _)]; rfl
    rw [this]
    have e := fun env => for_stat_aux (turn := turn) xs (pre ++ [x]) env
    simp only [List.append_assoc, List.cons_append, List.nil_append, List.length_append, List.length_cons, List.length_nil] at e
    show N.bind (turn (.one x) env) _ = _
    rw [forL]
    refine nbind_congr fun y => ?_
    obtain ⟨fl, env'⟩ := y
    cases fl with
    | next => exact e env'
    | cont => exact e env'
    | brk => rfl
    | ret d => rfl
    | exn x => rfl
theorem for_stat {xs : List D} {turn : Itm → Env → N (Fl × Env)} {W : Nat} {env : Env} : forRun (.stat xs) turn (Src.fuel W (.stat xs)) 0 env = forL (fun x => turn (.one x)) xs env := for_stat_aux xs [] env
/-! with the turn's number -/
def forLE (turn : Int → D → Env → N (Fl × Env)) : Nat → List D → Env → N (Fl × Env)
  | _, [], env => N.pure (.next, env)
  | i, x :: xs, env => N.bind (turn i x env) fun r => match r.1 with
    | .next => forLE turn (i + 1) xs r.2
    | .cont => forLE turn (i + 1) xs r.2
    | .brk => N.pure (.next, r.2)
    | f => N.pure (f, r.2)
def compLE (turn : Int → D → N (Option D)) : Nat → List D → List D → N (List D)
  | _, [], acc => N.pure acc
  | i, x :: xs, acc => N.bind (noErr (turn i x)) fun y => match y with
    | none => compLE turn (i + 1) xs acc
    | some v => N.bind (up (guard (decide (acc.length < sizeLine)))) fun _ => compLE turn (i + 1) xs (acc ++ [v])
theorem for_enum_aux {turn : Itm → Env → N (Fl × Env)} : ∀ (xs : List D) (pre : List D) (env : Env), forRun (.enum (.stat (pre ++ xs))) turn (xs.length + 1) pre.length env = forLE (fun i x => turn (.two (.int i) x)) pre.length xs env
  | [], pre, env => by
    rw [List.length_nil, forRun]
    have : Src.item (.enum (.stat (pre ++ []))) pre.length = M.pure none := by simp only [Src.item, Src.one, List.append_nil, List.getElem?_append_right (Nat.le_refl _), Nat.sub_self, List.getElem?_cons_zero, List.getElem?_eq_none (Nat.le_refl _)]; rfl
    rw [this]
    rfl
  | x :: xs, pre, env => by
    rw [List.length_cons, forRun]
    have : Src.item (.enum (.stat (pre ++ x :: xs))) pre.length = M.pure (some (.two (.int pre.length) x)) := by simp only [Src.item, Src.one, List.append_nil, List.getElem?_append_right (Nat.le_refl _), Nat.sub_self, List.getElem?_cons_zero, List.getElem?_eq_none (Nat.le_refl _)]; rfl
    rw [this]
    have e := fun env => for_enum_aux (turn := turn) xs (pre ++ [x]) env
    simp only [List.append_assoc, List.cons_append, List.nil_append, List.length_append, List.length_cons, List.length_nil] at e
    show N.bind (turn (.two (.int pre.length) x) env) _ = _
    rw [forLE]
    refine nbind_congr fun y => ?_
    obtain ⟨fl, env'⟩ := y
    cases fl with
    | next => exact e env'
    | cont => exact e env'
    | brk => rfl
    | ret d => rfl
    | exn x => rfl
theorem for_enum {xs : List D} {turn : Itm → Env → N (Fl × Env)} {W : Nat} {env : Env} : forRun (.enum (.stat xs)) turn (Src.fuel W (.enum (.stat xs))) 0 env = forLE (fun i x => turn (.two (.int i) x)) 0 xs env := for_enum_aux xs [] env
theorem comp_enum_aux {turn : Itm → N (Option D)} : ∀ (xs : List D) (pre : List D) (acc : List D), compRun (.enum (.stat (pre ++ xs))) turn (xs.length + 1) pre.length acc = compLE (fun i x => turn (.two (.int i) x)) pre.length xs acc
  | [], pre, acc => by
    rw [List.length_nil, compRun]
    have : Src.item (.enum (.stat (pre ++ []))) pre.length = M.pure none := by simp only [Src.item, Src.one, List.append_nil, List.getElem?_append_right (Nat.le_refl _), Nat.sub_self, List.getElem?_cons_zero, List.getElem?_eq_none (Nat.le_refl _)]; rfl
    rw [this]
    rfl
  | x :: xs, pre, acc => by
    rw [List.length_cons, compRun]
    have : Src.item (.enum (.stat (pre ++ x :: xs))) pre.length = M.pure (some (.two (.int pre.length) x)) := by simp only [Src.item, Src.one, List.append_nil, List.getElem?_append_right (Nat.le_refl _), Nat.sub_self, List.getElem?_cons_zero, List.getElem?_eq_none (Nat.le_refl _)]; rfl
    rw [this]
    have e := fun acc => comp_enum_aux (turn := turn) xs (pre ++ [x]) acc
    simp only [List.append_assoc, List.cons_append, List.nil_append, List.length_append, List.length_cons, List.length_nil] at e
    show N.bind (noErr (turn (.two (.int pre.length) x))) _ = _
    rw [compLE]
    refine nbind_congr fun y => ?_
    cases y with
    | none => exact e acc
    | some v => exact nbind_congr fun _ => e (acc ++ [v])
theorem comp_enum {xs : List D} {turn : Itm → N (Option D)} {W : Nat} {acc : List D} : compRun (.enum (.stat xs)) turn (Src.fuel W (.enum (.stat xs))) 0 acc = compLE (fun i x => turn (.two (.int i) x)) 0 xs acc := comp_enum_aux xs [] acc
/-- each turn is known: what it gathers -/
theorem compL_of {turn : D → N (Option D)} {g : D → Option D} : ∀ {xs acc : List D} {st : Sto} {P : List D → Sto → Prop} {E : Ex → Sto → Prop}, (∀ x ∈ xs, Run (turn x) st (fun y s => y = g x ∧ s = st) no) → acc.length + xs.length ≤ sizeLine → P (acc ++ xs.filterMap g) st → Run (compL turn xs acc) st P E
  | [], acc, st, P, E, _, _, p => by
    rw [compL, run_pure]
    simpa using p
  | x :: xs, acc, st, P, E, h, hl, p => by
    rw [compL, run_bind, run_noErr]
    refine (h x List.mem_cons_self).imp fun y s q => ?_
    obtain ⟨rfl, rfl⟩ := q
    have h2 : ∀ z ∈ xs, Run (turn z) s (fun y s' => y = g z ∧ s' = s) no := fun z hz => h z (List.mem_cons_of_mem _ hz)
    rw [List.length_cons] at hl
    rw [List.filterMap_cons] at p
    cases e : g x with
    | none =>
      rw [e] at p
      exact compL_of h2 (by omega) p
    | some v =>
      rw [e] at p
      simp only [run_bind, run_up, runM_guard, decide_eq_true_eq]
      refine ⟨by omega, compL_of h2 (by rw [List.length_append]; simp only [List.length_cons, List.length_nil]; omega) (by rw [List.append_assoc]; exact p)⟩
theorem compL_map {turn : D → N (Option D)} {g : D → D} {xs : List D} {st : Sto} {P : List D → Sto → Prop} {E : Ex → Sto → Prop} (h : ∀ x ∈ xs, Run (turn x) st (fun y s => y = some (g x) ∧ s = st) no) (hl : xs.length ≤ sizeLine) (p : P (xs.map g) st) : Run (compL turn xs []) st P E :=
  compL_of (g := fun x => some (g x)) h (by simpa using hl) (by simpa [List.filterMap_eq_map] using p)
/-- what holds of the store all along -/
theorem compL_inv {turn : D → N (Option D)} (I : Nat → List D → Sto → Prop) : ∀ {xs : List D} {i : Nat} {acc : List D} {st : Sto} {P : List D → Sto → Prop} {E : Ex → Sto → Prop}, (∀ j x acc s, xs[j]? = some x → I (i + j) acc s → Run (turn x) s (fun y s' => match y with
      | none => I (i + j + 1) acc s'
      | some v => acc.length < sizeLine ∧ I (i + j + 1) (acc ++ [v]) s') no) → I i acc st → (∀ acc s, I (i + xs.length) acc s → P acc s) → Run (compL turn xs acc) st P E
  | [], i, acc, st, P, E, _, h, p => by
    rw [compL, run_pure]
    exact p acc st h
  | x :: xs, i, acc, st, P, E, step, h, p => by
    rw [compL, run_bind, run_noErr]
    have step' : ∀ j y acc s, xs[j]? = some y → I (i + 1 + j) acc s → Run (turn y) s (fun y s' => match y with
      | none => I (i + 1 + j + 1) acc s'
      | some v => acc.length < sizeLine ∧ I (i + 1 + j + 1) (acc ++ [v]) s') no := fun j y acc s e hI => by
      have := step (j + 1) y acc s (by simpa using e) (by rw [show i + (j + 1) = i + 1 + j by omega]; exact hI)
      rw [show i + (j + 1) = i + 1 + j by omega] at this
      exact this
    have p' : ∀ acc s, I (i + 1 + xs.length) acc s → P acc s := fun acc s q => p acc s (by rw [List.length_cons, show i + (xs.length + 1) = i + 1 + xs.length by omega]; exact q)
    refine (step 0 x acc st rfl h).imp fun y s q => ?_
    cases y with
    | none => exact compL_inv I step' q p'
    | some v =>
      simp only [run_bind, run_up, runM_guard, decide_eq_true_eq]
      exact ⟨q.1, compL_inv I step' q.2 p'⟩
theorem forL_inv {turn : D → Env → N (Fl × Env)} (I : Nat → Env → Sto → Prop) {P : Fl × Env → Sto → Prop} {E : Ex → Sto → Prop} : ∀ {xs : List D} {i : Nat} {env : Env} {st : Sto}, (∀ j x env s, xs[j]? = some x → I (i + j) env s → Run (turn x env) s (fun r s' => match r.1 with
      | .next => I (i + j + 1) r.2 s'
      | .cont => I (i + j + 1) r.2 s'
      | .brk => P (.next, r.2) s'
      | f => P (f, r.2) s') E) → I i env st → (∀ env s, I (i + xs.length) env s → P (.next, env) s) → Run (forL turn xs env) st P E
  | [], i, env, st, _, h, p => by
    rw [forL, run_pure]
    exact p env st h
  | x :: xs, i, env, st, step, h, p => by
    rw [forL, run_bind]
    have step' : ∀ j y env s, xs[j]? = some y → I (i + 1 + j) env s → Run (turn y env) s (fun r s' => match r.1 with
      | .next => I (i + 1 + j + 1) r.2 s'
      | .cont => I (i + 1 + j + 1) r.2 s'
      | .brk => P (.next, r.2) s'
      | f => P (f, r.2) s') E := fun j y env s e hI => by
      have := step (j + 1) y env s (by simpa using e) (by rw [show i + (j + 1) = i + 1 + j by omega]; exact hI)
      rw [show i + (j + 1) = i + 1 + j by omega] at this
      exact this
    have p' : ∀ env s, I (i + 1 + xs.length) env s → P (.next, env) s := fun env s q => p env s (by rw [List.length_cons, show i + (xs.length + 1) = i + 1 + xs.length by omega]; exact q)
    refine (step 0 x env st rfl h).mono (fun r s q => ?_) fun _ _ z => z
    obtain ⟨fl, env'⟩ := r
    cases fl with
    | next => exact forL_inv I step' q p'
    | cont => exact forL_inv I step' q p'
    | brk => exact q
    | ret d => exact q
    | exn x => exact q
/-- from the start -/
theorem forL_run {turn : D → Env → N (Fl × Env)} (I : Nat → Env → Sto → Prop) {P : Fl × Env → Sto → Prop} {E : Ex → Sto → Prop} {xs : List D} {env : Env} {st : Sto} (h : I 0 env st) (step : ∀ j x env s, xs[j]? = some x → I j env s → Run (turn x env) s (fun r s' => match r.1 with
      | .next => I (j + 1) r.2 s'
      | .cont => I (j + 1) r.2 s'
      | .brk => P (.next, r.2) s'
      | f => P (f, r.2) s') E) (fin : ∀ env s, I xs.length env s → P (.next, env) s) : Run (forL turn xs env) st P E :=
  forL_inv I (i := 0) (fun j x env s e hI => by rw [Nat.zero_add] at hI ⊢; exact step j x env s e hI) h (fun env s q => by rw [Nat.zero_add] at q; exact fin env s q)
/-! ### the equations by which a run is unfolded -/
section
variable {Φ : Str → List D → N D} {W : Nat} {env : Env}
end
end RV

/-! R19: the rules of the operations; the draws that all laws share. -/
namespace RV
open PySem
section
variable {st : Sto} {P : D → Sto → Prop} {PB : Bool → Sto → Prop}
theorem q_add_int {i j : Int} : RunM (add (.int i) (.int j)) st P = P (.int (i + j)) st := (rfl)
theorem q_add_str {a b : Str} : RunM (add (.str a) (.str b)) st P = (a.length + b.length ≤ sizeLine ∧ P (.str (a ++ b)) st) := by unfold add; simp
theorem q_add_tup {xs ys : List D} : RunM (add (.tup xs) (.tup ys)) st P = (xs.length + ys.length ≤ sizeLine ∧ P (.tup (xs ++ ys)) st) := by unfold add; simp
theorem q_add_rr {a b : Nat} : RunM (add (.ref a) (.ref b)) st P = RunM (getL a) st fun xs s => RunM (getL b) s fun ys s => xs.length + ys.length ≤ sizeLine ∧ P (.ref s.length) (s ++ [.lst (xs ++ ys)]) := by simp only [add, lsOf, runM_bind, runM_pure, runM_guard, decide_eq_true_eq, runM_alloc]
theorem q_add_ff {a b : List D} : RunM (add (.fl a) (.fl b)) st P = (a.length + b.length ≤ sizeLine ∧ P (.ref st.length) (st ++ [.lst (a ++ b)])) := by simp only [add, lsOf, runM_bind, runM_pure, runM_guard, decide_eq_true_eq, runM_alloc]
theorem q_add_rf {a : Nat} {b : List D} : RunM (add (.ref a) (.fl b)) st P = RunM (getL a) st fun xs s => xs.length + b.length ≤ sizeLine ∧ P (.ref s.length) (s ++ [.lst (xs ++ b)]) := by simp only [add, lsOf, runM_bind, runM_pure, runM_guard, decide_eq_true_eq, runM_alloc]
theorem q_add_fr {a : List D} {b : Nat} : RunM (add (.fl a) (.ref b)) st P = RunM (getL b) st fun xs s => a.length + xs.length ≤ sizeLine ∧ P (.ref s.length) (s ++ [.lst (a ++ xs)]) := by simp only [add, lsOf, runM_bind, runM_pure, runM_guard, decide_eq_true_eq, runM_alloc]
theorem q_sub {i j : Int} : RunM (sub (.int i) (.int j)) st P = P (.int (i - j)) st := (rfl)
theorem q_mul {i j : Int} : RunM (mul (.int i) (.int j)) st P = ((inBig i || inBig j) = true ∧ P (.int (i * j)) st) := by unfold mul; simp
theorem q_mul_ref {a : Nat} {k : Int} : RunM (mul (.ref a) (.int k)) st P = RunM (getL a) st fun xs s => -(2 ^ 63) ≤ k ∧ k < 2 ^ 63 ∧ xs.length * k.toNat ≤ sizeLine ∧ P (.ref s.length) (s ++ [.lst (repD xs k)]) := by simp only [mul, lsOf, runM_bind, runM_pure, runM_guard, Bool.and_eq_true, decide_eq_true_eq, runM_alloc, and_assoc]
theorem q_mul_fl {a : List D} {k : Int} : RunM (mul (.fl a) (.int k)) st P = (-(2 ^ 63) ≤ k ∧ k < 2 ^ 63 ∧ a.length * k.toNat ≤ sizeLine ∧ P (.ref st.length) (st ++ [.lst (repD a k)])) := by simp only [mul, lsOf, runM_bind, runM_pure, runM_guard, Bool.and_eq_true, decide_eq_true_eq, runM_alloc, and_assoc]
theorem q_mul_tup {a : List D} {k : Int} : RunM (mul (.tup a) (.int k)) st P = (2 ≤ k ∧ k ≤ 4000 ∧ a.length ≤ 1000 ∧ a.isEmpty = false ∧ P (.tup (repD a k)) st) := by simp only [mul, runM_bind, runM_pure, runM_guard, Bool.and_eq_true, decide_eq_true_eq, Bool.not_eq_true', and_assoc]
theorem q_fdiv {i j : Int} : RunM (fdiv (.int i) (.int j)) st P = ((decide (j ≠ 0) && decide (j.natAbs < 1073741824)) = true ∧ P (.int (i.fdiv j)) st) := by unfold fdiv; simp
theorem q_fdivW {i j : Int} : RunM (fdivW (.int i) (.int j)) st P = ((decide (0 < j) && decide (j.natAbs.log2 < 9000)) = true ∧ P (.int (i / j)) st) := by unfold fdivW; simp
theorem q_le_str {a b : Str} {PB : Bool → Sto → Prop} : RunM (leD (.str a) (.str b)) st PB = PB (!decide (b.cps.toList < a.cps.toList)) st := (rfl)
theorem q_mod {i j : Int} : RunM (mod (.int i) (.int j)) st P = (j ≠ 0 ∧ P (.int (i.fmod j)) st) := by unfold mod; simp
theorem q_pow {i j : Int} : RunM (RV.pow (.int i) (.int j)) st P = ((decide (0 ≤ j) && decide (j ≤ 1000000) && decide (i.natAbs < 2 ^ 64)) = true ∧ P (.int (i ^ j.toNat)) st) := by unfold RV.pow; simp
theorem q_ix_tup {xs : List D} {i : Int} : RunM (index (.tup xs) (.int i)) st P = RunM (ofO ((L2.ixN xs.length i).bind fun j => xs[j]?)) st P := (rfl)
theorem q_ix_fl {xs : List D} {i : Int} : RunM (index (.fl xs) (.int i)) st P = RunM (ofO ((L2.ixN xs.length i).bind fun j => xs[j]?)) st P := (rfl)
theorem q_ix_ref {n : Nat} {i : Int} : RunM (index (.ref n) (.int i)) st P = RunM (getL n) st fun xs s => RunM (ofO ((L2.ixN xs.length i).bind fun j => xs[j]?)) s P := by unfold index; simp
theorem q_set {n : Nat} {i : Int} {v : D} {Q : Unit → Sto → Prop} : RunM (setIx (.ref n) (.int i) v) st Q = RunM (getM n) st fun xs s => RunM (ofO (L2.ixN xs.length i)) s fun j s => below n v = true ∧ Q () (s.set n (.lst (xs.set j v))) := by unfold setIx; simp
theorem q_eq_int {i j : Int} : RunM (eqD (.int i) (.int j)) st PB = PB (i == j) st := (rfl)
theorem q_eq_str {i j : Str} : RunM (eqD (.str i) (.str j)) st PB = PB (i == j) st := (rfl)
theorem q_eq_bl {i j : Bool} : RunM (eqD (.bl i) (.bl j)) st PB = PB (i == j) st := (rfl)
theorem q_ne {x y : D} : RunM (neD x y) st PB = RunM (eqD x y) st fun b s => PB (!b) s := by unfold neD; simp
theorem q_lt {i j : Int} : RunM (ltD (.int i) (.int j)) st PB = PB (decide (i < j)) st := (rfl)
theorem q_le {i j : Int} : RunM (leD (.int i) (.int j)) st PB = PB (decide (i ≤ j)) st := (rfl)
theorem q_gt {i j : Int} : RunM (gtD (.int i) (.int j)) st PB = PB (decide (j < i)) st := (rfl)
theorem q_ge {i j : Int} : RunM (geD (.int i) (.int j)) st PB = PB (decide (j ≤ i)) st := (rfl)
theorem q_is {x : D} : RunM (isD x .non) st PB = PB (isNon x) st := by cases x <;> rfl
theorem q_isB {a b : Bool} : RunM (isD (.bl a) (.bl b)) st PB = PB (a == b) st := rfl
theorem q_isNotB {a b : Bool} : RunM (isNotD (.bl a) (.bl b)) st PB = PB (!(a == b)) st := rfl
theorem q_isNot {x : D} : RunM (isNotD x .non) st PB = PB (!isNon x) st := by cases x <;> rfl
theorem q_notIn {x y : D} : RunM (notInD x y) st PB = RunM (isIn x y) st fun b s => PB (!b) s := by unfold notInD; simp
theorem t_bl {b : Bool} : RunM (truth (.bl b)) st PB = PB b st := (rfl)
theorem t_int {i : Int} : RunM (truth (.int i)) st PB = PB (i != 0) st := (rfl)
theorem t_tup {xs : List D} : RunM (truth (.tup xs)) st PB = PB (!xs.isEmpty) st := (rfl)
theorem t_non : RunM (truth .non) st PB = PB false st := (rfl)
theorem ixN_0 {n : Nat} : L2.ixN (n + 1) 0 = some 0 := by unfold L2.ixN; rw [if_pos (by omega), if_pos (by omega)]; rfl
theorem ixN_1 {n : Nat} : L2.ixN (n + 1 + 1) 1 = some 1 := by unfold L2.ixN; rw [if_pos (by omega), if_pos (by omega)]; rfl
theorem ixN_2 {n : Nat} : L2.ixN (n + 1 + 1 + 1) 2 = some 2 := by unfold L2.ixN; rw [if_pos (by omega), if_pos (by omega)]; rfl
theorem ixN_3 {n : Nat} : L2.ixN (n + 1 + 1 + 1 + 1) 3 = some 3 := by unfold L2.ixN; rw [if_pos (by omega), if_pos (by omega)]; rfl
theorem ixN_nat {n i : Nat} (h : i < n) : L2.ixN n (i : Int) = some i := by unfold L2.ixN; rw [if_pos (by omega), if_pos (by omega), Int.toNat_natCast]
theorem ixN_int {n : Nat} {i : Int} (h0 : 0 ≤ i) (h : i < n) : L2.ixN n i = some i.toNat := by unfold L2.ixN; rw [if_pos h0, if_pos h]
theorem q_divmod {i j : Int} : RunM (bDivmod [.int i, .int j]) st P = ((decide (0 < j) && !Builtin.divisionGoesByPylong i j) = true ∧ P (.tup [.int (i / j), .int (i % j)]) st) := by unfold bDivmod; simp
theorem q_abs {i : Int} : RunM (bAbs [.int i]) st P = P (.int (if i < 0 then -i else i)) st := (rfl)
theorem q_max2 {i j : Int} : RunM (bMax2 [.int i, .int j]) st P = P (.int (if j > i then j else i)) st := (rfl)
theorem q_min2 {i j : Int} : RunM (bMin2 [.int i, .int j]) st P = P (.int (if j < i then j else i)) st := (rfl)
theorem q_len_tup {xs : List D} : RunM (bLen [.tup xs]) st P = P (.int xs.length) st := by unfold bLen; simp [seqOf]
theorem q_len_fl {xs : List D} : RunM (bLen [.fl xs]) st P = P (.int xs.length) st := by unfold bLen; simp [seqOf]
theorem q_len_ref {n : Nat} : RunM (bLen [.ref n]) st P = RunM (getL n) st fun xs s => P (.int xs.length) s := by unfold bLen; simp [seqOf]
theorem q_len_str {z : Str} : RunM (bLen [.str z]) st P = (z.length ≤ sizeLine ∧ P (.int z.length) st) := by unfold bLen; simp
theorem q_seq_tup {xs : List D} {Q : List D → Sto → Prop} : RunM (seqOf (.tup xs)) st Q = Q xs st := (rfl)
theorem q_seq_fl {xs : List D} {Q : List D → Sto → Prop} : RunM (seqOf (.fl xs)) st Q = Q xs st := (rfl)
theorem q_seq_ref {n : Nat} {Q : List D → Sto → Prop} : RunM (seqOf (.ref n)) st Q = RunM (getL n) st Q := (rfl)
theorem q_src_tup {xs : List D} {Q : Src → Sto → Prop} : RunM (srcOf (.tup xs)) st Q = Q (.stat xs) st := (rfl)
theorem q_src_fl {xs : List D} {Q : Src → Sto → Prop} : RunM (srcOf (.fl xs)) st Q = Q (.stat xs) st := (rfl)
theorem q_src_ref {n : Nat} {Q : Src → Sto → Prop} : RunM (srcOf (.ref n)) st Q = RunM (getL n) st fun _ s => Q (.live n) s := by simp only [srcOf, runM_bind, runM_pure]
theorem q_part_i {i : Int} {Q : Option Int → Sto → Prop} : RunM (part (some (.int i))) st Q = Q (some i) st := (rfl)
theorem q_part_n {Q : Option Int → Sto → Prop} : RunM (part none) st Q = Q none st := (rfl)
theorem q_src_str {z : Str} {Q : Src → Sto → Prop} : RunM (srcOf (.str z)) st Q = Q (.stat (z.cps.toList.map fun c => .str ⟨#[c]⟩)) st := (rfl)
theorem q_srcE_tup {xs : List D} {Q : Src → Sto → Prop} : RunM (srcE (.tup xs)) st Q = Q (.stat xs) st := (rfl)
theorem q_srcE_str {z : Str} {Q : Src → Sto → Prop} : RunM (srcE (.str z)) st Q = Q (.stat (z.cps.toList.map fun c => .str ⟨#[c]⟩)) st := (rfl)
theorem q_srcE_fl {xs : List D} {Q : Src → Sto → Prop} : RunM (srcE (.fl xs)) st Q = Q (.stat xs) st := (rfl)
theorem strsOf_mapS : ∀ l : List Str, strsOf (l.map D.str) = some l
  | [] => rfl
  | x :: r => by rw [List.map_cons, strsOf, strsOf_mapS r]; rfl
theorem intsOf_mapI : ∀ l : List Int, intsOf (l.map D.int) = some l
  | [] => rfl
  | x :: r => by rw [List.map_cons, intsOf, intsOf_mapI r]; rfl
theorem any_strs {x : Str} : ∀ l : List Str, ((l.map D.str).any fun z => eqF z (.str x)) = l.contains x
  | [] => rfl
  | y :: r => by
    rw [List.map_cons, List.any_cons, any_strs r, List.contains_cons]
    congr 1
    show (y == x) = (x == y)
    exact BEq.comm
theorem flat_strs : ∀ l : List Str, (l.map D.str).all flat = true
  | [] => rfl
  | y :: r => by rw [List.map_cons, List.all_cons, flat_strs r]; rfl
theorem in_tupS {x : Str} {l : List Str} : RunM (isIn (.str x) (.tup (l.map .str))) st PB = PB (l.contains x) st := by
  simp only [isIn, seqOf, runM_bind, runM_pure, runM_ite, flat, flat_strs, any_strs, Bool.and_self, if_true]
theorem in_flS {x : Str} {l : List Str} : RunM (isIn (.str x) (.fl (l.map .str))) st PB = PB (l.contains x) st := by
  simp only [isIn, seqOf, runM_bind, runM_pure, runM_ite, flat, flat_strs, any_strs, Bool.and_self, if_true]
theorem q_sortedSetS {l : List Str} : RunM (bSortedSet [.tup (l.map .str)]) st P = (l.length ≤ 4000 ∧ P (.ref st.length) (st ++ [.lst ((sortS (dedS l)).map .str)])) := by simp only [bSortedSet, strsOf_mapS, runM_bind, runM_some, runM_guard, runM_alloc, decide_eq_true_eq]
theorem q_sorted_tupS {l : List Str} : RunM (bSorted [.tup (l.map .str)]) st P = (l.length ≤ 100000 ∧ P (.ref st.length) (st ++ [.lst ((sortS l).map .str)])) := by simp only [bSorted, seqOf, strsOf_mapS, runM_bind, runM_pure, runM_guard, runM_alloc, decide_eq_true_eq]
theorem q_sorted_flS {l : List Str} : RunM (bSorted [.fl (l.map .str)]) st P = (l.length ≤ 100000 ∧ P (.ref st.length) (st ++ [.lst ((sortS l).map .str)])) := by simp only [bSorted, seqOf, strsOf_mapS, runM_bind, runM_pure, runM_guard, runM_alloc, decide_eq_true_eq]
theorem q_max_flI {l : List Int} : RunM (bMax1 [.fl (l.map .int)]) st P = RunM (ofO (maxI l)) st fun m s => P (.int m) s := by simp only [bMax1, lsOf, intsOf_mapI, runM_bind, runM_some, runM_pure]
theorem q_min_flI {l : List Int} : RunM (bMin1 [.fl (l.map .int)]) st P = RunM (ofO (minI l)) st fun m s => P (.int m) s := by simp only [bMin1, lsOf, intsOf_mapI, runM_bind, runM_some, runM_pure]
theorem q_sum_flI {l : List Int} : RunM (bSum [.fl (l.map .int)]) st P = P (.int l.sum) st := by simp only [bSum, lsOf, intsOf_mapI, runM_bind, runM_some, runM_pure]
theorem q_rev_tup {xs : List D} : RunM (turned (.tup xs)) st P = P (.tup xs.reverse) st := (rfl)
theorem q_rev_fl {xs : List D} : RunM (turned (.fl xs)) st P = P (.ref st.length) (st ++ [.lst xs.reverse]) := (rfl)
theorem q_int_bl {b : Bool} : RunM (bInt1 [.bl b]) st P = P (.int (if b then 1 else 0)) st := (rfl)
theorem q_int_int {i : Int} : RunM (bInt1 [.int i]) st P = P (.int i) st := (rfl)
theorem q_bool_bl {b : Bool} : RunM (bBool1 [.bl b]) st P = P (.bl b) st := (rfl)
theorem q_ix_str {z : Str} {i : Int} : RunM (index (.str z) (.int i)) st P = (z.length ≤ sizeLine ∧ RunM (ofO ((L2.ixN z.cps.toList.length i).bind fun j => z.cps.toList[j]?)) st fun c s => P (.str ⟨#[c]⟩) s) := by simp only [index, runM_bind, runM_guard, runM_pure, decide_eq_true_eq]
theorem q_slc_str {z : Str} {lo hi : Option Int} : RunM (slice (.str z) lo hi) st P = (z.length ≤ sizeLine ∧ P (.str (L2.cutS z lo hi)) st) := by simp only [slice, runM_bind, runM_guard, runM_pure, decide_eq_true_eq]
theorem q_join_flS {z : Str} {l : List Str} : RunM (mJoin (.str z) [.fl (l.map .str)]) st P = ((l.map (·.length)).sum + l.length * z.length ≤ 16777216 ∧ P (.str (Txt.join z l)) st) := by simp only [mJoin, seqOf, strsOf_mapS, runM_bind, runM_pure, runM_some, runM_guard, decide_eq_true_eq]
theorem q_join_tupS {z : Str} {l : List Str} : RunM (mJoin (.str z) [.tup (l.map .str)]) st P = ((l.map (·.length)).sum + l.length * z.length ≤ 16777216 ∧ P (.str (Txt.join z l)) st) := by simp only [mJoin, seqOf, strsOf_mapS, runM_bind, runM_pure, runM_some, runM_guard, decide_eq_true_eq]
theorem q_split {a b : Str} : RunM (mSplit (.str a) [.str b]) st P = ((b.length == 0) = false ∧ a.length + 2 ≤ sizeLine ∧ P (.ref st.length) (st ++ [.lst ((Txt.split a b).map .str)])) := by simp only [mSplit, runM_bind, runM_guard, runM_alloc, Bool.and_eq_true, decide_eq_true_eq, Bool.not_eq_true', and_assoc]
theorem q_tup1_str {a : Str} : RunM (bTup1 [.str a]) st P = (a.cps.size ≤ sizeLine ∧ P (.tup (a.cps.toList.map fun c => .str ⟨#[c]⟩)) st) := by simp only [bTup1, runM_bind, runM_guard, runM_pure, decide_eq_true_eq]
theorem rc_upper {z : Str} {Q : Unit → Sto → Prop} : RunM (rcv .upper (.str z)) st Q = Q () st := (rfl)
theorem m_upper {z : Str} : RunM (mUpper (.str z) []) st P = (z.length ≤ 5592405 ∧ P (.str (Txt.upper z)) st) := by simp only [mUpper, runM_bind, runM_guard, runM_pure, decide_eq_true_eq]
theorem q_mulX {i j : Int} : RunM (mulX (.int i) (.int j)) st P = (i.natAbs.log2 + j.natAbs.log2 < 1000000 ∧ P (.int (i * j)) st) := by simp only [mulX, runM_bind, runM_guard, runM_pure, decide_eq_true_eq]
theorem rc_split {z : Str} {Q : Unit → Sto → Prop} : RunM (rcv .split (.str z)) st Q = Q () st := (rfl)
theorem ty1 {d : D} : RunM (isTy .str d) st PB = RunM (tStr d) st PB := (rfl)
theorem ty2 {d : D} : RunM (isTy .int d) st PB = RunM (tInt d) st PB := (rfl)
theorem ty3 {d : D} : RunM (isTy .bool d) st PB = RunM (tBool d) st PB := (rfl)
theorem ty4 {d : D} : RunM (isTy .tuple d) st PB = RunM (tTuple d) st PB := (rfl)
theorem ty5 {d : D} : RunM (isTy .list d) st PB = RunM (tList d) st PB := (rfl)
theorem q_list1_fl {xs : List D} : RunM (bList1 [.fl xs]) st P = P (.ref st.length) (st ++ [.lst xs]) := (rfl)
theorem q_tup1_fl {xs : List D} : RunM (bTup1 [.fl xs]) st P = P (.tup xs) st := (rfl)
theorem getM_st {n : Nat} {Q : List D → Sto → Prop} : RunM (getM n) st Q = ∃ xs, st[n]? = some (.lst xs) ∧ Q xs st := by
  unfold RunM getM
  cases e : st[n]? with
  | none => simp
  | some o => cases o <;> simp
theorem getL_st {n : Nat} {Q : List D → Sto → Prop} : RunM (getL n) st Q = ∃ xs, st[n]? = some (.lst xs) ∧ Q xs st := by
  unfold RunM getL itemsAt
  cases e : st[n]? with
  | none => simp
  | some o => cases o <;> simp
theorem m_append {n : Nat} {x : D} : RunM (mAppend (.ref n) [x]) st P = RunM (getM n) st fun xs s => xs.length < sizeLine ∧ below n x = true ∧ P .non (s.set n (.lst (xs ++ [x]))) := by simp only [mAppend, runM_bind, runM_pure, runM_guard, Bool.and_eq_true, decide_eq_true_eq, runM_put, and_assoc]
theorem m_extend {n : Nat} {y : D} : RunM (mExtend (.ref n) [y]) st P = RunM (getM n) st fun xs s => RunM (lsOf y) s fun ys s => xs.length + ys.length ≤ sizeLine ∧ belowL n ys = true ∧ P .non (s.set n (.lst (xs ++ ys))) := by simp only [mExtend, runM_bind, runM_pure, runM_guard, Bool.and_eq_true, decide_eq_true_eq, runM_put, and_assoc]
theorem l_fl {xs : List D} {Q : List D → Sto → Prop} : RunM (lsOf (.fl xs)) st Q = Q xs st := (rfl)
theorem l_ref {n : Nat} {Q : List D → Sto → Prop} : RunM (lsOf (.ref n)) st Q = RunM (getL n) st Q := (rfl)
theorem rc_append {n : Nat} {Q : Unit → Sto → Prop} : RunM (rcv .append (.ref n)) st Q = RunM (getM n) st fun _ s => Q () s := by simp only [rcv, runM_bind, runM_pure]
theorem rc_extend {n : Nat} {Q : Unit → Sto → Prop} : RunM (rcv .extend (.ref n)) st Q = RunM (getM n) st fun _ s => Q () s := by simp only [rcv, runM_bind, runM_pure]
theorem rc_pop1 {n : Nat} {Q : Unit → Sto → Prop} : RunM (rcv .pop1 (.ref n)) st Q = RunM (getM n) st fun _ s => Q () s := by simp only [rcv, runM_bind, runM_pure]
theorem rc_pop0 {n : Nat} {Q : Unit → Sto → Prop} : RunM (rcv .pop0 (.ref n)) st Q = RunM (getM n) st fun _ s => Q () s := by simp only [rcv, runM_bind, runM_pure]
theorem rc_index {xs : List D} {Q : Unit → Sto → Prop} : RunM (rcv .index (.tup xs)) st Q = Q () st := (rfl)
theorem rc_join {z : Str} {Q : Unit → Sto → Prop} : RunM (rcv .join (.str z)) st Q = Q () st := (rfl)
theorem size_ok {n : Nat} (h : n ≤ 1000000) : (n ≤ sizeLine) = True := eq_true (Nat.le_trans h (by decide))
theorem size_lt {n : Nat} (h : n ≤ 1000000) : (n < sizeLine) = True := eq_true (Nat.lt_of_le_of_lt h (by decide))
theorem b_int {n : Nat} {i : Int} : below n (.int i) = true := (rfl)
theorem b_bl {n : Nat} {i : Bool} : below n (.bl i) = true := (rfl)
theorem b_str {n : Nat} {i : Str} : below n (.str i) = true := (rfl)
theorem b_non {n : Nat} : below n .non = true := (rfl)
theorem q_list1_tup {xs : List D} : RunM (bList1 [.tup xs]) st P = P (.ref st.length) (st ++ [.lst xs]) := (rfl)
theorem q_list1_ref {n : Nat} : RunM (bList1 [.ref n]) st P = RunM (getL n) st fun xs s => P (.ref s.length) (s ++ [.lst xs]) := by simp only [bList1, seqOf, runM_bind, runM_alloc]
theorem q_tup1_tup {xs : List D} : RunM (bTup1 [.tup xs]) st P = P (.tup xs) st := (rfl)
theorem q_tup1_ref {n : Nat} : RunM (bTup1 [.ref n]) st P = RunM (getL n) st fun xs s => P (.tup xs) s := by simp only [bTup1, lsOf, runM_bind, runM_pure]
theorem q_slc_tup {xs : List D} {lo hi : Option Int} : RunM (slice (.tup xs) lo hi) st P = P (.tup (cutD xs lo hi)) st := (rfl)
theorem q_slc_fl {xs : List D} {lo hi : Option Int} : RunM (slice (.fl xs) lo hi) st P = P (.ref st.length) (st ++ [.lst (cutD xs lo hi)]) := (rfl)
theorem q_slc_ref {n : Nat} {lo hi : Option Int} : RunM (slice (.ref n) lo hi) st P = RunM (getM n) st fun xs s => P (.ref s.length) (s ++ [.lst (cutD xs lo hi)]) := by simp only [slice, runM_bind, runM_alloc]
end
theorem few_pylong {i j : Int} (h0 : 0 < j) (h : j < 2 ^ 200) : Builtin.divisionGoesByPylong i j = false := by
  unfold Builtin.divisionGoesByPylong
  have h1 : j.natAbs.log2 < 200 := by
    by_cases z : j.natAbs = 0
    · omega
    · rw [Nat.log2_lt z]; omega
  have h2 : (if (j == 0) = true then 0 else j.natAbs.log2 / 30 + 1) ≤ 300 := by split <;> omega
  have : ¬ ((if (j == 0) = true then 0 else j.natAbs.log2 / 30 + 1) > 300) := by omega
  simp only [decide_eq_false this, Bool.false_and]
theorem pl_mk {a b c : Int} (h1 : 0 ≤ a) (h2 : a < 2147483423) (h3 : 0 ≤ b) : Pl [.int a, .int b, .int c] := ⟨a, b, c, rfl, h1, h2, h3⟩
theorem Fin.mk' {P : D → Sto → Prop} {st : Sto} {d v : D} {ys : List D} {s2 : Sto} (h : Pl ys) (e : fz (.lst ys :: s2) 1 d = some v) (p : P v (.lst ys :: st)) : Fin P st d (.lst ys :: s2) := ⟨ys, s2, v, rfl, h, e, p⟩
def cDraw : Ss := (.cons (.asg (.sub (.var 0) (.cst (.int 2))) (.bin .add (.idx (.var 0) (.cst (.int 2))) (.cst (.int 1)))) (.cons (.asg (.nm 2) (.idx (.var 0) (.cst (.int 0)))) (.cons (.asg (.sub (.var 0) (.cst (.int 0))) (.bin .mod (.bin .add (.bin .add (.bin .mul (.var 2) (.bin .add (.bin .mod (.var 2) (.cst (.int 45007))) (.cst (.int 30013)))) (.bin .mul (.cst (.int 70009)) (.idx (.var 0) (.cst (.int 2))))) (.cst (.int 11))) (.cst (.int 2147483423)))) (.cons (.ite (.cmp .gt (.idx (.var 0) (.cst (.int 1))) (.cst (.int 0))) (.cons (.asg (.tp (.cons (.sub (.var 0) (.cst (.int 1))) (.cons (.nm 3) .nil))) (.bif .divmod (.cons (.idx (.var 0) (.cst (.int 1))) (.cons (.var 1) .nil)))) (.cons (.ret (.var 3)) .nil)) .nil) (.cons (.ret (.bin .mod (.bin .fdiv (.idx (.var 0) (.cst (.int 0))) (.cst (.int 64))) (.var 1))) .nil)))))
def cCell : Ss := (.cons (.ite (.cmp .lt (.var 1) (.bif .len (.cons (.var 0) .nil))) (.cons (.ret (.idx (.var 0) (.var 1))) .nil) .nil) (.cons (.asg (.nm 2) (.bin .mod (.bin .mul (.cst (.int 60037)) (.bin .add (.bin .add (.bin .mul (.var 1) (.var 1)) (.bin .mul (.cst (.int 11)) (.var 1))) (.cst (.int 5)))) (.cst (.int 2147483423)))) (.cons (.for_ (.nm 3) (.seq (.frz (.slc (.var 0) .no (.so (.cst (.int 3)))))) (.cons (.asg (.nm 2) (.bin .mod (.bin .add (.bin .mul (.var 2) (.cst (.int 40027))) (.var 3)) (.cst (.int 2147483423)))) .nil)) (.cons (.ret (.var 2)) .nil))))
def cPool : Ss := (.cons (.asg (.nm 1) (.ite (.or (.cmp .lt (.var 0) (.cst (.int 0))) (.cmp .ge (.var 0) (.bin .pow (.cst (.int 10)) (.cst (.int 18))))) (.bif .abs (.cons (.var 0) .nil)) (.cst (.int 0)))) (.cons (.ret (.lst (.cons (.bin .mod (.var 0) (.cst (.int 2147483423))) (.cons (.var 1) (.cons (.cst (.int 0)) .nil))))) .nil))
/-- the three helpers that all laws share -/
structure HasDraw (T : Tab) : Prop where
  draw : T.lookup ("_law_draw" : Str) = some ⟨2, 4, true, false, cDraw⟩
  cell : T.lookup ("_law_cell" : Str) = some ⟨2, 4, false, false, cCell⟩
  pool : T.lookup ("_law_pool" : Str) = some ⟨1, 2, false, true, cPool⟩
section
variable {T : Tab} {W m : Nat} {xs : List D} {st : Sto} {P : D → Sto → Prop} {E : Ex → Sto → Prop}
theorem draw_go (D0 : HasDraw T) {many : Int} (hx : Pl xs) (h1 : 1 ≤ many) (h2 : many < 2 ^ 200) (q : ∀ (v : Int) (ys : List D), 0 ≤ v → v < many → Pl ys → P (.int v) (.lst ys :: st)) :
    Run (runF T W (m + 1) "_law_draw" [.ref 0, .int many]) (.lst xs :: st) P E := by
  refine go_pl D0.draw rfl rfl rfl hx rfl rfl ?_
  obtain ⟨a, b, c, rfl, ha, ha2, hb⟩ := hx
  have i1 : inBig a = true := by simp [inBig]; omega
  have i2 : inBig 70009 = true := by decide
  show Run (N.bind (runSs _ W cDraw [some (.ref 0), some (.int many), none, none]) fin) _ _ _
  unfold cDraw
  simp only [runSs, runS, runE, runEs, runG, runGs, runG2, runP, runI, runIf, runO, runB, runC, runBI, runMI, run_raise, up_true, noErr_pure, nb_pure, nb_bind, frz_app, rc_upper, m_upper, q_mulX, frz_ed, frz_ob, frzD_app, frzD_0, frzD_1, frzD_2, frzD_3, frzD_4, frzD_5, frzD_6, frzD_7, frzD_8, frzD_9, fz_ed, wipeE, List.filterMap_cons, List.filterMap_nil, run_bind, run_tr, run_up, run_noErr, run_pure, run_bad, run_ite, runM_pure, runM_bad, runM_bind, runM_guard, runM_alloc, runM_some, runM_none, runM_put, List.getElem?_cons_zero, List.getElem?_cons_succ, List.set_cons_zero, List.set_cons_succ, List.length_cons, List.length_nil, List.cons_append, List.nil_append, List.take_succ_cons, List.take_zero, Nat.reduceAdd, Nat.reduceLeDiff, Nat.reduceLT, Int.reduceLT, Int.reduceLE, Int.reduceNe, Int.reduceEq, ne_eq, not_false_eq_true, reduceCtorEq, Int.reduceToNat, Int.reducePow, Int.reduceNeg, Nat.reduceMul, Nat.reduceEqDiff, Nat.le_refl, Option.some.injEq, O.lst.injEq, exists_eq_left', exists_eq_left, run_frz, frz_int, frz_bl, frz_str, frz_tup, frz_fl, frz_non, frz_0, frz_1, frz_2, frz_3, frz_4, frz_5, frz_6, frz_7, Nat.zero_le, fz_int, fz_bl, fz_str, fz_non, getM_st, getL_st, m_append, m_extend, l_fl, l_ref, rc_append, rc_extend, rc_pop1, rc_pop0, rc_index, rc_join, size_ok, size_lt, b_int, b_bl, b_str, b_non, comp_stat, compA_stat, for_stat, comp_enum, for_enum, decide_eq_true_eq, Option.bind_some, Option.map_some, Option.map_none, fin_ret, fin_next, fin_exn, Gs.len, if_true, if_false, Bool.false_eq_true, Bool.true_eq_false, Bool.not_true, Bool.not_false, decide_true, decide_false, and_true, true_and, beq_self_eq_true, q_add_int, q_add_str, q_add_tup, q_add_rr, q_add_ff, q_add_rf, q_add_fr, q_sub, q_mul, q_mul_ref, q_mul_fl, q_mul_tup, q_fdiv, q_fdivW, q_le_str, q_mod, q_pow, q_ix_tup, q_ix_fl, q_ix_ref, q_set, q_eq_int, q_eq_str, q_eq_bl, q_ne, q_lt, q_le, q_gt, q_ge, q_is, q_isNot, q_isB, q_isNotB, q_notIn, t_bl, t_int, t_tup, t_non, ixN_0, ixN_1, ixN_2, ixN_3, q_divmod, q_abs, q_max2, q_min2, q_len_tup, q_len_fl, q_len_ref, q_len_str, q_seq_tup, q_seq_fl, q_seq_ref, q_src_tup, q_src_fl, q_src_ref, q_part_i, q_part_n, q_list1_tup, q_list1_fl, q_tup1_fl, q_list1_ref, q_tup1_tup, q_tup1_ref, q_slc_tup, q_slc_fl, q_slc_ref, q_src_str, q_srcE_tup, q_srcE_fl, q_srcE_str, in_tupS, in_flS, q_sortedSetS, q_sorted_tupS, q_sorted_flS, q_max_flI, q_min_flI, q_sum_flI, q_rev_tup, q_rev_fl, q_int_bl, q_int_int, q_bool_bl, q_ix_str, q_slc_str, q_join_flS, q_join_tupS, q_split, q_tup1_str, rc_split, ty1, ty2, ty3, ty4, ty5, tStr, tInt, tBool, tTuple, tList, i1, i2, Bool.true_or, ne_eq, few_pylong (Int.lt_of_lt_of_le (by decide) h1) h2]
  have m1 : (0 : Int) < many := by omega
  have m2 := Int.fmod_nonneg_of_pos ((a * (a.fmod 45007 + 30013) + 70009 * (c + 1) + 11)) (b := 2147483423) (by decide)
  have m3 := Int.fmod_lt_of_pos ((a * (a.fmod 45007 + 30013) + 70009 * (c + 1) + 11)) (b := 2147483423) (by decide)
  split
  · refine ⟨by simp [m1], ?_⟩
    exact Fin.mk' (pl_mk m2 m3 (Int.ediv_nonneg hb (by omega))) fz_int (q _ _ (Int.emod_nonneg _ (by omega)) (Int.emod_lt_of_pos _ m1) (pl_mk m2 m3 (Int.ediv_nonneg hb (by omega))))
  · refine ⟨by decide, by omega, ?_⟩
    exact Fin.mk' (pl_mk m2 m3 hb) fz_int (q _ _ (Int.fmod_nonneg_of_pos _ m1) (Int.fmod_lt_of_pos _ m1) (pl_mk m2 m3 hb))
theorem pool_go (D0 : HasDraw T) {i : Int} (q : ∀ ys : List D, Pl ys → P (.ref st.length) (st ++ [.lst ys])) : Run (runF T W (m + 1) "_law_pool" [.int i]) st P E := by
  refine go_raw D0.pool rfl rfl rfl rfl rfl ?_
  have m2 := Int.fmod_nonneg_of_pos i (b := 2147483423) (by decide)
  have m3 := Int.fmod_lt_of_pos i (b := 2147483423) (by decide)
  have fin2 : ∀ b : Int, 0 ≤ b → ∃ j ys, D.ref 0 = .ref j ∧ [O.lst [.int (i.fmod 2147483423), .int b, .int 0]][j]? = some (.lst ys) ∧ noRefL ys = true ∧ P (.ref st.length) (st ++ [.lst ys]) := fun b hb => ⟨0, _, rfl, rfl, rfl, q _ (pl_mk m2 m3 hb)⟩
  show Run (N.bind (runSs _ W cPool [some (.int i), none]) fin) _ _ _
  unfold cPool
  simp only [runSs, runS, runE, runEs, runG, runGs, runG2, runP, runI, runIf, runO, runB, runC, runBI, runMI, run_raise, up_true, noErr_pure, nb_pure, nb_bind, frz_app, rc_upper, m_upper, q_mulX, frz_ed, frz_ob, frzD_app, frzD_0, frzD_1, frzD_2, frzD_3, frzD_4, frzD_5, frzD_6, frzD_7, frzD_8, frzD_9, fz_ed, wipeE, List.filterMap_cons, List.filterMap_nil, run_bind, run_tr, run_up, run_noErr, run_pure, run_bad, run_ite, runM_pure, runM_bad, runM_bind, runM_guard, runM_alloc, runM_some, runM_none, runM_put, List.getElem?_cons_zero, List.getElem?_cons_succ, List.set_cons_zero, List.set_cons_succ, List.length_cons, List.length_nil, List.cons_append, List.nil_append, List.take_succ_cons, List.take_zero, Nat.reduceAdd, Nat.reduceLeDiff, Nat.reduceLT, Int.reduceLT, Int.reduceLE, Int.reduceNe, Int.reduceEq, ne_eq, not_false_eq_true, reduceCtorEq, Int.reduceToNat, Int.reducePow, Int.reduceNeg, Nat.reduceMul, Nat.reduceEqDiff, Nat.le_refl, Option.some.injEq, O.lst.injEq, exists_eq_left', exists_eq_left, run_frz, frz_int, frz_bl, frz_str, frz_tup, frz_fl, frz_non, frz_0, frz_1, frz_2, frz_3, frz_4, frz_5, frz_6, frz_7, Nat.zero_le, fz_int, fz_bl, fz_str, fz_non, getM_st, getL_st, m_append, m_extend, l_fl, l_ref, rc_append, rc_extend, rc_pop1, rc_pop0, rc_index, rc_join, size_ok, size_lt, b_int, b_bl, b_str, b_non, comp_stat, compA_stat, for_stat, comp_enum, for_enum, decide_eq_true_eq, Option.bind_some, Option.map_some, Option.map_none, fin_ret, fin_next, fin_exn, Gs.len, if_true, if_false, Bool.false_eq_true, Bool.true_eq_false, Bool.not_true, Bool.not_false, decide_true, decide_false, and_true, true_and, beq_self_eq_true, q_add_int, q_add_str, q_add_tup, q_add_rr, q_add_ff, q_add_rf, q_add_fr, q_sub, q_mul, q_mul_ref, q_mul_fl, q_mul_tup, q_fdiv, q_fdivW, q_le_str, q_mod, q_pow, q_ix_tup, q_ix_fl, q_ix_ref, q_set, q_eq_int, q_eq_str, q_eq_bl, q_ne, q_lt, q_le, q_gt, q_ge, q_is, q_isNot, q_isB, q_isNotB, q_notIn, t_bl, t_int, t_tup, t_non, ixN_0, ixN_1, ixN_2, ixN_3, q_divmod, q_abs, q_max2, q_min2, q_len_tup, q_len_fl, q_len_ref, q_len_str, q_seq_tup, q_seq_fl, q_seq_ref, q_src_tup, q_src_fl, q_src_ref, q_part_i, q_part_n, q_list1_tup, q_list1_fl, q_tup1_fl, q_list1_ref, q_tup1_tup, q_tup1_ref, q_slc_tup, q_slc_fl, q_slc_ref, q_src_str, q_srcE_tup, q_srcE_fl, q_srcE_str, in_tupS, in_flS, q_sortedSetS, q_sorted_tupS, q_sorted_flS, q_max_flI, q_min_flI, q_sum_flI, q_rev_tup, q_rev_fl, q_int_bl, q_int_int, q_bool_bl, q_ix_str, q_slc_str, q_join_flS, q_join_tupS, q_split, q_tup1_str, rc_split, ty1, ty2, ty3, ty4, ty5, tStr, tInt, tBool, tTuple, tList]
  by_cases c : i < 0
  · simp only [if_pos c]
    exact fin2 _ (by omega)
  · simp only [if_neg c]
    refine ⟨by decide, ?_⟩
    split
    · exact fin2 _ (by omega)
    · exact fin2 _ (by omega)
theorem cell_go (D0 : HasDraw T) {ns : List Int} {k : Nat} (hk : k < 2 ^ 20) (q : ∀ i : Int, P (.int i) st) : Run (runF T W (m + 1) "_law_cell" [.fl (ns.map .int), .int (k : Int)]) st P E := by
  have hno : ∀ l : List Int, noRefL (l.map D.int) = true := by
    intro l
    induction l with
    | nil => rfl
    | cons a r ih => rw [List.map_cons, noRefL, ih]; rfl
  refine go_run D0.cell rfl rfl rfl (by rw [noRefL, noRef, hno]; rfl) rfl ?_
  have b1 : inBig 60037 = true := by decide
  have b2 : inBig (k : Int) = true := by simp [inBig]; omega
  have b3 : inBig 11 = true := by decide
  have b4 : inBig 40027 = true := by decide
  show Run (N.bind (runSs _ W cCell [some (.fl (ns.map .int)), some (.int (k : Int)), none, none]) fin) _ _ _
  unfold cCell
  simp only [runSs, runS, runE, runEs, runG, runGs, runG2, runP, runI, runIf, runO, runB, runC, runBI, runMI, run_raise, up_true, noErr_pure, nb_pure, nb_bind, frz_app, rc_upper, m_upper, q_mulX, frz_ed, frz_ob, frzD_app, frzD_0, frzD_1, frzD_2, frzD_3, frzD_4, frzD_5, frzD_6, frzD_7, frzD_8, frzD_9, fz_ed, wipeE, List.filterMap_cons, List.filterMap_nil, run_bind, run_tr, run_up, run_noErr, run_pure, run_bad, run_ite, runM_pure, runM_bad, runM_bind, runM_guard, runM_alloc, runM_some, runM_none, runM_put, List.getElem?_cons_zero, List.getElem?_cons_succ, List.set_cons_zero, List.set_cons_succ, List.length_cons, List.length_nil, List.cons_append, List.nil_append, List.take_succ_cons, List.take_zero, Nat.reduceAdd, Nat.reduceLeDiff, Nat.reduceLT, Int.reduceLT, Int.reduceLE, Int.reduceNe, Int.reduceEq, ne_eq, not_false_eq_true, reduceCtorEq, Int.reduceToNat, Int.reducePow, Int.reduceNeg, Nat.reduceMul, Nat.reduceEqDiff, Nat.le_refl, Option.some.injEq, O.lst.injEq, exists_eq_left', exists_eq_left, run_frz, frz_int, frz_bl, frz_str, frz_tup, frz_fl, frz_non, frz_0, frz_1, frz_2, frz_3, frz_4, frz_5, frz_6, frz_7, Nat.zero_le, fz_int, fz_bl, fz_str, fz_non, getM_st, getL_st, m_append, m_extend, l_fl, l_ref, rc_append, rc_extend, rc_pop1, rc_pop0, rc_index, rc_join, size_ok, size_lt, b_int, b_bl, b_str, b_non, comp_stat, compA_stat, for_stat, comp_enum, for_enum, decide_eq_true_eq, Option.bind_some, Option.map_some, Option.map_none, fin_ret, fin_next, fin_exn, Gs.len, if_true, if_false, Bool.false_eq_true, Bool.true_eq_false, Bool.not_true, Bool.not_false, decide_true, decide_false, and_true, true_and, beq_self_eq_true, q_add_int, q_add_str, q_add_tup, q_add_rr, q_add_ff, q_add_rf, q_add_fr, q_sub, q_mul, q_mul_ref, q_mul_fl, q_mul_tup, q_fdiv, q_fdivW, q_le_str, q_mod, q_pow, q_ix_tup, q_ix_fl, q_ix_ref, q_set, q_eq_int, q_eq_str, q_eq_bl, q_ne, q_lt, q_le, q_gt, q_ge, q_is, q_isNot, q_isB, q_isNotB, q_notIn, t_bl, t_int, t_tup, t_non, ixN_0, ixN_1, ixN_2, ixN_3, q_divmod, q_abs, q_max2, q_min2, q_len_tup, q_len_fl, q_len_ref, q_len_str, q_seq_tup, q_seq_fl, q_seq_ref, q_src_tup, q_src_fl, q_src_ref, q_part_i, q_part_n, q_list1_tup, q_list1_fl, q_tup1_fl, q_list1_ref, q_tup1_tup, q_tup1_ref, q_slc_tup, q_slc_fl, q_slc_ref, q_src_str, q_srcE_tup, q_srcE_fl, q_srcE_str, in_tupS, in_flS, q_sortedSetS, q_sorted_tupS, q_sorted_flS, q_max_flI, q_min_flI, q_sum_flI, q_rev_tup, q_rev_fl, q_int_bl, q_int_int, q_bool_bl, q_ix_str, q_slc_str, q_join_flS, q_join_tupS, q_split, q_tup1_str, rc_split, ty1, ty2, ty3, ty4, ty5, tStr, tInt, tBool, tTuple, tList, b1, b2, b3, b4, Bool.true_or, Bool.or_true]
  split
  · rename_i c
    rw [List.length_map] at c
    have c : k < ns.length := by simpa using c
    rw [ixN_nat (by rw [List.length_map]; exact c)]
    simp only [Option.bind_some]
    have e : (ns.map D.int)[k]? = some (.int ns[k]) := by rw [List.getElem?_map, List.getElem?_eq_getElem c]; rfl
    rw [e]
    exact ⟨_, rfl, q _⟩
  · have hint : ∀ (i : Nat) (x : D), (cutD (ns.map D.int) none (some 3))[i]? = some x → ∃ v, x = .int v := by
      intro i x e
      have hm := List.mem_of_getElem? e
      have hm := List.mem_of_mem_drop (List.mem_of_mem_take hm)
      obtain ⟨v, _, rfl⟩ := List.mem_map.mp hm
      exact ⟨v, rfl⟩
    refine forL_inv (fun i env s => s = [] ∧ ∃ a v, env = [some (.fl (ns.map .int)), some (.int (k : Int)), some (.int v), a]) (i := 0) ?_ ⟨rfl, _, _, rfl⟩ ?_
    · rintro j x env s e ⟨rfl, a, v, rfl⟩
      obtain ⟨u, rfl⟩ := hint j x e
      simp only [runSs, runS, runE, runEs, runG, runGs, runG2, runP, runI, runIf, runO, runB, runC, runBI, runMI, run_raise, up_true, noErr_pure, nb_pure, nb_bind, frz_app, rc_upper, m_upper, q_mulX, frz_ed, frz_ob, frzD_app, frzD_0, frzD_1, frzD_2, frzD_3, frzD_4, frzD_5, frzD_6, frzD_7, frzD_8, frzD_9, fz_ed, wipeE, List.filterMap_cons, List.filterMap_nil, run_bind, run_tr, run_up, run_noErr, run_pure, run_bad, run_ite, runM_pure, runM_bad, runM_bind, runM_guard, runM_alloc, runM_some, runM_none, runM_put, List.getElem?_cons_zero, List.getElem?_cons_succ, List.set_cons_zero, List.set_cons_succ, List.length_cons, List.length_nil, List.cons_append, List.nil_append, List.take_succ_cons, List.take_zero, Nat.reduceAdd, Nat.reduceLeDiff, Nat.reduceLT, Int.reduceLT, Int.reduceLE, Int.reduceNe, Int.reduceEq, ne_eq, not_false_eq_true, reduceCtorEq, Int.reduceToNat, Int.reducePow, Int.reduceNeg, Nat.reduceMul, Nat.reduceEqDiff, Nat.le_refl, Option.some.injEq, O.lst.injEq, exists_eq_left', exists_eq_left, run_frz, frz_int, frz_bl, frz_str, frz_tup, frz_fl, frz_non, frz_0, frz_1, frz_2, frz_3, frz_4, frz_5, frz_6, frz_7, Nat.zero_le, fz_int, fz_bl, fz_str, fz_non, getM_st, getL_st, m_append, m_extend, l_fl, l_ref, rc_append, rc_extend, rc_pop1, rc_pop0, rc_index, rc_join, size_ok, size_lt, b_int, b_bl, b_str, b_non, comp_stat, compA_stat, for_stat, comp_enum, for_enum, decide_eq_true_eq, Option.bind_some, Option.map_some, Option.map_none, fin_ret, fin_next, fin_exn, Gs.len, if_true, if_false, Bool.false_eq_true, Bool.true_eq_false, Bool.not_true, Bool.not_false, decide_true, decide_false, and_true, true_and, beq_self_eq_true, q_add_int, q_add_str, q_add_tup, q_add_rr, q_add_ff, q_add_rf, q_add_fr, q_sub, q_mul, q_mul_ref, q_mul_fl, q_mul_tup, q_fdiv, q_fdivW, q_le_str, q_mod, q_pow, q_ix_tup, q_ix_fl, q_ix_ref, q_set, q_eq_int, q_eq_str, q_eq_bl, q_ne, q_lt, q_le, q_gt, q_ge, q_is, q_isNot, q_isB, q_isNotB, q_notIn, t_bl, t_int, t_tup, t_non, ixN_0, ixN_1, ixN_2, ixN_3, q_divmod, q_abs, q_max2, q_min2, q_len_tup, q_len_fl, q_len_ref, q_len_str, q_seq_tup, q_seq_fl, q_seq_ref, q_src_tup, q_src_fl, q_src_ref, q_part_i, q_part_n, q_list1_tup, q_list1_fl, q_tup1_fl, q_list1_ref, q_tup1_tup, q_tup1_ref, q_slc_tup, q_slc_fl, q_slc_ref, q_src_str, q_srcE_tup, q_srcE_fl, q_srcE_str, in_tupS, in_flS, q_sortedSetS, q_sorted_tupS, q_sorted_flS, q_max_flI, q_min_flI, q_sum_flI, q_rev_tup, q_rev_fl, q_int_bl, q_int_int, q_bool_bl, q_ix_str, q_slc_str, q_join_flS, q_join_tupS, q_split, q_tup1_str, rc_split, ty1, ty2, ty3, ty4, ty5, tStr, tInt, tBool, tTuple, tList, b4, Bool.or_true]
      exact ⟨_, _, rfl⟩
    · rintro env s ⟨rfl, a, v, rfl⟩
      simp only [runSs, runS, runE, runEs, runG, runGs, runG2, runP, runI, runIf, runO, runB, runC, runBI, runMI, run_raise, up_true, noErr_pure, nb_pure, nb_bind, frz_app, rc_upper, m_upper, q_mulX, frz_ed, frz_ob, frzD_app, frzD_0, frzD_1, frzD_2, frzD_3, frzD_4, frzD_5, frzD_6, frzD_7, frzD_8, frzD_9, fz_ed, wipeE, List.filterMap_cons, List.filterMap_nil, run_bind, run_tr, run_up, run_noErr, run_pure, run_bad, run_ite, runM_pure, runM_bad, runM_bind, runM_guard, runM_alloc, runM_some, runM_none, runM_put, List.getElem?_cons_zero, List.getElem?_cons_succ, List.set_cons_zero, List.set_cons_succ, List.length_cons, List.length_nil, List.cons_append, List.nil_append, List.take_succ_cons, List.take_zero, Nat.reduceAdd, Nat.reduceLeDiff, Nat.reduceLT, Int.reduceLT, Int.reduceLE, Int.reduceNe, Int.reduceEq, ne_eq, not_false_eq_true, reduceCtorEq, Int.reduceToNat, Int.reducePow, Int.reduceNeg, Nat.reduceMul, Nat.reduceEqDiff, Nat.le_refl, Option.some.injEq, O.lst.injEq, exists_eq_left', exists_eq_left, run_frz, frz_int, frz_bl, frz_str, frz_tup, frz_fl, frz_non, frz_0, frz_1, frz_2, frz_3, frz_4, frz_5, frz_6, frz_7, Nat.zero_le, fz_int, fz_bl, fz_str, fz_non, getM_st, getL_st, m_append, m_extend, l_fl, l_ref, rc_append, rc_extend, rc_pop1, rc_pop0, rc_index, rc_join, size_ok, size_lt, b_int, b_bl, b_str, b_non, comp_stat, compA_stat, for_stat, comp_enum, for_enum, decide_eq_true_eq, Option.bind_some, Option.map_some, Option.map_none, fin_ret, fin_next, fin_exn, Gs.len, if_true, if_false, Bool.false_eq_true, Bool.true_eq_false, Bool.not_true, Bool.not_false, decide_true, decide_false, and_true, true_and, beq_self_eq_true, q_add_int, q_add_str, q_add_tup, q_add_rr, q_add_ff, q_add_rf, q_add_fr, q_sub, q_mul, q_mul_ref, q_mul_fl, q_mul_tup, q_fdiv, q_fdivW, q_le_str, q_mod, q_pow, q_ix_tup, q_ix_fl, q_ix_ref, q_set, q_eq_int, q_eq_str, q_eq_bl, q_ne, q_lt, q_le, q_gt, q_ge, q_is, q_isNot, q_isB, q_isNotB, q_notIn, t_bl, t_int, t_tup, t_non, ixN_0, ixN_1, ixN_2, ixN_3, q_divmod, q_abs, q_max2, q_min2, q_len_tup, q_len_fl, q_len_ref, q_len_str, q_seq_tup, q_seq_fl, q_seq_ref, q_src_tup, q_src_fl, q_src_ref, q_part_i, q_part_n, q_list1_tup, q_list1_fl, q_tup1_fl, q_list1_ref, q_tup1_tup, q_tup1_ref, q_slc_tup, q_slc_fl, q_slc_ref, q_src_str, q_srcE_tup, q_srcE_fl, q_srcE_str, in_tupS, in_flS, q_sortedSetS, q_sorted_tupS, q_sorted_flS, q_max_flI, q_min_flI, q_sum_flI, q_rev_tup, q_rev_fl, q_int_bl, q_int_int, q_bool_bl, q_ix_str, q_slc_str, q_join_flS, q_join_tupS, q_split, q_tup1_str, rc_split, ty1, ty2, ty3, ty4, ty5, tStr, tInt, tBool, tTuple, tList]
      exact q _
end
end RV

set_option exponentiation.threshold 3000
/-! R20: data as plain data, texts of data, equal data. -/
namespace RV
open PySem
theorem asPy_no {st : Sto} {d : D} {P : PyData → Sto → Prop} (h : dat d = true) : RunM (asPy d) st P = P (pyD d) st := by
  unfold RunM asPy
  rw [toPy_no h]
theorem pyL_app : ∀ a b : List D, pyL (a ++ b) = pyL a ++ pyL b
  | [], b => rfl
  | x :: r, b => by rw [List.cons_append, pyL, pyL_app r b]; rfl
/-- small data: nested at most k deep, of weight at most n -/
structure Sm (k n : Nat) (d : D) : Prop where
  dt : dat d = true
  sh : (pyD d).showable = true
  lv : (pyD d).leavesShort 201 = true
  cl : (pyD d).canLay0 = true
  hd : (pyD d).hasDict = false
  dp : (pyD d).depth ≤ k
  wt : (pyD d).weight ≤ n
structure SmL (k n : Nat) (d : List D) : Prop where
  dt : datL d = true
  sh : PyData.showableAll (pyL d) = true
  lv : PyData.leavesShortAll 201 (pyL d) = true
  cl : PyData.canLayAll0 (pyL d) = true
  hd : PyData.hasDictAll (pyL d) = false
  dp : PyData.depthAll (pyL d) ≤ k
  wt : PyData.weightAll (pyL d) ≤ n
theorem Sm.nr {k n : Nat} {d : D} (h : Sm k n d) : noRef d = true := dat_no h.dt
theorem SmL.nr {k n : Nat} {d : List D} (h : SmL k n d) : noRefL d = true := datL_no h.dt
theorem Sm.mono {k n k' n' : Nat} {d : D} (h : Sm k n d) (hk : k ≤ k') (hn : n ≤ n') : Sm k' n' d := ⟨h.dt, h.sh, h.lv, h.cl, h.hd, Nat.le_trans h.dp hk, Nat.le_trans h.wt hn⟩
theorem SmL.mono {k n k' n' : Nat} {d : List D} (h : SmL k n d) (hk : k ≤ k') (hn : n ≤ n') : SmL k' n' d := ⟨h.dt, h.sh, h.lv, h.cl, h.hd, Nat.le_trans h.dp hk, Nat.le_trans h.wt hn⟩
theorem SmL.nil : SmL 0 0 [] := ⟨rfl, rfl, rfl, rfl, rfl, Nat.le_refl _, Nat.le_refl _⟩
theorem SmL.cons {k k' n m : Nat} {d : D} {ds : List D} (h : Sm k n d) (t : SmL k' m ds) : SmL (max k k') (n + 1 + m) (d :: ds) := by
  refine ⟨by rw [datL, h.dt, t.dt]; rfl, by rw [pyL, PyData.showableAll, h.sh, t.sh]; rfl, by rw [pyL, PyData.leavesShortAll, h.lv, t.lv]; rfl, by rw [pyL, PyData.canLayAll0, h.cl, t.cl]; rfl, by rw [pyL, PyData.hasDictAll, h.hd, t.hd]; rfl, ?_, ?_⟩
  · rw [pyL, PyData.depthAll]
    have := h.dp; have := t.dp
    omega
  · rw [pyL, PyData.weightAll]
    have := h.wt; have := t.wt
    omega
theorem Sm.tup {k n : Nat} {ds : List D} (h : SmL k n ds) : Sm (k + 1) n (.tup ds) := by
  refine ⟨by rw [dat]; exact h.dt, by rw [pyD, PyData.showable]; exact h.sh, by rw [pyD, PyData.leavesShort]; exact h.lv, by rw [pyD, PyData.canLay0]; exact h.cl, by rw [pyD, PyData.hasDict]; exact h.hd, ?_, by rw [pyD, PyData.weight]; exact h.wt⟩
  rw [pyD, PyData.depth]
  exact Nat.succ_le_succ h.dp
theorem Sm.fl {k n : Nat} {ds : List D} (h : SmL k n ds) : Sm (k + 1) n (.fl ds) := by
  refine ⟨by rw [dat]; exact h.dt, by rw [pyD, PyData.showable]; exact h.sh, by rw [pyD, PyData.leavesShort]; exact h.lv, by rw [pyD, PyData.canLay0]; exact h.cl, by rw [pyD, PyData.hasDict]; exact h.hd, ?_, by rw [pyD, PyData.weight]; exact h.wt⟩
  rw [pyD, PyData.depth]
  exact Nat.succ_le_succ h.dp
theorem Sm.non : Sm 0 0 .non := ⟨rfl, rfl, rfl, rfl, rfl, Nat.le_refl _, Nat.le_refl _⟩
theorem Sm.bl {b : Bool} : Sm 0 0 (.bl b) := ⟨rfl, rfl, rfl, rfl, rfl, Nat.le_refl _, Nat.le_refl _⟩
theorem Sm.int {i : Int} {k : Nat} (h : i.natAbs < 2 ^ k) (hk : k ≤ 660) : Sm 0 k (.int i) := by
  have h1 : i.natAbs < 2 ^ 660 := Nat.lt_of_lt_of_le h (Nat.pow_le_pow_right (by decide) hk)
  have h2 : i.natAbs < 10 ^ 200 := Nat.lt_of_lt_of_le h1 (by decide +kernel)
  have h3 : i.natAbs.log2 < 1920 := by
    by_cases z : i.natAbs = 0
    · rw [z]; decide
    · rw [Nat.log2_lt z]
      exact Nat.lt_of_lt_of_le h1 (Nat.pow_le_pow_right (by decide) (by decide))
  refine ⟨rfl, by rw [pyD, PyData.showable]; exact decide_eq_true h3, ?_, rfl, rfl, Nat.le_refl _, ?_⟩
  · rw [pyD, PyData.leavesShort]
    refine decide_eq_true ?_
    show (Str.ofString (toString i)).length ≤ 201
    rw [ofString_length]
    exact int_text_length_le10 (k := 200) (by decide) h2
  · rw [pyD, PyData.weight]
    split
    · exact Nat.zero_le _
    · rename_i c
      have z : i.natAbs ≠ 0 := by
        intro z
        apply c
        have : i = 0 := by omega
        subst this
        rfl
      exact Nat.succ_le_of_lt ((Nat.log2_lt z).mpr h)
/-- a text of ordinary signs -/
def okS (x : Str) : Bool := PyData.strOk x
theorem Sm.str {s : Str} (h : okS s = true) : Sm 0 s.length (.str s) := by
  have h : s.cps.all (· < 0x110000) = true := h
  refine ⟨rfl, rfl, ?_, ?_, rfl, Nat.le_refl _, ?_⟩
  · rw [pyD, PyData.leavesShort, List.all_eq_true]
    intro c hc
    rw [Array.all_eq_true'] at h
    have := h c (by simpa using hc)
    have h2 : c < 0x110000 := by simpa using this
    exact decide_eq_true (Nat.lt_of_lt_of_le h2 (by decide))
  · rw [pyD, PyData.canLay0]; exact h
  · rw [pyD, PyData.weight]; exact Nat.le_refl _
theorem SmL.app {k k' n m : Nat} : ∀ {ds es : List D}, SmL k n ds → SmL k' m es → SmL (max k k') (n + m) (ds ++ es) := fun {ds es} h t => by
  have nr : ∀ a b : List D, datL (a ++ b) = (datL a && datL b) := by
    intro a b
    induction a with
    | nil => rfl
    | cons x r ih => rw [List.cons_append, datL, datL, ih, Bool.and_assoc]
  have sh : ∀ a b : List PyData, PyData.showableAll (a ++ b) = (PyData.showableAll a && PyData.showableAll b) := by
    intro a b
    induction a with
    | nil => rfl
    | cons x r ih => rw [List.cons_append, PyData.showableAll, PyData.showableAll, ih, Bool.and_assoc]
  have lv : ∀ a b : List PyData, PyData.leavesShortAll 201 (a ++ b) = (PyData.leavesShortAll 201 a && PyData.leavesShortAll 201 b) := by
    intro a b
    induction a with
    | nil => rfl
    | cons x r ih => rw [List.cons_append, PyData.leavesShortAll, PyData.leavesShortAll, ih, Bool.and_assoc]
  have cl : ∀ a b : List PyData, PyData.canLayAll0 (a ++ b) = (PyData.canLayAll0 a && PyData.canLayAll0 b) := by
    intro a b
    induction a with
    | nil => rfl
    | cons x r ih => rw [List.cons_append, PyData.canLayAll0, PyData.canLayAll0, ih, Bool.and_assoc]
  have hd : ∀ a b : List PyData, PyData.hasDictAll (a ++ b) = (PyData.hasDictAll a || PyData.hasDictAll b) := by
    intro a b
    induction a with
    | nil => rfl
    | cons x r ih => rw [List.cons_append, PyData.hasDictAll, PyData.hasDictAll, ih, Bool.or_assoc]
  have dp : ∀ a b : List PyData, PyData.depthAll (a ++ b) = max (PyData.depthAll a) (PyData.depthAll b) := by
    intro a b
    induction a with
    | nil => simp [PyData.depthAll]
    | cons x r ih => rw [List.cons_append, PyData.depthAll, PyData.depthAll, ih]; omega
  have wt : ∀ a b : List PyData, PyData.weightAll (a ++ b) = PyData.weightAll a + PyData.weightAll b := by
    intro a b
    induction a with
    | nil => simp [PyData.weightAll]
    | cons x r ih => rw [List.cons_append, PyData.weightAll, PyData.weightAll, ih]; omega
  refine ⟨by rw [nr, h.dt, t.dt]; rfl, by rw [pyL_app, sh, h.sh, t.sh]; rfl, by rw [pyL_app, lv, h.lv, t.lv]; rfl, by rw [pyL_app, cl, h.cl, t.cl]; rfl, by rw [pyL_app, hd, h.hd, t.hd]; rfl, ?_, ?_⟩
  · rw [pyL_app, dp]; have := h.dp; have := t.dp; omega
  · rw [pyL_app, wt]; have := h.wt; have := t.wt; omega
theorem SmL.all {k n : Nat} : ∀ {ds : List D}, (∀ d ∈ ds, Sm k n d) → SmL k ((n + 1) * ds.length) ds
  | [], _ => SmL.nil.mono (Nat.zero_le _) (Nat.zero_le _)
  | d :: ds, h => ((h d List.mem_cons_self).mono (Nat.le_refl _) (Nat.le_refl _) |> fun a => (SmL.cons a (SmL.all fun e he => h e (List.mem_cons_of_mem _ he))).mono (by omega) (by rw [List.length_cons, Nat.mul_add, Nat.mul_one]; omega))
theorem SmL.map {α : Type} {k n : Nat} {f : α → D} {l : List α} (h : ∀ x ∈ l, Sm k n (f x)) : SmL k ((n + 1) * l.length) (l.map f) := by
  have := SmL.all (k := k) (n := n) (ds := l.map f) fun d hd => by
    obtain ⟨x, hx, rfl⟩ := List.mem_map.mp hd
    exact h x hx
  rwa [List.length_map] at this
theorem SmL.rep {k n : Nat} {ds : List D} (h : SmL k n ds) : ∀ m : Nat, SmL k (n * m) (List.replicate m ds).flatten
  | 0 => SmL.nil.mono (Nat.zero_le _) (Nat.zero_le _)
  | m + 1 => by
    rw [List.replicate_succ, List.flatten_cons]
    exact (h.app (SmL.rep h m)).mono (by omega) (by rw [Nat.mul_add, Nat.mul_one]; omega)
/-- the text of data -/
def rp (d : D) : Str := (pyD d).shown
/-- small data that may hold {} (then no list) -/
structure SmD (k n : Nat) (d : D) : Prop where
  dt : dat d = true
  sh : (pyD d).showable = true
  lv : (pyD d).leavesShort 201 = true
  nl : noL (pyD d) = true
  dp : (pyD d).depth ≤ k
  wt : (pyD d).weight ≤ n
structure SmDL (k n : Nat) (d : List D) : Prop where
  dt : datL d = true
  sh : PyData.showableAll (pyL d) = true
  lv : PyData.leavesShortAll 201 (pyL d) = true
  nl : noLL (pyL d) = true
  dp : PyData.depthAll (pyL d) ≤ k
  wt : PyData.weightAll (pyL d) ≤ n
theorem SmD.nr {k n : Nat} {d : D} (h : SmD k n d) : noRef d = true := dat_no h.dt
theorem SmDL.nr {k n : Nat} {d : List D} (h : SmDL k n d) : noRefL d = true := datL_no h.dt
theorem SmD.mono {k n k' n' : Nat} {d : D} (h : SmD k n d) (hk : k ≤ k') (hn : n ≤ n') : SmD k' n' d := ⟨h.dt, h.sh, h.lv, h.nl, Nat.le_trans h.dp hk, Nat.le_trans h.wt hn⟩
theorem SmDL.mono {k n k' n' : Nat} {d : List D} (h : SmDL k n d) (hk : k ≤ k') (hn : n ≤ n') : SmDL k' n' d := ⟨h.dt, h.sh, h.lv, h.nl, Nat.le_trans h.dp hk, Nat.le_trans h.wt hn⟩
theorem SmDL.nil : SmDL 0 0 [] := ⟨rfl, rfl, rfl, rfl, Nat.le_refl _, Nat.le_refl _⟩
theorem SmDL.cons {k k' n m : Nat} {d : D} {ds : List D} (h : SmD k n d) (t : SmDL k' m ds) : SmDL (max k k') (n + 1 + m) (d :: ds) := by
  refine ⟨by rw [datL, h.dt, t.dt]; rfl, by rw [pyL, PyData.showableAll, h.sh, t.sh]; rfl, by rw [pyL, PyData.leavesShortAll, h.lv, t.lv]; rfl, by rw [pyL, noLL, h.nl, t.nl]; rfl, ?_, ?_⟩
  · rw [pyL, PyData.depthAll]
    have := h.dp; have := t.dp
    omega
  · rw [pyL, PyData.weightAll]
    have := h.wt; have := t.wt
    omega
theorem SmD.tup {k n : Nat} {ds : List D} (h : SmDL k n ds) : SmD (k + 1) n (.tup ds) := by
  refine ⟨by rw [dat]; exact h.dt, by rw [pyD, PyData.showable]; exact h.sh, by rw [pyD, PyData.leavesShort]; exact h.lv, by rw [pyD, noL]; exact h.nl, ?_, by rw [pyD, PyData.weight]; exact h.wt⟩
  rw [pyD, PyData.depth]
  exact Nat.succ_le_succ h.dp
theorem SmD.ed : SmD 1 0 .ed := by
  refine ⟨rfl, by rw [pyD, PyData.showable, PyData.showableKv], by rw [pyD, PyData.leavesShort, PyData.leavesShortKv], by rw [pyD]; simp [noL], ?_, ?_⟩
  · rw [pyD, PyData.depth, PyData.depthKv]; exact Nat.le_refl _
  · rw [pyD, PyData.weight, PyData.weightKv]; exact Nat.le_refl _
theorem Sm.toD {k n : Nat} {d : D} (h : Sm k n d) (nl : noL (pyD d) = true) : SmD k n d := ⟨h.dt, h.sh, h.lv, nl, h.dp, h.wt⟩
theorem SmL.toD {k n : Nat} {d : List D} (h : SmL k n d) (nl : noLL (pyL d) = true) : SmDL k n d := ⟨h.dt, h.sh, h.lv, nl, h.dp, h.wt⟩
/-- equal as data -/
def eqv (x y : D) : Bool := PyData.eqv (pyD x) (pyD y)
/-- a tuple of texts -/
def tS (l : List Str) : D := .tup (l.map .str)
theorem noRefL_ints : ∀ l : List Int, noRefL (l.map D.int) = true
  | [] => rfl
  | x :: r => by rw [List.map_cons, noRefL, noRefL_ints r]; rfl
theorem noRefL_iff : ∀ {l : List D}, noRefL l = true ↔ ∀ d ∈ l, noRef d = true
  | [] => by simp [noRefL]
  | d :: ds => by unfold noRefL; rw [Bool.and_eq_true, noRefL_iff]; simp
end RV

set_option maxHeartbeats 1000000
/-! RX4: what printed proofs use of errors. -/
namespace RV
open PySem PySem.Spec PyProof.Rows L2
variable [Wd]
theorem InX.tr {P : Program} {w : World} {K : PySem.W.Frag} {mg : Str → Option Value} {base : Heap} {k : Nat} {X : Cx} {F F2 : L2.St → FW} (h : InX P w K mg base k F X) {pn : List (Addr × Obj)} {xe : Value → Shared → Prop} (tk : L2N.Takes (X.tr pn xe) (exW X.K F2)) :
    InX P w K mg base k F2 (X.tr pn xe) := ⟨h.p, h.w, h.kf, h.m, h.b, h.room, h.gd, tk⟩
end RV

set_option maxHeartbeats 1000000
/-! RX5: defs that call no def and raise nothing, called in an except suite. -/
namespace RV
open PySem PySem.Spec PyProof.Rows L2
variable [Wd]
/-- a context in which an exception is being handled -/
structure InH (P : Program) (w : World) (K : PySem.W.Frag) (mg : Str → Option Value) (base : Heap) (k : Nat) (X : Cx) : Prop where
  p : X.prog = P
  w : X.w = w
  kf : X.K = K
  m : X.mg = mg
  b : X.base = base
  room : ∃ (A : Around) (a : Addr), X.A = A.mark (some (.ref a)) ∧ Room k A ∧ A.guards = some []
section
variable {P : Program} {w : World} {K : PySem.W.Frag} {mg : Str → Option Value} {base : Heap} {k : Nat} {X : Cx} {F : L2.St → FW}
theorem InH.u (h : InH P w K mg base k X) : X.A.units + 66 < cLine := by
  obtain ⟨A, a, e, r, _⟩ := h.room
  rw [e]
  have := r.un
  show A.units + 66 < cLine
  omega
theorem InH.gd (h : InH P w K mg base k X) : X.A.guards = some [] := by
  obtain ⟨A, a, e, r, g⟩ := h.room
  rw [e]
  exact g
theorem InX.suite (h : InX P w K mg base k F X) {a : Addr} {pn : List (Addr × Obj)} : InH P w K mg base k (X.suite a pn) := ⟨h.p, h.w, h.kf, h.m, h.b, X.A, a, rfl, h.room, h.gd⟩
/-- what a def promises there -/
structure FnGH (P : Program) (w : World) (K : PySem.W.Frag) (mg : Str → Option Value) (base : Heap) (k : Nat) (f : Addr) (fd : FuncData) (ps : List Str) (sp : List V → Hp → VK → FW → Prop) : Prop where
  run : ∀ (A : Around) (a : Addr) (outer : List PySem.Env) (s : Shared) (H : Hp) (args : Args) (us : List Value) (vs : List V) (Q : VK), A.guards = some [] → Room k A → Env0 P w K mg base A outer s H → BindsTo s fd args (ps.zip us) → Vals vs us → vs.length = ps.length → sp vs H Q FZ →
    codeAny (model P w) (A.mark (some (.ref a))) (.call (.ref f) args) (CR (L2N.CX P w) outer P w H s Q (exK K FZ)) s
theorem InH.blk (h : InH P w K mg base k X) {s : Shared} {H : Hp} {sc : Scope} {ce : PySem.Env} {fp : List Addr} : InH P w K mg base k (X.blk s H sc ce fp) := ⟨h.p, h.w, h.kf, h.m, h.b, h.room⟩
end
end RV

set_option maxHeartbeats 4000000
/-! RX6: errors as values: C(e), C(f=e), C(). -/
namespace PySem
namespace RVX
open Builtin Builtin.ObjectAttr HandSPX
section
variable {M : Model} {A : Around} {E : Value → Shared → Prop} {h : Heap} {g : Array GenState} {d : Drawn} {t : Nat} {os : OsState}
variable {nm q : Str} {C N : Addr} {bs bm bmB : List Value} {hdct : Bool} {sn : List Str} {sub : List Value} {ab : Bool} {col : Option Bool} {dd : Option Addr} {k0 k1 k2 k3 k5 : Option Value} {B newId initId : String}
theorem chk_new_kw (F : ExcBaseFacts B newId initId bmB) (hT : ∀ X : String, bm.contains (.type X) = bmB.contains (.type X)) {rest : List Value} {kw : List (Str × Value)} {Q : Unit → Shared → Prop}
    (hC : h.get? C = some (excClassObj nm q C N bs bm hdct sn sub ab col dd k0 k1 k2 k3 k5 newId)) (hq : Q () ⟨h, g, d, t, os⟩) : wpAny M A (checkBuiltinCall newId ⟨.ref C :: rest, kw⟩) Q E ⟨h, g, d, t, os⟩ := by
  have hcont : (Value.ref C :: bm).contains (.type B) = true := by rw [List.contains_cons, hT, F.hasB, Bool.or_true]
  have hstar := F.noStar
  simp only [checkBuiltinCall, F.newKind, F.newSplit, F.newRow]
  repeat (first | refine wpAny_loadPart_at hC ?_ | (refine wpAny_isSubtype_exc hC ?_; rw [hcont]) | refine wpAny_staticBase_exc hC ?_ | refine wpAny_madeBy_exc hC ?_ | simp only [bne_self_eq_false, Bool.false_eq_true, if_false] | wp_step)
  exact hq
theorem chk_tc_kw {rest : List Value} {kw : List (Str × Value)} {Q : Unit → Shared → Prop} (hC : h.get? C = some (excClassObj nm q C N bs bm hdct sn sub ab col dd k0 k1 k2 k3 k5 newId))
    (hq : Q () ⟨h, g, d, t, os⟩) : wpAny M A (checkBuiltinCall "type.__call__" ⟨.ref C :: rest, kw⟩) Q E ⟨h, g, d, t, os⟩ := by
  have f3 := tc_sub
  have hT : (⟨h, g, d, t, os⟩ : Shared).TypeIs (.ref C) "type" := ⟨_, hC, rfl⟩
  simp only [checkBuiltinCall, tc_kind, tc_split]
  repeat (any_goals (first | assumption | with_reducible refine wpAny_loadPart_at hC ?_ | with_reducible refine wpAny_onRaise ?_ | with_reducible refine wpAny_map ?_ | wp_step))
end
section
variable {prog : Program} {w : World} {A : Around} {E : Value → Shared → Prop} {R : Result → Shared → Prop} {h : Heap} {g : Array GenState} {d : Drawn} {t : Nat} {os : OsState}
variable {nm q : Str} {C N : Addr} {bs bm bmB : List Value} {hdct : Bool} {sn : List Str} {sub : List Value} {ab : Bool} {col : Option Bool} {dd : Option Addr} {k0 k1 k2 k3 k5 : Option Value} {B newId initId : String}
theorem new_kw (F : ExcBaseFacts B newId initId bmB) (hT : ∀ X : String, bm.contains (.type X) = bmB.contains (.type X)) {rest : List Value} {kw : List (Str × Value)}
    (hC : h.get? C = some (excClassObj nm q C N bs bm hdct sn sub ab col dd k0 k1 k2 k3 k5 newId))
    (hq : R (.ok (.ret (.ref (h.objs.size + 1)))) ⟨(h.push { cls := .type "tuple", data := .seq rest.toArray }).push
      { cls := .ref C, data := .fields #[.ref h.objs.size, .none, .none, .none, .bool false, .none] }, g, d, t, os⟩) (hrest : rest.length ≤ sizeLine) :
    codeAny (model prog w) A (.builtin newId ⟨.ref C :: rest, kw⟩) R ⟨h, g, d, t, os⟩ := by
  have hends := F.ends
  have hcB : (Value.ref C :: bm).contains (.type B) = true := by rw [List.contains_cons, hT, F.hasB, Bool.or_true]
  have hcA : (Value.ref C :: bm).contains (.type "AttributeError") = false := by rw [List.contains_cons, hT, F.noAttr]; rfl
  have hcN : (Value.ref C :: bm).contains (.type "NameError") = false := by rw [List.contains_cons, hT, F.noName]; rfl
  refine codeAny_builtinAt F.entry ?_
  unfold Builtin.«BaseException.__new__»
  refine wpAt_bind ?_
  show wpAt _ _ _ (stack >>= _) _ _ _
  refine wpAt_bind (wpAt_stack fun p below => wpAt_of_wpAny ?_)
  wp_walk
  refine wpAt_of_wpAny ?_
  rw [F.owner]
  repeat (first | with_reducible refine wpAny_madeHere_exc F.canon hC ?_ | with_reducible refine wpAny_loadPart_at hC ?_ | (with_reducible refine wpAny_isSubtype_exc hC ?_; first | rw [hcB] | rw [hcA] | rw [hcN]) | wp_step)
  show R _ _
  rw [Heap.size_push]
  exact hq
theorem type_call_kw (F : ExcBaseFacts B newId initId bmB) (hT : ∀ X : String, bm.contains (.type X) = bmB.contains (.type X)) {rest : List Value} {kw : List (Str × Value)} {fI : Addr} {Q : Fin → Shared → Prop}
    (hC : h.get? C = some (excClassObj nm q C N bs bm hdct sn sub ab col dd k0 k1 k2 k3 k5 newId))
    (hi : W.Looks (model prog w) h (typeLookup (.ref C) "__init__") (some (.ref fI))) (hb : ∀ self, W.Looks (model prog w) h (bindSpecial (.ref fI) self) (.ref fI, [self])) (hrest : rest.length ≤ sizeLine)
    (hq : codeAny (model prog w) A (.call (.ref fI) ⟨.ref (h.objs.size + 1) :: rest, kw⟩)
      (fun r s' => match r with | .ok (.ret v) => v = .none ∧ Q (.done (.ret (.ref (h.objs.size + 1)))) s' | .ok _ => False | .error e => E e s')
      ⟨(h.push (W.kdv_tup rest)).push (excO C h.objs.size), g, d, t, os⟩) :
    wpAny (model prog w) A (Builtin.«type.__call__» ⟨.ref C :: rest, kw⟩) Q E ⟨h, g, d, t, os⟩ := by
  repeat (first | with_reducible refine wpAny_loadPart_at hC ?_ | with_reducible refine wpAny_madeBy_exc hC ?_ | wp_step)
  refine codeAny_call_builtin_code (Code.quiet_builtin _ F.quiet) (chk_new_kw F hT hC ?_)
  refine new_kw F hT hC ?_ hrest
  show wpAny _ _ _ _ _ _
  have k : ∀ b o, h.get? b = some o → ((h.push (W.kdv_tup rest)).push (excO C h.objs.size)).get? b = some o := fun b o e => Heap.get?_push_of_some _ (Heap.get?_push_of_some _ e)
  have hC₁ := k _ _ hC
  have hget : ((h.push (W.kdv_tup rest)).push (excO C h.objs.size)).get? (h.objs.size + 1) = some (excO C h.objs.size) := by heap_get
  have hcC : (Value.ref C :: bm).contains (.ref C) = true := by simp
  have i1 := hi.keeps k
  have b1 := (hb (.ref (h.objs.size + 1))).keeps k
  unfold isInstance
  repeat (first | with_reducible refine wpAny_loadPart_at hget ?_ | (with_reducible refine wpAny_isSubtype_exc hC₁ ?_; rw [hcC]) | wp_step)
  show wpAny _ _ (typeLookup (.ref C) _) _ _ _
  refine i1.at ?_
  refine wpAny_holding (wpAny_bind (b1.at ?_))
  refine wpAny_bind (wpAny_call (codeAny_mono hq fun r s' z => ?_))
  rcases r with e | (v | _ | _ | _) <;> first | exact z | exact z.elim | skip
  obtain ⟨rfl, z⟩ := z
  first
    | exact wpAny_pure (wpAny_pure z)
    | (wp_walk; exact z)
theorem call_kw (F : ExcBaseFacts B newId initId bmB) (hT : ∀ X : String, bm.contains (.type X) = bmB.contains (.type X)) {rest : List Value} {kw : List (Str × Value)} {fI : Addr}
    (hC : h.get? C = some (excClassObj nm q C N bs bm hdct sn sub ab col dd k0 k1 k2 k3 k5 newId))
    (hi : W.Looks (model prog w) h (typeLookup (.ref C) "__init__") (some (.ref fI))) (hb : ∀ self, W.Looks (model prog w) h (bindSpecial (.ref fI) self) (.ref fI, [self])) (hrest : rest.length ≤ sizeLine)
    (hq : codeAny (model prog w) (A.under (.builtin "type.__call__" ⟨.ref C :: rest, kw⟩)) (.call (.ref fI) ⟨.ref (h.objs.size + 1) :: rest, kw⟩) (W.InitBack (h.objs.size + 1) R)
      ⟨(h.push (W.kdv_tup rest)).push (excO C h.objs.size), g, d, t, os⟩) :
    codeAny (model prog w) A (.call (.ref C) ⟨rest, kw⟩) R ⟨h, g, d, t, os⟩ := by
  have f1 := tc_lookup
  have f2 := tc_bind (.ref C)
  have hTy : (⟨h, g, d, t, os⟩ : Shared).TypeIs (.ref C) "type" := ⟨_, hC, rfl⟩
  refine codeAny_of_tree ?_
  show wpAny _ _ (callAny (.ref C) _) _ _ _
  repeat (any_goals (first | assumption | with_reducible refine wpAny_loadPart_at hC ?_ | wp_step))
  refine ⟨rfl, ?_⟩
  refine codeAny_call_builtin_at (Code.quiet_builtin _ (by decide +kernel)) entry_typeCall (chk_tc_kw hC (type_call_kw F hT hC hi hb hrest ?_))
  refine codeAny_mono hq fun r s' z => ?_
  rcases r with e | (v | _ | _ | _) <;> exact z
end
end RVX
end PySem
/-! values -/
namespace RV
open PySem PySem.Spec PyProof.Rows L2
section
variable {prog : Program} {w : World} {A : Around} {E : Value → Shared → Prop} {R : Result → Shared → Prop} {K : PySem.W.Frag} {mg : Str → Option Value} {C fI : Addr} {t f : Str}
theorem exc_initK (T : ExT K mg t f C fI) {s : Shared} {x t0 : Addr} {v : Value} {ps : List Value} {kw : List (Str × Value)} (hb : ∀ (qual : Str) (p1 p2 q1 q2 q3 q4 : Pos) (doc pm : Value) (an : Option Addr) (cdv ct x : Value), bindArgs (PySem.W.fnOf "__init__" qual (eA f p1 p2) (eB f q1 q2 q3 q4) (eS f) .none .none doc pm an cdv ct) ⟨x :: ps, kw⟩ = pure [(("self" : Str), x), (f, v)]) (X : K.In s.heap) (lim : s.heap.NoLimit) (hx : s.heap.get? x = some (exO1 C none t0)) (room : A.depth < recursionLimit)
    (hq : ∀ h' tk dx, InitX s.heap h' x C dx t0 f v → R (.ok (.ret .none)) { s with heap := h', toks := tk }) : codeAny (model prog w) A (.call (.ref fI) ⟨.ref x :: ps, kw⟩) R s := by
  obtain ⟨oc, od, doc, pm, an, cdv, ct, osl, p1, p2, q1, q2, q3, q4, qual, ho, hcd⟩ := T.fn
  obtain ⟨B, newId, initId, bm, FB, SF, ini, ovr⟩ := T.bf
  refine Att.call_fn (binds := [("self", .ref x), (f, v)]) X lim ho hcd room (BindsTo.of_eq ?_) ?_ (fun s₁ IC => ?_) rfl rfl rfl
  · exact hb qual p1 p2 q1 q2 q3 q4 doc pm an cdv ct _
  · exact T.nm.al _ _
  obtain ⟨h₁, tk₁, rfl⟩ := IC.toInCall.same
  have k : ∀ b o, s.heap.get? b = some o → h₁.get? b = some o := IC.toInCall.keep
  have hn := IC.toInCall.ns
  have X₁ : K.In h₁ := X.keeps k
  have hx₁ := k _ _ hx
  show wpAny _ _ (execs _ _) _ _ _
  refine wpAny_execs_cons (plainObj_wpAny_Assign_Attribute ?_ ?_)
  · refine ldLoc (v := v) hn (T.nm.bf _ _ _ _ _ _) rfl (T.nm.kf _ _ _ _) T.nm.nd (ldLoc (v := .ref x) hn (T.nm.bs _ _ _ _ _ _) rfl (T.nm.ks _ _ _ _) (by decide) ?_)
    refine PySem.W.set_plain X₁ (ox := exO1 C none t0) (od := none) ⟨hx₁, rfl, rfl, trivial⟩ T.sa ?_
    refine exc_set SF X₁ ovr T.noN T.hdC hx₁ fun h₃ tk₃ dx k₃ dn dne hx₃ hn₃ => ?_
    show wpAny _ _ (execs _ _) _ _ _
    have z : s.heap.objs.size < h₁.objs.size := hn.lt
    exact wpAny_execs_nil (hq h₃ tk₃ dx ⟨fun b o hb e => k₃ b o hb (k b o e), hx₃, Nat.le_of_lt (Nat.lt_of_lt_of_le z dn), dne, hn₃⟩)
  · rfl
theorem exc_madeK (T : ExT K mg t f C fI) {s : Shared} {v : Value} {ps : List Value} {kw : List (Str × Value)} (hz : ps.length ≤ sizeLine) (hb : ∀ (qual : Str) (p1 p2 q1 q2 q3 q4 : Pos) (doc pm : Value) (an : Option Addr) (cdv ct x : Value), bindArgs (PySem.W.fnOf "__init__" qual (eA f p1 p2) (eB f q1 q2 q3 q4) (eS f) .none .none doc pm an cdv ct) ⟨x :: ps, kw⟩ = pure [(("self" : Str), x), (f, v)]) (X : K.In s.heap) (lim : s.heap.NoLimit) (room : A.depth + 1 < recursionLimit)
    (hq : ∀ h' tk e d, MadeX s.heap h' e C d f v → R (.ok (.ret (.ref e))) { s with heap := h', toks := tk }) : codeAny (model prog w) A (.call (.ref C) ⟨ps, kw⟩) R s := by
  obtain ⟨B, newId, initId, bm, FB, SF, ini, ovr⟩ := T.bf
  obtain ⟨hp, g, dr, tk, os⟩ := s
  obtain ⟨nm, N, qn, bs, bm', hdct, sn, sub, ab, col, dd, k0, k1, k2, k3, k5, hC, hT⟩ := PySem.W.excInit_of X ini
  have keep2 : ∀ b o, hp.get? b = some o → ((hp.push (PySem.W.kdv_tup ps)).push (PySem.HandSPX.excO C hp.objs.size)).get? b = some o := fun b o e => Heap.get?_push_of_some _ (Heap.get?_push_of_some _ e)
  have here : ((hp.push (PySem.W.kdv_tup ps)).push (PySem.HandSPX.excO C hp.objs.size)).get? (hp.objs.size + 1) = some (exO1 C none hp.objs.size) := by heap_get
  refine PySem.RVX.call_kw FB hT hC (PySem.W.looks_findIn X T.iC) (fun self => PySem.W.bind_fn X self T.tI) hz ?_
  refine exc_initK (hb := hb) (s := ⟨(hp.push (PySem.W.kdv_tup ps)).push (PySem.HandSPX.excO C hp.objs.size), g, dr, tk, os⟩) T (X.keeps keep2) (lim.keeps keep2) here ?_ fun h' tk' dx I => ?_
  · show A.depth + 1 < recursionLimit
    exact room
  · have big : hp.objs.size + 1 + 1 ≤ dx := by
      have q := I.big
      simpa only [Heap.size_push] using q
    exact ⟨rfl, hq h' tk' (hp.objs.size + 1) dx ⟨fun b o e => I.keep b o (Nat.ne_of_lt (Nat.lt_succ_of_lt (Heap.lt_size e))) (keep2 b o e), Nat.le_succ _, ⟨_, I.obj⟩, (by show hp.objs.size ≤ dx; omega), I.ne, I.ns⟩⟩
end
/-- what is seen of the field's name as a keyword -/
structure InitK (f : Str) : Prop where
  bk : ∀ (qual : Str) (p1 p2 q1 q2 q3 q4 : Pos) (doc pm : Value) (an : Option Addr) (cdv ct x v : Value), bindArgs (PySem.W.fnOf "__init__" qual (eA f p1 p2) (eB f q1 q2 q3 q4) (eS f) .none .none doc pm an cdv ct) ⟨[x], [(f, v)]⟩ = pure [(("self" : Str), x), (f, v)]
end RV

set_option maxHeartbeats 1000000
/-! RX7: errors as values: the rules. -/
namespace RV
open PySem PySem.Spec PyProof.Rows L2
variable [Wd]
section
variable {P : Program} {w : World} {K : PySem.W.Frag} {mg : Str → Option Value} {base : Heap} {k : Nat} {C fI : Addr} {t f : Str}
/-- a class of errors, called -/
structure MkXG (P : Program) (w : World) (K : PySem.W.Frag) (mg : Str → Option Value) (base : Heap) (k : Nat) (C : Addr) (f : Str) (Ψ : List D → N D) : Prop where
  run : ∀ {X : Cx} {F : L2.St → FW}, InX P w K mg base k F X → ∀ (pins : List (Addr × Obj)) (s : Shared) (σ : L2.St) (H : Hp) (v : V) (u : Value) (args : Args) (Q : VK) (μ : List Addr) (st : Sto) (d : D), Inv X pins σ H s →
    (args = ⟨[u], []⟩ ∨ args = ⟨[], [(f, u)]⟩) → RelV v u → RpS K μ H st → Rp K μ H d v → Wp K (F σ) (Ψ [d]) st μ H (kV K Q) → wpAny (model X.prog X.w) X.A (call (.ref C) args.pos args.kw) (EP X pins σ Q) X.xe s
theorem mkXG_zero : MkXG P w K mg base 0 C f (fun _ => N.bad) := ⟨fun _ _ _ _ _ _ _ _ _ _ _ _ _ _ _ _ _ h => h.bad.elim⟩
theorem run_no {T : Tab} {W m : Nat} {y : Str} {d : D} (hy : T.lookup y = some ⟨1, 1, false, false, .nil⟩) : (runF T W m y [d] = N.bad ∨ runF T W m y [d] = fun _ => .bad) ∨ runF T W m y [d] = N.pure .non := by
  cases m with
  | zero => exact .inl (.inl rfl)
  | succ m =>
    rw [runF, hy]
    by_cases hd : noRef d = true
    · refine .inr ?_
      funext st
      simp [callN, noRefL, hd, outN, runSs, startE, fin]
      rfl
    · refine .inl (.inr ?_)
      funext st
      simp [callN, noRefL, hd]
theorem mkXG_step {m : Nat} {T : Tab} {W : Nat} {y : Str} {fn : Fn} {tail : Ss} (M : ExT K mg t f C fI) (ik : InitK f) (hT : T.lookup t = some fn) (ha : fn.ar = 4001) (hb : fn.body = .cons (.ret (.obj t [f] y)) tail) (hy : T.lookup y = some ⟨1, 1, false, false, .nil⟩) :
    MkXG P w K mg base (k + 1) C f (runF T W (m + 1) t) := by
  constructor
  intro X F hX pins s σ H v u args Q μ st d I hargs rel S r w1
  obtain ⟨rfl, rfl, rfl, rfl, rfl, room, gd, tk⟩ := hX
  rw [runF, hT] at w1
  dsimp only at w1
  rw [if_neg (by rw [ha]; simp), if_neg (by rw [ha]; simp), if_neg (by rw [ha]; simp), if_neg (by rw [ha]; simp), if_pos (by rw [ha]; rfl), hb] at w1
  dsimp only at w1
  rw [if_pos (show [f].length = [d].length from rfl)] at w1
  rcases run_no (W := W) (m := m) (d := d) hy with (e | e) | e
  · rw [e] at w1
    exact w1.bad.elim
  · rw [e] at w1
    exact w1.bad.elim
  rw [e] at w1
  have hb2 : ∀ (qual : Str) (p1 p2 q1 q2 q3 q4 : Pos) (doc pm : Value) (an : Option Addr) (cdv ct x : Value), bindArgs (PySem.W.fnOf "__init__" qual (eA f p1 p2) (eB f q1 q2 q3 q4) (eS f) .none .none doc pm an cdv ct) ⟨x :: args.pos, args.kw⟩ = pure [(("self" : Str), x), (f, u)] := by
    intro qual p1 p2 q1 q2 q3 q4 doc pm an cdv ct x
    rcases hargs with rfl | rfl
    · exact M.nm.ba qual p1 p2 q1 q2 q3 q4 doc pm an cdv ct x u
    · exact ik.bk qual p1 p2 q1 q2 q3 q4 doc pm an cdv ct x u
  have hz : args.pos.length ≤ sizeLine := by
    rw [sizeLine_eq]
    rcases hargs with rfl | rfl <;> simp
  have lim := I.nolimit
  obtain ⟨hp, g, dr, tk0, os⟩ := s
  refine wpAny_call (exc_madeK M hz hb2 I.kIn lim (by have := room.dp; omega) fun h' tk' e d' Mx => ?_)
  obtain ⟨t0, hobj⟩ := Mx.obj
  obtain ⟨G', g1, g2⟩ := restrict h' fun b => decide (b ≠ e)
  have other : ∀ b, b ≠ e → G'.get? b = h'.get? b := fun b hb => g1 b (decide_eq_true hb)
  have gone : G'.get? e = none := g2 e (by simp)
  have old : ∀ b o, hp.get? b = some o → G'.get? b = some o := fun b o q => (other b (Nat.ne_of_lt (Nat.lt_of_lt_of_le (Heap.lt_size q) Mx.new))).trans (Mx.keep b o q)
  obtain ⟨od, es, ep, ho, hd, hr⟩ := id Mx.ns
  have hod : G'.get? d' = some od := (other d' Mx.ne).trans ho
  have fresh : H d' = none := I.hok.fresh Mx.big
  have ob : ObjOk X.prog X.w (upd H d' (.frz od (.xd [(f, v)]))) G' d' (.frz od (.xd [(f, v)])) :=
    ⟨hod, _, Mx.ns.at (fun o q => (other d' Mx.ne).trans q), fun g => relO_one rel g⟩
  have J : Inv X pins σ (upd H d' (.frz od (.xd [(f, v)]))) ⟨G', g, dr, tk', os⟩ := I.laid (t' := tk') old Mx.big ob
  have sub : ∀ b o, G'.get? b = some o → h'.get? b = some o := fun b o z => by
    by_cases hb : b = e
    · rw [hb, gone] at z; cases z
    · rw [← other b hb]; exact z
  have ne : (upd H d' (.frz od (.xd [(f, v)]))) e = none := by
    rw [upd_ne (Ne.symm Mx.ne)]
    exact I.hok.fresh Mx.new
  have J2 : Inv X pins σ (upd (upd H d' (.frz od (.xd [(f, v)]))) e (.frz (exO1 C (some d') t0) (.ext fun _ => True))) ⟨h', g, dr, tk', os⟩ :=
    J.laidN (h' := h') (t' := tk') sub gone ne (show ObjOk X.prog X.w _ h' e (.frz (exO1 C (some d') t0) (.ext fun _ => True)) from ⟨hobj, trivial, ⟨_, hobj⟩, fun _ _ _ _ => trivial⟩)
  have S2 := S.new (o := .frz od (.xd [(f, v)])) fresh
  have S3 := S2.new (o := .frz (exO1 C (some d') t0) (.ext fun _ => True)) ne
  have x1 : Ext μ H μ (upd H d' (.frz od (.xd [(f, v)]))) := ext_new S fresh
  have x2 := ext_new (o := .frz (exO1 C (some d') t0) (.ext fun _ => True)) S2 ne
  have R2 : Rp X.K μ (upd (upd H d' (.frz od (.xd [(f, v)]))) e (.frz (exO1 C (some d') t0) (.ext fun _ => True))) (.ob t [f] [d]) (.ref e) :=
    ⟨e, [v], rfl, .exc1 M.ns upd_same rfl ⟨_, rfl⟩ rfl (by rw [upd_ne Mx.ne]; exact upd_same), ⟨v, [], rfl, (r.ext S x1).ext S2 x2, rfl⟩⟩
  exact ⟨.ref e, _, J2, rfl, (Wp.ext (m := N.pure _) w1 (x1.trans x2)).pure _ S3 R2⟩
end
section
variable {P : Program} {w : World} {mg : Str → Option Value} {base : Heap} {X : Cx} {F : L2.St → FW} {Φ : Str → List D → N D} {W k : Nat} {e : Expr} {ca : C} {ck : Cs} {pos p p2 : Pos} {x t f : Str} {C fI : Addr}
/-- C(e) -/
theorem r_mkx (hX : InX P w X.K mg base k F X) (T : MkXG P w X.K mg base k C f (Φ x)) (hm : X.mg x = some (.ref C)) (kp : PySem.W.keepIn X.K (.ref C) = true) (hg : Gl X x) (hdb : (x == ("__debug__" : Str)) = false) (he : starEach (e :: []) X.env = (false, eval e X.env) :: starEach [] X.env)
    (hpl : (backTo pos (starEach [] X.env)).any (·.1) = false) (ha : PA X [e] (rdL X.K F Φ W (.cons ca .nil))) : PE X (.Call (.Name x p) [e] [] pos) (rdE X.K F Φ W (.call x (.cons ca .nil))) := by
  refine ⟨fun pins s σ H Q I ⟨μ, env, st, S, E, w⟩ => ?_⟩
  unfold runE at w
  refine wpAny_Call_Name_kw (ld_glob I hg hm ?_ hdb)
  refine PySem.W.callWith_K (h₀ := X.base) I.ok.mod.kin kp ?_ he hpl
  refine thn (ha.run pos pins s σ H (fun vs H1 => ∃ μ1 st1 ds, ds.length = 1 ∧ RpS X.K μ1 H1 st1 ∧ RpL X.K μ1 H1 ds vs ∧ Wp X.K (F σ) (Φ x ds) st1 μ1 H1 (kV X.K Q)) I
    ⟨μ, env, st, S, E, kL_len w fun ds st1 μ1 H1 vs hd x1 S1 rd w1 => ⟨μ1, st1, ds, hd, S1, rd, w1⟩⟩) fun us s1 ⟨vs, H1, I1, r, μ1, st1, ds, hd, S1, rd, w1⟩ => ⟨I1.kIn, ?_⟩
  match ds, hd, rd with
  | [d], _, rd =>
    obtain ⟨v, vs', rfl, rv, rn⟩ := rd
    cases rn
    obtain ⟨u, rfl, ru⟩ := vals1 r
    exact T.run hX pins s1 σ H1 v u ⟨[u], []⟩ Q μ1 st1 d I1 (.inl rfl) ru S1 rv w1
/-- C(f=e) -/
theorem r_mkxk {kws : List Keyword} (hX : InX P w X.K mg base k F X) (T : MkXG P w X.K mg base k C f (Φ x)) (hm : X.mg x = some (.ref C)) (kp : PySem.W.keepIn X.K (.ref C) = true) (hg : Gl X x) (hdb : (x == ("__debug__" : Str)) = false)
    (hall : (backToKw pos (keywordEach kws X.env)).all (·.1.isSome) = true) (hks : (backToKw pos (keywordEach kws X.env)).filterMap (·.1) = [f])
    (hpl : (backToKw pos (keywordEach kws X.env)).any (·.1.isNone) = false)
    (hk : PK X kws (rdL X.K F Φ W (.cons ca .nil))) : PE X (.Call (.Name x p) [] kws pos) (rdE X.K F Φ W (.call x (.cons ca .nil))) := by
  refine ⟨fun pins s σ H Q I ⟨μ, env, st, S, E, w⟩ => ?_⟩
  unfold runE at w
  refine wpAny_Call_Name_kw (ld_glob I hg hm ?_ hdb)
  refine PySem.W.callWith_KW0 (h₀ := X.base) I.ok.mod.kin kp hall ?_ hpl
  refine thn (hk.run pos pins s σ H (fun zs H2 => ∃ μ2 st2 es, es.length = 1 ∧ RpS X.K μ2 H2 st2 ∧ RpL X.K μ2 H2 es zs ∧ Wp X.K (F σ) (Φ x es) st2 μ2 H2 (kV X.K Q)) I
    ⟨μ, env, st, S, E, kL_len w fun es st2 μ2 H2 zs hz x2 S2 rz w2 => ⟨μ2, st2, es, hz, S2, rz, w2⟩⟩) fun ws s2 ⟨zs, H2, I2, rw2, μ2, st2, es, hz, S2, rz, w2⟩ => ⟨I2.kIn, ?_⟩
  rw [hks]
  match es, hz, rz with
  | [d], _, rd =>
    obtain ⟨v, vs', rfl, rv, rn⟩ := rd
    cases rn
    obtain ⟨u, rfl, ru⟩ := vals1 rw2
    exact T.run hX pins s2 σ H2 v u ⟨[], [(f, u)]⟩ Q μ2 st2 d I2 (.inr rfl) ru S2 rv w2
/-- C(), a class without a field -/
theorem r_mkx0 (T : ExB X.K X.mg x C) (hg : Gl X x) (hdb : (x == ("__debug__" : Str)) = false) : PE X (.Call (.Name x p) [] [] pos) (rdE X.K F Φ W (.cst (.ob x [] []))) := by
  refine ⟨fun pins s σ H Q I ⟨μ, env, st, S, E, w⟩ => ?_⟩
  unfold runE at w
  obtain ⟨B, newId, initId, bm, FB, SF, ini, ovr, q⟩ := T.bf
  refine wpAny_Call_Name_kw (ld_glob I hg T.gC ?_ hdb)
  refine PySem.W.callWith_K0 I.kIn T.kC ?_
  obtain ⟨bm', N0, nm, qn, bs, hdct, sn, sub, ab, col, dd, k0, k1, k2, k3, k5, mN, hC, hN, hni, hT⟩ := exc_obj I.kIn q
  refine wpAny_call_exc_subT FB hT hC hN hni (fun h' e hm => ?_) (by show 0 ≤ sizeLine; exact Nat.zero_le _)
  obtain ⟨kk, nn, t0, hobj, _, _⟩ := hm
  have ne : H e = none := I.hok.gone nn
  have J : Inv X pins σ (upd H e (.frz { cls := .ref C, data := .fields #[.ref t0, .none, .none, .none, .bool false, .none] } (.ext fun _ => True))) { s with heap := h' } :=
    I.laidN (h' := h') (t' := s.toks) kk nn ne (show ObjOk X.prog X.w _ h' e (.frz _ (.ext fun _ => True)) from ⟨hobj, trivial, ⟨_, hobj⟩, fun _ _ _ _ => trivial⟩)
  have S1 := S.new (o := .frz { cls := .ref C, data := .fields #[.ref t0, .none, .none, .none, .bool false, .none] } (.ext fun _ => True)) ne
  have R2 : Rp X.K μ (upd H e (.frz { cls := .ref C, data := .fields #[.ref t0, .none, .none, .none, .bool false, .none] } (.ext fun _ => True))) (.ob x [] []) (.ref e) := ⟨e, [], rfl, .exc0 T.ns upd_same rfl ⟨_, rfl⟩ rfl, rfl⟩
  exact ⟨.ref e, _, J, rfl, (Wp.ext (m := N.pure _) w (ext_new S ne)).pure _ S1 R2⟩
end
end RV

/-! R21: runs that are reckoned; the tail of all laws. -/
namespace RV
open PySem
theorem q_all_bls {st : Sto} {bs : List Bool} {P : D → Sto → Prop} : RunM (bAll [.fl (bs.map .bl)]) st P = P (.bl (bs.all id)) st := by
  have e : ∀ l : List Bool, blsOf (l.map D.bl) = some l := by
    intro l
    induction l with
    | nil => rfl
    | cons b r ih => simp [blsOf, ih]
  unfold bAll lsOf
  simp only [runM_bind, e, runM_some, runM_pure]
theorem q_all_rep {st : Sto} {n : Nat} {P : D → Sto → Prop} : RunM (bAll [.fl (List.replicate n (.bl true))]) st P = P (.bl true) st := by
  have := q_all_bls (st := st) (bs := List.replicate n true) (P := P)
  rw [List.map_replicate] at this
  rw [this]
  have e : (List.replicate n true).all id = true := by simp
  rw [e]
/-- a list of so many truths, gathered turn by turn -/
theorem all_turns {turn : D → N (Option D)} {xs : List D} {st : Sto} {P : List D → Sto → Prop} {E : Ex → Sto → Prop} (I : Sto → Prop) (h0 : I st) (hl : xs.length ≤ 1000000) (step : ∀ x s, x ∈ xs → I s → Run (turn x) s (fun y s' => y = some (.bl true) ∧ I s') no) (q : ∀ s, I s → P (List.replicate xs.length (.bl true)) s) :
    Run (compL turn xs []) st P E := by
  refine compL_inv (fun i acc s => acc = List.replicate i (.bl true) ∧ I s) (i := 0) ?_ ⟨rfl, h0⟩ ?_
  · rintro j x acc s e ⟨rfl, hI⟩
    refine (step x s (List.mem_of_getElem? e) hI).imp fun y s' hy => ?_
    obtain ⟨rfl, hI'⟩ := hy
    have hj := (List.getElem?_eq_some_iff.mp e).1
    refine ⟨?_, ?_, hI'⟩
    · rw [List.length_replicate]
      exact Nat.lt_of_lt_of_le (show 0 + j < 1000000 by omega) (by decide)
    · rw [Nat.zero_add, ← List.replicate_succ']
  · rintro acc s ⟨rfl, hI⟩
    rw [Nat.zero_add]
    exact q s hI
theorem range_mem {a b : Int} {x : D} (h : x ∈ rangeD a b) : ∃ k : Nat, x = .int (a + k) ∧ a + (k : Int) < b := by
  unfold rangeD at h
  obtain ⟨k, hk, rfl⟩ := List.mem_map.mp h
  rw [List.mem_range] at hk
  exact ⟨k, rfl, by omega⟩
theorem range_len {a b : Int} : (rangeD a b).length = (b - a).toNat := by simp [rangeD]
theorem go_move {T : Tab} {W m : Nat} {f : Str} {r : List D} {fn : Fn} {st : Sto} {n : Nat} {xs : List D} {v : D} {P : D → Sto → Prop} {E : Ex → Sto → Prop} (h : List.lookup f T = some fn) (hp : fn.pl = true) (hr : fn.raw = false) (hl : r.length + 1 = fn.ar) (e : st[n]? = some (.lst xs))
    (b : Run (runF T W (m + 1) f (.ref 0 :: r)) [.lst xs] (fun d _ => d = v) no) (q : ∀ s, P v s) : Run (runF T W (m + 1) f (.ref n :: r)) st P E := by
  rw [runF_def h (by simpa using hl), hp, hr] at b ⊢
  unfold Run callN at b ⊢
  simp only [if_true, List.getElem?_cons_zero, e] at b ⊢
  by_cases c : (noRefL xs && noRefL r) = true
  · rw [if_pos c] at b ⊢
    generalize N.bind (runSs (runF T W m) W fn.body (startE fn.nn (.ref 0 :: r))) fin [.lst xs] = o at b ⊢
    cases o with
    | bad => exact b
    | err x s =>
      exfalso
      simp only [outN] at b
      cases e1 : back [.lst xs] 0 s with
      | none => rw [e1] at b; exact b
      | some s2 =>
        rw [e1] at b
        simp only at b
        cases e2 : fzE s 1 x with
        | none => rw [e2] at b; exact b
        | some y => rw [e2] at b; exact b
    | ok d s =>
      simp only [outN, back, Bool.false_eq_true, if_false] at b ⊢
      cases e1 : s[(0 : Nat)]? with
      | none => rw [e1] at b; exact b.elim
      | some o =>
        rw [e1] at b
        cases o with
        | dct kv => exact b.elim
        | kct kv => exact b.elim
        | lst ys =>
          simp only at b ⊢
          by_cases c2 : noRefL ys = true
          · rw [if_pos c2] at b ⊢
            simp only at b ⊢
            cases e2 : fz s 1 d with
            | none => rw [e2] at b; exact b.elim
            | some d' => rw [e2] at b; cases (show d' = v from b); exact q _
          · rw [if_neg c2] at b; exact b.elim
  · rw [if_neg c] at b; exact b.elim
/-- the tail of all laws: a pool of each cell, each told right -/
def cTail (n : Int) (i : Nat) : C := .bif .all (.cons (.frz (.comp (.call "_law_right" (.cons (.call "_law_pool" (.cons (.call "_law_cell" (.cons (.var 0) (.cons (.var i) .nil))) .nil)) .nil)) (.nm i) (.rng (.bif .max2 (.cons (.cst (.int 2)) (.cons (.bif .min2 (.cons (.bif .len (.cons (.var 0) .nil)) (.cons (.cst (.int n)) .nil))) .nil)))) .no [i])) .nil)
theorem tail_go {T : Tab} {W m : Nat} (D0 : HasDraw T) {cR : Ss} {k : Nat} (hR : List.lookup ("_law_right" : Str) T = some ⟨1, k, true, false, cR⟩) {ns : List Int} {n : Int} {i : Nat} {env : Env} {P : D → Sto → Prop} {E : Ex → Sto → Prop} (hl : ns.length ≤ 63) (hn : 2 ≤ n) (hn2 : n ≤ 63)
    (he : env[0]? = some (some (.fl (ns.map .int)))) (hi : i < env.length) (hi1 : i ≠ 0)
    (right : ∀ ys : List D, Pl ys → Run (runF T W (m + 1) "_law_right" [.ref 0]) [.lst ys] (fun d _ => d = .bl true) no) (p : ∀ s, P (.bl true) s) :
    Run (runE (runF T W (m + 1)) W (cTail n i) env) [] P E := by
  unfold cTail
  simp only [runSs, runS, runE, runEs, runG, runGs, runG2, runP, runI, runIf, runO, runB, runC, runBI, runMI, run_raise, up_true, noErr_pure, nb_pure, nb_bind, frz_app, rc_upper, m_upper, q_mulX, frz_ed, frz_ob, frzD_app, frzD_0, frzD_1, frzD_2, frzD_3, frzD_4, frzD_5, frzD_6, frzD_7, frzD_8, frzD_9, fz_ed, wipeE, List.filterMap_cons, List.filterMap_nil, run_bind, run_tr, run_up, run_noErr, run_pure, run_bad, run_ite, runM_pure, runM_bad, runM_bind, runM_guard, runM_alloc, runM_some, runM_none, runM_put, List.getElem?_cons_zero, List.getElem?_cons_succ, List.set_cons_zero, List.set_cons_succ, List.length_cons, List.length_nil, List.cons_append, List.nil_append, List.take_succ_cons, List.take_zero, Nat.reduceAdd, Nat.reduceLeDiff, Nat.reduceLT, Int.reduceLT, Int.reduceLE, Int.reduceNe, Int.reduceEq, ne_eq, not_false_eq_true, reduceCtorEq, Int.reduceToNat, Int.reducePow, Int.reduceNeg, Nat.reduceMul, Nat.reduceEqDiff, Nat.le_refl, Option.some.injEq, O.lst.injEq, exists_eq_left', exists_eq_left, run_frz, frz_int, frz_bl, frz_str, frz_tup, frz_fl, frz_non, frz_0, frz_1, frz_2, frz_3, frz_4, frz_5, frz_6, frz_7, Nat.zero_le, fz_int, fz_bl, fz_str, fz_non, getM_st, getL_st, m_append, m_extend, l_fl, l_ref, rc_append, rc_extend, rc_pop1, rc_pop0, rc_index, rc_join, size_ok, size_lt, b_int, b_bl, b_str, b_non, comp_stat, compA_stat, for_stat, comp_enum, for_enum, decide_eq_true_eq, Option.bind_some, Option.map_some, Option.map_none, fin_ret, fin_next, fin_exn, Gs.len, if_true, if_false, Bool.false_eq_true, Bool.true_eq_false, Bool.not_true, Bool.not_false, decide_true, decide_false, and_true, true_and, beq_self_eq_true, q_add_int, q_add_str, q_add_tup, q_add_rr, q_add_ff, q_add_rf, q_add_fr, q_sub, q_mul, q_mul_ref, q_mul_fl, q_mul_tup, q_fdiv, q_fdivW, q_le_str, q_mod, q_pow, q_ix_tup, q_ix_fl, q_ix_ref, q_set, q_eq_int, q_eq_str, q_eq_bl, q_ne, q_lt, q_le, q_gt, q_ge, q_is, q_isNot, q_isB, q_isNotB, q_notIn, t_bl, t_int, t_tup, t_non, ixN_0, ixN_1, ixN_2, ixN_3, q_divmod, q_abs, q_max2, q_min2, q_len_tup, q_len_fl, q_len_ref, q_len_str, q_seq_tup, q_seq_fl, q_seq_ref, q_src_tup, q_src_fl, q_src_ref, q_part_i, q_part_n, q_list1_tup, q_list1_fl, q_tup1_fl, q_list1_ref, q_tup1_tup, q_tup1_ref, q_slc_tup, q_slc_fl, q_slc_ref, q_src_str, q_srcE_tup, q_srcE_fl, q_srcE_str, in_tupS, in_flS, q_sortedSetS, q_sorted_tupS, q_sorted_flS, q_max_flI, q_min_flI, q_sum_flI, q_rev_tup, q_rev_fl, q_int_bl, q_int_int, q_bool_bl, q_ix_str, q_slc_str, q_join_flS, q_join_tupS, q_split, q_tup1_str, rc_split, ty1, ty2, ty3, ty4, ty5, tStr, tInt, tBool, tTuple, tList, he, List.length_map]
  have hb : ∀ x : Int, (if n < x then n else x) ≤ 63 ∨ (if n < x then n else x) ≤ n := by intro x; split <;> omega
  generalize hN : (if (if n < ((ns.length : Nat) : Int) then n else ((ns.length : Nat) : Int)) > 2 then (if n < ((ns.length : Nat) : Int) then n else ((ns.length : Nat) : Int)) else 2) = N
  have hb : 0 ≤ N ∧ N ≤ 63 := by
    subst hN
    split <;> (try split) <;> omega
  have h0 : ∀ x : Option D, ((List.set env i none).set i x)[0]? = some (some (.fl (ns.map .int))) := by
    intro x
    rw [List.getElem?_set_ne hi1, List.getElem?_set_ne hi1, he]
  have h1 : ∀ x : Option D, ((List.set env i none).set i x)[i]? = some x := by
    intro x
    rw [List.getElem?_set_self (by rw [List.length_set]; exact hi)]
  refine ⟨by unfold in62; simp; omega, ?_⟩
  refine all_turns (fun _ => True) trivial (by rw [range_len]; omega) (fun x s hx _ => ?_) fun s _ => ?_
  · obtain ⟨j, rfl, hj⟩ := range_mem hx
    rw [Int.zero_add] at hj
    have ej : (0 : Int) + (j : Int) = (j : Int) := Int.zero_add _
    rw [ej]
    simp only [runSs, runS, runE, runEs, runG, runGs, runG2, runP, runI, runIf, runO, runB, runC, runBI, runMI, run_raise, up_true, noErr_pure, nb_pure, nb_bind, frz_app, rc_upper, m_upper, q_mulX, frz_ed, frz_ob, frzD_app, frzD_0, frzD_1, frzD_2, frzD_3, frzD_4, frzD_5, frzD_6, frzD_7, frzD_8, frzD_9, fz_ed, wipeE, List.filterMap_cons, List.filterMap_nil, run_bind, run_tr, run_up, run_noErr, run_pure, run_bad, run_ite, runM_pure, runM_bad, runM_bind, runM_guard, runM_alloc, runM_some, runM_none, runM_put, List.getElem?_cons_zero, List.getElem?_cons_succ, List.set_cons_zero, List.set_cons_succ, List.length_cons, List.length_nil, List.cons_append, List.nil_append, List.take_succ_cons, List.take_zero, Nat.reduceAdd, Nat.reduceLeDiff, Nat.reduceLT, Int.reduceLT, Int.reduceLE, Int.reduceNe, Int.reduceEq, ne_eq, not_false_eq_true, reduceCtorEq, Int.reduceToNat, Int.reducePow, Int.reduceNeg, Nat.reduceMul, Nat.reduceEqDiff, Nat.le_refl, Option.some.injEq, O.lst.injEq, exists_eq_left', exists_eq_left, run_frz, frz_int, frz_bl, frz_str, frz_tup, frz_fl, frz_non, frz_0, frz_1, frz_2, frz_3, frz_4, frz_5, frz_6, frz_7, Nat.zero_le, fz_int, fz_bl, fz_str, fz_non, getM_st, getL_st, m_append, m_extend, l_fl, l_ref, rc_append, rc_extend, rc_pop1, rc_pop0, rc_index, rc_join, size_ok, size_lt, b_int, b_bl, b_str, b_non, comp_stat, compA_stat, for_stat, comp_enum, for_enum, decide_eq_true_eq, Option.bind_some, Option.map_some, Option.map_none, fin_ret, fin_next, fin_exn, Gs.len, if_true, if_false, Bool.false_eq_true, Bool.true_eq_false, Bool.not_true, Bool.not_false, decide_true, decide_false, and_true, true_and, beq_self_eq_true, q_add_int, q_add_str, q_add_tup, q_add_rr, q_add_ff, q_add_rf, q_add_fr, q_sub, q_mul, q_mul_ref, q_mul_fl, q_mul_tup, q_fdiv, q_fdivW, q_le_str, q_mod, q_pow, q_ix_tup, q_ix_fl, q_ix_ref, q_set, q_eq_int, q_eq_str, q_eq_bl, q_ne, q_lt, q_le, q_gt, q_ge, q_is, q_isNot, q_isB, q_isNotB, q_notIn, t_bl, t_int, t_tup, t_non, ixN_0, ixN_1, ixN_2, ixN_3, q_divmod, q_abs, q_max2, q_min2, q_len_tup, q_len_fl, q_len_ref, q_len_str, q_seq_tup, q_seq_fl, q_seq_ref, q_src_tup, q_src_fl, q_src_ref, q_part_i, q_part_n, q_list1_tup, q_list1_fl, q_tup1_fl, q_list1_ref, q_tup1_tup, q_tup1_ref, q_slc_tup, q_slc_fl, q_slc_ref, q_src_str, q_srcE_tup, q_srcE_fl, q_srcE_str, in_tupS, in_flS, q_sortedSetS, q_sorted_tupS, q_sorted_flS, q_max_flI, q_min_flI, q_sum_flI, q_rev_tup, q_rev_fl, q_int_bl, q_int_int, q_bool_bl, q_ix_str, q_slc_str, q_join_flS, q_join_tupS, q_split, q_tup1_str, rc_split, ty1, ty2, ty3, ty4, ty5, tStr, tInt, tBool, tTuple, tList, h0, h1]
    refine cell_go (k := j) D0 (by omega) fun v => ?_
    refine pool_go D0 fun ys hy => ?_
    exact go_move hR rfl rfl rfl (xs := ys) (v := .bl true) (by rw [List.getElem?_append_right (Nat.le_refl _), Nat.sub_self]; rfl) (right ys hy) fun s => rfl
  · rw [range_len]
    exact q_all_rep.mpr (p _)
end RV

/-! R22: whiles, lists that change, comparisons of lists. -/
namespace RV
open PySem
section
variable {st : Sto} {P : D → Sto → Prop} {PB : Bool → Sto → Prop}
end
end RV

/-! R23: a block of statements, in two parts. -/
namespace RV
open PySem
/-- the first n statements; those behind them -/
def Ss.tk : Nat → Ss → Ss
  | 0, _ => .nil
  | _ + 1, .nil => .nil
  | n + 1, .cons s r => .cons s (r.tk n)
def Ss.dr : Nat → Ss → Ss
  | 0, r => r
  | _ + 1, .nil => .nil
  | n + 1, .cons _ r => r.dr n
end RV

/-! RK4: the calculus for zip, for dicts whose keys are tuples, for sorted dicts, for xs[i] += e. -/
namespace RV
open PySem
section
variable {st : Sto} {n : Nat} {x z d : D} {k : NestedKey} {kvs : List (D × D)} {xs ys : List D}
end
end RV

set_option maxHeartbeats 2000000
/-! RL1: a lambda without parameters, handed to a def that calls it once, in a try. -/
namespace RV
open PySem PySem.Spec PyProof.Rows L2
variable [Wd]
section
variable {X : Cx} {pins : List (Addr × Obj)} {σ : L2.St} {H : Hp} {s : Shared}
end
end RV

set_option maxHeartbeats 2000000
/-! RL2: what a def knows of its first name until it calls it; the call with a lambda. -/
namespace RV
open PySem PySem.Spec PyProof.Rows L2
variable [Wd]
section
variable {X : Cx} {F : L2.St → FW} {Φ : Str → List D → N D} {W : Nat} {J : L2.St → Hp → Prop} {e tg : Expr} {ca : C} {g : G} {pos : Pos} {st : Stmt} {sts : List Stmt} {cs : S} {cp : Ss}
end
/-! ### the call -/
section
variable {K : PySem.W.Frag} {μ : List Addr} {H : Hp} {st : Sto}
end
end RV

set_option maxHeartbeats 2000000
/-! RL3: the law's call where lambdas are made; defs that make them. -/
namespace RV
open PySem PySem.Spec PyProof.Rows L2
abbrev emptyO : Obj := { cls := .none, data := .fields #[] }
section
variable [Wd]
/-- the law's call; the tables are known -/
theorem lawGT {P : Program} {w : World} {K : PySem.W.Frag} {mg mb : Str → Option Value} {k : Nat} {fa a : Addr} {fd : FuncData} {x : Str} {sp : List V → Hp → VK → FW → Prop} {s1 : Shared} {vs : List Value} {ns : List Int} {cs : List (Addr × Addr)} {Sd : Prop}
    (kin : K.In s1.heap) (hns : s1.heap.Ns mainGlobals mg) (hb : s1.heap.Ns builtinsNs mb) (hbb : ∀ y : Str, y ≠ "__name__" → mb y = bootBuiltins y) (lim : s1.heap.NoLimit) (gens : s1.gens = #[])
    (emp : ∀ q ∈ cs, s1.heap.get? q.2 = some emptyO) (offK : ∀ q ∈ cs, K.lookup q.2 = none) (chd : ∀ q ∈ cs, PySem.W.CodeHd s1.heap q.1 q.2)
    (bmod : ∃ (bm : Addr) (ob : Obj), mg "__builtins__" = some (.ref bm) ∧ bm ≠ builtinsNs ∧ s1.heap.get? bm = some ob ∧ ob.cls = .type "module" ∧ ob.dict = some builtinsNs ∧ ob.data = .plain)
    (ha : s1.heap.get? a = some { cls := .type "list", data := .seq vs.toArray }) (inz : IntsAre vs ns) (short : ns.length ≤ sizeLine) (room : Room k callerA)
    (Fn : ∀ base : Heap, K.In base → base.Ns mainGlobals mg → (∀ q ∈ cs, LamX.TabB base mg q.1 q.2) → (Sd → SysD base) → FnG P w K mg base k fa fd [x] sp) (sd : Sd → SysD s1.heap) (bi : ∀ (s : Shared) (u : Value), BindsTo s fd ⟨[u], []⟩ [(x, u)])
    (hsp : ∀ H : Hp, SqF K H a (ns.map V.int) → (∀ q ∈ cs, H q.2 = some (.tbl #[])) → sp [.ref a] H (fun v _ => v = .bl true) FZ) :
    codeAny (model P w) callerA (.call (.ref fa) ⟨[.ref a], []⟩) (fun r s' => r = .ok (.ret (.bool true)) ∧ OldK s1.heap s'.heap ∧ s'.os = s1.os ∧ AllBare s'.gens) s1 := by
  have rel := vals_ints inz
  have vlen := inz.length
  have tabs : ∀ b ∈ cs.map (·.2), s1.heap.get? b = some emptyO := fun b hb' => by
    obtain ⟨q, hq, rfl⟩ := List.mem_map.mp hb'
    exact emp q hq
  have anot : a ∉ cs.map (·.2) := fun z => by
    have e := (tabs a z).symm.trans ha
    exact nomatch (congrArg Obj.data (Option.some.inj e) : Data.fields #[] = Data.seq vs.toArray)
  suffices main : ∀ H : Hp, (∀ q ∈ cs, H q.2 = some (.tbl #[])) → (∀ b, H b = none ∨ b ∈ cs.map (·.2) ∨ ∃ o ys, H b = some (.frz o (.lst ys))) → SqF K H a (ns.map V.int) → HOk P w H s1.heap → (∀ b, H b ≠ none → b = a ∨ b ∈ cs.map (·.2)) → (H a ≠ none → K.lookup a = none) →
      codeAny (model P w) callerA (.call (.ref fa) ⟨[.ref a], []⟩) (fun r s' => r = .ok (.ret (.bool true)) ∧ OldK s1.heap s'.heap ∧ s'.os = s1.os ∧ AllBare s'.gens) s1 by
    cases hk : K.lookup a with
    | some o =>
      have e := kin a o hk
      rw [ha] at e
      cases e
      refine main (fun b => if b ∈ cs.map (·.2) then some (.tbl #[]) else none) (fun q hq => if_pos (List.mem_map.mpr ⟨q, hq, rfl⟩)) (fun b => ?_) (.inr ⟨vs, _, hk, rel, by rw [List.length_map]; exact short⟩) (fun b u z => ?_) (fun b z => ?_) fun z => (z (if_neg anot)).elim
      · by_cases c : b ∈ cs.map (·.2)
        · exact .inr (.inl c)
        · exact .inl (if_neg c)
      · by_cases c : b ∈ cs.map (·.2)
        · cases (if_pos c).symm.trans z
          exact tabs b c
        · cases (if_neg c).symm.trans z
      · by_cases c : b ∈ cs.map (·.2)
        · exact .inr c
        · exact (z (if_neg c)).elim
    | none =>
      refine main (fun b => if b = a then some (.frz { cls := .type "list", data := .seq vs.toArray } (.lst (ns.map V.int))) else if b ∈ cs.map (·.2) then some (.tbl #[]) else none)
        (fun q hq => by
          have hq2 : q.2 ∈ cs.map (·.2) := List.mem_map.mpr ⟨q, hq, rfl⟩
          exact (if_neg (fun z : q.2 = a => anot (by rw [← z]; exact hq2))).trans (if_pos hq2)) (fun b => ?_) (.inl ⟨_, if_pos rfl⟩) (fun b u z => ?_) (fun b z => ?_) fun _ => hk
      · by_cases c : b = a
        · exact .inr (.inr ⟨_, _, if_pos c⟩)
        · by_cases c2 : b ∈ cs.map (·.2)
          · exact .inr (.inl c2)
          · exact .inl ((if_neg c).trans (if_neg c2))
      · by_cases c : b = a
        · subst c
          cases (if_pos rfl).symm.trans z
          exact ⟨ha, by rw [List.length_map]; exact short, vs, _, rel, ha⟩
        · by_cases c2 : b ∈ cs.map (·.2)
          · cases ((if_neg c).trans (if_pos c2)).symm.trans z
            exact tabs b c2
          · cases ((if_neg c).trans (if_neg c2)).symm.trans z
      · by_cases c : b = a
        · exact .inl c
        · by_cases c2 : b ∈ cs.map (·.2)
          · exact .inr c2
          · exact (z ((if_neg c).trans (if_neg c2))).elim
  intro H tb only sq hok one notK
  -- what is neither a list nor an empty table is free
  have free0 : ∀ {b : Addr} {o : Obj}, s1.heap.get? b = some o → (∀ u m, o.data ≠ .seq u m) → o.data ≠ .fields #[] → H b = none := fun {b o} e n1 n2 => by
    cases q : H b with
    | none => rfl
    | some u =>
      rcases one b (by rw [q]; exact fun z => nomatch z) with rfl | c
      · rw [ha] at e; cases e; exact (n1 _ _ rfl).elim
      · rw [tabs b c] at e; cases e; exact (n2 rfl).elim
  have kept : ∀ {b : Addr} {o : Obj}, s1.heap.get? b = some o → H b = none → (hidT s1.heap H).get? b = some o := fun e z => hidT_get e z
  have free : ∀ {b : Addr} {o : Obj} {es : Array DictEntry} {ep : Nat}, s1.heap.get? b = some o → o.data = .dict es ep → H b = none := fun e d => free0 e (fun u m z => nomatch (d.symm.trans z)) fun z => nomatch (d.symm.trans z)
  have nsOf : ∀ {b : Addr} {m : Str → Option Value}, s1.heap.Ns b m → (hidT s1.heap H).Ns b m := by
    rintro b m ⟨o, es, ep, e, d, r⟩
    exact ⟨o, es, ep, kept e (free e d), d, r⟩
  have kinB : K.In (hidT s1.heap H) := by
    intro b o e
    refine kept (kin b o e) ?_
    cases q : H b with
    | none => rfl
    | some u =>
      have hb' : H b ≠ none := by rw [q]; exact fun z => nomatch z
      rcases one b hb' with rfl | c
      · rw [notK hb'] at e; cases e
      · obtain ⟨q', hq, rfl⟩ := List.mem_map.mp c
        rw [offK q' hq] at e; cases e
  have md : Mod K mg (hidT s1.heap H) := by
    refine ⟨kinB, nsOf hns, ⟨mb, nsOf hb, hbb⟩, ?_⟩
    obtain ⟨mc, h1, h2⟩ := lim
    exact ⟨mc, nsOf h1, h2⟩
  have tbb : ∀ q ∈ cs, LamX.TabB (hidT s1.heap H) mg q.1 q.2 := fun q hq => by
    have hg : mainGlobals ≠ q.2 := fun z => by
      obtain ⟨o, es, ep, e, hd, _⟩ := hns
      rw [z, emp q hq] at e
      cases e
      cases hd
    refine ⟨?_, ?_, hg⟩
    · obtain ⟨o, us, fl1, fl2, fl3, fl4, fl5, fl6, fl7, e1, d0, d1, d2, rest⟩ := chd q hq
      exact ⟨o, us, fl1, fl2, fl3, fl4, fl5, fl6, fl7, kept e1 (free0 e1 (fun u m z => by rw [d1] at z; cases z) fun z => by rw [d1] at z; cases z; simp at d2), d0, d1, d2, rest⟩
    · obtain ⟨bm, ob, m1, m2, m3, m4, m5, m6⟩ := bmod
      refine ⟨bm, ob, m1, m2, fun z => ?_, fun z => ?_, kept m3 (free0 m3 (fun u m z => nomatch (m6.symm.trans z)) fun z => nomatch (m6.symm.trans z)), m4, m5, m6⟩
      · obtain ⟨o, es, ep, e, hd, _⟩ := hns
        rw [z, e] at m3
        cases m3
        exact nomatch (hd.symm.trans m6)
      · rw [z, emp q hq] at m3
        cases m3
        cases m6
  have e0 : Env0 P w K mg (hidT s1.heap H) callerA [] s1 H := by
    refine ⟨rfl, md, fun b o e => of_hidT e, Nat.le_of_eq (hidT_size _ _), trivial, fun b hb => ?_, hok, .of_eq gens⟩
    exact absurd (show b ∈ ([] : List Addr) from hb) List.not_mem_nil
  have sdb : Sd → SysD (hidT s1.heap H) := fun z => by
    obtain ⟨o, es, ep, e, d, ne⟩ := sd z
    exact ⟨o, es, ep, kept e (free e d), d, ne⟩
  have ran := (Fn _ kinB (nsOf hns) tbb sdb).run callerA [] s1 H ⟨[.ref a], []⟩ [.ref a] [.ref a] _ _ rfl room e0 (bi s1 (.ref a)) (.cons rfl .nil) rfl (hsp H sq tb)
  refine codeAny_mono ran fun r s' got => ?_
  cases r with
  | error e =>
    obtain ⟨_, _, _, _, _, _, _, _, _, _, _, _, z⟩ := got
    exact (exK_no z).elim
  | ok fl =>
    cases fl with
    | next => exact got.elim
    | brk => exact got.elim
    | cont => exact got.elim
    | ret u =>
      obtain ⟨v, H', os, bare, un, hok', r', q⟩ := got
      cases (show v = .bl true from q)
      cases (show u = Value.bool true from r')
      have same : ∀ b o, b ∉ cs.map (·.2) → s1.heap.get? b = some o → s'.heap.get? b = some o := fun b o nb e => by
        rcases only b with z | z | ⟨ob, ys, z⟩
        · exact un.keep b o e z (fun z => absurd (show b ∈ ([] : List Addr) from z) List.not_mem_nil) List.not_mem_nil
        · exact (nb z).elim
        · have t1 := (hok b _ z).1
          have t2 := (hok' b _ (un.frzs b ob _ z)).1
          rw [e] at t1
          cases t1
          exact t2
      have more : ∀ q ∈ cs, ∃ us : Array Value, s'.heap.get? q.2 = some { cls := .none, data := .fields us } := fun q hq => by
        obtain ⟨us, z⟩ := un.tbls q.2 #[] (tb q hq)
        exact ⟨_, hok' q.2 _ z⟩
      refine ⟨rfl, ⟨fun b o e => ?_, fun b o e => ?_⟩, os, bare⟩
      · by_cases c : b ∈ cs.map (·.2)
        · obtain ⟨q, hq, rfl⟩ := List.mem_map.mp c
          obtain ⟨us, hm⟩ := more q hq
          rw [emp q hq] at e
          cases e
          exact .inr (.inl ⟨((chd q hq).tab (emp q hq)).isCodeTable, rfl, #[], us, rfl, by rw [Array.empty_append]; exact hm⟩)
        · exact .inl (same b o c e)
      · by_cases c : b ∈ cs.map (·.2)
        · obtain ⟨q, hq, rfl⟩ := List.mem_map.mp c
          obtain ⟨us, hm⟩ := more q hq
          exact ⟨_, hm⟩
        · exact ⟨o, same b o c e⟩
end
end RV

set_option maxHeartbeats 2000000
/-! RL4: what printed proofs use of lambdas. -/
namespace RV
open PySem PySem.Spec PyProof.Rows L2
section
variable [Wd]
end
/-- the end of a law with lambdas -/
theorem walkGT {l : PySem.W.OpenLaw} {n k : Nat} {q : Program} {loose : List Str} {XP : (Str → Option Value) → Heap → Prop} {YP : World → Heap → Prop} {d : DefRec} {Ψ : List D → N D} {x : Str} {Sd : Prop} (sdY : Sd → ∀ w h, YP w h → SysD h)
    (hn : l.most = some n) (hn2 : n ≤ sizeLine) (hdf : d.params.defaults = []) (room : Room k callerA)
    (Fn : ∀ (w : World) (mg : Str → Option Value) (fa : Addr) (h : Heap), YP w h → h.Ns mainGlobals mg → mg d.name = some (.ref fa) →
      ∃ (K : PySem.W.Frag) (ts : List ((Addr × Addr) × Str)) (fd : FuncData), K.In h ∧ (∀ p ∈ ts, h.get? p.1.2 = some emptyO ∧ K.lookup p.1.2 = none ∧ PySem.W.CodeHd h p.1.1 p.1.2) ∧ (∀ (s : Shared) (u : Value), BindsTo s fd ⟨[u], []⟩ [(x, u)]) ∧
        ∀ base : Heap, K.In base → base.Ns mainGlobals mg → (∀ p ∈ ts, LamX.TabB base mg p.1.1 p.1.2) → (Sd → SysD base) → @FnG ⟨w, ts.map fun p => (p.1.2, p.2)⟩ l.prog w K mg base k fa fd [x] (@spF ⟨w, ts.map fun p => (p.1.2, p.2)⟩ K Ψ))
    (law : ∀ ns : List Int, ns.length ≤ n → ∃ st, Ψ [.fl (ns.map .int)] [] = .ok (.bl true) st) : PySem.W.WalkO q loose XP YP l.row.toRowW d [] (fun f vs => PySem.call f vs) := by
  refine Att.attach_callB hn hdf fun w s0 s1 mg mb fa o pm cd doc a vs ns G Y ho hd hcd hmg hobj hints hlen hbits hg => ?_
  obtain ⟨K, ts, fd, kin, hts, hb, hF⟩ := Fn w mg fa _ Y G.T.g hmg
  letI : Wd := ⟨w, ts.map fun p => (p.1.2, p.2)⟩
  have hm : ∀ p ∈ ts, p.1 ∈ ts.map (·.1) := fun p hp => List.mem_map.mpr ⟨p, hp, rfl⟩
  have hc : ∀ {R : Addr × Addr → Prop}, (∀ p ∈ ts, R p.1) → ∀ p ∈ ts.map (·.1), R p := fun h p hp => by
    obtain ⟨r, hr, rfl⟩ := List.mem_map.mp hp
    exact h r hr
  refine lawGT (cs := ts.map (·.1)) kin G.T.g G.T.b G.T.builtins G.T.nolimit hg (hc fun p hp => (hts p hp).1) (hc fun p hp => (hts p hp).2.1) (hc fun p hp => (hts p hp).2.2) G.T.bmain hobj hints (Nat.le_trans hlen hn2) room (fun base kb nb tb sd => hF base kb nb (fun p hp => tb p.1 (hm p hp)) sd) (fun z => sdY z _ _ Y) hb fun H sq tb => ?_
  obtain ⟨st, e⟩ := law ns hlen
  refine ⟨[], [], [.fl (ns.map .int)], ⟨rfl, List.nodup_nil, (fun i o z => by simp at z), (fun i o z => by simp at z), (fun p hp => ?_)⟩, .cons ⟨a, ns.map V.int, rfl, sq, ints_D ns _ _ _⟩ .nil, ?_⟩
  · obtain ⟨r, hr, rfl⟩ := List.mem_map.mp hp
    exact LamX.TabS.nil (tb r.1 (hm r hr))
  · show Wp _ FZ (Ψ _) [] [] H _
    unfold Wp
    rw [e]
    exact fun μ' H' _ v _ r => r
end RV

set_option maxHeartbeats 2000000
/-! RL5: a head's facts, as the laws with lambdas take them. -/
namespace RV
open PySem PySem.Spec PyProof.Rows L2
section
variable {K : PySem.W.Frag} {h : Heap} {mg : Str → Option Value}
theorem fun_ofD {x qual : Str} {st : Stmt} {f : Addr} {fd : FuncData} (F : FunD K x qual (defArgs st) (defBody st) (defScope st) [] [] f fd) : Fun K x qual st f fd := by
  obtain ⟨oc, od, dV, kV, doc, pm, an, cdv, ct, osl, rfl, lk, hc, hd, _⟩ := F.ex
  rcases hd with ⟨_, rfl⟩ | ⟨e, _⟩
  · exact ⟨⟨oc, od, kV, doc, pm, an, cdv, ct, osl, rfl, lk, hc⟩, F.kp⟩
  · exact (e rfl).elim
theorem kw_ofD {x qual : Str} {ps : Arguments} {b : List Stmt} {sc : Scope} {kws : List (Str × V)} {p : Str × Option Str} {fd : FuncData} (F : FunD K x qual ps b sc [] kws (He.fAd K p) fd) (hk : kwB K p = true) :
    ∃ (oc : Value) (od : Option Addr) (doc pm : Value) (an : Option Addr) (cdv ct : Value) (osl : Array (Option Value)), K.lookup (He.fAd K p) = some ⟨oc, od, .func (PySem.W.fnOf x qual ps b sc .none .none doc pm an cdv ct), osl⟩ ∧ PySem.W.codeIn K cdv qual = true := by
  obtain ⟨oc, od, dV, kV, doc, pm, an, cdv, ct, osl, rfl, lk, hc, hd, _⟩ := F.ex
  unfold kwB at hk
  rw [lk] at hk
  have e : kV = .none := of_decide_eq_true hk
  subst e
  rcases hd with ⟨_, rfl⟩ | ⟨e, _⟩
  · exact ⟨oc, od, doc, pm, an, cdv, ct, osl, lk, hc⟩
  · exact (e rfl).elim
theorem ext_of {x f q : Str} {bm : List Value} {B nw ini : String} {p1 p2 q1 q2 q3 q4 : Pos} {fd : FuncData} (KX : K.In h) (G : h.Ns mainGlobals mg) (hb : ExcBaseFacts B nw ini bm) (hs : StoreFacts B bm "object.__setattr__" "object") (hf : InitF f) (e1 : excB K x bm nw = true) (e2 : exfB K x f = true)
    (F : FunD K "__init__" q (eA f p1 p2) (eB f q1 q2 q3 q4) (eS f) [] [] (He.fAd K (x, some "__init__")) fd) : ExT K mg x f (He.ga K x) (He.ma K (He.ga K x) "__init__") := by
  obtain ⟨a1, e1⟩ := He.ba e1
  obtain ⟨a2, e1⟩ := He.ba e1
  obtain ⟨a3, e1⟩ := He.ba e1
  obtain ⟨a4, e1⟩ := He.ba e1
  obtain ⟨a5, e1⟩ := He.ba e1
  obtain ⟨a6, e1⟩ := He.ba e1
  obtain ⟨a7, e1⟩ := He.ba e1
  obtain ⟨a8, a9⟩ := He.ba e1
  obtain ⟨b1, e2⟩ := He.ba e2
  obtain ⟨b2, e2⟩ := He.ba e2
  obtain ⟨b3, e2⟩ := He.ba e2
  obtain ⟨b4, b5⟩ := He.ba e2
  obtain ⟨oc, od, doc, pm, an, cdv, ct, osl, lk, hc⟩ := kw_ofD F b5
  exact ⟨PySem.W.mg_of KX G (He.eqO_ok a1), He.eqO_ok a1, ⟨B, nw, ini, bm, hb, hs, a2, a3⟩, He.eqO_ok b1, He.eqO_ok a4, He.eqO_ok a5, He.eqO_ok b2, He.eqO_ok b3, of_decide_eq_true b4, a6, of_decide_eq_true a7, of_decide_eq_true a8, a9, hf, oc, od, doc, pm, an, cdv, ct, osl, p1, p2, q1, q2, q3, q4, q, lk, hc⟩
theorem exb_of {x : Str} {bm : List Value} {B nw ini : String} (KX : K.In h) (G : h.Ns mainGlobals mg) (hb : ExcBaseFacts B nw ini bm) (hs : StoreFacts B bm "object.__setattr__" "object") (e1 : excB K x bm nw = true) (e2 : PySem.W.excIn K (He.ga K x) bm nw = true) : ExB K mg x (He.ga K x) := by
  obtain ⟨a1, e1⟩ := He.ba e1
  obtain ⟨a2, e1⟩ := He.ba e1
  obtain ⟨a3, e1⟩ := He.ba e1
  obtain ⟨a4, e1⟩ := He.ba e1
  obtain ⟨a5, e1⟩ := He.ba e1
  obtain ⟨a6, e1⟩ := He.ba e1
  obtain ⟨a7, e1⟩ := He.ba e1
  obtain ⟨a8, a9⟩ := He.ba e1
  exact ⟨PySem.W.mg_of KX G (He.eqO_ok a1), He.eqO_ok a1, ⟨B, nw, ini, bm, hb, hs, a2, a3, e2⟩, He.eqO_ok a4, He.eqO_ok a5, a6, of_decide_eq_true a7, of_decide_eq_true a8, a9⟩
theorem int_ofD (KX : K.In h) (G : h.Ns mainGlobals mg) {x : Str} {i : Int} (c : (He.Fa.int x i).ok K = true) : ∃ u, mg x = some u ∧ RelV (.int i) u := (He.int_ok KX G c).elim fun t e => ⟨_, e, t, rfl⟩
end
end RV

set_option maxHeartbeats 2000000
/-! RL6: a head's facts of errors whose class is asked. -/
namespace RV
open PySem PySem.Spec PyProof.Rows L2
section
variable {K : PySem.W.Frag} {h : Heap} {mg : Str → Option Value}
theorem isc_of {x : Str} {bm : List Value} {nw : String} (e1 : excB K x bm nw = true) (e2 : clsB K x = true) : IscF K (He.ga K x) := by
  obtain ⟨a1, e1⟩ := He.ba e1
  obtain ⟨a2, e1⟩ := He.ba e1
  obtain ⟨a3, e1⟩ := He.ba e1
  obtain ⟨a4, e1⟩ := He.ba e1
  obtain ⟨a5, e1⟩ := He.ba e1
  obtain ⟨a6, e1⟩ := He.ba e1
  obtain ⟨a7, e1⟩ := He.ba e1
  obtain ⟨b1, e2⟩ := He.ba e2
  obtain ⟨b2, e2⟩ := He.ba e2
  obtain ⟨b3, e2⟩ := He.ba e2
  obtain ⟨b4, b5⟩ := He.ba e2
  exact ⟨b1, He.eqO_ok a4, He.eqO_ok a5, of_decide_eq_true a7, He.eqO_ok b2, He.eqO_ok b3, of_decide_eq_true b4, of_decide_eq_true b5⟩
theorem kit_of {all ys : List Str} {V : Value} (hI : ∀ t ∈ all, PySem.W.nsIn K mainGlobals t = some (some (.ref (He.ga K t))) ∧ IscF K (He.ga K t)) (h : kitAll K all V ys = true) :
    ∀ t ∈ all, ∃ C, PySem.W.nsIn K mainGlobals t = some (some (.ref C)) ∧ IscF K C ∧ PySem.W.kitOne K (.ref C) V = some (ys.contains t) := fun t ht => ⟨_, (hI t ht).1, (hI t ht).2, of_decide_eq_true (List.all_eq_true.mp h t ht)⟩
end
end RV

namespace RV
open PySem PySem.Spec PyProof.Rows L2
/-! ### the program: codes -/
def c_law : Ss := (.cons (.ite (.not (.call "_law_limits_right" .nil)) (.cons (.ret (.cst (.bl false))) .nil) .nil) (.cons (.ret (.bif .all (.cons (.frz (.comp (.call "_law_right" (.cons (.call "_law_pool" (.cons (.call "_law_cell" (.cons (.var 0) (.cons (.var 1) .nil))) .nil)) .nil)) (.nm 1) (.rng (.bif .max2 (.cons (.cst (.int 2)) (.cons (.bif .min2 (.cons (.bif .len (.cons (.var 0) .nil)) (.cons (.cst (.int 3)) .nil))) .nil)))) .no [1])) .nil))) .nil))
def c__law_limits_right : Ss := (.cons (.asg (.nm 0) (.frz (.lst (.cons (.cst (.int 6)) (.cons (.cst (.int 400)) (.cons (.cst (.int 2000)) (.cons (.cst (.int 10)) (.cons (.cst (.int 60000)) (.cons (.cst (.int 40)) (.cons (.cst (.int 3)) (.cons (.cst (.int 160)) .nil))))))))))) (.cons (.asg (.nm 0) (.frz (.bin .add (.var 0) (.frz (.lst (.cons (.cst (.int 5)) (.cons (.cst (.int 16)) (.cons (.cst (.int 12)) (.cons (.cst (.int 4)) (.cons (.cst (.int 60)) (.cons (.cst (.int 12)) .nil))))))))))) (.cons (.asg (.nm 1) (.frz (.lst (.cons (.cst (.int 6)) (.cons (.cst (.int 400)) (.cons (.cst (.int 2000)) (.cons (.cst (.int 10)) (.cons (.cst (.int 60000)) (.cons (.cst (.int 40)) (.cons (.cst (.int 3)) (.cons (.cst (.int 160)) (.cons (.cst (.int 5)) (.cons (.cst (.int 16)) (.cons (.cst (.int 12)) (.cons (.cst (.int 4)) (.cons (.cst (.int 60)) (.cons (.cst (.int 12)) (.cons (.bin .pow (.cst (.int 10)) (.cst (.int 30))) (.cons (.cst (.int 500)) .nil))))))))))))))))))) (.cons (.ret (.cmp .eq (.bif .reprE (.cons (.frz (.bin .add (.var 0) (.frz (.lst (.cons (.cst (.int 1000000000000000000000000000000)) (.cons (.cst (.int 500)) .nil)))))) .nil)) (.bif .reprE (.cons (.var 1) .nil)))) .nil))))
def c__law_cell : Ss := (.cons (.ite (.cmp .lt (.var 1) (.bif .len (.cons (.var 0) .nil))) (.cons (.ret (.idx (.var 0) (.var 1))) .nil) .nil) (.cons (.asg (.nm 2) (.bin .mod (.bin .mul (.cst (.int 60037)) (.bin .add (.bin .add (.bin .mul (.var 1) (.var 1)) (.bin .mul (.cst (.int 11)) (.var 1))) (.cst (.int 5)))) (.cst (.int 2147483423)))) (.cons (.for_ (.nm 3) (.seq (.frz (.slc (.var 0) .no (.so (.cst (.int 3)))))) (.cons (.asg (.nm 2) (.bin .mod (.bin .add (.bin .mul (.var 2) (.cst (.int 40027))) (.var 3)) (.cst (.int 2147483423)))) .nil)) (.cons (.ret (.var 2)) .nil))))
def c__law_pool : Ss := (.cons (.asg (.nm 1) (.ite (.or (.cmp .lt (.var 0) (.cst (.int 0))) (.cmp .ge (.var 0) (.bin .pow (.cst (.int 10)) (.cst (.int 18))))) (.bif .abs (.cons (.var 0) .nil)) (.cst (.int 0)))) (.cons (.ret (.lst (.cons (.bin .mod (.var 0) (.cst (.int 2147483423))) (.cons (.var 1) (.cons (.cst (.int 0)) .nil))))) .nil))
def c__law_right : Ss := (.cons (.asg (.nm 1) (.call "_law_draw" (.cons (.var 0) (.cons (.bin .pow (.cst (.int 10)) (.cst (.int 40))) .nil)))) (.cons (.asg (.nm 2) (.frz (.lst (.cons (.var 1) (.cons (.cst (.int 0)) (.cons (.cst .non) (.cons (.cst (.bl true)) (.cons (.cst (.str "")) (.cons (.cst (.str "merge")) (.cons (.tup .nil) (.cons (.tup (.cons (.cst (.str "merge")) (.cons (.cst (.int 0)) (.cons (.var 1) .nil)))) (.cons (.frz (.lst (.cons (.var 1) .nil))) (.cons (.frz .dnew) .nil))))))))))))) (.cons (.asg (.nm 3) (.idx (.var 2) (.call "_law_draw" (.cons (.var 0) (.cons (.cst (.int 10)) .nil))))) (.cons (.asg (.tp (.cons (.nm 4) (.cons (.nm 5) .nil))) (.tup (.cons (.frz (.lst .nil)) (.cons (.frz (.lst .nil)) .nil)))) (.cons (.for_ (.nm 6) (.seq (.frz (.lst (.cons (.call "_law_first" (.cons (.var 3) .nil)) (.cons (.call "_law_second" (.cons (.var 3) .nil)) (.cons (.call "_law_third" (.cons (.var 3) .nil)) .nil)))))) (.cons (.asg (.tp (.cons (.nm 4) (.cons (.nm 5) .nil))) (.tup (.cons (.frz (.bin .add (.var 4) (.idx (.var 6) (.cst (.int 0))))) (.cons (.frz (.bin .add (.var 5) (.idx (.var 6) (.cst (.int 1))))) .nil)))) .nil)) (.cons (.ite (.or (.cmp .ne (.bif .reprE (.cons (.var 5) .nil)) (.bif .reprE (.cons (.frz (.bin .mul (.frz (.lst (.cons (.frz (.lst (.cons (.var 3) (.cons (.var 3) .nil)))) .nil))) (.cst (.int 27)))) .nil))) (.cmp .ne (.bif .reprE (.cons (.call "_law_caught" (.cons (.var 3) .nil)) .nil)) (.bif .reprE (.cons (.frz (.bin .mul (.frz (.lst (.cons (.var 3) .nil))) (.cst (.int 3)))) .nil)))) (.cons (.ret (.cst (.bl false))) .nil) .nil) (.cons (.ret (.cmp .eq (.frz (.comp (.frz (.comp (.call "_law_error" (.cons (.var 8) .nil)) (.nm 8) (.seq (.var 7)) .no [8])) (.nm 7) (.seq (.var 4)) .no [7])) (.frz (.comp (.frz (.lst (.cons (.var 9) (.cons (.var 9) .nil)))) (.nm 9) (.rng (.cst (.int 29))) .no [9])))) .nil)))))))
def c__law_draw : Ss := (.cons (.asg (.sub (.var 0) (.cst (.int 2))) (.bin .add (.idx (.var 0) (.cst (.int 2))) (.cst (.int 1)))) (.cons (.asg (.nm 2) (.idx (.var 0) (.cst (.int 0)))) (.cons (.asg (.sub (.var 0) (.cst (.int 0))) (.bin .mod (.bin .add (.bin .add (.bin .mul (.var 2) (.bin .add (.bin .mod (.var 2) (.cst (.int 45007))) (.cst (.int 30013)))) (.bin .mul (.cst (.int 70009)) (.idx (.var 0) (.cst (.int 2))))) (.cst (.int 11))) (.cst (.int 2147483423)))) (.cons (.ite (.cmp .gt (.idx (.var 0) (.cst (.int 1))) (.cst (.int 0))) (.cons (.asg (.tp (.cons (.sub (.var 0) (.cst (.int 1))) (.cons (.nm 3) .nil))) (.bif .divmod (.cons (.idx (.var 0) (.cst (.int 1))) (.cons (.var 1) .nil)))) (.cons (.ret (.var 3)) .nil)) .nil) (.cons (.ret (.bin .mod (.bin .fdiv (.idx (.var 0) (.cst (.int 0))) (.cst (.int 64))) (.var 1))) .nil)))))
def c__law_first : Ss := (.cons (.asg (.nm 1) (.lst (.cons (.frz (.lst (.cons (.call "InvalidLog" (.cons (.var 0) .nil)) (.cons (.call "InvalidLog" (.cons (.var 0) .nil)) .nil)))) .nil))) (.cons (.expr (.mth .append (.var 1) (.cons (.frz (.lst (.cons (.call "InvalidStep" (.cons (.var 0) .nil)) (.cons (.call "InvalidStep" (.cons (.var 0) .nil)) .nil)))) .nil))) (.cons (.expr (.mth .append (.var 1) (.cons (.frz (.lst (.cons (.call "InvalidSteps" (.cons (.var 0) .nil)) (.cons (.call "InvalidSteps" (.cons (.var 0) .nil)) .nil)))) .nil))) (.cons (.expr (.mth .append (.var 1) (.cons (.frz (.lst (.cons (.call "InvalidSignature" (.cons (.var 0) .nil)) (.cons (.call "InvalidSignature" (.cons (.var 0) .nil)) .nil)))) .nil))) (.cons (.expr (.mth .append (.var 1) (.cons (.frz (.lst (.cons (.call "InvalidPath" (.cons (.var 0) .nil)) (.cons (.call "InvalidPath" (.cons (.var 0) .nil)) .nil)))) .nil))) (.cons (.expr (.mth .append (.var 1) (.cons (.frz (.lst (.cons (.call "InvalidEvent" (.cons (.var 0) .nil)) (.cons (.call "InvalidEvent" (.cons (.var 0) .nil)) .nil)))) .nil))) (.cons (.expr (.mth .append (.var 1) (.cons (.frz (.lst (.cons (.call "InvalidEvents" (.cons (.var 0) .nil)) (.cons (.call "InvalidEvents" (.cons (.var 0) .nil)) .nil)))) .nil))) (.cons (.expr (.mth .append (.var 1) (.cons (.frz (.lst (.cons (.call "InvalidNumber" (.cons (.var 0) .nil)) (.cons (.call "InvalidNumber" (.cons (.var 0) .nil)) .nil)))) .nil))) (.cons (.expr (.mth .append (.var 1) (.cons (.frz (.lst (.cons (.call "InvalidTable" (.cons (.var 0) .nil)) (.cons (.call "InvalidTable" (.cons (.var 0) .nil)) .nil)))) .nil))) (.cons (.expr (.mth .append (.var 1) (.cons (.frz (.lst (.cons (.call "InvalidState" (.cons (.var 0) .nil)) (.cons (.call "InvalidState" (.cons (.var 0) .nil)) .nil)))) .nil))) (.cons (.asg (.nm 2) (.lst .nil)) (.cons (.for_ (.nm 3) (.seq (.frz (.bin .add (.frz (.bin .add (.frz (.bin .add (.frz (.bin .add (.frz (.slc (.var 1) .no (.so (.cst (.int 1))))) (.frz (.slc (.var 1) (.so (.cst (.int 2))) (.so (.cst (.int 3))))))) (.frz (.slc (.var 1) (.so (.cst (.int 4))) (.so (.cst (.int 5))))))) (.frz (.slc (.var 1) (.so (.cst (.int 6))) (.so (.cst (.int 7))))))) (.frz (.slc (.var 1) (.so (.cst (.int 8))) (.so (.cst (.int 9)))))))) (.cons (.expr (.mth .append (.var 2) (.cons (.frz (.comp (.attr (.var 4) ["InvalidLog", "InvalidSteps", "InvalidPath", "InvalidEvents", "InvalidTable", "InvalidPattern", "InvalidEdges", "InvalidShares", "InvalidProgram", "InvalidEdit", "NoPath"] "index") (.nm 4) (.seq (.var 3)) .no [4])) .nil))) .nil)) (.cons (.expr (.mth .append (.var 2) (.cons (.frz (.comp (.attr (.var 4) ["InvalidStep", "NotApplicable"] "step") (.nm 4) (.seq (.idx (.var 1) (.cst (.int 1)))) .no [4])) .nil))) (.cons (.expr (.mth .append (.var 2) (.cons (.frz (.comp (.attr (.var 4) ["InvalidSignature"] "signature") (.nm 4) (.seq (.idx (.var 1) (.cst (.int 3)))) .no [4])) .nil))) (.cons (.expr (.mth .append (.var 2) (.cons (.frz (.comp (.attr (.var 4) ["UnknownEvent", "InvalidEvent"] "event") (.nm 4) (.seq (.idx (.var 1) (.cst (.int 5)))) .no [4])) .nil))) (.cons (.expr (.mth .append (.var 2) (.cons (.frz (.comp (.attr (.var 4) ["InvalidNumber"] "number") (.nm 4) (.seq (.idx (.var 1) (.cst (.int 7)))) .no [4])) .nil))) (.cons (.expr (.mth .append (.var 2) (.cons (.frz (.comp (.attr (.var 4) ["InvalidState"] "state") (.nm 4) (.seq (.idx (.var 1) (.cst (.int 9)))) .no [4])) .nil))) (.cons (.ret (.frz (.lst (.cons (.var 1) (.cons (.var 2) .nil))))) .nil))))))))))))))))))
def c__law_second : Ss := (.cons (.asg (.nm 1) (.lst (.cons (.frz (.lst (.cons (.call "InvalidReceiver" (.cons (.var 0) .nil)) (.cons (.call "InvalidReceiver" (.cons (.var 0) .nil)) .nil)))) .nil))) (.cons (.expr (.mth .append (.var 1) (.cons (.frz (.lst (.cons (.call "InvalidPattern" (.cons (.var 0) .nil)) (.cons (.call "InvalidPattern" (.cons (.var 0) .nil)) .nil)))) .nil))) (.cons (.expr (.mth .append (.var 1) (.cons (.frz (.lst (.cons (.call "InvalidEdges" (.cons (.var 0) .nil)) (.cons (.call "InvalidEdges" (.cons (.var 0) .nil)) .nil)))) .nil))) (.cons (.expr (.mth .append (.var 1) (.cons (.frz (.lst (.cons (.call "InvalidGraph" (.cons (.var 0) .nil)) (.cons (.call "InvalidGraph" (.cons (.var 0) .nil)) .nil)))) .nil))) (.cons (.expr (.mth .append (.var 1) (.cons (.frz (.lst (.cons (.call "InvalidShares" (.cons (.var 0) .nil)) (.cons (.call "InvalidShares" (.cons (.var 0) .nil)) .nil)))) .nil))) (.cons (.expr (.mth .append (.var 1) (.cons (.frz (.lst (.cons (.call "InvalidProgram" (.cons (.var 0) .nil)) (.cons (.call "InvalidProgram" (.cons (.var 0) .nil)) .nil)))) .nil))) (.cons (.expr (.mth .append (.var 1) (.cons (.frz (.lst (.cons (.call "InvalidText" (.cons (.var 0) .nil)) (.cons (.call "InvalidText" (.cons (.var 0) .nil)) .nil)))) .nil))) (.cons (.expr (.mth .append (.var 1) (.cons (.frz (.lst (.cons (.call "InvalidEdit" (.cons (.var 0) .nil)) (.cons (.call "InvalidEdit" (.cons (.var 0) .nil)) .nil)))) .nil))) (.cons (.expr (.mth .append (.var 1) (.cons (.frz (.lst (.cons (.call "InvalidCommand" (.cons (.var 0) .nil)) (.cons (.call "InvalidCommand" (.cons (.var 0) .nil)) .nil)))) .nil))) (.cons (.asg (.nm 2) (.lst .nil)) (.cons (.for_ (.nm 3) (.seq (.frz (.bin .add (.frz (.bin .add (.frz (.slc (.var 1) (.so (.cst (.int 1))) (.so (.cst (.int 3))))) (.frz (.slc (.var 1) (.so (.cst (.int 4))) (.so (.cst (.int 6))))))) (.frz (.slc (.var 1) (.so (.cst (.int 7))) (.so (.cst (.int 8)))))))) (.cons (.expr (.mth .append (.var 2) (.cons (.frz (.comp (.attr (.var 4) ["InvalidLog", "InvalidSteps", "InvalidPath", "InvalidEvents", "InvalidTable", "InvalidPattern", "InvalidEdges", "InvalidShares", "InvalidProgram", "InvalidEdit", "NoPath"] "index") (.nm 4) (.seq (.var 3)) .no [4])) .nil))) .nil)) (.cons (.expr (.mth .append (.var 2) (.cons (.frz (.comp (.attr (.var 4) ["InvalidReceiver"] "receiver") (.nm 4) (.seq (.idx (.var 1) (.cst (.int 0)))) .no [4])) .nil))) (.cons (.expr (.mth .append (.var 2) (.cons (.frz (.comp (.attr (.var 4) ["InvalidGraph"] "graph") (.nm 4) (.seq (.idx (.var 1) (.cst (.int 3)))) .no [4])) .nil))) (.cons (.expr (.mth .append (.var 2) (.cons (.frz (.comp (.attr (.var 4) ["InvalidText"] "text") (.nm 4) (.seq (.idx (.var 1) (.cst (.int 6)))) .no [4])) .nil))) (.cons (.expr (.mth .append (.var 2) (.cons (.frz (.comp (.attr (.var 4) ["InvalidCommand"] "line") (.nm 4) (.seq (.idx (.var 1) (.cst (.int 8)))) .no [4])) .nil))) (.cons (.ret (.frz (.lst (.cons (.var 1) (.cons (.var 2) .nil))))) .nil))))))))))))))))
def c__law_third : Ss := (.cons (.asg (.nm 1) (.lst (.cons (.frz (.lst (.cons (.cst (.ob "EmptyLog" [] [])) (.cons (.cst (.ob "EmptyLog" [] [])) .nil)))) (.cons (.frz (.lst (.cons (.call "NoPath" (.cons (.var 0) .nil)) (.cons (.call "NoPath" (.cons (.var 0) .nil)) .nil)))) .nil)))) (.cons (.expr (.mth .append (.var 1) (.cons (.frz (.lst (.cons (.call "NotApplicable" (.cons (.var 0) .nil)) (.cons (.call "NotApplicable" (.cons (.var 0) .nil)) .nil)))) .nil))) (.cons (.expr (.mth .append (.var 1) (.cons (.frz (.lst (.cons (.call "UnknownEvent" (.cons (.var 0) .nil)) (.cons (.call "UnknownEvent" (.cons (.var 0) .nil)) .nil)))) .nil))) (.cons (.expr (.mth .append (.var 1) (.cons (.frz (.lst (.cons (.call "UnknownEffect" (.cons (.var 0) .nil)) (.cons (.call "UnknownEffect" (.cons (.var 0) .nil)) .nil)))) .nil))) (.cons (.expr (.mth .append (.var 1) (.cons (.frz (.lst (.cons (.cst (.ob "NothingToUndo" [] [])) (.cons (.cst (.ob "NothingToUndo" [] [])) .nil)))) .nil))) (.cons (.expr (.mth .append (.var 1) (.cons (.frz (.lst (.cons (.call "TooManyEvents" (.cons (.var 0) .nil)) (.cons (.call "TooManyEvents" (.cons (.var 0) .nil)) .nil)))) .nil))) (.cons (.expr (.mth .append (.var 1) (.cons (.frz (.lst (.cons (.call "TooLong" (.cons (.var 0) .nil)) (.cons (.call "TooLong" (.cons (.var 0) .nil)) .nil)))) .nil))) (.cons (.expr (.mth .append (.var 1) (.cons (.frz (.lst (.cons (.call "TooManyStates" (.cons (.var 0) .nil)) (.cons (.call "TooManyStates" (.cons (.var 0) .nil)) .nil)))) .nil))) (.cons (.expr (.mth .append (.var 1) (.cons (.frz (.lst (.cons (.call "TooManyEdits" (.cons (.var 0) .nil)) (.cons (.call "TooManyEdits" (.cons (.var 0) .nil)) .nil)))) .nil))) (.cons (.asg (.nm 2) (.lst (.cons (.frz (.comp (.attr (.var 4) ["InvalidLog", "InvalidSteps", "InvalidPath", "InvalidEvents", "InvalidTable", "InvalidPattern", "InvalidEdges", "InvalidShares", "InvalidProgram", "InvalidEdit", "NoPath"] "index") (.nm 4) (.seq (.idx (.var 1) (.cst (.int 1)))) .no [4])) (.cons (.frz (.comp (.attr (.var 4) ["InvalidStep", "NotApplicable"] "step") (.nm 4) (.seq (.idx (.var 1) (.cst (.int 2)))) .no [4])) .nil)))) (.cons (.expr (.mth .append (.var 2) (.cons (.frz (.comp (.attr (.var 4) ["UnknownEvent", "InvalidEvent"] "event") (.nm 4) (.seq (.idx (.var 1) (.cst (.int 3)))) .no [4])) .nil))) (.cons (.expr (.mth .append (.var 2) (.cons (.frz (.comp (.attr (.var 4) ["UnknownEffect"] "effect") (.nm 4) (.seq (.idx (.var 1) (.cst (.int 4)))) .no [4])) .nil))) (.cons (.for_ (.nm 3) (.seq (.frz (.bin .add (.frz (.slc (.var 1) (.so (.cst (.int 6))) (.so (.cst (.int 7))))) (.frz (.slc (.var 1) (.so (.cst (.int 8))) .no))))) (.cons (.expr (.mth .append (.var 2) (.cons (.frz (.comp (.attr (.var 4) ["TooManyEvents", "TooManyStates", "TooManyEdits"] "count") (.nm 4) (.seq (.var 3)) .no [4])) .nil))) .nil)) (.cons (.expr (.mth .append (.var 2) (.cons (.frz (.comp (.attr (.var 4) ["TooLong"] "length") (.nm 4) (.seq (.idx (.var 1) (.cst (.int 7)))) .no [4])) .nil))) (.cons (.ret (.frz (.lst (.cons (.var 1) (.cons (.var 2) .nil))))) .nil)))))))))))))))
def c__law_caught : Ss := (.cons (.asg (.nm 1) (.lst .nil)) (.cons (.try_ (.cons (.raise1 "InvalidStep" "step" (.var 0)) .nil) ["InvalidStep", "UnknownEvent", "TooLong"] ["InvalidStep"] 2 (.cons (.expr (.mth .append (.var 1) (.cons (.attr (.var 2) ["InvalidStep"] "step") .nil))) .nil)) (.cons (.try_ (.cons (.raise1 "UnknownEvent" "event" (.var 0)) .nil) ["InvalidStep", "UnknownEvent", "TooLong"] ["UnknownEvent"] 2 (.cons (.expr (.mth .append (.var 1) (.cons (.attr (.var 2) ["UnknownEvent"] "event") .nil))) .nil)) (.cons (.try_ (.cons (.raise1 "TooLong" "length" (.var 0)) .nil) ["InvalidStep", "UnknownEvent", "TooLong"] ["TooLong"] 2 (.cons (.expr (.mth .append (.var 1) (.cons (.attr (.var 2) ["TooLong"] "length") .nil))) .nil)) (.cons (.ret (.var 1)) .nil)))))
def c__law_error : Ss := (.cons (.asg (.nm 1) (.frz (.lst (.cons (.isc (.var 0) ["InvalidStep", "UnknownEvent", "TooLong", "InvalidLog", "InvalidSteps", "InvalidSignature", "InvalidPath", "InvalidEvent", "InvalidEvents", "InvalidNumber", "InvalidTable", "InvalidState", "InvalidReceiver", "InvalidPattern", "InvalidEdges", "InvalidGraph", "InvalidShares", "InvalidProgram", "InvalidText", "InvalidEdit", "InvalidCommand", "EmptyLog", "NoPath", "NotApplicable", "UnknownEffect", "NothingToUndo", "TooManyEvents", "TooManyStates", "TooManyEdits"] ["InvalidLog"]) (.cons (.isc (.var 0) ["InvalidStep", "UnknownEvent", "TooLong", "InvalidLog", "InvalidSteps", "InvalidSignature", "InvalidPath", "InvalidEvent", "InvalidEvents", "InvalidNumber", "InvalidTable", "InvalidState", "InvalidReceiver", "InvalidPattern", "InvalidEdges", "InvalidGraph", "InvalidShares", "InvalidProgram", "InvalidText", "InvalidEdit", "InvalidCommand", "EmptyLog", "NoPath", "NotApplicable", "UnknownEffect", "NothingToUndo", "TooManyEvents", "TooManyStates", "TooManyEdits"] ["InvalidStep"]) (.cons (.isc (.var 0) ["InvalidStep", "UnknownEvent", "TooLong", "InvalidLog", "InvalidSteps", "InvalidSignature", "InvalidPath", "InvalidEvent", "InvalidEvents", "InvalidNumber", "InvalidTable", "InvalidState", "InvalidReceiver", "InvalidPattern", "InvalidEdges", "InvalidGraph", "InvalidShares", "InvalidProgram", "InvalidText", "InvalidEdit", "InvalidCommand", "EmptyLog", "NoPath", "NotApplicable", "UnknownEffect", "NothingToUndo", "TooManyEvents", "TooManyStates", "TooManyEdits"] ["InvalidSteps"]) .nil)))))) (.cons (.asg (.nm 1) (.frz (.bin .add (.var 1) (.frz (.lst (.cons (.isc (.var 0) ["InvalidStep", "UnknownEvent", "TooLong", "InvalidLog", "InvalidSteps", "InvalidSignature", "InvalidPath", "InvalidEvent", "InvalidEvents", "InvalidNumber", "InvalidTable", "InvalidState", "InvalidReceiver", "InvalidPattern", "InvalidEdges", "InvalidGraph", "InvalidShares", "InvalidProgram", "InvalidText", "InvalidEdit", "InvalidCommand", "EmptyLog", "NoPath", "NotApplicable", "UnknownEffect", "NothingToUndo", "TooManyEvents", "TooManyStates", "TooManyEdits"] ["InvalidSignature"]) (.cons (.isc (.var 0) ["InvalidStep", "UnknownEvent", "TooLong", "InvalidLog", "InvalidSteps", "InvalidSignature", "InvalidPath", "InvalidEvent", "InvalidEvents", "InvalidNumber", "InvalidTable", "InvalidState", "InvalidReceiver", "InvalidPattern", "InvalidEdges", "InvalidGraph", "InvalidShares", "InvalidProgram", "InvalidText", "InvalidEdit", "InvalidCommand", "EmptyLog", "NoPath", "NotApplicable", "UnknownEffect", "NothingToUndo", "TooManyEvents", "TooManyStates", "TooManyEdits"] ["InvalidPath"]) (.cons (.isc (.var 0) ["InvalidStep", "UnknownEvent", "TooLong", "InvalidLog", "InvalidSteps", "InvalidSignature", "InvalidPath", "InvalidEvent", "InvalidEvents", "InvalidNumber", "InvalidTable", "InvalidState", "InvalidReceiver", "InvalidPattern", "InvalidEdges", "InvalidGraph", "InvalidShares", "InvalidProgram", "InvalidText", "InvalidEdit", "InvalidCommand", "EmptyLog", "NoPath", "NotApplicable", "UnknownEffect", "NothingToUndo", "TooManyEvents", "TooManyStates", "TooManyEdits"] ["InvalidEvent"]) .nil)))))))) (.cons (.asg (.nm 1) (.frz (.bin .add (.var 1) (.frz (.lst (.cons (.isc (.var 0) ["InvalidStep", "UnknownEvent", "TooLong", "InvalidLog", "InvalidSteps", "InvalidSignature", "InvalidPath", "InvalidEvent", "InvalidEvents", "InvalidNumber", "InvalidTable", "InvalidState", "InvalidReceiver", "InvalidPattern", "InvalidEdges", "InvalidGraph", "InvalidShares", "InvalidProgram", "InvalidText", "InvalidEdit", "InvalidCommand", "EmptyLog", "NoPath", "NotApplicable", "UnknownEffect", "NothingToUndo", "TooManyEvents", "TooManyStates", "TooManyEdits"] ["InvalidEvents"]) (.cons (.isc (.var 0) ["InvalidStep", "UnknownEvent", "TooLong", "InvalidLog", "InvalidSteps", "InvalidSignature", "InvalidPath", "InvalidEvent", "InvalidEvents", "InvalidNumber", "InvalidTable", "InvalidState", "InvalidReceiver", "InvalidPattern", "InvalidEdges", "InvalidGraph", "InvalidShares", "InvalidProgram", "InvalidText", "InvalidEdit", "InvalidCommand", "EmptyLog", "NoPath", "NotApplicable", "UnknownEffect", "NothingToUndo", "TooManyEvents", "TooManyStates", "TooManyEdits"] ["InvalidNumber"]) (.cons (.isc (.var 0) ["InvalidStep", "UnknownEvent", "TooLong", "InvalidLog", "InvalidSteps", "InvalidSignature", "InvalidPath", "InvalidEvent", "InvalidEvents", "InvalidNumber", "InvalidTable", "InvalidState", "InvalidReceiver", "InvalidPattern", "InvalidEdges", "InvalidGraph", "InvalidShares", "InvalidProgram", "InvalidText", "InvalidEdit", "InvalidCommand", "EmptyLog", "NoPath", "NotApplicable", "UnknownEffect", "NothingToUndo", "TooManyEvents", "TooManyStates", "TooManyEdits"] ["InvalidTable"]) .nil)))))))) (.cons (.asg (.nm 1) (.frz (.bin .add (.var 1) (.frz (.lst (.cons (.isc (.var 0) ["InvalidStep", "UnknownEvent", "TooLong", "InvalidLog", "InvalidSteps", "InvalidSignature", "InvalidPath", "InvalidEvent", "InvalidEvents", "InvalidNumber", "InvalidTable", "InvalidState", "InvalidReceiver", "InvalidPattern", "InvalidEdges", "InvalidGraph", "InvalidShares", "InvalidProgram", "InvalidText", "InvalidEdit", "InvalidCommand", "EmptyLog", "NoPath", "NotApplicable", "UnknownEffect", "NothingToUndo", "TooManyEvents", "TooManyStates", "TooManyEdits"] ["InvalidState"]) (.cons (.isc (.var 0) ["InvalidStep", "UnknownEvent", "TooLong", "InvalidLog", "InvalidSteps", "InvalidSignature", "InvalidPath", "InvalidEvent", "InvalidEvents", "InvalidNumber", "InvalidTable", "InvalidState", "InvalidReceiver", "InvalidPattern", "InvalidEdges", "InvalidGraph", "InvalidShares", "InvalidProgram", "InvalidText", "InvalidEdit", "InvalidCommand", "EmptyLog", "NoPath", "NotApplicable", "UnknownEffect", "NothingToUndo", "TooManyEvents", "TooManyStates", "TooManyEdits"] ["InvalidReceiver"]) (.cons (.isc (.var 0) ["InvalidStep", "UnknownEvent", "TooLong", "InvalidLog", "InvalidSteps", "InvalidSignature", "InvalidPath", "InvalidEvent", "InvalidEvents", "InvalidNumber", "InvalidTable", "InvalidState", "InvalidReceiver", "InvalidPattern", "InvalidEdges", "InvalidGraph", "InvalidShares", "InvalidProgram", "InvalidText", "InvalidEdit", "InvalidCommand", "EmptyLog", "NoPath", "NotApplicable", "UnknownEffect", "NothingToUndo", "TooManyEvents", "TooManyStates", "TooManyEdits"] ["InvalidPattern"]) .nil)))))))) (.cons (.asg (.nm 1) (.frz (.bin .add (.var 1) (.frz (.lst (.cons (.isc (.var 0) ["InvalidStep", "UnknownEvent", "TooLong", "InvalidLog", "InvalidSteps", "InvalidSignature", "InvalidPath", "InvalidEvent", "InvalidEvents", "InvalidNumber", "InvalidTable", "InvalidState", "InvalidReceiver", "InvalidPattern", "InvalidEdges", "InvalidGraph", "InvalidShares", "InvalidProgram", "InvalidText", "InvalidEdit", "InvalidCommand", "EmptyLog", "NoPath", "NotApplicable", "UnknownEffect", "NothingToUndo", "TooManyEvents", "TooManyStates", "TooManyEdits"] ["InvalidEdges"]) (.cons (.isc (.var 0) ["InvalidStep", "UnknownEvent", "TooLong", "InvalidLog", "InvalidSteps", "InvalidSignature", "InvalidPath", "InvalidEvent", "InvalidEvents", "InvalidNumber", "InvalidTable", "InvalidState", "InvalidReceiver", "InvalidPattern", "InvalidEdges", "InvalidGraph", "InvalidShares", "InvalidProgram", "InvalidText", "InvalidEdit", "InvalidCommand", "EmptyLog", "NoPath", "NotApplicable", "UnknownEffect", "NothingToUndo", "TooManyEvents", "TooManyStates", "TooManyEdits"] ["InvalidGraph"]) (.cons (.isc (.var 0) ["InvalidStep", "UnknownEvent", "TooLong", "InvalidLog", "InvalidSteps", "InvalidSignature", "InvalidPath", "InvalidEvent", "InvalidEvents", "InvalidNumber", "InvalidTable", "InvalidState", "InvalidReceiver", "InvalidPattern", "InvalidEdges", "InvalidGraph", "InvalidShares", "InvalidProgram", "InvalidText", "InvalidEdit", "InvalidCommand", "EmptyLog", "NoPath", "NotApplicable", "UnknownEffect", "NothingToUndo", "TooManyEvents", "TooManyStates", "TooManyEdits"] ["InvalidShares"]) .nil)))))))) (.cons (.asg (.nm 1) (.frz (.bin .add (.var 1) (.frz (.lst (.cons (.isc (.var 0) ["InvalidStep", "UnknownEvent", "TooLong", "InvalidLog", "InvalidSteps", "InvalidSignature", "InvalidPath", "InvalidEvent", "InvalidEvents", "InvalidNumber", "InvalidTable", "InvalidState", "InvalidReceiver", "InvalidPattern", "InvalidEdges", "InvalidGraph", "InvalidShares", "InvalidProgram", "InvalidText", "InvalidEdit", "InvalidCommand", "EmptyLog", "NoPath", "NotApplicable", "UnknownEffect", "NothingToUndo", "TooManyEvents", "TooManyStates", "TooManyEdits"] ["InvalidProgram"]) (.cons (.isc (.var 0) ["InvalidStep", "UnknownEvent", "TooLong", "InvalidLog", "InvalidSteps", "InvalidSignature", "InvalidPath", "InvalidEvent", "InvalidEvents", "InvalidNumber", "InvalidTable", "InvalidState", "InvalidReceiver", "InvalidPattern", "InvalidEdges", "InvalidGraph", "InvalidShares", "InvalidProgram", "InvalidText", "InvalidEdit", "InvalidCommand", "EmptyLog", "NoPath", "NotApplicable", "UnknownEffect", "NothingToUndo", "TooManyEvents", "TooManyStates", "TooManyEdits"] ["InvalidText"]) (.cons (.isc (.var 0) ["InvalidStep", "UnknownEvent", "TooLong", "InvalidLog", "InvalidSteps", "InvalidSignature", "InvalidPath", "InvalidEvent", "InvalidEvents", "InvalidNumber", "InvalidTable", "InvalidState", "InvalidReceiver", "InvalidPattern", "InvalidEdges", "InvalidGraph", "InvalidShares", "InvalidProgram", "InvalidText", "InvalidEdit", "InvalidCommand", "EmptyLog", "NoPath", "NotApplicable", "UnknownEffect", "NothingToUndo", "TooManyEvents", "TooManyStates", "TooManyEdits"] ["InvalidEdit"]) .nil)))))))) (.cons (.asg (.nm 1) (.frz (.bin .add (.var 1) (.frz (.lst (.cons (.isc (.var 0) ["InvalidStep", "UnknownEvent", "TooLong", "InvalidLog", "InvalidSteps", "InvalidSignature", "InvalidPath", "InvalidEvent", "InvalidEvents", "InvalidNumber", "InvalidTable", "InvalidState", "InvalidReceiver", "InvalidPattern", "InvalidEdges", "InvalidGraph", "InvalidShares", "InvalidProgram", "InvalidText", "InvalidEdit", "InvalidCommand", "EmptyLog", "NoPath", "NotApplicable", "UnknownEffect", "NothingToUndo", "TooManyEvents", "TooManyStates", "TooManyEdits"] ["InvalidCommand"]) (.cons (.isc (.var 0) ["InvalidStep", "UnknownEvent", "TooLong", "InvalidLog", "InvalidSteps", "InvalidSignature", "InvalidPath", "InvalidEvent", "InvalidEvents", "InvalidNumber", "InvalidTable", "InvalidState", "InvalidReceiver", "InvalidPattern", "InvalidEdges", "InvalidGraph", "InvalidShares", "InvalidProgram", "InvalidText", "InvalidEdit", "InvalidCommand", "EmptyLog", "NoPath", "NotApplicable", "UnknownEffect", "NothingToUndo", "TooManyEvents", "TooManyStates", "TooManyEdits"] ["EmptyLog"]) (.cons (.isc (.var 0) ["InvalidStep", "UnknownEvent", "TooLong", "InvalidLog", "InvalidSteps", "InvalidSignature", "InvalidPath", "InvalidEvent", "InvalidEvents", "InvalidNumber", "InvalidTable", "InvalidState", "InvalidReceiver", "InvalidPattern", "InvalidEdges", "InvalidGraph", "InvalidShares", "InvalidProgram", "InvalidText", "InvalidEdit", "InvalidCommand", "EmptyLog", "NoPath", "NotApplicable", "UnknownEffect", "NothingToUndo", "TooManyEvents", "TooManyStates", "TooManyEdits"] ["NoPath"]) .nil)))))))) (.cons (.asg (.nm 1) (.frz (.bin .add (.var 1) (.frz (.lst (.cons (.isc (.var 0) ["InvalidStep", "UnknownEvent", "TooLong", "InvalidLog", "InvalidSteps", "InvalidSignature", "InvalidPath", "InvalidEvent", "InvalidEvents", "InvalidNumber", "InvalidTable", "InvalidState", "InvalidReceiver", "InvalidPattern", "InvalidEdges", "InvalidGraph", "InvalidShares", "InvalidProgram", "InvalidText", "InvalidEdit", "InvalidCommand", "EmptyLog", "NoPath", "NotApplicable", "UnknownEffect", "NothingToUndo", "TooManyEvents", "TooManyStates", "TooManyEdits"] ["NotApplicable"]) (.cons (.isc (.var 0) ["InvalidStep", "UnknownEvent", "TooLong", "InvalidLog", "InvalidSteps", "InvalidSignature", "InvalidPath", "InvalidEvent", "InvalidEvents", "InvalidNumber", "InvalidTable", "InvalidState", "InvalidReceiver", "InvalidPattern", "InvalidEdges", "InvalidGraph", "InvalidShares", "InvalidProgram", "InvalidText", "InvalidEdit", "InvalidCommand", "EmptyLog", "NoPath", "NotApplicable", "UnknownEffect", "NothingToUndo", "TooManyEvents", "TooManyStates", "TooManyEdits"] ["UnknownEvent"]) (.cons (.isc (.var 0) ["InvalidStep", "UnknownEvent", "TooLong", "InvalidLog", "InvalidSteps", "InvalidSignature", "InvalidPath", "InvalidEvent", "InvalidEvents", "InvalidNumber", "InvalidTable", "InvalidState", "InvalidReceiver", "InvalidPattern", "InvalidEdges", "InvalidGraph", "InvalidShares", "InvalidProgram", "InvalidText", "InvalidEdit", "InvalidCommand", "EmptyLog", "NoPath", "NotApplicable", "UnknownEffect", "NothingToUndo", "TooManyEvents", "TooManyStates", "TooManyEdits"] ["UnknownEffect"]) .nil)))))))) (.cons (.asg (.nm 1) (.frz (.bin .add (.var 1) (.frz (.lst (.cons (.isc (.var 0) ["InvalidStep", "UnknownEvent", "TooLong", "InvalidLog", "InvalidSteps", "InvalidSignature", "InvalidPath", "InvalidEvent", "InvalidEvents", "InvalidNumber", "InvalidTable", "InvalidState", "InvalidReceiver", "InvalidPattern", "InvalidEdges", "InvalidGraph", "InvalidShares", "InvalidProgram", "InvalidText", "InvalidEdit", "InvalidCommand", "EmptyLog", "NoPath", "NotApplicable", "UnknownEffect", "NothingToUndo", "TooManyEvents", "TooManyStates", "TooManyEdits"] ["NothingToUndo"]) (.cons (.isc (.var 0) ["InvalidStep", "UnknownEvent", "TooLong", "InvalidLog", "InvalidSteps", "InvalidSignature", "InvalidPath", "InvalidEvent", "InvalidEvents", "InvalidNumber", "InvalidTable", "InvalidState", "InvalidReceiver", "InvalidPattern", "InvalidEdges", "InvalidGraph", "InvalidShares", "InvalidProgram", "InvalidText", "InvalidEdit", "InvalidCommand", "EmptyLog", "NoPath", "NotApplicable", "UnknownEffect", "NothingToUndo", "TooManyEvents", "TooManyStates", "TooManyEdits"] ["TooManyEvents"]) (.cons (.isc (.var 0) ["InvalidStep", "UnknownEvent", "TooLong", "InvalidLog", "InvalidSteps", "InvalidSignature", "InvalidPath", "InvalidEvent", "InvalidEvents", "InvalidNumber", "InvalidTable", "InvalidState", "InvalidReceiver", "InvalidPattern", "InvalidEdges", "InvalidGraph", "InvalidShares", "InvalidProgram", "InvalidText", "InvalidEdit", "InvalidCommand", "EmptyLog", "NoPath", "NotApplicable", "UnknownEffect", "NothingToUndo", "TooManyEvents", "TooManyStates", "TooManyEdits"] ["TooLong"]) .nil)))))))) (.cons (.asg (.nm 1) (.frz (.bin .add (.var 1) (.frz (.lst (.cons (.isc (.var 0) ["InvalidStep", "UnknownEvent", "TooLong", "InvalidLog", "InvalidSteps", "InvalidSignature", "InvalidPath", "InvalidEvent", "InvalidEvents", "InvalidNumber", "InvalidTable", "InvalidState", "InvalidReceiver", "InvalidPattern", "InvalidEdges", "InvalidGraph", "InvalidShares", "InvalidProgram", "InvalidText", "InvalidEdit", "InvalidCommand", "EmptyLog", "NoPath", "NotApplicable", "UnknownEffect", "NothingToUndo", "TooManyEvents", "TooManyStates", "TooManyEdits"] ["TooManyStates"]) (.cons (.isc (.var 0) ["InvalidStep", "UnknownEvent", "TooLong", "InvalidLog", "InvalidSteps", "InvalidSignature", "InvalidPath", "InvalidEvent", "InvalidEvents", "InvalidNumber", "InvalidTable", "InvalidState", "InvalidReceiver", "InvalidPattern", "InvalidEdges", "InvalidGraph", "InvalidShares", "InvalidProgram", "InvalidText", "InvalidEdit", "InvalidCommand", "EmptyLog", "NoPath", "NotApplicable", "UnknownEffect", "NothingToUndo", "TooManyEvents", "TooManyStates", "TooManyEdits"] ["TooManyEdits"]) .nil))))))) (.cons (.asg (.nm 2) (.frz (.lst (.cons (.isc (.var 0) ["InvalidStep", "UnknownEvent", "TooLong", "InvalidLog", "InvalidSteps", "InvalidSignature", "InvalidPath", "InvalidEvent", "InvalidEvents", "InvalidNumber", "InvalidTable", "InvalidState", "InvalidReceiver", "InvalidPattern", "InvalidEdges", "InvalidGraph", "InvalidShares", "InvalidProgram", "InvalidText", "InvalidEdit", "InvalidCommand", "EmptyLog", "NoPath", "NotApplicable", "UnknownEffect", "NothingToUndo", "TooManyEvents", "TooManyStates", "TooManyEdits"] ["InvalidStep", "InvalidLog", "InvalidSteps", "InvalidSignature", "InvalidPath", "InvalidEvent", "InvalidEvents", "InvalidNumber", "InvalidTable", "InvalidState", "InvalidReceiver", "InvalidPattern", "InvalidEdges", "InvalidGraph", "InvalidShares", "InvalidProgram", "InvalidText", "InvalidEdit", "InvalidCommand"]) (.cons (.isc (.var 0) ["InvalidStep", "UnknownEvent", "TooLong", "InvalidLog", "InvalidSteps", "InvalidSignature", "InvalidPath", "InvalidEvent", "InvalidEvents", "InvalidNumber", "InvalidTable", "InvalidState", "InvalidReceiver", "InvalidPattern", "InvalidEdges", "InvalidGraph", "InvalidShares", "InvalidProgram", "InvalidText", "InvalidEdit", "InvalidCommand", "EmptyLog", "NoPath", "NotApplicable", "UnknownEffect", "NothingToUndo", "TooManyEvents", "TooManyStates", "TooManyEdits"] ["UnknownEvent", "EmptyLog", "NoPath", "NotApplicable", "UnknownEffect", "NothingToUndo"]) (.cons (.isc (.var 0) ["InvalidStep", "UnknownEvent", "TooLong", "InvalidLog", "InvalidSteps", "InvalidSignature", "InvalidPath", "InvalidEvent", "InvalidEvents", "InvalidNumber", "InvalidTable", "InvalidState", "InvalidReceiver", "InvalidPattern", "InvalidEdges", "InvalidGraph", "InvalidShares", "InvalidProgram", "InvalidText", "InvalidEdit", "InvalidCommand", "EmptyLog", "NoPath", "NotApplicable", "UnknownEffect", "NothingToUndo", "TooManyEvents", "TooManyStates", "TooManyEdits"] ["TooLong", "TooManyEvents", "TooManyStates", "TooManyEdits"]) .nil)))))) (.cons (.asg (.nm 3) (.frz (.lst (.cons (.isc (.var 0) ["InvalidStep", "UnknownEvent", "TooLong", "InvalidLog", "InvalidSteps", "InvalidSignature", "InvalidPath", "InvalidEvent", "InvalidEvents", "InvalidNumber", "InvalidTable", "InvalidState", "InvalidReceiver", "InvalidPattern", "InvalidEdges", "InvalidGraph", "InvalidShares", "InvalidProgram", "InvalidText", "InvalidEdit", "InvalidCommand", "EmptyLog", "NoPath", "NotApplicable", "UnknownEffect", "NothingToUndo", "TooManyEvents", "TooManyStates", "TooManyEdits"] ["InvalidStep", "InvalidLog", "InvalidSteps", "InvalidSignature", "InvalidPath", "InvalidEvent", "InvalidEvents", "InvalidNumber", "InvalidTable", "InvalidState", "InvalidReceiver", "InvalidPattern", "InvalidEdges", "InvalidGraph", "InvalidShares", "InvalidProgram", "InvalidText", "InvalidEdit", "InvalidCommand"]) (.cons (.isc (.var 0) ["InvalidStep", "UnknownEvent", "TooLong", "InvalidLog", "InvalidSteps", "InvalidSignature", "InvalidPath", "InvalidEvent", "InvalidEvents", "InvalidNumber", "InvalidTable", "InvalidState", "InvalidReceiver", "InvalidPattern", "InvalidEdges", "InvalidGraph", "InvalidShares", "InvalidProgram", "InvalidText", "InvalidEdit", "InvalidCommand", "EmptyLog", "NoPath", "NotApplicable", "UnknownEffect", "NothingToUndo", "TooManyEvents", "TooManyStates", "TooManyEdits"] ["UnknownEvent", "EmptyLog", "NoPath", "NotApplicable", "UnknownEffect", "NothingToUndo"]) (.cons (.isc (.var 0) ["InvalidStep", "UnknownEvent", "TooLong", "InvalidLog", "InvalidSteps", "InvalidSignature", "InvalidPath", "InvalidEvent", "InvalidEvents", "InvalidNumber", "InvalidTable", "InvalidState", "InvalidReceiver", "InvalidPattern", "InvalidEdges", "InvalidGraph", "InvalidShares", "InvalidProgram", "InvalidText", "InvalidEdit", "InvalidCommand", "EmptyLog", "NoPath", "NotApplicable", "UnknownEffect", "NothingToUndo", "TooManyEvents", "TooManyStates", "TooManyEdits"] ["TooLong", "TooManyEvents", "TooManyStates", "TooManyEdits"]) .nil)))))) (.cons (.ite (.or (.cmp .ne (.mth .count (.var 1) (.cons (.cst (.bl true)) .nil)) (.cst (.int 1))) (.cmp .ne (.var 3) (.var 2))) (.cons (.ret (.bin .sub (.cst (.int 0)) (.cst (.int 1)))) .nil) .nil) (.cons (.asg (.nm 4) (.mth .index (.var 1) (.cons (.cst (.bl true)) .nil))) (.cons (.ret (.ite (.cmp .eq (.var 2) (.frz (.lst (.cons (.cmp .lt (.var 4) (.cst (.int 19))) (.cons (.chn .lt .lt (.cst (.int 18)) (.var 4) (.cst (.int 25))) (.cons (.cmp .gt (.var 4) (.cst (.int 24))) .nil)))))) (.var 4) (.bin .sub (.cst (.int 0)) (.cst (.int 1))))) .nil)))))))))))))))
def tab : Tab := [(("law" : Str), (⟨1, 2, false, false, c_law⟩ : Fn)),
  (("_law_limits_right" : Str), (⟨0, 2, false, false, c__law_limits_right⟩ : Fn)),
  (("_law_cell" : Str), (⟨2, 4, false, false, c__law_cell⟩ : Fn)),
  (("_law_pool" : Str), (⟨1, 2, false, true, c__law_pool⟩ : Fn)),
  (("_law_right" : Str), (⟨1, 10, true, false, c__law_right⟩ : Fn)),
  (("_law_draw" : Str), (⟨2, 4, true, false, c__law_draw⟩ : Fn)),
  (("_law_first" : Str), (⟨1, 5, false, false, c__law_first⟩ : Fn)),
  (("_law_second" : Str), (⟨1, 5, false, false, c__law_second⟩ : Fn)),
  (("_law_third" : Str), (⟨1, 5, false, false, c__law_third⟩ : Fn)),
  (("_law_caught" : Str), (⟨1, 3, false, false, c__law_caught⟩ : Fn)),
  (("_law_error" : Str), (⟨1, 5, false, false, c__law_error⟩ : Fn)),
  (("InvalidLog" : Str), (⟨4001, 0, false, false, .cons (.ret (.obj "InvalidLog" ["index"] "()0")) .nil⟩ : Fn)),
  (("InvalidStep" : Str), (⟨4001, 0, false, false, .cons (.ret (.obj "InvalidStep" ["step"] "()0")) .nil⟩ : Fn)),
  (("InvalidSteps" : Str), (⟨4001, 0, false, false, .cons (.ret (.obj "InvalidSteps" ["index"] "()0")) .nil⟩ : Fn)),
  (("InvalidSignature" : Str), (⟨4001, 0, false, false, .cons (.ret (.obj "InvalidSignature" ["signature"] "()0")) .nil⟩ : Fn)),
  (("InvalidPath" : Str), (⟨4001, 0, false, false, .cons (.ret (.obj "InvalidPath" ["index"] "()0")) .nil⟩ : Fn)),
  (("InvalidEvent" : Str), (⟨4001, 0, false, false, .cons (.ret (.obj "InvalidEvent" ["event"] "()0")) .nil⟩ : Fn)),
  (("InvalidEvents" : Str), (⟨4001, 0, false, false, .cons (.ret (.obj "InvalidEvents" ["index"] "()0")) .nil⟩ : Fn)),
  (("InvalidNumber" : Str), (⟨4001, 0, false, false, .cons (.ret (.obj "InvalidNumber" ["number"] "()0")) .nil⟩ : Fn)),
  (("InvalidTable" : Str), (⟨4001, 0, false, false, .cons (.ret (.obj "InvalidTable" ["index"] "()0")) .nil⟩ : Fn)),
  (("InvalidState" : Str), (⟨4001, 0, false, false, .cons (.ret (.obj "InvalidState" ["state"] "()0")) .nil⟩ : Fn)),
  (("InvalidReceiver" : Str), (⟨4001, 0, false, false, .cons (.ret (.obj "InvalidReceiver" ["receiver"] "()0")) .nil⟩ : Fn)),
  (("InvalidPattern" : Str), (⟨4001, 0, false, false, .cons (.ret (.obj "InvalidPattern" ["index"] "()0")) .nil⟩ : Fn)),
  (("InvalidEdges" : Str), (⟨4001, 0, false, false, .cons (.ret (.obj "InvalidEdges" ["index"] "()0")) .nil⟩ : Fn)),
  (("InvalidGraph" : Str), (⟨4001, 0, false, false, .cons (.ret (.obj "InvalidGraph" ["graph"] "()0")) .nil⟩ : Fn)),
  (("InvalidShares" : Str), (⟨4001, 0, false, false, .cons (.ret (.obj "InvalidShares" ["index"] "()0")) .nil⟩ : Fn)),
  (("InvalidProgram" : Str), (⟨4001, 0, false, false, .cons (.ret (.obj "InvalidProgram" ["index"] "()0")) .nil⟩ : Fn)),
  (("InvalidText" : Str), (⟨4001, 0, false, false, .cons (.ret (.obj "InvalidText" ["text"] "()0")) .nil⟩ : Fn)),
  (("InvalidEdit" : Str), (⟨4001, 0, false, false, .cons (.ret (.obj "InvalidEdit" ["index"] "()0")) .nil⟩ : Fn)),
  (("InvalidCommand" : Str), (⟨4001, 0, false, false, .cons (.ret (.obj "InvalidCommand" ["line"] "()0")) .nil⟩ : Fn)),
  (("NoPath" : Str), (⟨4001, 0, false, false, .cons (.ret (.obj "NoPath" ["index"] "()0")) .nil⟩ : Fn)),
  (("NotApplicable" : Str), (⟨4001, 0, false, false, .cons (.ret (.obj "NotApplicable" ["step"] "()0")) .nil⟩ : Fn)),
  (("UnknownEvent" : Str), (⟨4001, 0, false, false, .cons (.ret (.obj "UnknownEvent" ["event"] "()0")) .nil⟩ : Fn)),
  (("UnknownEffect" : Str), (⟨4001, 0, false, false, .cons (.ret (.obj "UnknownEffect" ["effect"] "()0")) .nil⟩ : Fn)),
  (("TooManyEvents" : Str), (⟨4001, 0, false, false, .cons (.ret (.obj "TooManyEvents" ["count"] "()0")) .nil⟩ : Fn)),
  (("TooLong" : Str), (⟨4001, 0, false, false, .cons (.ret (.obj "TooLong" ["length"] "()0")) .nil⟩ : Fn)),
  (("TooManyStates" : Str), (⟨4001, 0, false, false, .cons (.ret (.obj "TooManyStates" ["count"] "()0")) .nil⟩ : Fn)),
  (("TooManyEdits" : Str), (⟨4001, 0, false, false, .cons (.ret (.obj "TooManyEdits" ["count"] "()0")) .nil⟩ : Fn)),
  (("()0" : Str), (⟨1, 1, false, false, .nil⟩ : Fn))]
theorem lk_law : List.lookup ("law" : Str) tab = some ⟨1, 2, false, false, c_law⟩ := rfl
theorem lk__law_limits_right : List.lookup ("_law_limits_right" : Str) tab = some ⟨0, 2, false, false, c__law_limits_right⟩ := rfl
theorem lk__law_right : List.lookup ("_law_right" : Str) tab = some ⟨1, 10, true, false, c__law_right⟩ := rfl
theorem lk__law_first : List.lookup ("_law_first" : Str) tab = some ⟨1, 5, false, false, c__law_first⟩ := rfl
theorem lk__law_second : List.lookup ("_law_second" : Str) tab = some ⟨1, 5, false, false, c__law_second⟩ := rfl
theorem lk__law_third : List.lookup ("_law_third" : Str) tab = some ⟨1, 5, false, false, c__law_third⟩ := rfl
theorem lk__law_caught : List.lookup ("_law_caught" : Str) tab = some ⟨1, 3, false, false, c__law_caught⟩ := rfl
theorem lk__law_error : List.lookup ("_law_error" : Str) tab = some ⟨1, 5, false, false, c__law_error⟩ := rfl
structure C0 (K : PySem.W.Frag) (mg : Str → Option Value) where
  f_law : Addr
  fd_law : FuncData
  F_law : Fun K "law" "law" s_law f_law fd_law
  m_law : mg "law" = some (.ref f_law)
  f__law_limits_right : Addr
  fd__law_limits_right : FuncData
  F__law_limits_right : Fun K "_law_limits_right" "_law_limits_right" s__law_limits_right f__law_limits_right fd__law_limits_right
  m__law_limits_right : mg "_law_limits_right" = some (.ref f__law_limits_right)
  f__law_cell : Addr
  fd__law_cell : FuncData
  F__law_cell : Fun K "_law_cell" "_law_cell" s__law_cell f__law_cell fd__law_cell
  m__law_cell : mg "_law_cell" = some (.ref f__law_cell)
  f__law_pool : Addr
  fd__law_pool : FuncData
  F__law_pool : Fun K "_law_pool" "_law_pool" s__law_pool f__law_pool fd__law_pool
  m__law_pool : mg "_law_pool" = some (.ref f__law_pool)
  f__law_right : Addr
  fd__law_right : FuncData
  F__law_right : Fun K "_law_right" "_law_right" s__law_right f__law_right fd__law_right
  m__law_right : mg "_law_right" = some (.ref f__law_right)
  f__law_draw : Addr
  fd__law_draw : FuncData
  F__law_draw : Fun K "_law_draw" "_law_draw" s__law_draw f__law_draw fd__law_draw
  m__law_draw : mg "_law_draw" = some (.ref f__law_draw)
  f__law_first : Addr
  fd__law_first : FuncData
  F__law_first : Fun K "_law_first" "_law_first" s__law_first f__law_first fd__law_first
  m__law_first : mg "_law_first" = some (.ref f__law_first)
  f__law_second : Addr
  fd__law_second : FuncData
  F__law_second : Fun K "_law_second" "_law_second" s__law_second f__law_second fd__law_second
  m__law_second : mg "_law_second" = some (.ref f__law_second)
  f__law_third : Addr
  fd__law_third : FuncData
  F__law_third : Fun K "_law_third" "_law_third" s__law_third f__law_third fd__law_third
  m__law_third : mg "_law_third" = some (.ref f__law_third)
  f__law_caught : Addr
  fd__law_caught : FuncData
  F__law_caught : Fun K "_law_caught" "_law_caught" s__law_caught f__law_caught fd__law_caught
  m__law_caught : mg "_law_caught" = some (.ref f__law_caught)
  f__law_error : Addr
  fd__law_error : FuncData
  F__law_error : Fun K "_law_error" "_law_error" s__law_error f__law_error fd__law_error
  m__law_error : mg "_law_error" = some (.ref f__law_error)
  C_InvalidLog : Addr
  I_InvalidLog : Addr
  T_InvalidLog : ExT K mg "InvalidLog" "index" C_InvalidLog I_InvalidLog
  C_InvalidStep : Addr
  I_InvalidStep : Addr
  T_InvalidStep : ExT K mg "InvalidStep" "step" C_InvalidStep I_InvalidStep
  C_InvalidSteps : Addr
  I_InvalidSteps : Addr
  T_InvalidSteps : ExT K mg "InvalidSteps" "index" C_InvalidSteps I_InvalidSteps
  C_InvalidSignature : Addr
  I_InvalidSignature : Addr
  T_InvalidSignature : ExT K mg "InvalidSignature" "signature" C_InvalidSignature I_InvalidSignature
  C_InvalidPath : Addr
  I_InvalidPath : Addr
  T_InvalidPath : ExT K mg "InvalidPath" "index" C_InvalidPath I_InvalidPath
  C_InvalidEvent : Addr
  I_InvalidEvent : Addr
  T_InvalidEvent : ExT K mg "InvalidEvent" "event" C_InvalidEvent I_InvalidEvent
  C_InvalidEvents : Addr
  I_InvalidEvents : Addr
  T_InvalidEvents : ExT K mg "InvalidEvents" "index" C_InvalidEvents I_InvalidEvents
  C_InvalidNumber : Addr
  I_InvalidNumber : Addr
  T_InvalidNumber : ExT K mg "InvalidNumber" "number" C_InvalidNumber I_InvalidNumber
  C_InvalidTable : Addr
  I_InvalidTable : Addr
  T_InvalidTable : ExT K mg "InvalidTable" "index" C_InvalidTable I_InvalidTable
  C_InvalidState : Addr
  I_InvalidState : Addr
  T_InvalidState : ExT K mg "InvalidState" "state" C_InvalidState I_InvalidState
  C_InvalidPattern : Addr
  I_InvalidPattern : Addr
  T_InvalidPattern : ExT K mg "InvalidPattern" "index" C_InvalidPattern I_InvalidPattern
  C_InvalidEdges : Addr
  I_InvalidEdges : Addr
  T_InvalidEdges : ExT K mg "InvalidEdges" "index" C_InvalidEdges I_InvalidEdges
  C_InvalidShares : Addr
  I_InvalidShares : Addr
  T_InvalidShares : ExT K mg "InvalidShares" "index" C_InvalidShares I_InvalidShares
  C_InvalidProgram : Addr
  I_InvalidProgram : Addr
  T_InvalidProgram : ExT K mg "InvalidProgram" "index" C_InvalidProgram I_InvalidProgram
  C_InvalidEdit : Addr
  I_InvalidEdit : Addr
  T_InvalidEdit : ExT K mg "InvalidEdit" "index" C_InvalidEdit I_InvalidEdit
  C_NoPath : Addr
  I_NoPath : Addr
  T_NoPath : ExT K mg "NoPath" "index" C_NoPath I_NoPath
  C_NotApplicable : Addr
  I_NotApplicable : Addr
  T_NotApplicable : ExT K mg "NotApplicable" "step" C_NotApplicable I_NotApplicable
  C_UnknownEvent : Addr
  I_UnknownEvent : Addr
  T_UnknownEvent : ExT K mg "UnknownEvent" "event" C_UnknownEvent I_UnknownEvent
  C_InvalidReceiver : Addr
  I_InvalidReceiver : Addr
  T_InvalidReceiver : ExT K mg "InvalidReceiver" "receiver" C_InvalidReceiver I_InvalidReceiver
  C_InvalidGraph : Addr
  I_InvalidGraph : Addr
  T_InvalidGraph : ExT K mg "InvalidGraph" "graph" C_InvalidGraph I_InvalidGraph
  C_InvalidText : Addr
  I_InvalidText : Addr
  T_InvalidText : ExT K mg "InvalidText" "text" C_InvalidText I_InvalidText
  C_InvalidCommand : Addr
  I_InvalidCommand : Addr
  T_InvalidCommand : ExT K mg "InvalidCommand" "line" C_InvalidCommand I_InvalidCommand
  C_EmptyLog : Addr
  T_EmptyLog : ExB K mg "EmptyLog" C_EmptyLog
  C_UnknownEffect : Addr
  I_UnknownEffect : Addr
  T_UnknownEffect : ExT K mg "UnknownEffect" "effect" C_UnknownEffect I_UnknownEffect
  C_NothingToUndo : Addr
  T_NothingToUndo : ExB K mg "NothingToUndo" C_NothingToUndo
  C_TooManyEvents : Addr
  I_TooManyEvents : Addr
  T_TooManyEvents : ExT K mg "TooManyEvents" "count" C_TooManyEvents I_TooManyEvents
  C_TooLong : Addr
  I_TooLong : Addr
  T_TooLong : ExT K mg "TooLong" "length" C_TooLong I_TooLong
  C_TooManyStates : Addr
  I_TooManyStates : Addr
  T_TooManyStates : ExT K mg "TooManyStates" "count" C_TooManyStates I_TooManyStates
  C_TooManyEdits : Addr
  I_TooManyEdits : Addr
  T_TooManyEdits : ExT K mg "TooManyEdits" "count" C_TooManyEdits I_TooManyEdits
  CH_DeliveryError : Addr
  mH_DeliveryError : mg "DeliveryError" = some (.ref CH_DeliveryError)
  hA_DeliveryError : ∀ t ∈ (["InvalidStep", "UnknownEvent", "TooLong"] : List Str), ∃ C, PySem.W.nsIn K mainGlobals t = some (some (.ref C)) ∧ PySem.W.exmOne K (.ref C) (.ref CH_DeliveryError) = some ((["InvalidStep"] : List Str).contains t)
  CH_SearchError : Addr
  mH_SearchError : mg "SearchError" = some (.ref CH_SearchError)
  hA_SearchError : ∀ t ∈ (["InvalidStep", "UnknownEvent", "TooLong"] : List Str), ∃ C, PySem.W.nsIn K mainGlobals t = some (some (.ref C)) ∧ PySem.W.exmOne K (.ref C) (.ref CH_SearchError) = some ((["UnknownEvent"] : List Str).contains t)
  CH_LimitError : Addr
  mH_LimitError : mg "LimitError" = some (.ref CH_LimitError)
  hA_LimitError : ∀ t ∈ (["InvalidStep", "UnknownEvent", "TooLong"] : List Str), ∃ C, PySem.W.nsIn K mainGlobals t = some (some (.ref C)) ∧ PySem.W.exmOne K (.ref C) (.ref CH_LimitError) = some ((["TooLong"] : List Str).contains t)
  CI_InvalidLog : Addr
  mI_InvalidLog : mg "InvalidLog" = some (.ref CI_InvalidLog)
  kI_InvalidLog : ∀ t ∈ (["InvalidStep", "UnknownEvent", "TooLong", "InvalidLog", "InvalidSteps", "InvalidSignature", "InvalidPath", "InvalidEvent", "InvalidEvents", "InvalidNumber", "InvalidTable", "InvalidState", "InvalidReceiver", "InvalidPattern", "InvalidEdges", "InvalidGraph", "InvalidShares", "InvalidProgram", "InvalidText", "InvalidEdit", "InvalidCommand", "EmptyLog", "NoPath", "NotApplicable", "UnknownEffect", "NothingToUndo", "TooManyEvents", "TooManyStates", "TooManyEdits"] : List Str), ∃ C, PySem.W.nsIn K mainGlobals t = some (some (.ref C)) ∧ IscF K C ∧ PySem.W.kitOne K (.ref C) (.ref CI_InvalidLog) = some ((["InvalidLog"] : List Str).contains t)
  CI_InvalidStep : Addr
  mI_InvalidStep : mg "InvalidStep" = some (.ref CI_InvalidStep)
  kI_InvalidStep : ∀ t ∈ (["InvalidStep", "UnknownEvent", "TooLong", "InvalidLog", "InvalidSteps", "InvalidSignature", "InvalidPath", "InvalidEvent", "InvalidEvents", "InvalidNumber", "InvalidTable", "InvalidState", "InvalidReceiver", "InvalidPattern", "InvalidEdges", "InvalidGraph", "InvalidShares", "InvalidProgram", "InvalidText", "InvalidEdit", "InvalidCommand", "EmptyLog", "NoPath", "NotApplicable", "UnknownEffect", "NothingToUndo", "TooManyEvents", "TooManyStates", "TooManyEdits"] : List Str), ∃ C, PySem.W.nsIn K mainGlobals t = some (some (.ref C)) ∧ IscF K C ∧ PySem.W.kitOne K (.ref C) (.ref CI_InvalidStep) = some ((["InvalidStep"] : List Str).contains t)
  CI_InvalidSteps : Addr
  mI_InvalidSteps : mg "InvalidSteps" = some (.ref CI_InvalidSteps)
  kI_InvalidSteps : ∀ t ∈ (["InvalidStep", "UnknownEvent", "TooLong", "InvalidLog", "InvalidSteps", "InvalidSignature", "InvalidPath", "InvalidEvent", "InvalidEvents", "InvalidNumber", "InvalidTable", "InvalidState", "InvalidReceiver", "InvalidPattern", "InvalidEdges", "InvalidGraph", "InvalidShares", "InvalidProgram", "InvalidText", "InvalidEdit", "InvalidCommand", "EmptyLog", "NoPath", "NotApplicable", "UnknownEffect", "NothingToUndo", "TooManyEvents", "TooManyStates", "TooManyEdits"] : List Str), ∃ C, PySem.W.nsIn K mainGlobals t = some (some (.ref C)) ∧ IscF K C ∧ PySem.W.kitOne K (.ref C) (.ref CI_InvalidSteps) = some ((["InvalidSteps"] : List Str).contains t)
  CI_InvalidSignature : Addr
  mI_InvalidSignature : mg "InvalidSignature" = some (.ref CI_InvalidSignature)
  kI_InvalidSignature : ∀ t ∈ (["InvalidStep", "UnknownEvent", "TooLong", "InvalidLog", "InvalidSteps", "InvalidSignature", "InvalidPath", "InvalidEvent", "InvalidEvents", "InvalidNumber", "InvalidTable", "InvalidState", "InvalidReceiver", "InvalidPattern", "InvalidEdges", "InvalidGraph", "InvalidShares", "InvalidProgram", "InvalidText", "InvalidEdit", "InvalidCommand", "EmptyLog", "NoPath", "NotApplicable", "UnknownEffect", "NothingToUndo", "TooManyEvents", "TooManyStates", "TooManyEdits"] : List Str), ∃ C, PySem.W.nsIn K mainGlobals t = some (some (.ref C)) ∧ IscF K C ∧ PySem.W.kitOne K (.ref C) (.ref CI_InvalidSignature) = some ((["InvalidSignature"] : List Str).contains t)
  CI_InvalidPath : Addr
  mI_InvalidPath : mg "InvalidPath" = some (.ref CI_InvalidPath)
  kI_InvalidPath : ∀ t ∈ (["InvalidStep", "UnknownEvent", "TooLong", "InvalidLog", "InvalidSteps", "InvalidSignature", "InvalidPath", "InvalidEvent", "InvalidEvents", "InvalidNumber", "InvalidTable", "InvalidState", "InvalidReceiver", "InvalidPattern", "InvalidEdges", "InvalidGraph", "InvalidShares", "InvalidProgram", "InvalidText", "InvalidEdit", "InvalidCommand", "EmptyLog", "NoPath", "NotApplicable", "UnknownEffect", "NothingToUndo", "TooManyEvents", "TooManyStates", "TooManyEdits"] : List Str), ∃ C, PySem.W.nsIn K mainGlobals t = some (some (.ref C)) ∧ IscF K C ∧ PySem.W.kitOne K (.ref C) (.ref CI_InvalidPath) = some ((["InvalidPath"] : List Str).contains t)
  CI_InvalidEvent : Addr
  mI_InvalidEvent : mg "InvalidEvent" = some (.ref CI_InvalidEvent)
  kI_InvalidEvent : ∀ t ∈ (["InvalidStep", "UnknownEvent", "TooLong", "InvalidLog", "InvalidSteps", "InvalidSignature", "InvalidPath", "InvalidEvent", "InvalidEvents", "InvalidNumber", "InvalidTable", "InvalidState", "InvalidReceiver", "InvalidPattern", "InvalidEdges", "InvalidGraph", "InvalidShares", "InvalidProgram", "InvalidText", "InvalidEdit", "InvalidCommand", "EmptyLog", "NoPath", "NotApplicable", "UnknownEffect", "NothingToUndo", "TooManyEvents", "TooManyStates", "TooManyEdits"] : List Str), ∃ C, PySem.W.nsIn K mainGlobals t = some (some (.ref C)) ∧ IscF K C ∧ PySem.W.kitOne K (.ref C) (.ref CI_InvalidEvent) = some ((["InvalidEvent"] : List Str).contains t)
  CI_InvalidEvents : Addr
  mI_InvalidEvents : mg "InvalidEvents" = some (.ref CI_InvalidEvents)
  kI_InvalidEvents : ∀ t ∈ (["InvalidStep", "UnknownEvent", "TooLong", "InvalidLog", "InvalidSteps", "InvalidSignature", "InvalidPath", "InvalidEvent", "InvalidEvents", "InvalidNumber", "InvalidTable", "InvalidState", "InvalidReceiver", "InvalidPattern", "InvalidEdges", "InvalidGraph", "InvalidShares", "InvalidProgram", "InvalidText", "InvalidEdit", "InvalidCommand", "EmptyLog", "NoPath", "NotApplicable", "UnknownEffect", "NothingToUndo", "TooManyEvents", "TooManyStates", "TooManyEdits"] : List Str), ∃ C, PySem.W.nsIn K mainGlobals t = some (some (.ref C)) ∧ IscF K C ∧ PySem.W.kitOne K (.ref C) (.ref CI_InvalidEvents) = some ((["InvalidEvents"] : List Str).contains t)
  CI_InvalidNumber : Addr
  mI_InvalidNumber : mg "InvalidNumber" = some (.ref CI_InvalidNumber)
  kI_InvalidNumber : ∀ t ∈ (["InvalidStep", "UnknownEvent", "TooLong", "InvalidLog", "InvalidSteps", "InvalidSignature", "InvalidPath", "InvalidEvent", "InvalidEvents", "InvalidNumber", "InvalidTable", "InvalidState", "InvalidReceiver", "InvalidPattern", "InvalidEdges", "InvalidGraph", "InvalidShares", "InvalidProgram", "InvalidText", "InvalidEdit", "InvalidCommand", "EmptyLog", "NoPath", "NotApplicable", "UnknownEffect", "NothingToUndo", "TooManyEvents", "TooManyStates", "TooManyEdits"] : List Str), ∃ C, PySem.W.nsIn K mainGlobals t = some (some (.ref C)) ∧ IscF K C ∧ PySem.W.kitOne K (.ref C) (.ref CI_InvalidNumber) = some ((["InvalidNumber"] : List Str).contains t)
  CI_InvalidTable : Addr
  mI_InvalidTable : mg "InvalidTable" = some (.ref CI_InvalidTable)
  kI_InvalidTable : ∀ t ∈ (["InvalidStep", "UnknownEvent", "TooLong", "InvalidLog", "InvalidSteps", "InvalidSignature", "InvalidPath", "InvalidEvent", "InvalidEvents", "InvalidNumber", "InvalidTable", "InvalidState", "InvalidReceiver", "InvalidPattern", "InvalidEdges", "InvalidGraph", "InvalidShares", "InvalidProgram", "InvalidText", "InvalidEdit", "InvalidCommand", "EmptyLog", "NoPath", "NotApplicable", "UnknownEffect", "NothingToUndo", "TooManyEvents", "TooManyStates", "TooManyEdits"] : List Str), ∃ C, PySem.W.nsIn K mainGlobals t = some (some (.ref C)) ∧ IscF K C ∧ PySem.W.kitOne K (.ref C) (.ref CI_InvalidTable) = some ((["InvalidTable"] : List Str).contains t)
  CI_InvalidState : Addr
  mI_InvalidState : mg "InvalidState" = some (.ref CI_InvalidState)
  kI_InvalidState : ∀ t ∈ (["InvalidStep", "UnknownEvent", "TooLong", "InvalidLog", "InvalidSteps", "InvalidSignature", "InvalidPath", "InvalidEvent", "InvalidEvents", "InvalidNumber", "InvalidTable", "InvalidState", "InvalidReceiver", "InvalidPattern", "InvalidEdges", "InvalidGraph", "InvalidShares", "InvalidProgram", "InvalidText", "InvalidEdit", "InvalidCommand", "EmptyLog", "NoPath", "NotApplicable", "UnknownEffect", "NothingToUndo", "TooManyEvents", "TooManyStates", "TooManyEdits"] : List Str), ∃ C, PySem.W.nsIn K mainGlobals t = some (some (.ref C)) ∧ IscF K C ∧ PySem.W.kitOne K (.ref C) (.ref CI_InvalidState) = some ((["InvalidState"] : List Str).contains t)
  CI_InvalidReceiver : Addr
  mI_InvalidReceiver : mg "InvalidReceiver" = some (.ref CI_InvalidReceiver)
  kI_InvalidReceiver : ∀ t ∈ (["InvalidStep", "UnknownEvent", "TooLong", "InvalidLog", "InvalidSteps", "InvalidSignature", "InvalidPath", "InvalidEvent", "InvalidEvents", "InvalidNumber", "InvalidTable", "InvalidState", "InvalidReceiver", "InvalidPattern", "InvalidEdges", "InvalidGraph", "InvalidShares", "InvalidProgram", "InvalidText", "InvalidEdit", "InvalidCommand", "EmptyLog", "NoPath", "NotApplicable", "UnknownEffect", "NothingToUndo", "TooManyEvents", "TooManyStates", "TooManyEdits"] : List Str), ∃ C, PySem.W.nsIn K mainGlobals t = some (some (.ref C)) ∧ IscF K C ∧ PySem.W.kitOne K (.ref C) (.ref CI_InvalidReceiver) = some ((["InvalidReceiver"] : List Str).contains t)
  CI_InvalidPattern : Addr
  mI_InvalidPattern : mg "InvalidPattern" = some (.ref CI_InvalidPattern)
  kI_InvalidPattern : ∀ t ∈ (["InvalidStep", "UnknownEvent", "TooLong", "InvalidLog", "InvalidSteps", "InvalidSignature", "InvalidPath", "InvalidEvent", "InvalidEvents", "InvalidNumber", "InvalidTable", "InvalidState", "InvalidReceiver", "InvalidPattern", "InvalidEdges", "InvalidGraph", "InvalidShares", "InvalidProgram", "InvalidText", "InvalidEdit", "InvalidCommand", "EmptyLog", "NoPath", "NotApplicable", "UnknownEffect", "NothingToUndo", "TooManyEvents", "TooManyStates", "TooManyEdits"] : List Str), ∃ C, PySem.W.nsIn K mainGlobals t = some (some (.ref C)) ∧ IscF K C ∧ PySem.W.kitOne K (.ref C) (.ref CI_InvalidPattern) = some ((["InvalidPattern"] : List Str).contains t)
  CI_InvalidEdges : Addr
  mI_InvalidEdges : mg "InvalidEdges" = some (.ref CI_InvalidEdges)
  kI_InvalidEdges : ∀ t ∈ (["InvalidStep", "UnknownEvent", "TooLong", "InvalidLog", "InvalidSteps", "InvalidSignature", "InvalidPath", "InvalidEvent", "InvalidEvents", "InvalidNumber", "InvalidTable", "InvalidState", "InvalidReceiver", "InvalidPattern", "InvalidEdges", "InvalidGraph", "InvalidShares", "InvalidProgram", "InvalidText", "InvalidEdit", "InvalidCommand", "EmptyLog", "NoPath", "NotApplicable", "UnknownEffect", "NothingToUndo", "TooManyEvents", "TooManyStates", "TooManyEdits"] : List Str), ∃ C, PySem.W.nsIn K mainGlobals t = some (some (.ref C)) ∧ IscF K C ∧ PySem.W.kitOne K (.ref C) (.ref CI_InvalidEdges) = some ((["InvalidEdges"] : List Str).contains t)
  CI_InvalidGraph : Addr
  mI_InvalidGraph : mg "InvalidGraph" = some (.ref CI_InvalidGraph)
  kI_InvalidGraph : ∀ t ∈ (["InvalidStep", "UnknownEvent", "TooLong", "InvalidLog", "InvalidSteps", "InvalidSignature", "InvalidPath", "InvalidEvent", "InvalidEvents", "InvalidNumber", "InvalidTable", "InvalidState", "InvalidReceiver", "InvalidPattern", "InvalidEdges", "InvalidGraph", "InvalidShares", "InvalidProgram", "InvalidText", "InvalidEdit", "InvalidCommand", "EmptyLog", "NoPath", "NotApplicable", "UnknownEffect", "NothingToUndo", "TooManyEvents", "TooManyStates", "TooManyEdits"] : List Str), ∃ C, PySem.W.nsIn K mainGlobals t = some (some (.ref C)) ∧ IscF K C ∧ PySem.W.kitOne K (.ref C) (.ref CI_InvalidGraph) = some ((["InvalidGraph"] : List Str).contains t)
  CI_InvalidShares : Addr
  mI_InvalidShares : mg "InvalidShares" = some (.ref CI_InvalidShares)
  kI_InvalidShares : ∀ t ∈ (["InvalidStep", "UnknownEvent", "TooLong", "InvalidLog", "InvalidSteps", "InvalidSignature", "InvalidPath", "InvalidEvent", "InvalidEvents", "InvalidNumber", "InvalidTable", "InvalidState", "InvalidReceiver", "InvalidPattern", "InvalidEdges", "InvalidGraph", "InvalidShares", "InvalidProgram", "InvalidText", "InvalidEdit", "InvalidCommand", "EmptyLog", "NoPath", "NotApplicable", "UnknownEffect", "NothingToUndo", "TooManyEvents", "TooManyStates", "TooManyEdits"] : List Str), ∃ C, PySem.W.nsIn K mainGlobals t = some (some (.ref C)) ∧ IscF K C ∧ PySem.W.kitOne K (.ref C) (.ref CI_InvalidShares) = some ((["InvalidShares"] : List Str).contains t)
  CI_InvalidProgram : Addr
  mI_InvalidProgram : mg "InvalidProgram" = some (.ref CI_InvalidProgram)
  kI_InvalidProgram : ∀ t ∈ (["InvalidStep", "UnknownEvent", "TooLong", "InvalidLog", "InvalidSteps", "InvalidSignature", "InvalidPath", "InvalidEvent", "InvalidEvents", "InvalidNumber", "InvalidTable", "InvalidState", "InvalidReceiver", "InvalidPattern", "InvalidEdges", "InvalidGraph", "InvalidShares", "InvalidProgram", "InvalidText", "InvalidEdit", "InvalidCommand", "EmptyLog", "NoPath", "NotApplicable", "UnknownEffect", "NothingToUndo", "TooManyEvents", "TooManyStates", "TooManyEdits"] : List Str), ∃ C, PySem.W.nsIn K mainGlobals t = some (some (.ref C)) ∧ IscF K C ∧ PySem.W.kitOne K (.ref C) (.ref CI_InvalidProgram) = some ((["InvalidProgram"] : List Str).contains t)
  CI_InvalidText : Addr
  mI_InvalidText : mg "InvalidText" = some (.ref CI_InvalidText)
  kI_InvalidText : ∀ t ∈ (["InvalidStep", "UnknownEvent", "TooLong", "InvalidLog", "InvalidSteps", "InvalidSignature", "InvalidPath", "InvalidEvent", "InvalidEvents", "InvalidNumber", "InvalidTable", "InvalidState", "InvalidReceiver", "InvalidPattern", "InvalidEdges", "InvalidGraph", "InvalidShares", "InvalidProgram", "InvalidText", "InvalidEdit", "InvalidCommand", "EmptyLog", "NoPath", "NotApplicable", "UnknownEffect", "NothingToUndo", "TooManyEvents", "TooManyStates", "TooManyEdits"] : List Str), ∃ C, PySem.W.nsIn K mainGlobals t = some (some (.ref C)) ∧ IscF K C ∧ PySem.W.kitOne K (.ref C) (.ref CI_InvalidText) = some ((["InvalidText"] : List Str).contains t)
  CI_InvalidEdit : Addr
  mI_InvalidEdit : mg "InvalidEdit" = some (.ref CI_InvalidEdit)
  kI_InvalidEdit : ∀ t ∈ (["InvalidStep", "UnknownEvent", "TooLong", "InvalidLog", "InvalidSteps", "InvalidSignature", "InvalidPath", "InvalidEvent", "InvalidEvents", "InvalidNumber", "InvalidTable", "InvalidState", "InvalidReceiver", "InvalidPattern", "InvalidEdges", "InvalidGraph", "InvalidShares", "InvalidProgram", "InvalidText", "InvalidEdit", "InvalidCommand", "EmptyLog", "NoPath", "NotApplicable", "UnknownEffect", "NothingToUndo", "TooManyEvents", "TooManyStates", "TooManyEdits"] : List Str), ∃ C, PySem.W.nsIn K mainGlobals t = some (some (.ref C)) ∧ IscF K C ∧ PySem.W.kitOne K (.ref C) (.ref CI_InvalidEdit) = some ((["InvalidEdit"] : List Str).contains t)
  CI_InvalidCommand : Addr
  mI_InvalidCommand : mg "InvalidCommand" = some (.ref CI_InvalidCommand)
  kI_InvalidCommand : ∀ t ∈ (["InvalidStep", "UnknownEvent", "TooLong", "InvalidLog", "InvalidSteps", "InvalidSignature", "InvalidPath", "InvalidEvent", "InvalidEvents", "InvalidNumber", "InvalidTable", "InvalidState", "InvalidReceiver", "InvalidPattern", "InvalidEdges", "InvalidGraph", "InvalidShares", "InvalidProgram", "InvalidText", "InvalidEdit", "InvalidCommand", "EmptyLog", "NoPath", "NotApplicable", "UnknownEffect", "NothingToUndo", "TooManyEvents", "TooManyStates", "TooManyEdits"] : List Str), ∃ C, PySem.W.nsIn K mainGlobals t = some (some (.ref C)) ∧ IscF K C ∧ PySem.W.kitOne K (.ref C) (.ref CI_InvalidCommand) = some ((["InvalidCommand"] : List Str).contains t)
  CI_EmptyLog : Addr
  mI_EmptyLog : mg "EmptyLog" = some (.ref CI_EmptyLog)
  kI_EmptyLog : ∀ t ∈ (["InvalidStep", "UnknownEvent", "TooLong", "InvalidLog", "InvalidSteps", "InvalidSignature", "InvalidPath", "InvalidEvent", "InvalidEvents", "InvalidNumber", "InvalidTable", "InvalidState", "InvalidReceiver", "InvalidPattern", "InvalidEdges", "InvalidGraph", "InvalidShares", "InvalidProgram", "InvalidText", "InvalidEdit", "InvalidCommand", "EmptyLog", "NoPath", "NotApplicable", "UnknownEffect", "NothingToUndo", "TooManyEvents", "TooManyStates", "TooManyEdits"] : List Str), ∃ C, PySem.W.nsIn K mainGlobals t = some (some (.ref C)) ∧ IscF K C ∧ PySem.W.kitOne K (.ref C) (.ref CI_EmptyLog) = some ((["EmptyLog"] : List Str).contains t)
  CI_NoPath : Addr
  mI_NoPath : mg "NoPath" = some (.ref CI_NoPath)
  kI_NoPath : ∀ t ∈ (["InvalidStep", "UnknownEvent", "TooLong", "InvalidLog", "InvalidSteps", "InvalidSignature", "InvalidPath", "InvalidEvent", "InvalidEvents", "InvalidNumber", "InvalidTable", "InvalidState", "InvalidReceiver", "InvalidPattern", "InvalidEdges", "InvalidGraph", "InvalidShares", "InvalidProgram", "InvalidText", "InvalidEdit", "InvalidCommand", "EmptyLog", "NoPath", "NotApplicable", "UnknownEffect", "NothingToUndo", "TooManyEvents", "TooManyStates", "TooManyEdits"] : List Str), ∃ C, PySem.W.nsIn K mainGlobals t = some (some (.ref C)) ∧ IscF K C ∧ PySem.W.kitOne K (.ref C) (.ref CI_NoPath) = some ((["NoPath"] : List Str).contains t)
  CI_NotApplicable : Addr
  mI_NotApplicable : mg "NotApplicable" = some (.ref CI_NotApplicable)
  kI_NotApplicable : ∀ t ∈ (["InvalidStep", "UnknownEvent", "TooLong", "InvalidLog", "InvalidSteps", "InvalidSignature", "InvalidPath", "InvalidEvent", "InvalidEvents", "InvalidNumber", "InvalidTable", "InvalidState", "InvalidReceiver", "InvalidPattern", "InvalidEdges", "InvalidGraph", "InvalidShares", "InvalidProgram", "InvalidText", "InvalidEdit", "InvalidCommand", "EmptyLog", "NoPath", "NotApplicable", "UnknownEffect", "NothingToUndo", "TooManyEvents", "TooManyStates", "TooManyEdits"] : List Str), ∃ C, PySem.W.nsIn K mainGlobals t = some (some (.ref C)) ∧ IscF K C ∧ PySem.W.kitOne K (.ref C) (.ref CI_NotApplicable) = some ((["NotApplicable"] : List Str).contains t)
  CI_UnknownEvent : Addr
  mI_UnknownEvent : mg "UnknownEvent" = some (.ref CI_UnknownEvent)
  kI_UnknownEvent : ∀ t ∈ (["InvalidStep", "UnknownEvent", "TooLong", "InvalidLog", "InvalidSteps", "InvalidSignature", "InvalidPath", "InvalidEvent", "InvalidEvents", "InvalidNumber", "InvalidTable", "InvalidState", "InvalidReceiver", "InvalidPattern", "InvalidEdges", "InvalidGraph", "InvalidShares", "InvalidProgram", "InvalidText", "InvalidEdit", "InvalidCommand", "EmptyLog", "NoPath", "NotApplicable", "UnknownEffect", "NothingToUndo", "TooManyEvents", "TooManyStates", "TooManyEdits"] : List Str), ∃ C, PySem.W.nsIn K mainGlobals t = some (some (.ref C)) ∧ IscF K C ∧ PySem.W.kitOne K (.ref C) (.ref CI_UnknownEvent) = some ((["UnknownEvent"] : List Str).contains t)
  CI_UnknownEffect : Addr
  mI_UnknownEffect : mg "UnknownEffect" = some (.ref CI_UnknownEffect)
  kI_UnknownEffect : ∀ t ∈ (["InvalidStep", "UnknownEvent", "TooLong", "InvalidLog", "InvalidSteps", "InvalidSignature", "InvalidPath", "InvalidEvent", "InvalidEvents", "InvalidNumber", "InvalidTable", "InvalidState", "InvalidReceiver", "InvalidPattern", "InvalidEdges", "InvalidGraph", "InvalidShares", "InvalidProgram", "InvalidText", "InvalidEdit", "InvalidCommand", "EmptyLog", "NoPath", "NotApplicable", "UnknownEffect", "NothingToUndo", "TooManyEvents", "TooManyStates", "TooManyEdits"] : List Str), ∃ C, PySem.W.nsIn K mainGlobals t = some (some (.ref C)) ∧ IscF K C ∧ PySem.W.kitOne K (.ref C) (.ref CI_UnknownEffect) = some ((["UnknownEffect"] : List Str).contains t)
  CI_NothingToUndo : Addr
  mI_NothingToUndo : mg "NothingToUndo" = some (.ref CI_NothingToUndo)
  kI_NothingToUndo : ∀ t ∈ (["InvalidStep", "UnknownEvent", "TooLong", "InvalidLog", "InvalidSteps", "InvalidSignature", "InvalidPath", "InvalidEvent", "InvalidEvents", "InvalidNumber", "InvalidTable", "InvalidState", "InvalidReceiver", "InvalidPattern", "InvalidEdges", "InvalidGraph", "InvalidShares", "InvalidProgram", "InvalidText", "InvalidEdit", "InvalidCommand", "EmptyLog", "NoPath", "NotApplicable", "UnknownEffect", "NothingToUndo", "TooManyEvents", "TooManyStates", "TooManyEdits"] : List Str), ∃ C, PySem.W.nsIn K mainGlobals t = some (some (.ref C)) ∧ IscF K C ∧ PySem.W.kitOne K (.ref C) (.ref CI_NothingToUndo) = some ((["NothingToUndo"] : List Str).contains t)
  CI_TooManyEvents : Addr
  mI_TooManyEvents : mg "TooManyEvents" = some (.ref CI_TooManyEvents)
  kI_TooManyEvents : ∀ t ∈ (["InvalidStep", "UnknownEvent", "TooLong", "InvalidLog", "InvalidSteps", "InvalidSignature", "InvalidPath", "InvalidEvent", "InvalidEvents", "InvalidNumber", "InvalidTable", "InvalidState", "InvalidReceiver", "InvalidPattern", "InvalidEdges", "InvalidGraph", "InvalidShares", "InvalidProgram", "InvalidText", "InvalidEdit", "InvalidCommand", "EmptyLog", "NoPath", "NotApplicable", "UnknownEffect", "NothingToUndo", "TooManyEvents", "TooManyStates", "TooManyEdits"] : List Str), ∃ C, PySem.W.nsIn K mainGlobals t = some (some (.ref C)) ∧ IscF K C ∧ PySem.W.kitOne K (.ref C) (.ref CI_TooManyEvents) = some ((["TooManyEvents"] : List Str).contains t)
  CI_TooLong : Addr
  mI_TooLong : mg "TooLong" = some (.ref CI_TooLong)
  kI_TooLong : ∀ t ∈ (["InvalidStep", "UnknownEvent", "TooLong", "InvalidLog", "InvalidSteps", "InvalidSignature", "InvalidPath", "InvalidEvent", "InvalidEvents", "InvalidNumber", "InvalidTable", "InvalidState", "InvalidReceiver", "InvalidPattern", "InvalidEdges", "InvalidGraph", "InvalidShares", "InvalidProgram", "InvalidText", "InvalidEdit", "InvalidCommand", "EmptyLog", "NoPath", "NotApplicable", "UnknownEffect", "NothingToUndo", "TooManyEvents", "TooManyStates", "TooManyEdits"] : List Str), ∃ C, PySem.W.nsIn K mainGlobals t = some (some (.ref C)) ∧ IscF K C ∧ PySem.W.kitOne K (.ref C) (.ref CI_TooLong) = some ((["TooLong"] : List Str).contains t)
  CI_TooManyStates : Addr
  mI_TooManyStates : mg "TooManyStates" = some (.ref CI_TooManyStates)
  kI_TooManyStates : ∀ t ∈ (["InvalidStep", "UnknownEvent", "TooLong", "InvalidLog", "InvalidSteps", "InvalidSignature", "InvalidPath", "InvalidEvent", "InvalidEvents", "InvalidNumber", "InvalidTable", "InvalidState", "InvalidReceiver", "InvalidPattern", "InvalidEdges", "InvalidGraph", "InvalidShares", "InvalidProgram", "InvalidText", "InvalidEdit", "InvalidCommand", "EmptyLog", "NoPath", "NotApplicable", "UnknownEffect", "NothingToUndo", "TooManyEvents", "TooManyStates", "TooManyEdits"] : List Str), ∃ C, PySem.W.nsIn K mainGlobals t = some (some (.ref C)) ∧ IscF K C ∧ PySem.W.kitOne K (.ref C) (.ref CI_TooManyStates) = some ((["TooManyStates"] : List Str).contains t)
  CI_TooManyEdits : Addr
  mI_TooManyEdits : mg "TooManyEdits" = some (.ref CI_TooManyEdits)
  kI_TooManyEdits : ∀ t ∈ (["InvalidStep", "UnknownEvent", "TooLong", "InvalidLog", "InvalidSteps", "InvalidSignature", "InvalidPath", "InvalidEvent", "InvalidEvents", "InvalidNumber", "InvalidTable", "InvalidState", "InvalidReceiver", "InvalidPattern", "InvalidEdges", "InvalidGraph", "InvalidShares", "InvalidProgram", "InvalidText", "InvalidEdit", "InvalidCommand", "EmptyLog", "NoPath", "NotApplicable", "UnknownEffect", "NothingToUndo", "TooManyEvents", "TooManyStates", "TooManyEdits"] : List Str), ∃ C, PySem.W.nsIn K mainGlobals t = some (some (.ref C)) ∧ IscF K C ∧ PySem.W.kitOne K (.ref C) (.ref CI_TooManyEdits) = some ((["TooManyEdits"] : List Str).contains t)
  CI_DeliveryError : Addr
  mI_DeliveryError : mg "DeliveryError" = some (.ref CI_DeliveryError)
  kI_DeliveryError : ∀ t ∈ (["InvalidStep", "UnknownEvent", "TooLong", "InvalidLog", "InvalidSteps", "InvalidSignature", "InvalidPath", "InvalidEvent", "InvalidEvents", "InvalidNumber", "InvalidTable", "InvalidState", "InvalidReceiver", "InvalidPattern", "InvalidEdges", "InvalidGraph", "InvalidShares", "InvalidProgram", "InvalidText", "InvalidEdit", "InvalidCommand", "EmptyLog", "NoPath", "NotApplicable", "UnknownEffect", "NothingToUndo", "TooManyEvents", "TooManyStates", "TooManyEdits"] : List Str), ∃ C, PySem.W.nsIn K mainGlobals t = some (some (.ref C)) ∧ IscF K C ∧ PySem.W.kitOne K (.ref C) (.ref CI_DeliveryError) = some ((["InvalidStep", "InvalidLog", "InvalidSteps", "InvalidSignature", "InvalidPath", "InvalidEvent", "InvalidEvents", "InvalidNumber", "InvalidTable", "InvalidState", "InvalidReceiver", "InvalidPattern", "InvalidEdges", "InvalidGraph", "InvalidShares", "InvalidProgram", "InvalidText", "InvalidEdit", "InvalidCommand"] : List Str).contains t)
  CI_SearchError : Addr
  mI_SearchError : mg "SearchError" = some (.ref CI_SearchError)
  kI_SearchError : ∀ t ∈ (["InvalidStep", "UnknownEvent", "TooLong", "InvalidLog", "InvalidSteps", "InvalidSignature", "InvalidPath", "InvalidEvent", "InvalidEvents", "InvalidNumber", "InvalidTable", "InvalidState", "InvalidReceiver", "InvalidPattern", "InvalidEdges", "InvalidGraph", "InvalidShares", "InvalidProgram", "InvalidText", "InvalidEdit", "InvalidCommand", "EmptyLog", "NoPath", "NotApplicable", "UnknownEffect", "NothingToUndo", "TooManyEvents", "TooManyStates", "TooManyEdits"] : List Str), ∃ C, PySem.W.nsIn K mainGlobals t = some (some (.ref C)) ∧ IscF K C ∧ PySem.W.kitOne K (.ref C) (.ref CI_SearchError) = some ((["UnknownEvent", "EmptyLog", "NoPath", "NotApplicable", "UnknownEffect", "NothingToUndo"] : List Str).contains t)
  CI_LimitError : Addr
  mI_LimitError : mg "LimitError" = some (.ref CI_LimitError)
  kI_LimitError : ∀ t ∈ (["InvalidStep", "UnknownEvent", "TooLong", "InvalidLog", "InvalidSteps", "InvalidSignature", "InvalidPath", "InvalidEvent", "InvalidEvents", "InvalidNumber", "InvalidTable", "InvalidState", "InvalidReceiver", "InvalidPattern", "InvalidEdges", "InvalidGraph", "InvalidShares", "InvalidProgram", "InvalidText", "InvalidEdit", "InvalidCommand", "EmptyLog", "NoPath", "NotApplicable", "UnknownEffect", "NothingToUndo", "TooManyEvents", "TooManyStates", "TooManyEdits"] : List Str), ∃ C, PySem.W.nsIn K mainGlobals t = some (some (.ref C)) ∧ IscF K C ∧ PySem.W.kitOne K (.ref C) (.ref CI_LimitError) = some ((["TooLong", "TooManyEvents", "TooManyStates", "TooManyEdits"] : List Str).contains t)
  kI_ValueError : ∀ t ∈ (["InvalidStep", "UnknownEvent", "TooLong", "InvalidLog", "InvalidSteps", "InvalidSignature", "InvalidPath", "InvalidEvent", "InvalidEvents", "InvalidNumber", "InvalidTable", "InvalidState", "InvalidReceiver", "InvalidPattern", "InvalidEdges", "InvalidGraph", "InvalidShares", "InvalidProgram", "InvalidText", "InvalidEdit", "InvalidCommand", "EmptyLog", "NoPath", "NotApplicable", "UnknownEffect", "NothingToUndo", "TooManyEvents", "TooManyStates", "TooManyEdits"] : List Str), ∃ C, PySem.W.nsIn K mainGlobals t = some (some (.ref C)) ∧ IscF K C ∧ PySem.W.kitOne K (.ref C) (.type "ValueError") = some ((["InvalidStep", "InvalidLog", "InvalidSteps", "InvalidSignature", "InvalidPath", "InvalidEvent", "InvalidEvents", "InvalidNumber", "InvalidTable", "InvalidState", "InvalidReceiver", "InvalidPattern", "InvalidEdges", "InvalidGraph", "InvalidShares", "InvalidProgram", "InvalidText", "InvalidEdit", "InvalidCommand"] : List Str).contains t)
  kI_LookupError : ∀ t ∈ (["InvalidStep", "UnknownEvent", "TooLong", "InvalidLog", "InvalidSteps", "InvalidSignature", "InvalidPath", "InvalidEvent", "InvalidEvents", "InvalidNumber", "InvalidTable", "InvalidState", "InvalidReceiver", "InvalidPattern", "InvalidEdges", "InvalidGraph", "InvalidShares", "InvalidProgram", "InvalidText", "InvalidEdit", "InvalidCommand", "EmptyLog", "NoPath", "NotApplicable", "UnknownEffect", "NothingToUndo", "TooManyEvents", "TooManyStates", "TooManyEdits"] : List Str), ∃ C, PySem.W.nsIn K mainGlobals t = some (some (.ref C)) ∧ IscF K C ∧ PySem.W.kitOne K (.ref C) (.type "LookupError") = some ((["UnknownEvent", "EmptyLog", "NoPath", "NotApplicable", "UnknownEffect", "NothingToUndo"] : List Str).contains t)
  kI_ArithmeticError : ∀ t ∈ (["InvalidStep", "UnknownEvent", "TooLong", "InvalidLog", "InvalidSteps", "InvalidSignature", "InvalidPath", "InvalidEvent", "InvalidEvents", "InvalidNumber", "InvalidTable", "InvalidState", "InvalidReceiver", "InvalidPattern", "InvalidEdges", "InvalidGraph", "InvalidShares", "InvalidProgram", "InvalidText", "InvalidEdit", "InvalidCommand", "EmptyLog", "NoPath", "NotApplicable", "UnknownEffect", "NothingToUndo", "TooManyEvents", "TooManyStates", "TooManyEdits"] : List Str), ∃ C, PySem.W.nsIn K mainGlobals t = some (some (.ref C)) ∧ IscF K C ∧ PySem.W.kitOne K (.ref C) (.type "ArithmeticError") = some ((["TooLong", "TooManyEvents", "TooManyStates", "TooManyEdits"] : List Str).contains t)
  z_all : mg "all" = none
  z_range : mg "range" = none
  z_max : mg "max" = none
  z_min : mg "min" = none
  z_len : mg "len" = none
  z_repr : mg "repr" = none
  z_abs : mg "abs" = none
  z_divmod : mg "divmod" = none
  z_isinstance : mg "isinstance" = none
  z_ValueError : mg "ValueError" = none
  z_LookupError : mg "LookupError" = none
  z_ArithmeticError : mg "ArithmeticError" = none
  g_MAX_EVENTS : ∃ u, mg "MAX_EVENTS" = some u ∧ RelV (.int 6) u
  g_MAX_LOG : ∃ u, mg "MAX_LOG" = some u ∧ RelV (.int 400) u
  g_MAX_ON_THE_WAY : ∃ u, mg "MAX_ON_THE_WAY" = some u ∧ RelV (.int 2000) u
  g_MAX_DERIVED : ∃ u, mg "MAX_DERIVED" = some u ∧ RelV (.int 10) u
  g_MAX_STEPS : ∃ u, mg "MAX_STEPS" = some u ∧ RelV (.int 60000) u
  g_MAX_REDUCED : ∃ u, mg "MAX_REDUCED" = some u ∧ RelV (.int 40) u
  g_FEW_EVENTS : ∃ u, mg "FEW_EVENTS" = some u ∧ RelV (.int 3) u
  g_MAX_STATES : ∃ u, mg "MAX_STATES" = some u ∧ RelV (.int 160) u
  g_FEW_STATES : ∃ u, mg "FEW_STATES" = some u ∧ RelV (.int 5) u
  g_MAX_SEPARATING : ∃ u, mg "MAX_SEPARATING" = some u ∧ RelV (.int 16) u
  g_MAX_RECEIVER_EVENTS : ∃ u, mg "MAX_RECEIVER_EVENTS" = some u ∧ RelV (.int 12) u
  g_FEW_RECEIVER_EVENTS : ∃ u, mg "FEW_RECEIVER_EVENTS" = some u ∧ RelV (.int 4) u
  g_MAX_PATTERN : ∃ u, mg "MAX_PATTERN" = some u ∧ RelV (.int 60) u
  g_MAX_MERGED : ∃ u, mg "MAX_MERGED" = some u ∧ RelV (.int 12) u
  g_MAX_TIMES : ∃ u, mg "MAX_TIMES" = some u ∧ RelV (.int 1000000000000000000000000000000) u
  g_MAX_EDITS : ∃ u, mg "MAX_EDITS" = some u ∧ RelV (.int 500) u
variable [Wd]
structure Dn {K : PySem.W.Frag} {mg : Str → Option Value} (c : C0 K mg) (P : Program) (base : Heap) (k : Nat) (Φ : Str → List D → N D) : Prop where
  n_law : FnG P Wd.w K mg base k c.f_law c.fd_law ["_law_script"] (spF K (Φ "law"))
  n__law_limits_right : FnG P Wd.w K mg base k c.f__law_limits_right c.fd__law_limits_right [] (spF K (Φ "_law_limits_right"))
  n__law_cell : FnG P Wd.w K mg base k c.f__law_cell c.fd__law_cell ["_law_script", "_law_k"] (spF K (Φ "_law_cell"))
  n__law_pool : FnG P Wd.w K mg base k c.f__law_pool c.fd__law_pool ["_law_cell_here"] (spF K (Φ "_law_pool"))
  n__law_right : FnG P Wd.w K mg base k c.f__law_right c.fd__law_right ["_law_pool_here"] (spF K (Φ "_law_right"))
  n__law_draw : FnG P Wd.w K mg base k c.f__law_draw c.fd__law_draw ["_law_pool_here", "_law_many"] (spF K (Φ "_law_draw"))
  n__law_first : FnG P Wd.w K mg base k c.f__law_first c.fd__law_first ["_law_thing"] (spF K (Φ "_law_first"))
  n__law_second : FnG P Wd.w K mg base k c.f__law_second c.fd__law_second ["_law_thing"] (spF K (Φ "_law_second"))
  n__law_third : FnG P Wd.w K mg base k c.f__law_third c.fd__law_third ["_law_thing"] (spF K (Φ "_law_third"))
  n__law_caught : FnG P Wd.w K mg base k c.f__law_caught c.fd__law_caught ["_law_thing"] (spF K (Φ "_law_caught"))
  n__law_error : FnG P Wd.w K mg base k c.f__law_error c.fd__law_error ["_law_e"] (spF K (Φ "_law_error"))
  sm : SysD base
  x_InvalidLog : MkXG P Wd.w K mg base k c.C_InvalidLog "index" (Φ "InvalidLog")
  x_InvalidStep : MkXG P Wd.w K mg base k c.C_InvalidStep "step" (Φ "InvalidStep")
  x_InvalidSteps : MkXG P Wd.w K mg base k c.C_InvalidSteps "index" (Φ "InvalidSteps")
  x_InvalidSignature : MkXG P Wd.w K mg base k c.C_InvalidSignature "signature" (Φ "InvalidSignature")
  x_InvalidPath : MkXG P Wd.w K mg base k c.C_InvalidPath "index" (Φ "InvalidPath")
  x_InvalidEvent : MkXG P Wd.w K mg base k c.C_InvalidEvent "event" (Φ "InvalidEvent")
  x_InvalidEvents : MkXG P Wd.w K mg base k c.C_InvalidEvents "index" (Φ "InvalidEvents")
  x_InvalidNumber : MkXG P Wd.w K mg base k c.C_InvalidNumber "number" (Φ "InvalidNumber")
  x_InvalidTable : MkXG P Wd.w K mg base k c.C_InvalidTable "index" (Φ "InvalidTable")
  x_InvalidState : MkXG P Wd.w K mg base k c.C_InvalidState "state" (Φ "InvalidState")
  x_InvalidReceiver : MkXG P Wd.w K mg base k c.C_InvalidReceiver "receiver" (Φ "InvalidReceiver")
  x_InvalidPattern : MkXG P Wd.w K mg base k c.C_InvalidPattern "index" (Φ "InvalidPattern")
  x_InvalidEdges : MkXG P Wd.w K mg base k c.C_InvalidEdges "index" (Φ "InvalidEdges")
  x_InvalidGraph : MkXG P Wd.w K mg base k c.C_InvalidGraph "graph" (Φ "InvalidGraph")
  x_InvalidShares : MkXG P Wd.w K mg base k c.C_InvalidShares "index" (Φ "InvalidShares")
  x_InvalidProgram : MkXG P Wd.w K mg base k c.C_InvalidProgram "index" (Φ "InvalidProgram")
  x_InvalidText : MkXG P Wd.w K mg base k c.C_InvalidText "text" (Φ "InvalidText")
  x_InvalidEdit : MkXG P Wd.w K mg base k c.C_InvalidEdit "index" (Φ "InvalidEdit")
  x_InvalidCommand : MkXG P Wd.w K mg base k c.C_InvalidCommand "line" (Φ "InvalidCommand")
  x_NoPath : MkXG P Wd.w K mg base k c.C_NoPath "index" (Φ "NoPath")
  x_NotApplicable : MkXG P Wd.w K mg base k c.C_NotApplicable "step" (Φ "NotApplicable")
  x_UnknownEvent : MkXG P Wd.w K mg base k c.C_UnknownEvent "event" (Φ "UnknownEvent")
  x_UnknownEffect : MkXG P Wd.w K mg base k c.C_UnknownEffect "effect" (Φ "UnknownEffect")
  x_TooManyEvents : MkXG P Wd.w K mg base k c.C_TooManyEvents "count" (Φ "TooManyEvents")
  x_TooLong : MkXG P Wd.w K mg base k c.C_TooLong "length" (Φ "TooLong")
  x_TooManyStates : MkXG P Wd.w K mg base k c.C_TooManyStates "count" (Φ "TooManyStates")
  x_TooManyEdits : MkXG P Wd.w K mg base k c.C_TooManyEdits "count" (Φ "TooManyEdits")
section
variable {K : PySem.W.Frag} {mg : Str → Option Value} {P : Program} {base : Heap} {k : Nat} {Φ : Str → List D → N D} {W : Nat}
theorem b__law_limits_right (c : C0 K mg) : Binds K c.fd__law_limits_right [] [] := c.F__law_limits_right.binds fun _ _ _ _ _ _ us hl => match us, hl with | [], _ => rfl
theorem b__law_cell (c : C0 K mg) : Binds K c.fd__law_cell ["_law_script", "_law_k"] [] := c.F__law_cell.binds fun _ _ _ _ _ _ us hl => match us, hl with | [_, _], _ => rfl
theorem b__law_pool (c : C0 K mg) : Binds K c.fd__law_pool ["_law_cell_here"] [] := c.F__law_pool.binds fun _ _ _ _ _ _ us hl => match us, hl with | [_], _ => rfl
theorem b__law_right (c : C0 K mg) : Binds K c.fd__law_right ["_law_pool_here"] [] := c.F__law_right.binds fun _ _ _ _ _ _ us hl => match us, hl with | [_], _ => rfl
theorem b__law_draw (c : C0 K mg) : Binds K c.fd__law_draw ["_law_pool_here", "_law_many"] [] := c.F__law_draw.binds fun _ _ _ _ _ _ us hl => match us, hl with | [_, _], _ => rfl
theorem b__law_first (c : C0 K mg) : Binds K c.fd__law_first ["_law_thing"] [] := c.F__law_first.binds fun _ _ _ _ _ _ us hl => match us, hl with | [_], _ => rfl
theorem b__law_second (c : C0 K mg) : Binds K c.fd__law_second ["_law_thing"] [] := c.F__law_second.binds fun _ _ _ _ _ _ us hl => match us, hl with | [_], _ => rfl
theorem b__law_third (c : C0 K mg) : Binds K c.fd__law_third ["_law_thing"] [] := c.F__law_third.binds fun _ _ _ _ _ _ us hl => match us, hl with | [_], _ => rfl
theorem b__law_caught (c : C0 K mg) : Binds K c.fd__law_caught ["_law_thing"] [] := c.F__law_caught.binds fun _ _ _ _ _ _ us hl => match us, hl with | [_], _ => rfl
theorem b__law_error (c : C0 K mg) : Binds K c.fd__law_error ["_law_e"] [] := c.F__law_error.binds fun _ _ _ _ _ _ us hl => match us, hl with | [_], _ => rfl
theorem nd_law : (["_law_script", "_law_k"] : List Str).Nodup := by decide +kernel
theorem sc_law : FnScope ["_law_script", "_law_k"] ["_law_script"] (defScope s_law) := ⟨rfl, rfl, rfl, nd_law, rfl, by decide +kernel, by decide +kernel⟩
theorem body_law (c : C0 K mg) (n : Dn c P base k Φ) {cdv : Value} {A : Around} {outer : List PySem.Env} {s : Shared} {H : Hp} {G : FW} {F : L2.St → FW} (hX : InX P Wd.w K mg base k F (cxE P Wd.w K mg base ["_law_script", "_law_k"] "law" (defScope s_law) c.f_law cdv A outer s H G)) :
    PSs (cxE P Wd.w K mg base ["_law_script", "_law_k"] "law" (defScope s_law) c.f_law cdv A outer s H G) (defBody s_law) (rdSs K F Φ W c_law) :=
  have nd := nd_law
  (ss_cons (s_if (t_not (t_plain (fun _ => rfl) (r_call0 (funX_of n.n__law_limits_right c.m__law_limits_right c.F__law_limits_right.kp hX) (b__law_limits_right c) rfl (by decide)))) (ss_cons (s_ret (r_cst rfl pe_bl)) ss_nil) ss_nil) (ss_cons (s_ret (r_bif (bi := .all) (all_c rfl) rfl c.z_all rfl (by decide) (by decide) rfl rfl (r_cons rfl (r_frz (r_comp (own := [("_law_k", 1)]) rfl nd (i_rng rfl c.z_range rfl (r_bif (bi := .max2) (max2_c rfl) rfl c.z_max rfl (by decide) (by decide) rfl rfl (r_cons rfl (r_cst rfl pe_int) (r_cons rfl (r_bif (bi := .min2) (min2_c rfl) rfl c.z_min rfl (by decide) (by decide) rfl rfl (r_cons rfl (r_bif (bi := .len) len_c rfl c.z_len rfl (by decide) (by decide) rfl rfl (r_cons rfl (r_var (pe_var rfl (by first|exact zO1 rfl|exact zO2 rfl|exact zO3 rfl))) r_nil)) (r_cons rfl (r_cst rfl pe_int) r_nil))) r_nil)))) (blkOk_by rfl) rfl (by decide) (fun _ _ _ _ _ => (g_nm nd rfl (by first|exact zO1 rfl|exact zO4 rfl) (by first|exact zO1 rfl|exact zO4 rfl))) (fun _ _ _ _ _ => f_no) (fun _ _ _ _ _ => (r_call (funX_of n.n__law_right c.m__law_right c.F__law_right.kp (InX.blk hX)) (b__law_right c) rfl rfl (by decide) rfl rfl (r_cons rfl (r_call (funX_of n.n__law_pool c.m__law_pool c.F__law_pool.kp (InX.blk hX)) (b__law_pool c) rfl rfl (by decide) rfl rfl (r_cons rfl (r_call (funX_of n.n__law_cell c.m__law_cell c.F__law_cell.kp (InX.blk hX)) (b__law_cell c) rfl rfl (by decide) rfl rfl (r_cons rfl (r_var (pe_var rfl (by first|exact zO1 rfl|exact zO2 rfl|exact zO3 rfl))) (r_cons rfl (r_var (pe_var rfl (by first|exact zO1 rfl|exact zO2 rfl|exact zO3 rfl))) r_nil))) r_nil)) r_nil))) (fun _ => rfl))) r_nil))) ss_nil))
theorem nd__law_limits_right : (["_law_some", "_law_due"] : List Str).Nodup := by decide +kernel
theorem sc__law_limits_right : FnScope ["_law_some", "_law_due"] [] (defScope s__law_limits_right) := ⟨rfl, rfl, rfl, nd__law_limits_right, rfl, by decide +kernel, by decide +kernel⟩
theorem body__law_limits_right (c : C0 K mg) (n : Dn c P base k Φ) {cdv : Value} {A : Around} {outer : List PySem.Env} {s : Shared} {H : Hp} {G : FW} {F : L2.St → FW} (hX : InX P Wd.w K mg base k F (cxE P Wd.w K mg base ["_law_some", "_law_due"] "_law_limits_right" (defScope s__law_limits_right) c.f__law_limits_right cdv A outer s H G)) :
    PSs (cxE P Wd.w K mg base ["_law_some", "_law_due"] "_law_limits_right" (defScope s__law_limits_right) c.f__law_limits_right cdv A outer s H G) (defBody s__law_limits_right) (rdSs K F Φ W c__law_limits_right) :=
  have nd := nd__law_limits_right
  (ss_cons (s_asg rfl rfl rfl (r_frz (r_lst (r_cons rfl (r_cst rfl (pe_gc rfl c.g_MAX_EVENTS)) (r_cons rfl (r_cst rfl (pe_gc rfl c.g_MAX_LOG)) (r_cons rfl (r_cst rfl (pe_gc rfl c.g_MAX_ON_THE_WAY)) (r_cons rfl (r_cst rfl (pe_gc rfl c.g_MAX_DERIVED)) (r_cons rfl (r_cst rfl (pe_gc rfl c.g_MAX_STEPS)) (r_cons rfl (r_cst rfl (pe_gc rfl c.g_MAX_REDUCED)) (r_cons rfl (r_cst rfl (pe_gc rfl c.g_FEW_EVENTS)) (r_cons rfl (r_cst rfl (pe_gc rfl c.g_MAX_STATES)) r_nil)))))))))) (g_nm nd rfl (by first|exact zO1 rfl|exact zO4 rfl) (by first|exact zO1 rfl|exact zO4 rfl))) (ss_cons (s_asg rfl rfl rfl (r_frz (r_bin (o := .add) (r_var (pe_var rfl (by first|exact zO1 rfl|exact zO2 rfl|exact zO3 rfl))) (r_frz (r_lst (r_cons rfl (r_cst rfl (pe_gc rfl c.g_FEW_STATES)) (r_cons rfl (r_cst rfl (pe_gc rfl c.g_MAX_SEPARATING)) (r_cons rfl (r_cst rfl (pe_gc rfl c.g_MAX_RECEIVER_EVENTS)) (r_cons rfl (r_cst rfl (pe_gc rfl c.g_FEW_RECEIVER_EVENTS)) (r_cons rfl (r_cst rfl (pe_gc rfl c.g_MAX_PATTERN)) (r_cons rfl (r_cst rfl (pe_gc rfl c.g_MAX_MERGED)) r_nil)))))))))) (g_nm nd rfl (by first|exact zO1 rfl|exact zO4 rfl) (by first|exact zO1 rfl|exact zO4 rfl))) (ss_cons (s_asg rfl rfl rfl (r_frz (r_lst (r_cons rfl (r_cst rfl pe_int) (r_cons rfl (r_cst rfl pe_int) (r_cons rfl (r_cst rfl pe_int) (r_cons rfl (r_cst rfl pe_int) (r_cons rfl (r_cst rfl pe_int) (r_cons rfl (r_cst rfl pe_int) (r_cons rfl (r_cst rfl pe_int) (r_cons rfl (r_cst rfl pe_int) (r_cons rfl (r_cst rfl pe_int) (r_cons rfl (r_cst rfl pe_int) (r_cons rfl (r_cst rfl pe_int) (r_cons rfl (r_cst rfl pe_int) (r_cons rfl (r_cst rfl pe_int) (r_cons rfl (r_cst rfl pe_int) (r_cons rfl (r_bin (o := .pow) (r_cst rfl pe_int) (r_cst rfl pe_int)) (r_cons rfl (r_cst rfl pe_int) r_nil)))))))))))))))))) (g_nm nd rfl (by first|exact zO1 rfl|exact zO4 rfl) (by first|exact zO1 rfl|exact zO4 rfl))) (ss_cons (s_ret (r_cmp (o := .eq) hX.u rfl (r_bif (bi := .reprE) (reprE_X hX n.sm) rfl c.z_repr rfl (by decide) (by decide) rfl rfl (r_cons rfl (r_frz (r_bin (o := .add) (r_var (pe_var rfl (by first|exact zO1 rfl|exact zO2 rfl|exact zO3 rfl))) (r_frz (r_lst (r_cons rfl (r_cst rfl (pe_gc rfl c.g_MAX_TIMES)) (r_cons rfl (r_cst rfl (pe_gc rfl c.g_MAX_EDITS)) r_nil)))))) r_nil)) (r_bif (bi := .reprE) (reprE_X hX n.sm) rfl c.z_repr rfl (by decide) (by decide) rfl rfl (r_cons rfl (r_var (pe_var rfl (by first|exact zO1 rfl|exact zO2 rfl|exact zO3 rfl))) r_nil)))) ss_nil))))
theorem nd__law_cell : (["_law_script", "_law_k", "_law_state_here", "_law_cell_here"] : List Str).Nodup := by decide +kernel
theorem sc__law_cell : FnScope ["_law_script", "_law_k", "_law_state_here", "_law_cell_here"] ["_law_script", "_law_k"] (defScope s__law_cell) := ⟨rfl, rfl, rfl, nd__law_cell, rfl, by decide +kernel, by decide +kernel⟩
theorem body__law_cell (c : C0 K mg) (n : Dn c P base k Φ) {cdv : Value} {A : Around} {outer : List PySem.Env} {s : Shared} {H : Hp} {G : FW} {F : L2.St → FW} (hX : InX P Wd.w K mg base k F (cxE P Wd.w K mg base ["_law_script", "_law_k", "_law_state_here", "_law_cell_here"] "_law_cell" (defScope s__law_cell) c.f__law_cell cdv A outer s H G)) :
    PSs (cxE P Wd.w K mg base ["_law_script", "_law_k", "_law_state_here", "_law_cell_here"] "_law_cell" (defScope s__law_cell) c.f__law_cell cdv A outer s H G) (defBody s__law_cell) (rdSs K F Φ W c__law_cell) :=
  have nd := nd__law_cell
  (ss_cons (s_if (t_cmp (o := .lt) hX.u rfl (r_var (pe_var rfl (by first|exact zO1 rfl|exact zO2 rfl|exact zO3 rfl))) (r_bif (bi := .len) len_c rfl c.z_len rfl (by decide) (by decide) rfl rfl (r_cons rfl (r_var (pe_var rfl (by first|exact zO1 rfl|exact zO2 rfl|exact zO3 rfl))) r_nil))) (ss_cons (s_ret (r_idx (fun _ _ => rfl) (r_var (pe_var rfl (by first|exact zO1 rfl|exact zO2 rfl|exact zO3 rfl))) (r_var (pe_var rfl (by first|exact zO1 rfl|exact zO2 rfl|exact zO3 rfl))))) ss_nil) ss_nil) (ss_cons (s_asg rfl rfl rfl (r_bin (o := .mod) (r_bin (o := .mul) (r_cst rfl pe_int) (r_bin (o := .add) (r_bin (o := .add) (r_bin (o := .mul) (r_var (pe_var rfl (by first|exact zO1 rfl|exact zO2 rfl|exact zO3 rfl))) (r_var (pe_var rfl (by first|exact zO1 rfl|exact zO2 rfl|exact zO3 rfl)))) (r_bin (o := .mul) (r_cst rfl pe_int) (r_var (pe_var rfl (by first|exact zO1 rfl|exact zO2 rfl|exact zO3 rfl))))) (r_cst rfl pe_int))) (r_cst rfl pe_int)) (g_nm nd rfl (by first|exact zO1 rfl|exact zO4 rfl) (by first|exact zO1 rfl|exact zO4 rfl))) (ss_cons (s_for ownsE rfl (fun _ => rfl) (i_seq (r_frz (r_slc (r_var (pe_var rfl (by first|exact zO1 rfl|exact zO2 rfl|exact zO3 rfl))) o_no (o_so (r_cst rfl pe_int))))) (g_nm nd rfl (by first|exact zO1 rfl|exact zO4 rfl) (by first|exact zO1 rfl|exact zO4 rfl)) (ss_cons (s_asg rfl rfl rfl (r_bin (o := .mod) (r_bin (o := .add) (r_bin (o := .mul) (r_var (pe_var rfl (by first|exact zO1 rfl|exact zO2 rfl|exact zO3 rfl))) (r_cst rfl pe_int)) (r_var (pe_var rfl (by first|exact zO1 rfl|exact zO2 rfl|exact zO3 rfl)))) (r_cst rfl pe_int)) (g_nm nd rfl (by first|exact zO1 rfl|exact zO4 rfl) (by first|exact zO1 rfl|exact zO4 rfl))) ss_nil)) (ss_cons (s_ret (r_var (pe_var rfl (by first|exact zO1 rfl|exact zO2 rfl|exact zO3 rfl)))) ss_nil))))
theorem nd__law_pool : (["_law_cell_here", "_law_digits"] : List Str).Nodup := by decide +kernel
theorem sc__law_pool : FnScope ["_law_cell_here", "_law_digits"] ["_law_cell_here"] (defScope s__law_pool) := ⟨rfl, rfl, rfl, nd__law_pool, rfl, by decide +kernel, by decide +kernel⟩
theorem body__law_pool (c : C0 K mg) (n : Dn c P base k Φ) {cdv : Value} {A : Around} {outer : List PySem.Env} {s : Shared} {H : Hp} {G : FW} {F : L2.St → FW} (hX : InX P Wd.w K mg base k F (cxE P Wd.w K mg base ["_law_cell_here", "_law_digits"] "_law_pool" (defScope s__law_pool) c.f__law_pool cdv A outer s H G)) :
    PSs (cxE P Wd.w K mg base ["_law_cell_here", "_law_digits"] "_law_pool" (defScope s__law_pool) c.f__law_pool cdv A outer s H G) (defBody s__law_pool) (rdSs K F Φ W c__law_pool) :=
  have nd := nd__law_pool
  (ss_cons (s_asg rfl rfl rfl (r_ite (PW.pt (t_or (t_cmp (o := .lt) hX.u rfl (r_var (pe_var rfl (by first|exact zO1 rfl|exact zO2 rfl|exact zO3 rfl))) (r_cst rfl pe_int)) (t_or1 (t_cmp (o := .ge) hX.u rfl (r_var (pe_var rfl (by first|exact zO1 rfl|exact zO2 rfl|exact zO3 rfl))) (r_bin (o := .pow) (r_cst rfl pe_int) (r_cst rfl pe_int)))))) (r_bif (bi := .abs) abs_c rfl c.z_abs rfl (by decide) (by decide) rfl rfl (r_cons rfl (r_var (pe_var rfl (by first|exact zO1 rfl|exact zO2 rfl|exact zO3 rfl))) r_nil)) (r_cst rfl pe_int)) (g_nm nd rfl (by first|exact zO1 rfl|exact zO4 rfl) (by first|exact zO1 rfl|exact zO4 rfl))) (ss_cons (s_ret (r_lst (r_cons rfl (r_bin (o := .mod) (r_var (pe_var rfl (by first|exact zO1 rfl|exact zO2 rfl|exact zO3 rfl))) (r_cst rfl pe_int)) (r_cons rfl (r_var (pe_var rfl (by first|exact zO1 rfl|exact zO2 rfl|exact zO3 rfl))) (r_cons rfl (r_cst rfl pe_int) r_nil))))) ss_nil))
theorem nd__law_right : (["_law_pool_here", "_law_number_here", "_law_some", "_law_thing", "_law_made", "_law_fields", "_law_part", "_law_pair", "_law_error_here", "_law_k"] : List Str).Nodup := by decide +kernel
theorem sc__law_right : FnScope ["_law_pool_here", "_law_number_here", "_law_some", "_law_thing", "_law_made", "_law_fields", "_law_part", "_law_pair", "_law_error_here", "_law_k"] ["_law_pool_here"] (defScope s__law_right) := ⟨rfl, rfl, rfl, nd__law_right, rfl, by decide +kernel, by decide +kernel⟩
theorem body__law_right (c : C0 K mg) (n : Dn c P base k Φ) {cdv : Value} {A : Around} {outer : List PySem.Env} {s : Shared} {H : Hp} {G : FW} {F : L2.St → FW} (hX : InX P Wd.w K mg base k F (cxE P Wd.w K mg base ["_law_pool_here", "_law_number_here", "_law_some", "_law_thing", "_law_made", "_law_fields", "_law_part", "_law_pair", "_law_error_here", "_law_k"] "_law_right" (defScope s__law_right) c.f__law_right cdv A outer s H G)) :
    PSs (cxE P Wd.w K mg base ["_law_pool_here", "_law_number_here", "_law_some", "_law_thing", "_law_made", "_law_fields", "_law_part", "_law_pair", "_law_error_here", "_law_k"] "_law_right" (defScope s__law_right) c.f__law_right cdv A outer s H G) (defBody s__law_right) (rdSs K F Φ W c__law_right) :=
  have nd := nd__law_right
  (ss_cons (s_asg rfl rfl rfl (r_call (funX_of n.n__law_draw c.m__law_draw c.F__law_draw.kp hX) (b__law_draw c) rfl rfl (by decide) rfl rfl (r_cons rfl (r_var (pe_var rfl (by first|exact zO1 rfl|exact zO2 rfl|exact zO3 rfl))) (r_cons rfl (r_bin (o := .pow) (r_cst rfl pe_int) (r_cst rfl pe_int)) r_nil))) (g_nm nd rfl (by first|exact zO1 rfl|exact zO4 rfl) (by first|exact zO1 rfl|exact zO4 rfl))) (ss_cons (s_asg rfl rfl rfl (r_frz (r_lst (r_cons rfl (r_var (pe_var rfl (by first|exact zO1 rfl|exact zO2 rfl|exact zO3 rfl))) (r_cons rfl (r_cst rfl pe_int) (r_cons rfl (r_cst rfl pe_non) (r_cons rfl (r_cst rfl pe_bl) (r_cons rfl (r_cst rfl pe_str) (r_cons rfl (r_cst rfl pe_str) (r_cons rfl (r_tup r_nil) (r_cons rfl (r_tup (r_cons rfl (r_cst rfl pe_str) (r_cons rfl (r_cst rfl pe_int) (r_cons rfl (r_var (pe_var rfl (by first|exact zO1 rfl|exact zO2 rfl|exact zO3 rfl))) r_nil)))) (r_cons rfl (r_frz (r_lst (r_cons rfl (r_var (pe_var rfl (by first|exact zO1 rfl|exact zO2 rfl|exact zO3 rfl))) r_nil))) (r_cons rfl (r_frz r_dnew) r_nil)))))))))))) (g_nm nd rfl (by first|exact zO1 rfl|exact zO4 rfl) (by first|exact zO1 rfl|exact zO4 rfl))) (ss_cons (s_asg rfl rfl rfl (r_idx (fun _ _ => rfl) (r_var (pe_var rfl (by first|exact zO1 rfl|exact zO2 rfl|exact zO3 rfl))) (r_call (funX_of n.n__law_draw c.m__law_draw c.F__law_draw.kp hX) (b__law_draw c) rfl rfl (by decide) rfl rfl (r_cons rfl (r_var (pe_var rfl (by first|exact zO1 rfl|exact zO2 rfl|exact zO3 rfl))) (r_cons rfl (r_cst rfl pe_int) r_nil)))) (g_nm nd rfl (by first|exact zO1 rfl|exact zO4 rfl) (by first|exact zO1 rfl|exact zO4 rfl))) (ss_cons (s_par rfl nd rfl rfl (by decide) rfl rfl rfl rfl rfl (r_cons rfl (r_frz (r_lst r_nil)) (r_cons rfl (r_frz (r_lst r_nil)) r_nil))) (ss_cons (s_for ownsE rfl (fun _ => rfl) (i_seq (r_frz (r_lst (r_cons rfl (r_call (funX_of n.n__law_first c.m__law_first c.F__law_first.kp hX) (b__law_first c) rfl rfl (by decide) rfl rfl (r_cons rfl (r_var (pe_var rfl (by first|exact zO1 rfl|exact zO2 rfl|exact zO3 rfl))) r_nil)) (r_cons rfl (r_call (funX_of n.n__law_second c.m__law_second c.F__law_second.kp hX) (b__law_second c) rfl rfl (by decide) rfl rfl (r_cons rfl (r_var (pe_var rfl (by first|exact zO1 rfl|exact zO2 rfl|exact zO3 rfl))) r_nil)) (r_cons rfl (r_call (funX_of n.n__law_third c.m__law_third c.F__law_third.kp hX) (b__law_third c) rfl rfl (by decide) rfl rfl (r_cons rfl (r_var (pe_var rfl (by first|exact zO1 rfl|exact zO2 rfl|exact zO3 rfl))) r_nil)) r_nil)))))) (g_nm nd rfl (by first|exact zO1 rfl|exact zO4 rfl) (by first|exact zO1 rfl|exact zO4 rfl)) (ss_cons (s_par rfl nd rfl rfl (by decide) rfl rfl rfl rfl rfl (r_cons rfl (r_frz (r_bin (o := .add) (r_var (pe_var rfl (by first|exact zO1 rfl|exact zO2 rfl|exact zO3 rfl))) (r_idx (fun _ _ => rfl) (r_var (pe_var rfl (by first|exact zO1 rfl|exact zO2 rfl|exact zO3 rfl))) (r_cst rfl pe_int)))) (r_cons rfl (r_frz (r_bin (o := .add) (r_var (pe_var rfl (by first|exact zO1 rfl|exact zO2 rfl|exact zO3 rfl))) (r_idx (fun _ _ => rfl) (r_var (pe_var rfl (by first|exact zO1 rfl|exact zO2 rfl|exact zO3 rfl))) (r_cst rfl pe_int)))) r_nil))) ss_nil)) (ss_cons (s_if (PW.pt (t_or (t_cmp (o := .ne) hX.u rfl (r_bif (bi := .reprE) (reprE_X hX n.sm) rfl c.z_repr rfl (by decide) (by decide) rfl rfl (r_cons rfl (r_var (pe_var rfl (by first|exact zO1 rfl|exact zO2 rfl|exact zO3 rfl))) r_nil)) (r_bif (bi := .reprE) (reprE_X hX n.sm) rfl c.z_repr rfl (by decide) (by decide) rfl rfl (r_cons rfl (r_frz (r_bin (o := .mul) (r_frz (r_lst (r_cons rfl (r_frz (r_lst (r_cons rfl (r_var (pe_var rfl (by first|exact zO1 rfl|exact zO2 rfl|exact zO3 rfl))) (r_cons rfl (r_var (pe_var rfl (by first|exact zO1 rfl|exact zO2 rfl|exact zO3 rfl))) r_nil)))) r_nil))) (r_cst rfl pe_int))) r_nil))) (t_or1 (t_cmp (o := .ne) hX.u rfl (r_bif (bi := .reprE) (reprE_X hX n.sm) rfl c.z_repr rfl (by decide) (by decide) rfl rfl (r_cons rfl (r_call (funX_of n.n__law_caught c.m__law_caught c.F__law_caught.kp hX) (b__law_caught c) rfl rfl (by decide) rfl rfl (r_cons rfl (r_var (pe_var rfl (by first|exact zO1 rfl|exact zO2 rfl|exact zO3 rfl))) r_nil)) r_nil)) (r_bif (bi := .reprE) (reprE_X hX n.sm) rfl c.z_repr rfl (by decide) (by decide) rfl rfl (r_cons rfl (r_frz (r_bin (o := .mul) (r_frz (r_lst (r_cons rfl (r_var (pe_var rfl (by first|exact zO1 rfl|exact zO2 rfl|exact zO3 rfl))) r_nil))) (r_cst rfl pe_int))) r_nil)))))) (ss_cons (s_ret (r_cst rfl pe_bl)) ss_nil) ss_nil) (ss_cons (s_ret (r_cmp (o := .eq) hX.u rfl (r_frz (r_comp (own := [("_law_pair", 7)]) rfl nd (i_seq (r_var (pe_var rfl (by first|exact zO1 rfl|exact zO2 rfl|exact zO3 rfl)))) (blkOk_by rfl) rfl (by decide) (fun _ _ _ _ _ => (g_nm nd rfl (by first|exact zO1 rfl|exact zO4 rfl) (by first|exact zO1 rfl|exact zO4 rfl))) (fun _ _ _ _ _ => f_no) (fun _ _ _ _ _ => (r_frz (r_comp (own := [("_law_error_here", 8)]) rfl nd (i_seq (r_var (pe_var rfl (by first|exact zO1 rfl|exact zO2 rfl|exact zO3 rfl)))) (blkOk_by rfl) rfl (by decide) (fun _ _ _ _ _ => (g_nm nd rfl (by first|exact zO1 rfl|exact zO4 rfl) (by first|exact zO1 rfl|exact zO4 rfl))) (fun _ _ _ _ _ => f_no) (fun _ _ _ _ _ => (r_call (funX_of n.n__law_error c.m__law_error c.F__law_error.kp (InX.blk (InX.blk hX))) (b__law_error c) rfl rfl (by decide) rfl rfl (r_cons rfl (r_var (pe_var rfl (by first|exact zO1 rfl|exact zO2 rfl|exact zO3 rfl))) r_nil))) (fun _ => rfl)))) (fun _ => rfl))) (r_frz (r_comp (own := [("_law_k", 9)]) rfl nd (i_rng rfl c.z_range rfl (r_cst rfl pe_int)) (blkOk_by rfl) rfl (by decide) (fun _ _ _ _ _ => (g_nm nd rfl (by first|exact zO1 rfl|exact zO4 rfl) (by first|exact zO1 rfl|exact zO4 rfl))) (fun _ _ _ _ _ => f_no) (fun _ _ _ _ _ => (r_frz (r_lst (r_cons rfl (r_var (pe_var rfl (by first|exact zO1 rfl|exact zO2 rfl|exact zO3 rfl))) (r_cons rfl (r_var (pe_var rfl (by first|exact zO1 rfl|exact zO2 rfl|exact zO3 rfl))) r_nil))))) (fun _ => rfl))))) ss_nil)))))))
theorem nd__law_draw : (["_law_pool_here", "_law_many", "_law_mixed", "_law_digit"] : List Str).Nodup := by decide +kernel
theorem sc__law_draw : FnScope ["_law_pool_here", "_law_many", "_law_mixed", "_law_digit"] ["_law_pool_here", "_law_many"] (defScope s__law_draw) := ⟨rfl, rfl, rfl, nd__law_draw, rfl, by decide +kernel, by decide +kernel⟩
theorem body__law_draw (c : C0 K mg) (n : Dn c P base k Φ) {cdv : Value} {A : Around} {outer : List PySem.Env} {s : Shared} {H : Hp} {G : FW} {F : L2.St → FW} (hX : InX P Wd.w K mg base k F (cxE P Wd.w K mg base ["_law_pool_here", "_law_many", "_law_mixed", "_law_digit"] "_law_draw" (defScope s__law_draw) c.f__law_draw cdv A outer s H G)) :
    PSs (cxE P Wd.w K mg base ["_law_pool_here", "_law_many", "_law_mixed", "_law_digit"] "_law_draw" (defScope s__law_draw) c.f__law_draw cdv A outer s H G) (defBody s__law_draw) (rdSs K F Φ W c__law_draw) :=
  have nd := nd__law_draw
  (ss_cons (s_asg rfl rfl rfl (r_bin (o := .add) (r_idx (fun _ _ => rfl) (r_var (pe_var rfl (by first|exact zO1 rfl|exact zO2 rfl|exact zO3 rfl))) (r_cst rfl pe_int)) (r_cst rfl pe_int)) (g_sub (fun _ => rfl) (r_var (pe_var rfl (by first|exact zO1 rfl|exact zO2 rfl|exact zO3 rfl))) (r_cst rfl pe_int))) (ss_cons (s_asg rfl rfl rfl (r_idx (fun _ _ => rfl) (r_var (pe_var rfl (by first|exact zO1 rfl|exact zO2 rfl|exact zO3 rfl))) (r_cst rfl pe_int)) (g_nm nd rfl (by first|exact zO1 rfl|exact zO4 rfl) (by first|exact zO1 rfl|exact zO4 rfl))) (ss_cons (s_asg rfl rfl rfl (r_bin (o := .mod) (r_bin (o := .add) (r_bin (o := .add) (r_bin (o := .mul) (r_var (pe_var rfl (by first|exact zO1 rfl|exact zO2 rfl|exact zO3 rfl))) (r_bin (o := .add) (r_bin (o := .mod) (r_var (pe_var rfl (by first|exact zO1 rfl|exact zO2 rfl|exact zO3 rfl))) (r_cst rfl pe_int)) (r_cst rfl pe_int))) (r_bin (o := .mul) (r_cst rfl pe_int) (r_idx (fun _ _ => rfl) (r_var (pe_var rfl (by first|exact zO1 rfl|exact zO2 rfl|exact zO3 rfl))) (r_cst rfl pe_int)))) (r_cst rfl pe_int)) (r_cst rfl pe_int)) (g_sub (fun _ => rfl) (r_var (pe_var rfl (by first|exact zO1 rfl|exact zO2 rfl|exact zO3 rfl))) (r_cst rfl pe_int))) (ss_cons (s_if (t_cmp (o := .gt) hX.u rfl (r_idx (fun _ _ => rfl) (r_var (pe_var rfl (by first|exact zO1 rfl|exact zO2 rfl|exact zO3 rfl))) (r_cst rfl pe_int)) (r_cst rfl pe_int)) (ss_cons (s_asg rfl rfl rfl (r_bif (bi := .divmod) divmod_c rfl c.z_divmod rfl (by decide) (by decide) rfl rfl (r_cons rfl (r_idx (fun _ _ => rfl) (r_var (pe_var rfl (by first|exact zO1 rfl|exact zO2 rfl|exact zO3 rfl))) (r_cst rfl pe_int)) (r_cons rfl (r_var (pe_var rfl (by first|exact zO1 rfl|exact zO2 rfl|exact zO3 rfl))) r_nil))) (g_tp rfl rfl rfl (gs_cons rfl (g_sub (fun _ => rfl) (r_var (pe_var rfl (by first|exact zO1 rfl|exact zO2 rfl|exact zO3 rfl))) (r_cst rfl pe_int)) (gs_cons rfl (g_nm nd rfl (by first|exact zO1 rfl|exact zO4 rfl) (by first|exact zO1 rfl|exact zO4 rfl)) gs_nil)))) (ss_cons (s_ret (r_var (pe_var rfl (by first|exact zO1 rfl|exact zO2 rfl|exact zO3 rfl)))) ss_nil)) ss_nil) (ss_cons (s_ret (r_bin (o := .mod) (r_bin (o := .fdiv) (r_idx (fun _ _ => rfl) (r_var (pe_var rfl (by first|exact zO1 rfl|exact zO2 rfl|exact zO3 rfl))) (r_cst rfl pe_int)) (r_cst rfl pe_int)) (r_var (pe_var rfl (by first|exact zO1 rfl|exact zO2 rfl|exact zO3 rfl))))) ss_nil)))))
theorem nd__law_first : (["_law_thing", "_law_made", "_law_fields", "_law_pair", "_law_error_here"] : List Str).Nodup := by decide +kernel
theorem sc__law_first : FnScope ["_law_thing", "_law_made", "_law_fields", "_law_pair", "_law_error_here"] ["_law_thing"] (defScope s__law_first) := ⟨rfl, rfl, rfl, nd__law_first, rfl, by decide +kernel, by decide +kernel⟩
theorem body__law_first (c : C0 K mg) (n : Dn c P base k Φ) {cdv : Value} {A : Around} {outer : List PySem.Env} {s : Shared} {H : Hp} {G : FW} {F : L2.St → FW} (hX : InX P Wd.w K mg base k F (cxE P Wd.w K mg base ["_law_thing", "_law_made", "_law_fields", "_law_pair", "_law_error_here"] "_law_first" (defScope s__law_first) c.f__law_first cdv A outer s H G)) :
    PSs (cxE P Wd.w K mg base ["_law_thing", "_law_made", "_law_fields", "_law_pair", "_law_error_here"] "_law_first" (defScope s__law_first) c.f__law_first cdv A outer s H G) (defBody s__law_first) (rdSs K F Φ W c__law_first) :=
  have nd := nd__law_first
  (ss_cons (s_asg rfl rfl rfl (r_lst (r_cons rfl (r_frz (r_lst (r_cons rfl (r_mkx hX n.x_InvalidLog c.T_InvalidLog.gC c.T_InvalidLog.kC rfl (by decide) rfl rfl (r_cons rfl (r_var (pe_var rfl (by first|exact zO1 rfl|exact zO2 rfl|exact zO3 rfl))) r_nil)) (r_cons rfl (r_mkxk hX n.x_InvalidLog c.T_InvalidLog.gC c.T_InvalidLog.kC rfl (by decide) rfl rfl rfl (k_cons (r_var (pe_var rfl (by first|exact zO1 rfl|exact zO2 rfl|exact zO3 rfl))) k_nil)) r_nil)))) r_nil)) (g_nm nd rfl (by first|exact zO1 rfl|exact zO4 rfl) (by first|exact zO1 rfl|exact zO4 rfl))) (ss_cons (s_expr (r_mth append_x rfl rfl rfl rfl rfl (r_var (pe_var rfl (by first|exact zO1 rfl|exact zO2 rfl|exact zO3 rfl))) (r_cons rfl (r_frz (r_lst (r_cons rfl (r_mkx hX n.x_InvalidStep c.T_InvalidStep.gC c.T_InvalidStep.kC rfl (by decide) rfl rfl (r_cons rfl (r_var (pe_var rfl (by first|exact zO1 rfl|exact zO2 rfl|exact zO3 rfl))) r_nil)) (r_cons rfl (r_mkxk hX n.x_InvalidStep c.T_InvalidStep.gC c.T_InvalidStep.kC rfl (by decide) rfl rfl rfl (k_cons (r_var (pe_var rfl (by first|exact zO1 rfl|exact zO2 rfl|exact zO3 rfl))) k_nil)) r_nil)))) r_nil)) rfl) (ss_cons (s_expr (r_mth append_x rfl rfl rfl rfl rfl (r_var (pe_var rfl (by first|exact zO1 rfl|exact zO2 rfl|exact zO3 rfl))) (r_cons rfl (r_frz (r_lst (r_cons rfl (r_mkx hX n.x_InvalidSteps c.T_InvalidSteps.gC c.T_InvalidSteps.kC rfl (by decide) rfl rfl (r_cons rfl (r_var (pe_var rfl (by first|exact zO1 rfl|exact zO2 rfl|exact zO3 rfl))) r_nil)) (r_cons rfl (r_mkxk hX n.x_InvalidSteps c.T_InvalidSteps.gC c.T_InvalidSteps.kC rfl (by decide) rfl rfl rfl (k_cons (r_var (pe_var rfl (by first|exact zO1 rfl|exact zO2 rfl|exact zO3 rfl))) k_nil)) r_nil)))) r_nil)) rfl) (ss_cons (s_expr (r_mth append_x rfl rfl rfl rfl rfl (r_var (pe_var rfl (by first|exact zO1 rfl|exact zO2 rfl|exact zO3 rfl))) (r_cons rfl (r_frz (r_lst (r_cons rfl (r_mkx hX n.x_InvalidSignature c.T_InvalidSignature.gC c.T_InvalidSignature.kC rfl (by decide) rfl rfl (r_cons rfl (r_var (pe_var rfl (by first|exact zO1 rfl|exact zO2 rfl|exact zO3 rfl))) r_nil)) (r_cons rfl (r_mkxk hX n.x_InvalidSignature c.T_InvalidSignature.gC c.T_InvalidSignature.kC rfl (by decide) rfl rfl rfl (k_cons (r_var (pe_var rfl (by first|exact zO1 rfl|exact zO2 rfl|exact zO3 rfl))) k_nil)) r_nil)))) r_nil)) rfl) (ss_cons (s_expr (r_mth append_x rfl rfl rfl rfl rfl (r_var (pe_var rfl (by first|exact zO1 rfl|exact zO2 rfl|exact zO3 rfl))) (r_cons rfl (r_frz (r_lst (r_cons rfl (r_mkx hX n.x_InvalidPath c.T_InvalidPath.gC c.T_InvalidPath.kC rfl (by decide) rfl rfl (r_cons rfl (r_var (pe_var rfl (by first|exact zO1 rfl|exact zO2 rfl|exact zO3 rfl))) r_nil)) (r_cons rfl (r_mkxk hX n.x_InvalidPath c.T_InvalidPath.gC c.T_InvalidPath.kC rfl (by decide) rfl rfl rfl (k_cons (r_var (pe_var rfl (by first|exact zO1 rfl|exact zO2 rfl|exact zO3 rfl))) k_nil)) r_nil)))) r_nil)) rfl) (ss_cons (s_expr (r_mth append_x rfl rfl rfl rfl rfl (r_var (pe_var rfl (by first|exact zO1 rfl|exact zO2 rfl|exact zO3 rfl))) (r_cons rfl (r_frz (r_lst (r_cons rfl (r_mkx hX n.x_InvalidEvent c.T_InvalidEvent.gC c.T_InvalidEvent.kC rfl (by decide) rfl rfl (r_cons rfl (r_var (pe_var rfl (by first|exact zO1 rfl|exact zO2 rfl|exact zO3 rfl))) r_nil)) (r_cons rfl (r_mkxk hX n.x_InvalidEvent c.T_InvalidEvent.gC c.T_InvalidEvent.kC rfl (by decide) rfl rfl rfl (k_cons (r_var (pe_var rfl (by first|exact zO1 rfl|exact zO2 rfl|exact zO3 rfl))) k_nil)) r_nil)))) r_nil)) rfl) (ss_cons (s_expr (r_mth append_x rfl rfl rfl rfl rfl (r_var (pe_var rfl (by first|exact zO1 rfl|exact zO2 rfl|exact zO3 rfl))) (r_cons rfl (r_frz (r_lst (r_cons rfl (r_mkx hX n.x_InvalidEvents c.T_InvalidEvents.gC c.T_InvalidEvents.kC rfl (by decide) rfl rfl (r_cons rfl (r_var (pe_var rfl (by first|exact zO1 rfl|exact zO2 rfl|exact zO3 rfl))) r_nil)) (r_cons rfl (r_mkxk hX n.x_InvalidEvents c.T_InvalidEvents.gC c.T_InvalidEvents.kC rfl (by decide) rfl rfl rfl (k_cons (r_var (pe_var rfl (by first|exact zO1 rfl|exact zO2 rfl|exact zO3 rfl))) k_nil)) r_nil)))) r_nil)) rfl) (ss_cons (s_expr (r_mth append_x rfl rfl rfl rfl rfl (r_var (pe_var rfl (by first|exact zO1 rfl|exact zO2 rfl|exact zO3 rfl))) (r_cons rfl (r_frz (r_lst (r_cons rfl (r_mkx hX n.x_InvalidNumber c.T_InvalidNumber.gC c.T_InvalidNumber.kC rfl (by decide) rfl rfl (r_cons rfl (r_var (pe_var rfl (by first|exact zO1 rfl|exact zO2 rfl|exact zO3 rfl))) r_nil)) (r_cons rfl (r_mkxk hX n.x_InvalidNumber c.T_InvalidNumber.gC c.T_InvalidNumber.kC rfl (by decide) rfl rfl rfl (k_cons (r_var (pe_var rfl (by first|exact zO1 rfl|exact zO2 rfl|exact zO3 rfl))) k_nil)) r_nil)))) r_nil)) rfl) (ss_cons (s_expr (r_mth append_x rfl rfl rfl rfl rfl (r_var (pe_var rfl (by first|exact zO1 rfl|exact zO2 rfl|exact zO3 rfl))) (r_cons rfl (r_frz (r_lst (r_cons rfl (r_mkx hX n.x_InvalidTable c.T_InvalidTable.gC c.T_InvalidTable.kC rfl (by decide) rfl rfl (r_cons rfl (r_var (pe_var rfl (by first|exact zO1 rfl|exact zO2 rfl|exact zO3 rfl))) r_nil)) (r_cons rfl (r_mkxk hX n.x_InvalidTable c.T_InvalidTable.gC c.T_InvalidTable.kC rfl (by decide) rfl rfl rfl (k_cons (r_var (pe_var rfl (by first|exact zO1 rfl|exact zO2 rfl|exact zO3 rfl))) k_nil)) r_nil)))) r_nil)) rfl) (ss_cons (s_expr (r_mth append_x rfl rfl rfl rfl rfl (r_var (pe_var rfl (by first|exact zO1 rfl|exact zO2 rfl|exact zO3 rfl))) (r_cons rfl (r_frz (r_lst (r_cons rfl (r_mkx hX n.x_InvalidState c.T_InvalidState.gC c.T_InvalidState.kC rfl (by decide) rfl rfl (r_cons rfl (r_var (pe_var rfl (by first|exact zO1 rfl|exact zO2 rfl|exact zO3 rfl))) r_nil)) (r_cons rfl (r_mkxk hX n.x_InvalidState c.T_InvalidState.gC c.T_InvalidState.kC rfl (by decide) rfl rfl rfl (k_cons (r_var (pe_var rfl (by first|exact zO1 rfl|exact zO2 rfl|exact zO3 rfl))) k_nil)) r_nil)))) r_nil)) rfl) (ss_cons (s_asg rfl rfl rfl (r_lst r_nil) (g_nm nd rfl (by first|exact zO1 rfl|exact zO4 rfl) (by first|exact zO1 rfl|exact zO4 rfl))) (ss_cons (s_for ownsE rfl (fun _ => rfl) (i_seq (r_frz (r_bin (o := .add) (r_frz (r_bin (o := .add) (r_frz (r_bin (o := .add) (r_frz (r_bin (o := .add) (r_frz (r_slc (r_var (pe_var rfl (by first|exact zO1 rfl|exact zO2 rfl|exact zO3 rfl))) o_no (o_so (r_cst rfl pe_int)))) (r_frz (r_slc (r_var (pe_var rfl (by first|exact zO1 rfl|exact zO2 rfl|exact zO3 rfl))) (o_so (r_cst rfl pe_int)) (o_so (r_cst rfl pe_int)))))) (r_frz (r_slc (r_var (pe_var rfl (by first|exact zO1 rfl|exact zO2 rfl|exact zO3 rfl))) (o_so (r_cst rfl pe_int)) (o_so (r_cst rfl pe_int)))))) (r_frz (r_slc (r_var (pe_var rfl (by first|exact zO1 rfl|exact zO2 rfl|exact zO3 rfl))) (o_so (r_cst rfl pe_int)) (o_so (r_cst rfl pe_int)))))) (r_frz (r_slc (r_var (pe_var rfl (by first|exact zO1 rfl|exact zO2 rfl|exact zO3 rfl))) (o_so (r_cst rfl pe_int)) (o_so (r_cst rfl pe_int))))))) (g_nm nd rfl (by first|exact zO1 rfl|exact zO4 rfl) (by first|exact zO1 rfl|exact zO4 rfl)) (ss_cons (s_expr (r_mth append_x rfl rfl rfl rfl rfl (r_var (pe_var rfl (by first|exact zO1 rfl|exact zO2 rfl|exact zO3 rfl))) (r_cons rfl (r_frz (r_comp (own := [("_law_error_here", 4)]) rfl nd (i_seq (r_var (pe_var rfl (by first|exact zO1 rfl|exact zO2 rfl|exact zO3 rfl)))) (blkOk_by rfl) rfl (by decide) (fun _ _ _ _ _ => (g_nm nd rfl (by first|exact zO1 rfl|exact zO4 rfl) (by first|exact zO1 rfl|exact zO4 rfl))) (fun _ _ _ _ _ => f_no) (fun _ _ _ _ _ => (r_attr (by decide +kernel) (by intro t ht; simp only [List.mem_cons, List.not_mem_nil, or_false] at ht; rcases ht with rfl | rfl | rfl | rfl | rfl | rfl | rfl | rfl | rfl | rfl | rfl; (· exact ⟨_, c.T_InvalidLog.ns, c.T_InvalidLog.atF⟩); (· exact ⟨_, c.T_InvalidSteps.ns, c.T_InvalidSteps.atF⟩); (· exact ⟨_, c.T_InvalidPath.ns, c.T_InvalidPath.atF⟩); (· exact ⟨_, c.T_InvalidEvents.ns, c.T_InvalidEvents.atF⟩); (· exact ⟨_, c.T_InvalidTable.ns, c.T_InvalidTable.atF⟩); (· exact ⟨_, c.T_InvalidPattern.ns, c.T_InvalidPattern.atF⟩); (· exact ⟨_, c.T_InvalidEdges.ns, c.T_InvalidEdges.atF⟩); (· exact ⟨_, c.T_InvalidShares.ns, c.T_InvalidShares.atF⟩); (· exact ⟨_, c.T_InvalidProgram.ns, c.T_InvalidProgram.atF⟩); (· exact ⟨_, c.T_InvalidEdit.ns, c.T_InvalidEdit.atF⟩); (· exact ⟨_, c.T_NoPath.ns, c.T_NoPath.atF⟩)) rfl (r_var (pe_var rfl (by first|exact zO1 rfl|exact zO2 rfl|exact zO3 rfl))))) (fun _ => rfl))) r_nil)) rfl) ss_nil)) (ss_cons (s_expr (r_mth append_x rfl rfl rfl rfl rfl (r_var (pe_var rfl (by first|exact zO1 rfl|exact zO2 rfl|exact zO3 rfl))) (r_cons rfl (r_frz (r_comp (own := [("_law_error_here", 4)]) rfl nd (i_seq (r_idx (fun _ _ => rfl) (r_var (pe_var rfl (by first|exact zO1 rfl|exact zO2 rfl|exact zO3 rfl))) (r_cst rfl pe_int))) (blkOk_by rfl) rfl (by decide) (fun _ _ _ _ _ => (g_nm nd rfl (by first|exact zO1 rfl|exact zO4 rfl) (by first|exact zO1 rfl|exact zO4 rfl))) (fun _ _ _ _ _ => f_no) (fun _ _ _ _ _ => (r_attr (by decide +kernel) (by intro t ht; simp only [List.mem_cons, List.not_mem_nil, or_false] at ht; rcases ht with rfl | rfl; (· exact ⟨_, c.T_InvalidStep.ns, c.T_InvalidStep.atF⟩); (· exact ⟨_, c.T_NotApplicable.ns, c.T_NotApplicable.atF⟩)) rfl (r_var (pe_var rfl (by first|exact zO1 rfl|exact zO2 rfl|exact zO3 rfl))))) (fun _ => rfl))) r_nil)) rfl) (ss_cons (s_expr (r_mth append_x rfl rfl rfl rfl rfl (r_var (pe_var rfl (by first|exact zO1 rfl|exact zO2 rfl|exact zO3 rfl))) (r_cons rfl (r_frz (r_comp (own := [("_law_error_here", 4)]) rfl nd (i_seq (r_idx (fun _ _ => rfl) (r_var (pe_var rfl (by first|exact zO1 rfl|exact zO2 rfl|exact zO3 rfl))) (r_cst rfl pe_int))) (blkOk_by rfl) rfl (by decide) (fun _ _ _ _ _ => (g_nm nd rfl (by first|exact zO1 rfl|exact zO4 rfl) (by first|exact zO1 rfl|exact zO4 rfl))) (fun _ _ _ _ _ => f_no) (fun _ _ _ _ _ => (r_attr (by decide +kernel) (by intro t ht; simp only [List.mem_cons, List.not_mem_nil, or_false] at ht; rcases ht with rfl; (· exact ⟨_, c.T_InvalidSignature.ns, c.T_InvalidSignature.atF⟩)) rfl (r_var (pe_var rfl (by first|exact zO1 rfl|exact zO2 rfl|exact zO3 rfl))))) (fun _ => rfl))) r_nil)) rfl) (ss_cons (s_expr (r_mth append_x rfl rfl rfl rfl rfl (r_var (pe_var rfl (by first|exact zO1 rfl|exact zO2 rfl|exact zO3 rfl))) (r_cons rfl (r_frz (r_comp (own := [("_law_error_here", 4)]) rfl nd (i_seq (r_idx (fun _ _ => rfl) (r_var (pe_var rfl (by first|exact zO1 rfl|exact zO2 rfl|exact zO3 rfl))) (r_cst rfl pe_int))) (blkOk_by rfl) rfl (by decide) (fun _ _ _ _ _ => (g_nm nd rfl (by first|exact zO1 rfl|exact zO4 rfl) (by first|exact zO1 rfl|exact zO4 rfl))) (fun _ _ _ _ _ => f_no) (fun _ _ _ _ _ => (r_attr (by decide +kernel) (by intro t ht; simp only [List.mem_cons, List.not_mem_nil, or_false] at ht; rcases ht with rfl | rfl; (· exact ⟨_, c.T_UnknownEvent.ns, c.T_UnknownEvent.atF⟩); (· exact ⟨_, c.T_InvalidEvent.ns, c.T_InvalidEvent.atF⟩)) rfl (r_var (pe_var rfl (by first|exact zO1 rfl|exact zO2 rfl|exact zO3 rfl))))) (fun _ => rfl))) r_nil)) rfl) (ss_cons (s_expr (r_mth append_x rfl rfl rfl rfl rfl (r_var (pe_var rfl (by first|exact zO1 rfl|exact zO2 rfl|exact zO3 rfl))) (r_cons rfl (r_frz (r_comp (own := [("_law_error_here", 4)]) rfl nd (i_seq (r_idx (fun _ _ => rfl) (r_var (pe_var rfl (by first|exact zO1 rfl|exact zO2 rfl|exact zO3 rfl))) (r_cst rfl pe_int))) (blkOk_by rfl) rfl (by decide) (fun _ _ _ _ _ => (g_nm nd rfl (by first|exact zO1 rfl|exact zO4 rfl) (by first|exact zO1 rfl|exact zO4 rfl))) (fun _ _ _ _ _ => f_no) (fun _ _ _ _ _ => (r_attr (by decide +kernel) (by intro t ht; simp only [List.mem_cons, List.not_mem_nil, or_false] at ht; rcases ht with rfl; (· exact ⟨_, c.T_InvalidNumber.ns, c.T_InvalidNumber.atF⟩)) rfl (r_var (pe_var rfl (by first|exact zO1 rfl|exact zO2 rfl|exact zO3 rfl))))) (fun _ => rfl))) r_nil)) rfl) (ss_cons (s_expr (r_mth append_x rfl rfl rfl rfl rfl (r_var (pe_var rfl (by first|exact zO1 rfl|exact zO2 rfl|exact zO3 rfl))) (r_cons rfl (r_frz (r_comp (own := [("_law_error_here", 4)]) rfl nd (i_seq (r_idx (fun _ _ => rfl) (r_var (pe_var rfl (by first|exact zO1 rfl|exact zO2 rfl|exact zO3 rfl))) (r_cst rfl pe_int))) (blkOk_by rfl) rfl (by decide) (fun _ _ _ _ _ => (g_nm nd rfl (by first|exact zO1 rfl|exact zO4 rfl) (by first|exact zO1 rfl|exact zO4 rfl))) (fun _ _ _ _ _ => f_no) (fun _ _ _ _ _ => (r_attr (by decide +kernel) (by intro t ht; simp only [List.mem_cons, List.not_mem_nil, or_false] at ht; rcases ht with rfl; (· exact ⟨_, c.T_InvalidState.ns, c.T_InvalidState.atF⟩)) rfl (r_var (pe_var rfl (by first|exact zO1 rfl|exact zO2 rfl|exact zO3 rfl))))) (fun _ => rfl))) r_nil)) rfl) (ss_cons (s_ret (r_frz (r_lst (r_cons rfl (r_var (pe_var rfl (by first|exact zO1 rfl|exact zO2 rfl|exact zO3 rfl))) (r_cons rfl (r_var (pe_var rfl (by first|exact zO1 rfl|exact zO2 rfl|exact zO3 rfl))) r_nil))))) ss_nil))))))))))))))))))
theorem nd__law_second : (["_law_thing", "_law_made", "_law_fields", "_law_pair", "_law_error_here"] : List Str).Nodup := by decide +kernel
theorem sc__law_second : FnScope ["_law_thing", "_law_made", "_law_fields", "_law_pair", "_law_error_here"] ["_law_thing"] (defScope s__law_second) := ⟨rfl, rfl, rfl, nd__law_second, rfl, by decide +kernel, by decide +kernel⟩
theorem body__law_second (c : C0 K mg) (n : Dn c P base k Φ) {cdv : Value} {A : Around} {outer : List PySem.Env} {s : Shared} {H : Hp} {G : FW} {F : L2.St → FW} (hX : InX P Wd.w K mg base k F (cxE P Wd.w K mg base ["_law_thing", "_law_made", "_law_fields", "_law_pair", "_law_error_here"] "_law_second" (defScope s__law_second) c.f__law_second cdv A outer s H G)) :
    PSs (cxE P Wd.w K mg base ["_law_thing", "_law_made", "_law_fields", "_law_pair", "_law_error_here"] "_law_second" (defScope s__law_second) c.f__law_second cdv A outer s H G) (defBody s__law_second) (rdSs K F Φ W c__law_second) :=
  have nd := nd__law_second
  (ss_cons (s_asg rfl rfl rfl (r_lst (r_cons rfl (r_frz (r_lst (r_cons rfl (r_mkx hX n.x_InvalidReceiver c.T_InvalidReceiver.gC c.T_InvalidReceiver.kC rfl (by decide) rfl rfl (r_cons rfl (r_var (pe_var rfl (by first|exact zO1 rfl|exact zO2 rfl|exact zO3 rfl))) r_nil)) (r_cons rfl (r_mkxk hX n.x_InvalidReceiver c.T_InvalidReceiver.gC c.T_InvalidReceiver.kC rfl (by decide) rfl rfl rfl (k_cons (r_var (pe_var rfl (by first|exact zO1 rfl|exact zO2 rfl|exact zO3 rfl))) k_nil)) r_nil)))) r_nil)) (g_nm nd rfl (by first|exact zO1 rfl|exact zO4 rfl) (by first|exact zO1 rfl|exact zO4 rfl))) (ss_cons (s_expr (r_mth append_x rfl rfl rfl rfl rfl (r_var (pe_var rfl (by first|exact zO1 rfl|exact zO2 rfl|exact zO3 rfl))) (r_cons rfl (r_frz (r_lst (r_cons rfl (r_mkx hX n.x_InvalidPattern c.T_InvalidPattern.gC c.T_InvalidPattern.kC rfl (by decide) rfl rfl (r_cons rfl (r_var (pe_var rfl (by first|exact zO1 rfl|exact zO2 rfl|exact zO3 rfl))) r_nil)) (r_cons rfl (r_mkxk hX n.x_InvalidPattern c.T_InvalidPattern.gC c.T_InvalidPattern.kC rfl (by decide) rfl rfl rfl (k_cons (r_var (pe_var rfl (by first|exact zO1 rfl|exact zO2 rfl|exact zO3 rfl))) k_nil)) r_nil)))) r_nil)) rfl) (ss_cons (s_expr (r_mth append_x rfl rfl rfl rfl rfl (r_var (pe_var rfl (by first|exact zO1 rfl|exact zO2 rfl|exact zO3 rfl))) (r_cons rfl (r_frz (r_lst (r_cons rfl (r_mkx hX n.x_InvalidEdges c.T_InvalidEdges.gC c.T_InvalidEdges.kC rfl (by decide) rfl rfl (r_cons rfl (r_var (pe_var rfl (by first|exact zO1 rfl|exact zO2 rfl|exact zO3 rfl))) r_nil)) (r_cons rfl (r_mkxk hX n.x_InvalidEdges c.T_InvalidEdges.gC c.T_InvalidEdges.kC rfl (by decide) rfl rfl rfl (k_cons (r_var (pe_var rfl (by first|exact zO1 rfl|exact zO2 rfl|exact zO3 rfl))) k_nil)) r_nil)))) r_nil)) rfl) (ss_cons (s_expr (r_mth append_x rfl rfl rfl rfl rfl (r_var (pe_var rfl (by first|exact zO1 rfl|exact zO2 rfl|exact zO3 rfl))) (r_cons rfl (r_frz (r_lst (r_cons rfl (r_mkx hX n.x_InvalidGraph c.T_InvalidGraph.gC c.T_InvalidGraph.kC rfl (by decide) rfl rfl (r_cons rfl (r_var (pe_var rfl (by first|exact zO1 rfl|exact zO2 rfl|exact zO3 rfl))) r_nil)) (r_cons rfl (r_mkxk hX n.x_InvalidGraph c.T_InvalidGraph.gC c.T_InvalidGraph.kC rfl (by decide) rfl rfl rfl (k_cons (r_var (pe_var rfl (by first|exact zO1 rfl|exact zO2 rfl|exact zO3 rfl))) k_nil)) r_nil)))) r_nil)) rfl) (ss_cons (s_expr (r_mth append_x rfl rfl rfl rfl rfl (r_var (pe_var rfl (by first|exact zO1 rfl|exact zO2 rfl|exact zO3 rfl))) (r_cons rfl (r_frz (r_lst (r_cons rfl (r_mkx hX n.x_InvalidShares c.T_InvalidShares.gC c.T_InvalidShares.kC rfl (by decide) rfl rfl (r_cons rfl (r_var (pe_var rfl (by first|exact zO1 rfl|exact zO2 rfl|exact zO3 rfl))) r_nil)) (r_cons rfl (r_mkxk hX n.x_InvalidShares c.T_InvalidShares.gC c.T_InvalidShares.kC rfl (by decide) rfl rfl rfl (k_cons (r_var (pe_var rfl (by first|exact zO1 rfl|exact zO2 rfl|exact zO3 rfl))) k_nil)) r_nil)))) r_nil)) rfl) (ss_cons (s_expr (r_mth append_x rfl rfl rfl rfl rfl (r_var (pe_var rfl (by first|exact zO1 rfl|exact zO2 rfl|exact zO3 rfl))) (r_cons rfl (r_frz (r_lst (r_cons rfl (r_mkx hX n.x_InvalidProgram c.T_InvalidProgram.gC c.T_InvalidProgram.kC rfl (by decide) rfl rfl (r_cons rfl (r_var (pe_var rfl (by first|exact zO1 rfl|exact zO2 rfl|exact zO3 rfl))) r_nil)) (r_cons rfl (r_mkxk hX n.x_InvalidProgram c.T_InvalidProgram.gC c.T_InvalidProgram.kC rfl (by decide) rfl rfl rfl (k_cons (r_var (pe_var rfl (by first|exact zO1 rfl|exact zO2 rfl|exact zO3 rfl))) k_nil)) r_nil)))) r_nil)) rfl) (ss_cons (s_expr (r_mth append_x rfl rfl rfl rfl rfl (r_var (pe_var rfl (by first|exact zO1 rfl|exact zO2 rfl|exact zO3 rfl))) (r_cons rfl (r_frz (r_lst (r_cons rfl (r_mkx hX n.x_InvalidText c.T_InvalidText.gC c.T_InvalidText.kC rfl (by decide) rfl rfl (r_cons rfl (r_var (pe_var rfl (by first|exact zO1 rfl|exact zO2 rfl|exact zO3 rfl))) r_nil)) (r_cons rfl (r_mkxk hX n.x_InvalidText c.T_InvalidText.gC c.T_InvalidText.kC rfl (by decide) rfl rfl rfl (k_cons (r_var (pe_var rfl (by first|exact zO1 rfl|exact zO2 rfl|exact zO3 rfl))) k_nil)) r_nil)))) r_nil)) rfl) (ss_cons (s_expr (r_mth append_x rfl rfl rfl rfl rfl (r_var (pe_var rfl (by first|exact zO1 rfl|exact zO2 rfl|exact zO3 rfl))) (r_cons rfl (r_frz (r_lst (r_cons rfl (r_mkx hX n.x_InvalidEdit c.T_InvalidEdit.gC c.T_InvalidEdit.kC rfl (by decide) rfl rfl (r_cons rfl (r_var (pe_var rfl (by first|exact zO1 rfl|exact zO2 rfl|exact zO3 rfl))) r_nil)) (r_cons rfl (r_mkxk hX n.x_InvalidEdit c.T_InvalidEdit.gC c.T_InvalidEdit.kC rfl (by decide) rfl rfl rfl (k_cons (r_var (pe_var rfl (by first|exact zO1 rfl|exact zO2 rfl|exact zO3 rfl))) k_nil)) r_nil)))) r_nil)) rfl) (ss_cons (s_expr (r_mth append_x rfl rfl rfl rfl rfl (r_var (pe_var rfl (by first|exact zO1 rfl|exact zO2 rfl|exact zO3 rfl))) (r_cons rfl (r_frz (r_lst (r_cons rfl (r_mkx hX n.x_InvalidCommand c.T_InvalidCommand.gC c.T_InvalidCommand.kC rfl (by decide) rfl rfl (r_cons rfl (r_var (pe_var rfl (by first|exact zO1 rfl|exact zO2 rfl|exact zO3 rfl))) r_nil)) (r_cons rfl (r_mkxk hX n.x_InvalidCommand c.T_InvalidCommand.gC c.T_InvalidCommand.kC rfl (by decide) rfl rfl rfl (k_cons (r_var (pe_var rfl (by first|exact zO1 rfl|exact zO2 rfl|exact zO3 rfl))) k_nil)) r_nil)))) r_nil)) rfl) (ss_cons (s_asg rfl rfl rfl (r_lst r_nil) (g_nm nd rfl (by first|exact zO1 rfl|exact zO4 rfl) (by first|exact zO1 rfl|exact zO4 rfl))) (ss_cons (s_for ownsE rfl (fun _ => rfl) (i_seq (r_frz (r_bin (o := .add) (r_frz (r_bin (o := .add) (r_frz (r_slc (r_var (pe_var rfl (by first|exact zO1 rfl|exact zO2 rfl|exact zO3 rfl))) (o_so (r_cst rfl pe_int)) (o_so (r_cst rfl pe_int)))) (r_frz (r_slc (r_var (pe_var rfl (by first|exact zO1 rfl|exact zO2 rfl|exact zO3 rfl))) (o_so (r_cst rfl pe_int)) (o_so (r_cst rfl pe_int)))))) (r_frz (r_slc (r_var (pe_var rfl (by first|exact zO1 rfl|exact zO2 rfl|exact zO3 rfl))) (o_so (r_cst rfl pe_int)) (o_so (r_cst rfl pe_int))))))) (g_nm nd rfl (by first|exact zO1 rfl|exact zO4 rfl) (by first|exact zO1 rfl|exact zO4 rfl)) (ss_cons (s_expr (r_mth append_x rfl rfl rfl rfl rfl (r_var (pe_var rfl (by first|exact zO1 rfl|exact zO2 rfl|exact zO3 rfl))) (r_cons rfl (r_frz (r_comp (own := [("_law_error_here", 4)]) rfl nd (i_seq (r_var (pe_var rfl (by first|exact zO1 rfl|exact zO2 rfl|exact zO3 rfl)))) (blkOk_by rfl) rfl (by decide) (fun _ _ _ _ _ => (g_nm nd rfl (by first|exact zO1 rfl|exact zO4 rfl) (by first|exact zO1 rfl|exact zO4 rfl))) (fun _ _ _ _ _ => f_no) (fun _ _ _ _ _ => (r_attr (by decide +kernel) (by intro t ht; simp only [List.mem_cons, List.not_mem_nil, or_false] at ht; rcases ht with rfl | rfl | rfl | rfl | rfl | rfl | rfl | rfl | rfl | rfl | rfl; (· exact ⟨_, c.T_InvalidLog.ns, c.T_InvalidLog.atF⟩); (· exact ⟨_, c.T_InvalidSteps.ns, c.T_InvalidSteps.atF⟩); (· exact ⟨_, c.T_InvalidPath.ns, c.T_InvalidPath.atF⟩); (· exact ⟨_, c.T_InvalidEvents.ns, c.T_InvalidEvents.atF⟩); (· exact ⟨_, c.T_InvalidTable.ns, c.T_InvalidTable.atF⟩); (· exact ⟨_, c.T_InvalidPattern.ns, c.T_InvalidPattern.atF⟩); (· exact ⟨_, c.T_InvalidEdges.ns, c.T_InvalidEdges.atF⟩); (· exact ⟨_, c.T_InvalidShares.ns, c.T_InvalidShares.atF⟩); (· exact ⟨_, c.T_InvalidProgram.ns, c.T_InvalidProgram.atF⟩); (· exact ⟨_, c.T_InvalidEdit.ns, c.T_InvalidEdit.atF⟩); (· exact ⟨_, c.T_NoPath.ns, c.T_NoPath.atF⟩)) rfl (r_var (pe_var rfl (by first|exact zO1 rfl|exact zO2 rfl|exact zO3 rfl))))) (fun _ => rfl))) r_nil)) rfl) ss_nil)) (ss_cons (s_expr (r_mth append_x rfl rfl rfl rfl rfl (r_var (pe_var rfl (by first|exact zO1 rfl|exact zO2 rfl|exact zO3 rfl))) (r_cons rfl (r_frz (r_comp (own := [("_law_error_here", 4)]) rfl nd (i_seq (r_idx (fun _ _ => rfl) (r_var (pe_var rfl (by first|exact zO1 rfl|exact zO2 rfl|exact zO3 rfl))) (r_cst rfl pe_int))) (blkOk_by rfl) rfl (by decide) (fun _ _ _ _ _ => (g_nm nd rfl (by first|exact zO1 rfl|exact zO4 rfl) (by first|exact zO1 rfl|exact zO4 rfl))) (fun _ _ _ _ _ => f_no) (fun _ _ _ _ _ => (r_attr (by decide +kernel) (by intro t ht; simp only [List.mem_cons, List.not_mem_nil, or_false] at ht; rcases ht with rfl; (· exact ⟨_, c.T_InvalidReceiver.ns, c.T_InvalidReceiver.atF⟩)) rfl (r_var (pe_var rfl (by first|exact zO1 rfl|exact zO2 rfl|exact zO3 rfl))))) (fun _ => rfl))) r_nil)) rfl) (ss_cons (s_expr (r_mth append_x rfl rfl rfl rfl rfl (r_var (pe_var rfl (by first|exact zO1 rfl|exact zO2 rfl|exact zO3 rfl))) (r_cons rfl (r_frz (r_comp (own := [("_law_error_here", 4)]) rfl nd (i_seq (r_idx (fun _ _ => rfl) (r_var (pe_var rfl (by first|exact zO1 rfl|exact zO2 rfl|exact zO3 rfl))) (r_cst rfl pe_int))) (blkOk_by rfl) rfl (by decide) (fun _ _ _ _ _ => (g_nm nd rfl (by first|exact zO1 rfl|exact zO4 rfl) (by first|exact zO1 rfl|exact zO4 rfl))) (fun _ _ _ _ _ => f_no) (fun _ _ _ _ _ => (r_attr (by decide +kernel) (by intro t ht; simp only [List.mem_cons, List.not_mem_nil, or_false] at ht; rcases ht with rfl; (· exact ⟨_, c.T_InvalidGraph.ns, c.T_InvalidGraph.atF⟩)) rfl (r_var (pe_var rfl (by first|exact zO1 rfl|exact zO2 rfl|exact zO3 rfl))))) (fun _ => rfl))) r_nil)) rfl) (ss_cons (s_expr (r_mth append_x rfl rfl rfl rfl rfl (r_var (pe_var rfl (by first|exact zO1 rfl|exact zO2 rfl|exact zO3 rfl))) (r_cons rfl (r_frz (r_comp (own := [("_law_error_here", 4)]) rfl nd (i_seq (r_idx (fun _ _ => rfl) (r_var (pe_var rfl (by first|exact zO1 rfl|exact zO2 rfl|exact zO3 rfl))) (r_cst rfl pe_int))) (blkOk_by rfl) rfl (by decide) (fun _ _ _ _ _ => (g_nm nd rfl (by first|exact zO1 rfl|exact zO4 rfl) (by first|exact zO1 rfl|exact zO4 rfl))) (fun _ _ _ _ _ => f_no) (fun _ _ _ _ _ => (r_attr (by decide +kernel) (by intro t ht; simp only [List.mem_cons, List.not_mem_nil, or_false] at ht; rcases ht with rfl; (· exact ⟨_, c.T_InvalidText.ns, c.T_InvalidText.atF⟩)) rfl (r_var (pe_var rfl (by first|exact zO1 rfl|exact zO2 rfl|exact zO3 rfl))))) (fun _ => rfl))) r_nil)) rfl) (ss_cons (s_expr (r_mth append_x rfl rfl rfl rfl rfl (r_var (pe_var rfl (by first|exact zO1 rfl|exact zO2 rfl|exact zO3 rfl))) (r_cons rfl (r_frz (r_comp (own := [("_law_error_here", 4)]) rfl nd (i_seq (r_idx (fun _ _ => rfl) (r_var (pe_var rfl (by first|exact zO1 rfl|exact zO2 rfl|exact zO3 rfl))) (r_cst rfl pe_int))) (blkOk_by rfl) rfl (by decide) (fun _ _ _ _ _ => (g_nm nd rfl (by first|exact zO1 rfl|exact zO4 rfl) (by first|exact zO1 rfl|exact zO4 rfl))) (fun _ _ _ _ _ => f_no) (fun _ _ _ _ _ => (r_attr (by decide +kernel) (by intro t ht; simp only [List.mem_cons, List.not_mem_nil, or_false] at ht; rcases ht with rfl; (· exact ⟨_, c.T_InvalidCommand.ns, c.T_InvalidCommand.atF⟩)) rfl (r_var (pe_var rfl (by first|exact zO1 rfl|exact zO2 rfl|exact zO3 rfl))))) (fun _ => rfl))) r_nil)) rfl) (ss_cons (s_ret (r_frz (r_lst (r_cons rfl (r_var (pe_var rfl (by first|exact zO1 rfl|exact zO2 rfl|exact zO3 rfl))) (r_cons rfl (r_var (pe_var rfl (by first|exact zO1 rfl|exact zO2 rfl|exact zO3 rfl))) r_nil))))) ss_nil))))))))))))))))
theorem nd__law_third : (["_law_thing", "_law_made", "_law_fields", "_law_pair", "_law_error_here"] : List Str).Nodup := by decide +kernel
theorem sc__law_third : FnScope ["_law_thing", "_law_made", "_law_fields", "_law_pair", "_law_error_here"] ["_law_thing"] (defScope s__law_third) := ⟨rfl, rfl, rfl, nd__law_third, rfl, by decide +kernel, by decide +kernel⟩
theorem body__law_third (c : C0 K mg) (n : Dn c P base k Φ) {cdv : Value} {A : Around} {outer : List PySem.Env} {s : Shared} {H : Hp} {G : FW} {F : L2.St → FW} (hX : InX P Wd.w K mg base k F (cxE P Wd.w K mg base ["_law_thing", "_law_made", "_law_fields", "_law_pair", "_law_error_here"] "_law_third" (defScope s__law_third) c.f__law_third cdv A outer s H G)) :
    PSs (cxE P Wd.w K mg base ["_law_thing", "_law_made", "_law_fields", "_law_pair", "_law_error_here"] "_law_third" (defScope s__law_third) c.f__law_third cdv A outer s H G) (defBody s__law_third) (rdSs K F Φ W c__law_third) :=
  have nd := nd__law_third
  (ss_cons (s_asg rfl rfl rfl (r_lst (r_cons rfl (r_frz (r_lst (r_cons rfl (r_mkx0 c.T_EmptyLog rfl (by decide)) (r_cons rfl (r_mkx0 c.T_EmptyLog rfl (by decide)) r_nil)))) (r_cons rfl (r_frz (r_lst (r_cons rfl (r_mkx hX n.x_NoPath c.T_NoPath.gC c.T_NoPath.kC rfl (by decide) rfl rfl (r_cons rfl (r_var (pe_var rfl (by first|exact zO1 rfl|exact zO2 rfl|exact zO3 rfl))) r_nil)) (r_cons rfl (r_mkxk hX n.x_NoPath c.T_NoPath.gC c.T_NoPath.kC rfl (by decide) rfl rfl rfl (k_cons (r_var (pe_var rfl (by first|exact zO1 rfl|exact zO2 rfl|exact zO3 rfl))) k_nil)) r_nil)))) r_nil))) (g_nm nd rfl (by first|exact zO1 rfl|exact zO4 rfl) (by first|exact zO1 rfl|exact zO4 rfl))) (ss_cons (s_expr (r_mth append_x rfl rfl rfl rfl rfl (r_var (pe_var rfl (by first|exact zO1 rfl|exact zO2 rfl|exact zO3 rfl))) (r_cons rfl (r_frz (r_lst (r_cons rfl (r_mkx hX n.x_NotApplicable c.T_NotApplicable.gC c.T_NotApplicable.kC rfl (by decide) rfl rfl (r_cons rfl (r_var (pe_var rfl (by first|exact zO1 rfl|exact zO2 rfl|exact zO3 rfl))) r_nil)) (r_cons rfl (r_mkxk hX n.x_NotApplicable c.T_NotApplicable.gC c.T_NotApplicable.kC rfl (by decide) rfl rfl rfl (k_cons (r_var (pe_var rfl (by first|exact zO1 rfl|exact zO2 rfl|exact zO3 rfl))) k_nil)) r_nil)))) r_nil)) rfl) (ss_cons (s_expr (r_mth append_x rfl rfl rfl rfl rfl (r_var (pe_var rfl (by first|exact zO1 rfl|exact zO2 rfl|exact zO3 rfl))) (r_cons rfl (r_frz (r_lst (r_cons rfl (r_mkx hX n.x_UnknownEvent c.T_UnknownEvent.gC c.T_UnknownEvent.kC rfl (by decide) rfl rfl (r_cons rfl (r_var (pe_var rfl (by first|exact zO1 rfl|exact zO2 rfl|exact zO3 rfl))) r_nil)) (r_cons rfl (r_mkxk hX n.x_UnknownEvent c.T_UnknownEvent.gC c.T_UnknownEvent.kC rfl (by decide) rfl rfl rfl (k_cons (r_var (pe_var rfl (by first|exact zO1 rfl|exact zO2 rfl|exact zO3 rfl))) k_nil)) r_nil)))) r_nil)) rfl) (ss_cons (s_expr (r_mth append_x rfl rfl rfl rfl rfl (r_var (pe_var rfl (by first|exact zO1 rfl|exact zO2 rfl|exact zO3 rfl))) (r_cons rfl (r_frz (r_lst (r_cons rfl (r_mkx hX n.x_UnknownEffect c.T_UnknownEffect.gC c.T_UnknownEffect.kC rfl (by decide) rfl rfl (r_cons rfl (r_var (pe_var rfl (by first|exact zO1 rfl|exact zO2 rfl|exact zO3 rfl))) r_nil)) (r_cons rfl (r_mkxk hX n.x_UnknownEffect c.T_UnknownEffect.gC c.T_UnknownEffect.kC rfl (by decide) rfl rfl rfl (k_cons (r_var (pe_var rfl (by first|exact zO1 rfl|exact zO2 rfl|exact zO3 rfl))) k_nil)) r_nil)))) r_nil)) rfl) (ss_cons (s_expr (r_mth append_x rfl rfl rfl rfl rfl (r_var (pe_var rfl (by first|exact zO1 rfl|exact zO2 rfl|exact zO3 rfl))) (r_cons rfl (r_frz (r_lst (r_cons rfl (r_mkx0 c.T_NothingToUndo rfl (by decide)) (r_cons rfl (r_mkx0 c.T_NothingToUndo rfl (by decide)) r_nil)))) r_nil)) rfl) (ss_cons (s_expr (r_mth append_x rfl rfl rfl rfl rfl (r_var (pe_var rfl (by first|exact zO1 rfl|exact zO2 rfl|exact zO3 rfl))) (r_cons rfl (r_frz (r_lst (r_cons rfl (r_mkx hX n.x_TooManyEvents c.T_TooManyEvents.gC c.T_TooManyEvents.kC rfl (by decide) rfl rfl (r_cons rfl (r_var (pe_var rfl (by first|exact zO1 rfl|exact zO2 rfl|exact zO3 rfl))) r_nil)) (r_cons rfl (r_mkxk hX n.x_TooManyEvents c.T_TooManyEvents.gC c.T_TooManyEvents.kC rfl (by decide) rfl rfl rfl (k_cons (r_var (pe_var rfl (by first|exact zO1 rfl|exact zO2 rfl|exact zO3 rfl))) k_nil)) r_nil)))) r_nil)) rfl) (ss_cons (s_expr (r_mth append_x rfl rfl rfl rfl rfl (r_var (pe_var rfl (by first|exact zO1 rfl|exact zO2 rfl|exact zO3 rfl))) (r_cons rfl (r_frz (r_lst (r_cons rfl (r_mkx hX n.x_TooLong c.T_TooLong.gC c.T_TooLong.kC rfl (by decide) rfl rfl (r_cons rfl (r_var (pe_var rfl (by first|exact zO1 rfl|exact zO2 rfl|exact zO3 rfl))) r_nil)) (r_cons rfl (r_mkxk hX n.x_TooLong c.T_TooLong.gC c.T_TooLong.kC rfl (by decide) rfl rfl rfl (k_cons (r_var (pe_var rfl (by first|exact zO1 rfl|exact zO2 rfl|exact zO3 rfl))) k_nil)) r_nil)))) r_nil)) rfl) (ss_cons (s_expr (r_mth append_x rfl rfl rfl rfl rfl (r_var (pe_var rfl (by first|exact zO1 rfl|exact zO2 rfl|exact zO3 rfl))) (r_cons rfl (r_frz (r_lst (r_cons rfl (r_mkx hX n.x_TooManyStates c.T_TooManyStates.gC c.T_TooManyStates.kC rfl (by decide) rfl rfl (r_cons rfl (r_var (pe_var rfl (by first|exact zO1 rfl|exact zO2 rfl|exact zO3 rfl))) r_nil)) (r_cons rfl (r_mkxk hX n.x_TooManyStates c.T_TooManyStates.gC c.T_TooManyStates.kC rfl (by decide) rfl rfl rfl (k_cons (r_var (pe_var rfl (by first|exact zO1 rfl|exact zO2 rfl|exact zO3 rfl))) k_nil)) r_nil)))) r_nil)) rfl) (ss_cons (s_expr (r_mth append_x rfl rfl rfl rfl rfl (r_var (pe_var rfl (by first|exact zO1 rfl|exact zO2 rfl|exact zO3 rfl))) (r_cons rfl (r_frz (r_lst (r_cons rfl (r_mkx hX n.x_TooManyEdits c.T_TooManyEdits.gC c.T_TooManyEdits.kC rfl (by decide) rfl rfl (r_cons rfl (r_var (pe_var rfl (by first|exact zO1 rfl|exact zO2 rfl|exact zO3 rfl))) r_nil)) (r_cons rfl (r_mkxk hX n.x_TooManyEdits c.T_TooManyEdits.gC c.T_TooManyEdits.kC rfl (by decide) rfl rfl rfl (k_cons (r_var (pe_var rfl (by first|exact zO1 rfl|exact zO2 rfl|exact zO3 rfl))) k_nil)) r_nil)))) r_nil)) rfl) (ss_cons (s_asg rfl rfl rfl (r_lst (r_cons rfl (r_frz (r_comp (own := [("_law_error_here", 4)]) rfl nd (i_seq (r_idx (fun _ _ => rfl) (r_var (pe_var rfl (by first|exact zO1 rfl|exact zO2 rfl|exact zO3 rfl))) (r_cst rfl pe_int))) (blkOk_by rfl) rfl (by decide) (fun _ _ _ _ _ => (g_nm nd rfl (by first|exact zO1 rfl|exact zO4 rfl) (by first|exact zO1 rfl|exact zO4 rfl))) (fun _ _ _ _ _ => f_no) (fun _ _ _ _ _ => (r_attr (by decide +kernel) (by intro t ht; simp only [List.mem_cons, List.not_mem_nil, or_false] at ht; rcases ht with rfl | rfl | rfl | rfl | rfl | rfl | rfl | rfl | rfl | rfl | rfl; (· exact ⟨_, c.T_InvalidLog.ns, c.T_InvalidLog.atF⟩); (· exact ⟨_, c.T_InvalidSteps.ns, c.T_InvalidSteps.atF⟩); (· exact ⟨_, c.T_InvalidPath.ns, c.T_InvalidPath.atF⟩); (· exact ⟨_, c.T_InvalidEvents.ns, c.T_InvalidEvents.atF⟩); (· exact ⟨_, c.T_InvalidTable.ns, c.T_InvalidTable.atF⟩); (· exact ⟨_, c.T_InvalidPattern.ns, c.T_InvalidPattern.atF⟩); (· exact ⟨_, c.T_InvalidEdges.ns, c.T_InvalidEdges.atF⟩); (· exact ⟨_, c.T_InvalidShares.ns, c.T_InvalidShares.atF⟩); (· exact ⟨_, c.T_InvalidProgram.ns, c.T_InvalidProgram.atF⟩); (· exact ⟨_, c.T_InvalidEdit.ns, c.T_InvalidEdit.atF⟩); (· exact ⟨_, c.T_NoPath.ns, c.T_NoPath.atF⟩)) rfl (r_var (pe_var rfl (by first|exact zO1 rfl|exact zO2 rfl|exact zO3 rfl))))) (fun _ => rfl))) (r_cons rfl (r_frz (r_comp (own := [("_law_error_here", 4)]) rfl nd (i_seq (r_idx (fun _ _ => rfl) (r_var (pe_var rfl (by first|exact zO1 rfl|exact zO2 rfl|exact zO3 rfl))) (r_cst rfl pe_int))) (blkOk_by rfl) rfl (by decide) (fun _ _ _ _ _ => (g_nm nd rfl (by first|exact zO1 rfl|exact zO4 rfl) (by first|exact zO1 rfl|exact zO4 rfl))) (fun _ _ _ _ _ => f_no) (fun _ _ _ _ _ => (r_attr (by decide +kernel) (by intro t ht; simp only [List.mem_cons, List.not_mem_nil, or_false] at ht; rcases ht with rfl | rfl; (· exact ⟨_, c.T_InvalidStep.ns, c.T_InvalidStep.atF⟩); (· exact ⟨_, c.T_NotApplicable.ns, c.T_NotApplicable.atF⟩)) rfl (r_var (pe_var rfl (by first|exact zO1 rfl|exact zO2 rfl|exact zO3 rfl))))) (fun _ => rfl))) r_nil))) (g_nm nd rfl (by first|exact zO1 rfl|exact zO4 rfl) (by first|exact zO1 rfl|exact zO4 rfl))) (ss_cons (s_expr (r_mth append_x rfl rfl rfl rfl rfl (r_var (pe_var rfl (by first|exact zO1 rfl|exact zO2 rfl|exact zO3 rfl))) (r_cons rfl (r_frz (r_comp (own := [("_law_error_here", 4)]) rfl nd (i_seq (r_idx (fun _ _ => rfl) (r_var (pe_var rfl (by first|exact zO1 rfl|exact zO2 rfl|exact zO3 rfl))) (r_cst rfl pe_int))) (blkOk_by rfl) rfl (by decide) (fun _ _ _ _ _ => (g_nm nd rfl (by first|exact zO1 rfl|exact zO4 rfl) (by first|exact zO1 rfl|exact zO4 rfl))) (fun _ _ _ _ _ => f_no) (fun _ _ _ _ _ => (r_attr (by decide +kernel) (by intro t ht; simp only [List.mem_cons, List.not_mem_nil, or_false] at ht; rcases ht with rfl | rfl; (· exact ⟨_, c.T_UnknownEvent.ns, c.T_UnknownEvent.atF⟩); (· exact ⟨_, c.T_InvalidEvent.ns, c.T_InvalidEvent.atF⟩)) rfl (r_var (pe_var rfl (by first|exact zO1 rfl|exact zO2 rfl|exact zO3 rfl))))) (fun _ => rfl))) r_nil)) rfl) (ss_cons (s_expr (r_mth append_x rfl rfl rfl rfl rfl (r_var (pe_var rfl (by first|exact zO1 rfl|exact zO2 rfl|exact zO3 rfl))) (r_cons rfl (r_frz (r_comp (own := [("_law_error_here", 4)]) rfl nd (i_seq (r_idx (fun _ _ => rfl) (r_var (pe_var rfl (by first|exact zO1 rfl|exact zO2 rfl|exact zO3 rfl))) (r_cst rfl pe_int))) (blkOk_by rfl) rfl (by decide) (fun _ _ _ _ _ => (g_nm nd rfl (by first|exact zO1 rfl|exact zO4 rfl) (by first|exact zO1 rfl|exact zO4 rfl))) (fun _ _ _ _ _ => f_no) (fun _ _ _ _ _ => (r_attr (by decide +kernel) (by intro t ht; simp only [List.mem_cons, List.not_mem_nil, or_false] at ht; rcases ht with rfl; (· exact ⟨_, c.T_UnknownEffect.ns, c.T_UnknownEffect.atF⟩)) rfl (r_var (pe_var rfl (by first|exact zO1 rfl|exact zO2 rfl|exact zO3 rfl))))) (fun _ => rfl))) r_nil)) rfl) (ss_cons (s_for ownsE rfl (fun _ => rfl) (i_seq (r_frz (r_bin (o := .add) (r_frz (r_slc (r_var (pe_var rfl (by first|exact zO1 rfl|exact zO2 rfl|exact zO3 rfl))) (o_so (r_cst rfl pe_int)) (o_so (r_cst rfl pe_int)))) (r_frz (r_slc (r_var (pe_var rfl (by first|exact zO1 rfl|exact zO2 rfl|exact zO3 rfl))) (o_so (r_cst rfl pe_int)) o_no))))) (g_nm nd rfl (by first|exact zO1 rfl|exact zO4 rfl) (by first|exact zO1 rfl|exact zO4 rfl)) (ss_cons (s_expr (r_mth append_x rfl rfl rfl rfl rfl (r_var (pe_var rfl (by first|exact zO1 rfl|exact zO2 rfl|exact zO3 rfl))) (r_cons rfl (r_frz (r_comp (own := [("_law_error_here", 4)]) rfl nd (i_seq (r_var (pe_var rfl (by first|exact zO1 rfl|exact zO2 rfl|exact zO3 rfl)))) (blkOk_by rfl) rfl (by decide) (fun _ _ _ _ _ => (g_nm nd rfl (by first|exact zO1 rfl|exact zO4 rfl) (by first|exact zO1 rfl|exact zO4 rfl))) (fun _ _ _ _ _ => f_no) (fun _ _ _ _ _ => (r_attr (by decide +kernel) (by intro t ht; simp only [List.mem_cons, List.not_mem_nil, or_false] at ht; rcases ht with rfl | rfl | rfl; (· exact ⟨_, c.T_TooManyEvents.ns, c.T_TooManyEvents.atF⟩); (· exact ⟨_, c.T_TooManyStates.ns, c.T_TooManyStates.atF⟩); (· exact ⟨_, c.T_TooManyEdits.ns, c.T_TooManyEdits.atF⟩)) rfl (r_var (pe_var rfl (by first|exact zO1 rfl|exact zO2 rfl|exact zO3 rfl))))) (fun _ => rfl))) r_nil)) rfl) ss_nil)) (ss_cons (s_expr (r_mth append_x rfl rfl rfl rfl rfl (r_var (pe_var rfl (by first|exact zO1 rfl|exact zO2 rfl|exact zO3 rfl))) (r_cons rfl (r_frz (r_comp (own := [("_law_error_here", 4)]) rfl nd (i_seq (r_idx (fun _ _ => rfl) (r_var (pe_var rfl (by first|exact zO1 rfl|exact zO2 rfl|exact zO3 rfl))) (r_cst rfl pe_int))) (blkOk_by rfl) rfl (by decide) (fun _ _ _ _ _ => (g_nm nd rfl (by first|exact zO1 rfl|exact zO4 rfl) (by first|exact zO1 rfl|exact zO4 rfl))) (fun _ _ _ _ _ => f_no) (fun _ _ _ _ _ => (r_attr (by decide +kernel) (by intro t ht; simp only [List.mem_cons, List.not_mem_nil, or_false] at ht; rcases ht with rfl; (· exact ⟨_, c.T_TooLong.ns, c.T_TooLong.atF⟩)) rfl (r_var (pe_var rfl (by first|exact zO1 rfl|exact zO2 rfl|exact zO3 rfl))))) (fun _ => rfl))) r_nil)) rfl) (ss_cons (s_ret (r_frz (r_lst (r_cons rfl (r_var (pe_var rfl (by first|exact zO1 rfl|exact zO2 rfl|exact zO3 rfl))) (r_cons rfl (r_var (pe_var rfl (by first|exact zO1 rfl|exact zO2 rfl|exact zO3 rfl))) r_nil))))) ss_nil)))))))))))))))
theorem nd__law_caught : (["_law_thing", "_law_found", "_law_e"] : List Str).Nodup := by decide +kernel
theorem sc__law_caught : FnScope ["_law_thing", "_law_found", "_law_e"] ["_law_thing"] (defScope s__law_caught) := ⟨rfl, rfl, rfl, nd__law_caught, rfl, by decide +kernel, by decide +kernel⟩
theorem body__law_caught (c : C0 K mg) (n : Dn c P base k Φ) {cdv : Value} {A : Around} {outer : List PySem.Env} {s : Shared} {H : Hp} {G : FW} {F : L2.St → FW} (hX : InX P Wd.w K mg base k F (cxE P Wd.w K mg base ["_law_thing", "_law_found", "_law_e"] "_law_caught" (defScope s__law_caught) c.f__law_caught cdv A outer s H G)) :
    PSs (cxE P Wd.w K mg base ["_law_thing", "_law_found", "_law_e"] "_law_caught" (defScope s__law_caught) c.f__law_caught cdv A outer s H G) (defBody s__law_caught) (rdSs K F Φ W c__law_caught) :=
  have nd := nd__law_caught
  (ss_cons (s_asg rfl rfl rfl (r_lst r_nil) (g_nm nd rfl (by first|exact zO1 rfl|exact zO4 rfl) (by first|exact zO1 rfl|exact zO4 rfl))) (ss_cons (s_try rfl rfl nd rfl rfl hX.tk (hit_one rfl c.mH_DeliveryError rfl c.hA_DeliveryError) (fun F2 pn xe tk ow => (ss_cons (s_raise1 c.T_InvalidStep rfl (InX.tr hX tk).tk (InX.tr hX tk).room rfl rfl rfl rfl (r_var (pe_var rfl (by first|exact zO1 rfl|exact zO2 rfl|exact zO3 rfl)))) ss_nil)) (fun a pn => (ss_cons (s_expr (r_mth append_x rfl rfl rfl rfl rfl (r_var (pe_var rfl (by first|exact zO1 rfl|exact zO2 rfl|exact zO3 rfl))) (r_cons rfl (r_attr (by decide +kernel) (by intro t ht; simp only [List.mem_cons, List.not_mem_nil, or_false] at ht; rcases ht with rfl; (· exact ⟨_, c.T_InvalidStep.ns, c.T_InvalidStep.atF⟩)) rfl (r_var (pe_var rfl (by first|exact zO1 rfl|exact zO2 rfl|exact zO3 rfl)))) r_nil)) rfl) ss_nil))) (ss_cons (s_try rfl rfl nd rfl rfl hX.tk (hit_one rfl c.mH_SearchError rfl c.hA_SearchError) (fun F2 pn xe tk ow => (ss_cons (s_raise1 c.T_UnknownEvent rfl (InX.tr hX tk).tk (InX.tr hX tk).room rfl rfl rfl rfl (r_var (pe_var rfl (by first|exact zO1 rfl|exact zO2 rfl|exact zO3 rfl)))) ss_nil)) (fun a pn => (ss_cons (s_expr (r_mth append_x rfl rfl rfl rfl rfl (r_var (pe_var rfl (by first|exact zO1 rfl|exact zO2 rfl|exact zO3 rfl))) (r_cons rfl (r_attr (by decide +kernel) (by intro t ht; simp only [List.mem_cons, List.not_mem_nil, or_false] at ht; rcases ht with rfl; (· exact ⟨_, c.T_UnknownEvent.ns, c.T_UnknownEvent.atF⟩)) rfl (r_var (pe_var rfl (by first|exact zO1 rfl|exact zO2 rfl|exact zO3 rfl)))) r_nil)) rfl) ss_nil))) (ss_cons (s_try rfl rfl nd rfl rfl hX.tk (hit_one rfl c.mH_LimitError rfl c.hA_LimitError) (fun F2 pn xe tk ow => (ss_cons (s_raise1 c.T_TooLong rfl (InX.tr hX tk).tk (InX.tr hX tk).room rfl rfl rfl rfl (r_var (pe_var rfl (by first|exact zO1 rfl|exact zO2 rfl|exact zO3 rfl)))) ss_nil)) (fun a pn => (ss_cons (s_expr (r_mth append_x rfl rfl rfl rfl rfl (r_var (pe_var rfl (by first|exact zO1 rfl|exact zO2 rfl|exact zO3 rfl))) (r_cons rfl (r_attr (by decide +kernel) (by intro t ht; simp only [List.mem_cons, List.not_mem_nil, or_false] at ht; rcases ht with rfl; (· exact ⟨_, c.T_TooLong.ns, c.T_TooLong.atF⟩)) rfl (r_var (pe_var rfl (by first|exact zO1 rfl|exact zO2 rfl|exact zO3 rfl)))) r_nil)) rfl) ss_nil))) (ss_cons (s_ret (r_var (pe_var rfl (by first|exact zO1 rfl|exact zO2 rfl|exact zO3 rfl)))) ss_nil)))))
theorem nd__law_error : (["_law_e", "_law_found", "_law_bases", "_law_own", "_law_at"] : List Str).Nodup := by decide +kernel
theorem sc__law_error : FnScope ["_law_e", "_law_found", "_law_bases", "_law_own", "_law_at"] ["_law_e"] (defScope s__law_error) := ⟨rfl, rfl, rfl, nd__law_error, rfl, by decide +kernel, by decide +kernel⟩
theorem body__law_error (c : C0 K mg) (n : Dn c P base k Φ) {cdv : Value} {A : Around} {outer : List PySem.Env} {s : Shared} {H : Hp} {G : FW} {F : L2.St → FW} (hX : InX P Wd.w K mg base k F (cxE P Wd.w K mg base ["_law_e", "_law_found", "_law_bases", "_law_own", "_law_at"] "_law_error" (defScope s__law_error) c.f__law_error cdv A outer s H G)) :
    PSs (cxE P Wd.w K mg base ["_law_e", "_law_found", "_law_bases", "_law_own", "_law_at"] "_law_error" (defScope s__law_error) c.f__law_error cdv A outer s H G) (defBody s__law_error) (rdSs K F Φ W c__law_error) :=
  have nd := nd__law_error
  (ss_cons (s_asg rfl rfl rfl (r_frz (r_lst (r_cons rfl (r_iscG (by decide +kernel) c.kI_InvalidLog rfl c.z_isinstance rfl c.mI_InvalidLog rfl rfl rfl (r_var (pe_var rfl (by first|exact zO1 rfl|exact zO2 rfl|exact zO3 rfl)))) (r_cons rfl (r_iscG (by decide +kernel) c.kI_InvalidStep rfl c.z_isinstance rfl c.mI_InvalidStep rfl rfl rfl (r_var (pe_var rfl (by first|exact zO1 rfl|exact zO2 rfl|exact zO3 rfl)))) (r_cons rfl (r_iscG (by decide +kernel) c.kI_InvalidSteps rfl c.z_isinstance rfl c.mI_InvalidSteps rfl rfl rfl (r_var (pe_var rfl (by first|exact zO1 rfl|exact zO2 rfl|exact zO3 rfl)))) r_nil))))) (g_nm nd rfl (by first|exact zO1 rfl|exact zO4 rfl) (by first|exact zO1 rfl|exact zO4 rfl))) (ss_cons (s_asg rfl rfl rfl (r_frz (r_bin (o := .add) (r_var (pe_var rfl (by first|exact zO1 rfl|exact zO2 rfl|exact zO3 rfl))) (r_frz (r_lst (r_cons rfl (r_iscG (by decide +kernel) c.kI_InvalidSignature rfl c.z_isinstance rfl c.mI_InvalidSignature rfl rfl rfl (r_var (pe_var rfl (by first|exact zO1 rfl|exact zO2 rfl|exact zO3 rfl)))) (r_cons rfl (r_iscG (by decide +kernel) c.kI_InvalidPath rfl c.z_isinstance rfl c.mI_InvalidPath rfl rfl rfl (r_var (pe_var rfl (by first|exact zO1 rfl|exact zO2 rfl|exact zO3 rfl)))) (r_cons rfl (r_iscG (by decide +kernel) c.kI_InvalidEvent rfl c.z_isinstance rfl c.mI_InvalidEvent rfl rfl rfl (r_var (pe_var rfl (by first|exact zO1 rfl|exact zO2 rfl|exact zO3 rfl)))) r_nil))))))) (g_nm nd rfl (by first|exact zO1 rfl|exact zO4 rfl) (by first|exact zO1 rfl|exact zO4 rfl))) (ss_cons (s_asg rfl rfl rfl (r_frz (r_bin (o := .add) (r_var (pe_var rfl (by first|exact zO1 rfl|exact zO2 rfl|exact zO3 rfl))) (r_frz (r_lst (r_cons rfl (r_iscG (by decide +kernel) c.kI_InvalidEvents rfl c.z_isinstance rfl c.mI_InvalidEvents rfl rfl rfl (r_var (pe_var rfl (by first|exact zO1 rfl|exact zO2 rfl|exact zO3 rfl)))) (r_cons rfl (r_iscG (by decide +kernel) c.kI_InvalidNumber rfl c.z_isinstance rfl c.mI_InvalidNumber rfl rfl rfl (r_var (pe_var rfl (by first|exact zO1 rfl|exact zO2 rfl|exact zO3 rfl)))) (r_cons rfl (r_iscG (by decide +kernel) c.kI_InvalidTable rfl c.z_isinstance rfl c.mI_InvalidTable rfl rfl rfl (r_var (pe_var rfl (by first|exact zO1 rfl|exact zO2 rfl|exact zO3 rfl)))) r_nil))))))) (g_nm nd rfl (by first|exact zO1 rfl|exact zO4 rfl) (by first|exact zO1 rfl|exact zO4 rfl))) (ss_cons (s_asg rfl rfl rfl (r_frz (r_bin (o := .add) (r_var (pe_var rfl (by first|exact zO1 rfl|exact zO2 rfl|exact zO3 rfl))) (r_frz (r_lst (r_cons rfl (r_iscG (by decide +kernel) c.kI_InvalidState rfl c.z_isinstance rfl c.mI_InvalidState rfl rfl rfl (r_var (pe_var rfl (by first|exact zO1 rfl|exact zO2 rfl|exact zO3 rfl)))) (r_cons rfl (r_iscG (by decide +kernel) c.kI_InvalidReceiver rfl c.z_isinstance rfl c.mI_InvalidReceiver rfl rfl rfl (r_var (pe_var rfl (by first|exact zO1 rfl|exact zO2 rfl|exact zO3 rfl)))) (r_cons rfl (r_iscG (by decide +kernel) c.kI_InvalidPattern rfl c.z_isinstance rfl c.mI_InvalidPattern rfl rfl rfl (r_var (pe_var rfl (by first|exact zO1 rfl|exact zO2 rfl|exact zO3 rfl)))) r_nil))))))) (g_nm nd rfl (by first|exact zO1 rfl|exact zO4 rfl) (by first|exact zO1 rfl|exact zO4 rfl))) (ss_cons (s_asg rfl rfl rfl (r_frz (r_bin (o := .add) (r_var (pe_var rfl (by first|exact zO1 rfl|exact zO2 rfl|exact zO3 rfl))) (r_frz (r_lst (r_cons rfl (r_iscG (by decide +kernel) c.kI_InvalidEdges rfl c.z_isinstance rfl c.mI_InvalidEdges rfl rfl rfl (r_var (pe_var rfl (by first|exact zO1 rfl|exact zO2 rfl|exact zO3 rfl)))) (r_cons rfl (r_iscG (by decide +kernel) c.kI_InvalidGraph rfl c.z_isinstance rfl c.mI_InvalidGraph rfl rfl rfl (r_var (pe_var rfl (by first|exact zO1 rfl|exact zO2 rfl|exact zO3 rfl)))) (r_cons rfl (r_iscG (by decide +kernel) c.kI_InvalidShares rfl c.z_isinstance rfl c.mI_InvalidShares rfl rfl rfl (r_var (pe_var rfl (by first|exact zO1 rfl|exact zO2 rfl|exact zO3 rfl)))) r_nil))))))) (g_nm nd rfl (by first|exact zO1 rfl|exact zO4 rfl) (by first|exact zO1 rfl|exact zO4 rfl))) (ss_cons (s_asg rfl rfl rfl (r_frz (r_bin (o := .add) (r_var (pe_var rfl (by first|exact zO1 rfl|exact zO2 rfl|exact zO3 rfl))) (r_frz (r_lst (r_cons rfl (r_iscG (by decide +kernel) c.kI_InvalidProgram rfl c.z_isinstance rfl c.mI_InvalidProgram rfl rfl rfl (r_var (pe_var rfl (by first|exact zO1 rfl|exact zO2 rfl|exact zO3 rfl)))) (r_cons rfl (r_iscG (by decide +kernel) c.kI_InvalidText rfl c.z_isinstance rfl c.mI_InvalidText rfl rfl rfl (r_var (pe_var rfl (by first|exact zO1 rfl|exact zO2 rfl|exact zO3 rfl)))) (r_cons rfl (r_iscG (by decide +kernel) c.kI_InvalidEdit rfl c.z_isinstance rfl c.mI_InvalidEdit rfl rfl rfl (r_var (pe_var rfl (by first|exact zO1 rfl|exact zO2 rfl|exact zO3 rfl)))) r_nil))))))) (g_nm nd rfl (by first|exact zO1 rfl|exact zO4 rfl) (by first|exact zO1 rfl|exact zO4 rfl))) (ss_cons (s_asg rfl rfl rfl (r_frz (r_bin (o := .add) (r_var (pe_var rfl (by first|exact zO1 rfl|exact zO2 rfl|exact zO3 rfl))) (r_frz (r_lst (r_cons rfl (r_iscG (by decide +kernel) c.kI_InvalidCommand rfl c.z_isinstance rfl c.mI_InvalidCommand rfl rfl rfl (r_var (pe_var rfl (by first|exact zO1 rfl|exact zO2 rfl|exact zO3 rfl)))) (r_cons rfl (r_iscG (by decide +kernel) c.kI_EmptyLog rfl c.z_isinstance rfl c.mI_EmptyLog rfl rfl rfl (r_var (pe_var rfl (by first|exact zO1 rfl|exact zO2 rfl|exact zO3 rfl)))) (r_cons rfl (r_iscG (by decide +kernel) c.kI_NoPath rfl c.z_isinstance rfl c.mI_NoPath rfl rfl rfl (r_var (pe_var rfl (by first|exact zO1 rfl|exact zO2 rfl|exact zO3 rfl)))) r_nil))))))) (g_nm nd rfl (by first|exact zO1 rfl|exact zO4 rfl) (by first|exact zO1 rfl|exact zO4 rfl))) (ss_cons (s_asg rfl rfl rfl (r_frz (r_bin (o := .add) (r_var (pe_var rfl (by first|exact zO1 rfl|exact zO2 rfl|exact zO3 rfl))) (r_frz (r_lst (r_cons rfl (r_iscG (by decide +kernel) c.kI_NotApplicable rfl c.z_isinstance rfl c.mI_NotApplicable rfl rfl rfl (r_var (pe_var rfl (by first|exact zO1 rfl|exact zO2 rfl|exact zO3 rfl)))) (r_cons rfl (r_iscG (by decide +kernel) c.kI_UnknownEvent rfl c.z_isinstance rfl c.mI_UnknownEvent rfl rfl rfl (r_var (pe_var rfl (by first|exact zO1 rfl|exact zO2 rfl|exact zO3 rfl)))) (r_cons rfl (r_iscG (by decide +kernel) c.kI_UnknownEffect rfl c.z_isinstance rfl c.mI_UnknownEffect rfl rfl rfl (r_var (pe_var rfl (by first|exact zO1 rfl|exact zO2 rfl|exact zO3 rfl)))) r_nil))))))) (g_nm nd rfl (by first|exact zO1 rfl|exact zO4 rfl) (by first|exact zO1 rfl|exact zO4 rfl))) (ss_cons (s_asg rfl rfl rfl (r_frz (r_bin (o := .add) (r_var (pe_var rfl (by first|exact zO1 rfl|exact zO2 rfl|exact zO3 rfl))) (r_frz (r_lst (r_cons rfl (r_iscG (by decide +kernel) c.kI_NothingToUndo rfl c.z_isinstance rfl c.mI_NothingToUndo rfl rfl rfl (r_var (pe_var rfl (by first|exact zO1 rfl|exact zO2 rfl|exact zO3 rfl)))) (r_cons rfl (r_iscG (by decide +kernel) c.kI_TooManyEvents rfl c.z_isinstance rfl c.mI_TooManyEvents rfl rfl rfl (r_var (pe_var rfl (by first|exact zO1 rfl|exact zO2 rfl|exact zO3 rfl)))) (r_cons rfl (r_iscG (by decide +kernel) c.kI_TooLong rfl c.z_isinstance rfl c.mI_TooLong rfl rfl rfl (r_var (pe_var rfl (by first|exact zO1 rfl|exact zO2 rfl|exact zO3 rfl)))) r_nil))))))) (g_nm nd rfl (by first|exact zO1 rfl|exact zO4 rfl) (by first|exact zO1 rfl|exact zO4 rfl))) (ss_cons (s_asg rfl rfl rfl (r_frz (r_bin (o := .add) (r_var (pe_var rfl (by first|exact zO1 rfl|exact zO2 rfl|exact zO3 rfl))) (r_frz (r_lst (r_cons rfl (r_iscG (by decide +kernel) c.kI_TooManyStates rfl c.z_isinstance rfl c.mI_TooManyStates rfl rfl rfl (r_var (pe_var rfl (by first|exact zO1 rfl|exact zO2 rfl|exact zO3 rfl)))) (r_cons rfl (r_iscG (by decide +kernel) c.kI_TooManyEdits rfl c.z_isinstance rfl c.mI_TooManyEdits rfl rfl rfl (r_var (pe_var rfl (by first|exact zO1 rfl|exact zO2 rfl|exact zO3 rfl)))) r_nil)))))) (g_nm nd rfl (by first|exact zO1 rfl|exact zO4 rfl) (by first|exact zO1 rfl|exact zO4 rfl))) (ss_cons (s_asg rfl rfl rfl (r_frz (r_lst (r_cons rfl (r_iscG (by decide +kernel) c.kI_DeliveryError rfl c.z_isinstance rfl c.mI_DeliveryError rfl rfl rfl (r_var (pe_var rfl (by first|exact zO1 rfl|exact zO2 rfl|exact zO3 rfl)))) (r_cons rfl (r_iscG (by decide +kernel) c.kI_SearchError rfl c.z_isinstance rfl c.mI_SearchError rfl rfl rfl (r_var (pe_var rfl (by first|exact zO1 rfl|exact zO2 rfl|exact zO3 rfl)))) (r_cons rfl (r_iscG (by decide +kernel) c.kI_LimitError rfl c.z_isinstance rfl c.mI_LimitError rfl rfl rfl (r_var (pe_var rfl (by first|exact zO1 rfl|exact zO2 rfl|exact zO3 rfl)))) r_nil))))) (g_nm nd rfl (by first|exact zO1 rfl|exact zO4 rfl) (by first|exact zO1 rfl|exact zO4 rfl))) (ss_cons (s_asg rfl rfl rfl (r_frz (r_lst (r_cons rfl (r_iscB (by decide +kernel) c.kI_ValueError rfl c.z_isinstance rfl c.z_ValueError rfl (by decide) rfl rfl rfl (r_var (pe_var rfl (by first|exact zO1 rfl|exact zO2 rfl|exact zO3 rfl)))) (r_cons rfl (r_iscB (by decide +kernel) c.kI_LookupError rfl c.z_isinstance rfl c.z_LookupError rfl (by decide) rfl rfl rfl (r_var (pe_var rfl (by first|exact zO1 rfl|exact zO2 rfl|exact zO3 rfl)))) (r_cons rfl (r_iscB (by decide +kernel) c.kI_ArithmeticError rfl c.z_isinstance rfl c.z_ArithmeticError rfl (by decide) rfl rfl rfl (r_var (pe_var rfl (by first|exact zO1 rfl|exact zO2 rfl|exact zO3 rfl)))) r_nil))))) (g_nm nd rfl (by first|exact zO1 rfl|exact zO4 rfl) (by first|exact zO1 rfl|exact zO4 rfl))) (ss_cons (s_if (PW.pt (t_or (t_cmp (o := .ne) hX.u rfl (r_mth (count_x hX.u) rfl rfl rfl rfl rfl (r_var (pe_var rfl (by first|exact zO1 rfl|exact zO2 rfl|exact zO3 rfl))) (r_cons rfl (r_cst rfl pe_bl) r_nil)) (r_cst rfl pe_int)) (t_or1 (t_cmp (o := .ne) hX.u rfl (r_var (pe_var rfl (by first|exact zO1 rfl|exact zO2 rfl|exact zO3 rfl))) (r_var (pe_var rfl (by first|exact zO1 rfl|exact zO2 rfl|exact zO3 rfl))))))) (ss_cons (s_ret (r_bin (o := .sub) (r_cst rfl pe_int) (r_cst rfl pe_int))) ss_nil) ss_nil) (ss_cons (s_asg rfl rfl rfl (r_mth (index_x hX.u) rfl rfl rfl rfl rfl (r_var (pe_var rfl (by first|exact zO1 rfl|exact zO2 rfl|exact zO3 rfl))) (r_cons rfl (r_cst rfl pe_bl) r_nil)) (g_nm nd rfl (by first|exact zO1 rfl|exact zO4 rfl) (by first|exact zO1 rfl|exact zO4 rfl))) (ss_cons (s_ret (r_ite (t_cmp (o := .eq) hX.u rfl (r_var (pe_var rfl (by first|exact zO1 rfl|exact zO2 rfl|exact zO3 rfl))) (r_frz (r_lst (r_cons rfl (r_cmp (o := .lt) hX.u rfl (r_var (pe_var rfl (by first|exact zO1 rfl|exact zO2 rfl|exact zO3 rfl))) (r_cst rfl pe_int)) (r_cons rfl (r_chn (o := .lt) (p := .lt) hX.u rfl (r_cst rfl pe_int) (r_var (pe_var rfl (by first|exact zO1 rfl|exact zO2 rfl|exact zO3 rfl))) (r_cst rfl pe_int)) (r_cons rfl (r_cmp (o := .gt) hX.u rfl (r_var (pe_var rfl (by first|exact zO1 rfl|exact zO2 rfl|exact zO3 rfl))) (r_cst rfl pe_int)) r_nil)))))) (r_var (pe_var rfl (by first|exact zO1 rfl|exact zO2 rfl|exact zO3 rfl))) (r_bin (o := .sub) (r_cst rfl pe_int) (r_cst rfl pe_int)))) ss_nil)))))))))))))))
omit [Wd] in
theorem initF_count : InitF "count" := ⟨fun _ _ _ _ _ _ _ _ _ _ _ _ _ _ => rfl, fun _ _ => rfl, fun _ _ _ _ _ _ => rfl, fun _ _ _ _ _ _ => rfl, fun _ _ _ _ => rfl, fun _ _ _ _ => rfl, rfl⟩
omit [Wd] in
theorem initF_effect : InitF "effect" := ⟨fun _ _ _ _ _ _ _ _ _ _ _ _ _ _ => rfl, fun _ _ => rfl, fun _ _ _ _ _ _ => rfl, fun _ _ _ _ _ _ => rfl, fun _ _ _ _ => rfl, fun _ _ _ _ => rfl, rfl⟩
omit [Wd] in
theorem initF_event : InitF "event" := ⟨fun _ _ _ _ _ _ _ _ _ _ _ _ _ _ => rfl, fun _ _ => rfl, fun _ _ _ _ _ _ => rfl, fun _ _ _ _ _ _ => rfl, fun _ _ _ _ => rfl, fun _ _ _ _ => rfl, rfl⟩
omit [Wd] in
theorem initF_graph : InitF "graph" := ⟨fun _ _ _ _ _ _ _ _ _ _ _ _ _ _ => rfl, fun _ _ => rfl, fun _ _ _ _ _ _ => rfl, fun _ _ _ _ _ _ => rfl, fun _ _ _ _ => rfl, fun _ _ _ _ => rfl, rfl⟩
omit [Wd] in
theorem initF_index : InitF "index" := ⟨fun _ _ _ _ _ _ _ _ _ _ _ _ _ _ => rfl, fun _ _ => rfl, fun _ _ _ _ _ _ => rfl, fun _ _ _ _ _ _ => rfl, fun _ _ _ _ => rfl, fun _ _ _ _ => rfl, rfl⟩
omit [Wd] in
theorem initF_length : InitF "length" := ⟨fun _ _ _ _ _ _ _ _ _ _ _ _ _ _ => rfl, fun _ _ => rfl, fun _ _ _ _ _ _ => rfl, fun _ _ _ _ _ _ => rfl, fun _ _ _ _ => rfl, fun _ _ _ _ => rfl, rfl⟩
omit [Wd] in
theorem initF_line : InitF "line" := ⟨fun _ _ _ _ _ _ _ _ _ _ _ _ _ _ => rfl, fun _ _ => rfl, fun _ _ _ _ _ _ => rfl, fun _ _ _ _ _ _ => rfl, fun _ _ _ _ => rfl, fun _ _ _ _ => rfl, rfl⟩
omit [Wd] in
theorem initF_number : InitF "number" := ⟨fun _ _ _ _ _ _ _ _ _ _ _ _ _ _ => rfl, fun _ _ => rfl, fun _ _ _ _ _ _ => rfl, fun _ _ _ _ _ _ => rfl, fun _ _ _ _ => rfl, fun _ _ _ _ => rfl, rfl⟩
omit [Wd] in
theorem initF_receiver : InitF "receiver" := ⟨fun _ _ _ _ _ _ _ _ _ _ _ _ _ _ => rfl, fun _ _ => rfl, fun _ _ _ _ _ _ => rfl, fun _ _ _ _ _ _ => rfl, fun _ _ _ _ => rfl, fun _ _ _ _ => rfl, rfl⟩
omit [Wd] in
theorem initF_signature : InitF "signature" := ⟨fun _ _ _ _ _ _ _ _ _ _ _ _ _ _ => rfl, fun _ _ => rfl, fun _ _ _ _ _ _ => rfl, fun _ _ _ _ _ _ => rfl, fun _ _ _ _ => rfl, fun _ _ _ _ => rfl, rfl⟩
omit [Wd] in
theorem initF_state : InitF "state" := ⟨fun _ _ _ _ _ _ _ _ _ _ _ _ _ _ => rfl, fun _ _ => rfl, fun _ _ _ _ _ _ => rfl, fun _ _ _ _ _ _ => rfl, fun _ _ _ _ => rfl, fun _ _ _ _ => rfl, rfl⟩
omit [Wd] in
theorem initF_step : InitF "step" := ⟨fun _ _ _ _ _ _ _ _ _ _ _ _ _ _ => rfl, fun _ _ => rfl, fun _ _ _ _ _ _ => rfl, fun _ _ _ _ _ _ => rfl, fun _ _ _ _ => rfl, fun _ _ _ _ => rfl, rfl⟩
omit [Wd] in
theorem initF_text : InitF "text" := ⟨fun _ _ _ _ _ _ _ _ _ _ _ _ _ _ => rfl, fun _ _ => rfl, fun _ _ _ _ _ _ => rfl, fun _ _ _ _ _ _ => rfl, fun _ _ _ _ => rfl, fun _ _ _ _ => rfl, rfl⟩
omit [Wd] in
theorem initK_count : InitK "count" := ⟨fun _ _ _ _ _ _ _ _ _ _ _ _ _ _ => rfl⟩
omit [Wd] in
theorem initK_effect : InitK "effect" := ⟨fun _ _ _ _ _ _ _ _ _ _ _ _ _ _ => rfl⟩
omit [Wd] in
theorem initK_event : InitK "event" := ⟨fun _ _ _ _ _ _ _ _ _ _ _ _ _ _ => rfl⟩
omit [Wd] in
theorem initK_graph : InitK "graph" := ⟨fun _ _ _ _ _ _ _ _ _ _ _ _ _ _ => rfl⟩
omit [Wd] in
theorem initK_index : InitK "index" := ⟨fun _ _ _ _ _ _ _ _ _ _ _ _ _ _ => rfl⟩
omit [Wd] in
theorem initK_length : InitK "length" := ⟨fun _ _ _ _ _ _ _ _ _ _ _ _ _ _ => rfl⟩
omit [Wd] in
theorem initK_line : InitK "line" := ⟨fun _ _ _ _ _ _ _ _ _ _ _ _ _ _ => rfl⟩
omit [Wd] in
theorem initK_number : InitK "number" := ⟨fun _ _ _ _ _ _ _ _ _ _ _ _ _ _ => rfl⟩
omit [Wd] in
theorem initK_receiver : InitK "receiver" := ⟨fun _ _ _ _ _ _ _ _ _ _ _ _ _ _ => rfl⟩
omit [Wd] in
theorem initK_signature : InitK "signature" := ⟨fun _ _ _ _ _ _ _ _ _ _ _ _ _ _ => rfl⟩
omit [Wd] in
theorem initK_state : InitK "state" := ⟨fun _ _ _ _ _ _ _ _ _ _ _ _ _ _ => rfl⟩
omit [Wd] in
theorem initK_step : InitK "step" := ⟨fun _ _ _ _ _ _ _ _ _ _ _ _ _ _ => rfl⟩
omit [Wd] in
theorem initK_text : InitK "text" := ⟨fun _ _ _ _ _ _ _ _ _ _ _ _ _ _ => rfl⟩
theorem all_n (c : C0 K mg) (sm : SysD base) : ∀ m, Dn c P base m (runF tab W m)
  | 0 => ⟨fnG_zero, fnG_zero, fnG_zero, fnG_zero, fnG_zero, fnG_zero, fnG_zero, fnG_zero, fnG_zero, fnG_zero, fnG_zero, sm, mkXG_zero, mkXG_zero, mkXG_zero, mkXG_zero, mkXG_zero, mkXG_zero, mkXG_zero, mkXG_zero, mkXG_zero, mkXG_zero, mkXG_zero, mkXG_zero, mkXG_zero, mkXG_zero, mkXG_zero, mkXG_zero, mkXG_zero, mkXG_zero, mkXG_zero, mkXG_zero, mkXG_zero, mkXG_zero, mkXG_zero, mkXG_zero, mkXG_zero, mkXG_zero, mkXG_zero⟩
  | m + 1 => have n := all_n c sm m
    ⟨fnG_step (fn := ⟨1, 2, false, false, c_law⟩) c.F_law sc_law rfl rfl rfl (by decide) fun _ _ _ _ _ _ _ hX => body_law c n hX,
    fnG_step (fn := ⟨0, 2, false, false, c__law_limits_right⟩) c.F__law_limits_right sc__law_limits_right rfl rfl rfl (by decide) fun _ _ _ _ _ _ _ hX => body__law_limits_right c n hX,
    fnG_step (fn := ⟨2, 4, false, false, c__law_cell⟩) c.F__law_cell sc__law_cell rfl rfl rfl (by decide) fun _ _ _ _ _ _ _ hX => body__law_cell c n hX,
    fnG_step (fn := ⟨1, 2, false, true, c__law_pool⟩) c.F__law_pool sc__law_pool rfl rfl rfl (by decide) fun _ _ _ _ _ _ _ hX => body__law_pool c n hX,
    fnG_step (fn := ⟨1, 10, true, false, c__law_right⟩) c.F__law_right sc__law_right rfl rfl rfl (by decide) fun _ _ _ _ _ _ _ hX => body__law_right c n hX,
    fnG_step (fn := ⟨2, 4, true, false, c__law_draw⟩) c.F__law_draw sc__law_draw rfl rfl rfl (by decide) fun _ _ _ _ _ _ _ hX => body__law_draw c n hX,
    fnG_step (fn := ⟨1, 5, false, false, c__law_first⟩) c.F__law_first sc__law_first rfl rfl rfl (by decide) fun _ _ _ _ _ _ _ hX => body__law_first c n hX,
    fnG_step (fn := ⟨1, 5, false, false, c__law_second⟩) c.F__law_second sc__law_second rfl rfl rfl (by decide) fun _ _ _ _ _ _ _ hX => body__law_second c n hX,
    fnG_step (fn := ⟨1, 5, false, false, c__law_third⟩) c.F__law_third sc__law_third rfl rfl rfl (by decide) fun _ _ _ _ _ _ _ hX => body__law_third c n hX,
    fnG_step (fn := ⟨1, 3, false, false, c__law_caught⟩) c.F__law_caught sc__law_caught rfl rfl rfl (by decide) fun _ _ _ _ _ _ _ hX => body__law_caught c n hX,
    fnG_step (fn := ⟨1, 5, false, false, c__law_error⟩) c.F__law_error sc__law_error rfl rfl rfl (by decide) fun _ _ _ _ _ _ _ hX => body__law_error c n hX,
    sm,
    mkXG_step c.T_InvalidLog initK_index rfl rfl rfl rfl,
    mkXG_step c.T_InvalidStep initK_step rfl rfl rfl rfl,
    mkXG_step c.T_InvalidSteps initK_index rfl rfl rfl rfl,
    mkXG_step c.T_InvalidSignature initK_signature rfl rfl rfl rfl,
    mkXG_step c.T_InvalidPath initK_index rfl rfl rfl rfl,
    mkXG_step c.T_InvalidEvent initK_event rfl rfl rfl rfl,
    mkXG_step c.T_InvalidEvents initK_index rfl rfl rfl rfl,
    mkXG_step c.T_InvalidNumber initK_number rfl rfl rfl rfl,
    mkXG_step c.T_InvalidTable initK_index rfl rfl rfl rfl,
    mkXG_step c.T_InvalidState initK_state rfl rfl rfl rfl,
    mkXG_step c.T_InvalidReceiver initK_receiver rfl rfl rfl rfl,
    mkXG_step c.T_InvalidPattern initK_index rfl rfl rfl rfl,
    mkXG_step c.T_InvalidEdges initK_index rfl rfl rfl rfl,
    mkXG_step c.T_InvalidGraph initK_graph rfl rfl rfl rfl,
    mkXG_step c.T_InvalidShares initK_index rfl rfl rfl rfl,
    mkXG_step c.T_InvalidProgram initK_index rfl rfl rfl rfl,
    mkXG_step c.T_InvalidText initK_text rfl rfl rfl rfl,
    mkXG_step c.T_InvalidEdit initK_index rfl rfl rfl rfl,
    mkXG_step c.T_InvalidCommand initK_line rfl rfl rfl rfl,
    mkXG_step c.T_NoPath initK_index rfl rfl rfl rfl,
    mkXG_step c.T_NotApplicable initK_step rfl rfl rfl rfl,
    mkXG_step c.T_UnknownEvent initK_event rfl rfl rfl rfl,
    mkXG_step c.T_UnknownEffect initK_effect rfl rfl rfl rfl,
    mkXG_step c.T_TooManyEvents initK_count rfl rfl rfl rfl,
    mkXG_step c.T_TooLong initK_length rfl rfl rfl rfl,
    mkXG_step c.T_TooManyStates initK_count rfl rfl rfl rfl,
    mkXG_step c.T_TooManyEdits initK_count rfl rfl rfl rfl⟩
end
omit [Wd] in
theorem factsL {l : PySem.W.OpenLaw} {w : World} {K : PySem.W.Frag} {h : Heap} {mg : Str → Option Value} {fa : Addr} (KX : K.In h) (G : h.Ns mainGlobals mg) (hfa : mg "law" = some (.ref fa)) (c : He.SaysX faL fnL [] tfL exL w h K) :
    ∃ (ts : List ((Addr × Addr) × Str)) (fd : FuncData), (∀ p ∈ ts, h.get? p.1.2 = some emptyO ∧ K.lookup p.1.2 = none ∧ PySem.W.CodeHd h p.1.1 p.1.2) ∧ (∀ (s : Shared) (v : Value), BindsTo s fd ⟨[v], []⟩ [("_law_script", v)]) ∧
      ∀ base : Heap, K.In base → base.Ns mainGlobals mg → (∀ p ∈ ts, LamX.TabB base mg p.1.1 p.1.2) → (True → SysD base) → @FnG ⟨w, ts.map fun p => (p.1.2, p.2)⟩ l.prog w K mg base 60 fa fd ["_law_script"] (@spF ⟨w, ts.map fun p => (p.1.2, p.2)⟩ K (runF tab 5000 60 "law")) := by
  have cD : He.SaysD faL fnL K := congrArg (fun z : He.AlT => z.1) c.t
  obtain ⟨fd_dL_law, F_dL_law⟩ := cD.def_ 0 (d := dL_law) rfl
  obtain ⟨fd_dL__law_limits_right, F_dL__law_limits_right⟩ := cD.def_ 1 (d := dL__law_limits_right) rfl
  obtain ⟨fd_dL__law_cell, F_dL__law_cell⟩ := cD.def_ 2 (d := dL__law_cell) rfl
  obtain ⟨fd_dL__law_pool, F_dL__law_pool⟩ := cD.def_ 3 (d := dL__law_pool) rfl
  obtain ⟨fd_dL__law_right, F_dL__law_right⟩ := cD.def_ 4 (d := dL__law_right) rfl
  obtain ⟨fd_dL__law_draw, F_dL__law_draw⟩ := cD.def_ 5 (d := dL__law_draw) rfl
  obtain ⟨fd_dL__law_first, F_dL__law_first⟩ := cD.def_ 6 (d := dL__law_first) rfl
  obtain ⟨fd_dL__law_second, F_dL__law_second⟩ := cD.def_ 7 (d := dL__law_second) rfl
  obtain ⟨fd_dL__law_third, F_dL__law_third⟩ := cD.def_ 8 (d := dL__law_third) rfl
  obtain ⟨fd_dL__law_caught, F_dL__law_caught⟩ := cD.def_ 9 (d := dL__law_caught) rfl
  obtain ⟨fd_dL__law_error, F_dL__law_error⟩ := cD.def_ 10 (d := dL__law_error) rfl
  obtain ⟨fd_dI_InvalidLog, F_dI_InvalidLog⟩ := cD.def_ 11 (d := dI_InvalidLog) rfl
  obtain ⟨fd_dI_InvalidStep, F_dI_InvalidStep⟩ := cD.def_ 12 (d := dI_InvalidStep) rfl
  obtain ⟨fd_dI_InvalidSteps, F_dI_InvalidSteps⟩ := cD.def_ 13 (d := dI_InvalidSteps) rfl
  obtain ⟨fd_dI_InvalidSignature, F_dI_InvalidSignature⟩ := cD.def_ 14 (d := dI_InvalidSignature) rfl
  obtain ⟨fd_dI_InvalidPath, F_dI_InvalidPath⟩ := cD.def_ 15 (d := dI_InvalidPath) rfl
  obtain ⟨fd_dI_InvalidEvent, F_dI_InvalidEvent⟩ := cD.def_ 16 (d := dI_InvalidEvent) rfl
  obtain ⟨fd_dI_InvalidEvents, F_dI_InvalidEvents⟩ := cD.def_ 17 (d := dI_InvalidEvents) rfl
  obtain ⟨fd_dI_InvalidNumber, F_dI_InvalidNumber⟩ := cD.def_ 18 (d := dI_InvalidNumber) rfl
  obtain ⟨fd_dI_InvalidTable, F_dI_InvalidTable⟩ := cD.def_ 19 (d := dI_InvalidTable) rfl
  obtain ⟨fd_dI_InvalidState, F_dI_InvalidState⟩ := cD.def_ 20 (d := dI_InvalidState) rfl
  obtain ⟨fd_dI_InvalidPattern, F_dI_InvalidPattern⟩ := cD.def_ 21 (d := dI_InvalidPattern) rfl
  obtain ⟨fd_dI_InvalidEdges, F_dI_InvalidEdges⟩ := cD.def_ 22 (d := dI_InvalidEdges) rfl
  obtain ⟨fd_dI_InvalidShares, F_dI_InvalidShares⟩ := cD.def_ 23 (d := dI_InvalidShares) rfl
  obtain ⟨fd_dI_InvalidProgram, F_dI_InvalidProgram⟩ := cD.def_ 24 (d := dI_InvalidProgram) rfl
  obtain ⟨fd_dI_InvalidEdit, F_dI_InvalidEdit⟩ := cD.def_ 25 (d := dI_InvalidEdit) rfl
  obtain ⟨fd_dI_NoPath, F_dI_NoPath⟩ := cD.def_ 26 (d := dI_NoPath) rfl
  obtain ⟨fd_dI_NotApplicable, F_dI_NotApplicable⟩ := cD.def_ 27 (d := dI_NotApplicable) rfl
  obtain ⟨fd_dI_UnknownEvent, F_dI_UnknownEvent⟩ := cD.def_ 28 (d := dI_UnknownEvent) rfl
  obtain ⟨fd_dI_InvalidReceiver, F_dI_InvalidReceiver⟩ := cD.def_ 29 (d := dI_InvalidReceiver) rfl
  obtain ⟨fd_dI_InvalidGraph, F_dI_InvalidGraph⟩ := cD.def_ 30 (d := dI_InvalidGraph) rfl
  obtain ⟨fd_dI_InvalidText, F_dI_InvalidText⟩ := cD.def_ 31 (d := dI_InvalidText) rfl
  obtain ⟨fd_dI_InvalidCommand, F_dI_InvalidCommand⟩ := cD.def_ 32 (d := dI_InvalidCommand) rfl
  obtain ⟨fd_dI_UnknownEffect, F_dI_UnknownEffect⟩ := cD.def_ 33 (d := dI_UnknownEffect) rfl
  obtain ⟨fd_dI_TooManyEvents, F_dI_TooManyEvents⟩ := cD.def_ 34 (d := dI_TooManyEvents) rfl
  obtain ⟨fd_dI_TooLong, F_dI_TooLong⟩ := cD.def_ 35 (d := dI_TooLong) rfl
  obtain ⟨fd_dI_TooManyStates, F_dI_TooManyStates⟩ := cD.def_ 36 (d := dI_TooManyStates) rfl
  obtain ⟨fd_dI_TooManyEdits, F_dI_TooManyEdits⟩ := cD.def_ 37 (d := dI_TooManyEdits) rfl
  have h0 : exL K = true := c.more
  unfold exL at h0
  obtain ⟨x_InvalidLog, h0⟩ := He.ba h0
  obtain ⟨y_InvalidLog, h0⟩ := He.ba h0
  obtain ⟨x_InvalidStep, h0⟩ := He.ba h0
  obtain ⟨y_InvalidStep, h0⟩ := He.ba h0
  obtain ⟨x_InvalidSteps, h0⟩ := He.ba h0
  obtain ⟨y_InvalidSteps, h0⟩ := He.ba h0
  obtain ⟨x_InvalidSignature, h0⟩ := He.ba h0
  obtain ⟨y_InvalidSignature, h0⟩ := He.ba h0
  obtain ⟨x_InvalidPath, h0⟩ := He.ba h0
  obtain ⟨y_InvalidPath, h0⟩ := He.ba h0
  obtain ⟨x_InvalidEvent, h0⟩ := He.ba h0
  obtain ⟨y_InvalidEvent, h0⟩ := He.ba h0
  obtain ⟨x_InvalidEvents, h0⟩ := He.ba h0
  obtain ⟨y_InvalidEvents, h0⟩ := He.ba h0
  obtain ⟨x_InvalidNumber, h0⟩ := He.ba h0
  obtain ⟨y_InvalidNumber, h0⟩ := He.ba h0
  obtain ⟨x_InvalidTable, h0⟩ := He.ba h0
  obtain ⟨y_InvalidTable, h0⟩ := He.ba h0
  obtain ⟨x_InvalidState, h0⟩ := He.ba h0
  obtain ⟨y_InvalidState, h0⟩ := He.ba h0
  obtain ⟨x_InvalidPattern, h0⟩ := He.ba h0
  obtain ⟨y_InvalidPattern, h0⟩ := He.ba h0
  obtain ⟨x_InvalidEdges, h0⟩ := He.ba h0
  obtain ⟨y_InvalidEdges, h0⟩ := He.ba h0
  obtain ⟨x_InvalidShares, h0⟩ := He.ba h0
  obtain ⟨y_InvalidShares, h0⟩ := He.ba h0
  obtain ⟨x_InvalidProgram, h0⟩ := He.ba h0
  obtain ⟨y_InvalidProgram, h0⟩ := He.ba h0
  obtain ⟨x_InvalidEdit, h0⟩ := He.ba h0
  obtain ⟨y_InvalidEdit, h0⟩ := He.ba h0
  obtain ⟨x_NoPath, h0⟩ := He.ba h0
  obtain ⟨y_NoPath, h0⟩ := He.ba h0
  obtain ⟨x_NotApplicable, h0⟩ := He.ba h0
  obtain ⟨y_NotApplicable, h0⟩ := He.ba h0
  obtain ⟨x_UnknownEvent, h0⟩ := He.ba h0
  obtain ⟨y_UnknownEvent, h0⟩ := He.ba h0
  obtain ⟨x_InvalidReceiver, h0⟩ := He.ba h0
  obtain ⟨y_InvalidReceiver, h0⟩ := He.ba h0
  obtain ⟨x_InvalidGraph, h0⟩ := He.ba h0
  obtain ⟨y_InvalidGraph, h0⟩ := He.ba h0
  obtain ⟨x_InvalidText, h0⟩ := He.ba h0
  obtain ⟨y_InvalidText, h0⟩ := He.ba h0
  obtain ⟨x_InvalidCommand, h0⟩ := He.ba h0
  obtain ⟨y_InvalidCommand, h0⟩ := He.ba h0
  obtain ⟨x_EmptyLog, h0⟩ := He.ba h0
  obtain ⟨y_EmptyLog, h0⟩ := He.ba h0
  obtain ⟨x_UnknownEffect, h0⟩ := He.ba h0
  obtain ⟨y_UnknownEffect, h0⟩ := He.ba h0
  obtain ⟨x_NothingToUndo, h0⟩ := He.ba h0
  obtain ⟨y_NothingToUndo, h0⟩ := He.ba h0
  obtain ⟨x_TooManyEvents, h0⟩ := He.ba h0
  obtain ⟨y_TooManyEvents, h0⟩ := He.ba h0
  obtain ⟨x_TooLong, h0⟩ := He.ba h0
  obtain ⟨y_TooLong, h0⟩ := He.ba h0
  obtain ⟨x_TooManyStates, h0⟩ := He.ba h0
  obtain ⟨y_TooManyStates, h0⟩ := He.ba h0
  obtain ⟨x_TooManyEdits, h0⟩ := He.ba h0
  obtain ⟨y_TooManyEdits, h0⟩ := He.ba h0
  obtain ⟨cl_InvalidStep, h0⟩ := He.ba h0
  obtain ⟨cl_UnknownEvent, h0⟩ := He.ba h0
  obtain ⟨cl_TooLong, h0⟩ := He.ba h0
  obtain ⟨cl_InvalidLog, h0⟩ := He.ba h0
  obtain ⟨cl_InvalidSteps, h0⟩ := He.ba h0
  obtain ⟨cl_InvalidSignature, h0⟩ := He.ba h0
  obtain ⟨cl_InvalidPath, h0⟩ := He.ba h0
  obtain ⟨cl_InvalidEvent, h0⟩ := He.ba h0
  obtain ⟨cl_InvalidEvents, h0⟩ := He.ba h0
  obtain ⟨cl_InvalidNumber, h0⟩ := He.ba h0
  obtain ⟨cl_InvalidTable, h0⟩ := He.ba h0
  obtain ⟨cl_InvalidState, h0⟩ := He.ba h0
  obtain ⟨cl_InvalidReceiver, h0⟩ := He.ba h0
  obtain ⟨cl_InvalidPattern, h0⟩ := He.ba h0
  obtain ⟨cl_InvalidEdges, h0⟩ := He.ba h0
  obtain ⟨cl_InvalidGraph, h0⟩ := He.ba h0
  obtain ⟨cl_InvalidShares, h0⟩ := He.ba h0
  obtain ⟨cl_InvalidProgram, h0⟩ := He.ba h0
  obtain ⟨cl_InvalidText, h0⟩ := He.ba h0
  obtain ⟨cl_InvalidEdit, h0⟩ := He.ba h0
  obtain ⟨cl_InvalidCommand, h0⟩ := He.ba h0
  obtain ⟨cl_EmptyLog, h0⟩ := He.ba h0
  obtain ⟨cl_NoPath, h0⟩ := He.ba h0
  obtain ⟨cl_NotApplicable, h0⟩ := He.ba h0
  obtain ⟨cl_UnknownEffect, h0⟩ := He.ba h0
  obtain ⟨cl_NothingToUndo, h0⟩ := He.ba h0
  obtain ⟨cl_TooManyEvents, h0⟩ := He.ba h0
  obtain ⟨cl_TooManyStates, h0⟩ := He.ba h0
  obtain ⟨cl_TooManyEdits, h0⟩ := He.ba h0
  obtain ⟨ki_InvalidLog, h0⟩ := He.ba h0
  obtain ⟨ki_InvalidStep, h0⟩ := He.ba h0
  obtain ⟨ki_InvalidSteps, h0⟩ := He.ba h0
  obtain ⟨ki_InvalidSignature, h0⟩ := He.ba h0
  obtain ⟨ki_InvalidPath, h0⟩ := He.ba h0
  obtain ⟨ki_InvalidEvent, h0⟩ := He.ba h0
  obtain ⟨ki_InvalidEvents, h0⟩ := He.ba h0
  obtain ⟨ki_InvalidNumber, h0⟩ := He.ba h0
  obtain ⟨ki_InvalidTable, h0⟩ := He.ba h0
  obtain ⟨ki_InvalidState, h0⟩ := He.ba h0
  obtain ⟨ki_InvalidReceiver, h0⟩ := He.ba h0
  obtain ⟨ki_InvalidPattern, h0⟩ := He.ba h0
  obtain ⟨ki_InvalidEdges, h0⟩ := He.ba h0
  obtain ⟨ki_InvalidGraph, h0⟩ := He.ba h0
  obtain ⟨ki_InvalidShares, h0⟩ := He.ba h0
  obtain ⟨ki_InvalidProgram, h0⟩ := He.ba h0
  obtain ⟨ki_InvalidText, h0⟩ := He.ba h0
  obtain ⟨ki_InvalidEdit, h0⟩ := He.ba h0
  obtain ⟨ki_InvalidCommand, h0⟩ := He.ba h0
  obtain ⟨ki_EmptyLog, h0⟩ := He.ba h0
  obtain ⟨ki_NoPath, h0⟩ := He.ba h0
  obtain ⟨ki_NotApplicable, h0⟩ := He.ba h0
  obtain ⟨ki_UnknownEvent, h0⟩ := He.ba h0
  obtain ⟨ki_UnknownEffect, h0⟩ := He.ba h0
  obtain ⟨ki_NothingToUndo, h0⟩ := He.ba h0
  obtain ⟨ki_TooManyEvents, h0⟩ := He.ba h0
  obtain ⟨ki_TooLong, h0⟩ := He.ba h0
  obtain ⟨ki_TooManyStates, h0⟩ := He.ba h0
  obtain ⟨ki_TooManyEdits, h0⟩ := He.ba h0
  obtain ⟨ki_DeliveryError, h0⟩ := He.ba h0
  obtain ⟨ki_SearchError, h0⟩ := He.ba h0
  obtain ⟨ki_LimitError, h0⟩ := He.ba h0
  obtain ⟨ki_ValueError, h0⟩ := He.ba h0
  obtain ⟨ki_LookupError, h0⟩ := He.ba h0
  obtain ⟨ki_ArithmeticError, h0⟩ := He.ba h0
  have hI : ∀ t ∈ (["InvalidStep", "UnknownEvent", "TooLong", "InvalidLog", "InvalidSteps", "InvalidSignature", "InvalidPath", "InvalidEvent", "InvalidEvents", "InvalidNumber", "InvalidTable", "InvalidState", "InvalidReceiver", "InvalidPattern", "InvalidEdges", "InvalidGraph", "InvalidShares", "InvalidProgram", "InvalidText", "InvalidEdit", "InvalidCommand", "EmptyLog", "NoPath", "NotApplicable", "UnknownEffect", "NothingToUndo", "TooManyEvents", "TooManyStates", "TooManyEdits"] : List Str), PySem.W.nsIn K mainGlobals t = some (some (.ref (He.ga K t))) ∧ IscF K (He.ga K t) := by
    intro t ht; simp only [List.mem_cons, List.not_mem_nil, or_false] at ht; rcases ht with rfl | rfl | rfl | rfl | rfl | rfl | rfl | rfl | rfl | rfl | rfl | rfl | rfl | rfl | rfl | rfl | rfl | rfl | rfl | rfl | rfl | rfl | rfl | rfl | rfl | rfl | rfl | rfl | rfl; (· exact ⟨He.eqO_ok (He.ba x_InvalidStep).1, isc_of x_InvalidStep cl_InvalidStep⟩); (· exact ⟨He.eqO_ok (He.ba x_UnknownEvent).1, isc_of x_UnknownEvent cl_UnknownEvent⟩); (· exact ⟨He.eqO_ok (He.ba x_TooLong).1, isc_of x_TooLong cl_TooLong⟩); (· exact ⟨He.eqO_ok (He.ba x_InvalidLog).1, isc_of x_InvalidLog cl_InvalidLog⟩); (· exact ⟨He.eqO_ok (He.ba x_InvalidSteps).1, isc_of x_InvalidSteps cl_InvalidSteps⟩); (· exact ⟨He.eqO_ok (He.ba x_InvalidSignature).1, isc_of x_InvalidSignature cl_InvalidSignature⟩); (· exact ⟨He.eqO_ok (He.ba x_InvalidPath).1, isc_of x_InvalidPath cl_InvalidPath⟩); (· exact ⟨He.eqO_ok (He.ba x_InvalidEvent).1, isc_of x_InvalidEvent cl_InvalidEvent⟩); (· exact ⟨He.eqO_ok (He.ba x_InvalidEvents).1, isc_of x_InvalidEvents cl_InvalidEvents⟩); (· exact ⟨He.eqO_ok (He.ba x_InvalidNumber).1, isc_of x_InvalidNumber cl_InvalidNumber⟩); (· exact ⟨He.eqO_ok (He.ba x_InvalidTable).1, isc_of x_InvalidTable cl_InvalidTable⟩); (· exact ⟨He.eqO_ok (He.ba x_InvalidState).1, isc_of x_InvalidState cl_InvalidState⟩); (· exact ⟨He.eqO_ok (He.ba x_InvalidReceiver).1, isc_of x_InvalidReceiver cl_InvalidReceiver⟩); (· exact ⟨He.eqO_ok (He.ba x_InvalidPattern).1, isc_of x_InvalidPattern cl_InvalidPattern⟩); (· exact ⟨He.eqO_ok (He.ba x_InvalidEdges).1, isc_of x_InvalidEdges cl_InvalidEdges⟩); (· exact ⟨He.eqO_ok (He.ba x_InvalidGraph).1, isc_of x_InvalidGraph cl_InvalidGraph⟩); (· exact ⟨He.eqO_ok (He.ba x_InvalidShares).1, isc_of x_InvalidShares cl_InvalidShares⟩); (· exact ⟨He.eqO_ok (He.ba x_InvalidProgram).1, isc_of x_InvalidProgram cl_InvalidProgram⟩); (· exact ⟨He.eqO_ok (He.ba x_InvalidText).1, isc_of x_InvalidText cl_InvalidText⟩); (· exact ⟨He.eqO_ok (He.ba x_InvalidEdit).1, isc_of x_InvalidEdit cl_InvalidEdit⟩); (· exact ⟨He.eqO_ok (He.ba x_InvalidCommand).1, isc_of x_InvalidCommand cl_InvalidCommand⟩); (· exact ⟨He.eqO_ok (He.ba x_EmptyLog).1, isc_of x_EmptyLog cl_EmptyLog⟩); (· exact ⟨He.eqO_ok (He.ba x_NoPath).1, isc_of x_NoPath cl_NoPath⟩); (· exact ⟨He.eqO_ok (He.ba x_NotApplicable).1, isc_of x_NotApplicable cl_NotApplicable⟩); (· exact ⟨He.eqO_ok (He.ba x_UnknownEffect).1, isc_of x_UnknownEffect cl_UnknownEffect⟩); (· exact ⟨He.eqO_ok (He.ba x_NothingToUndo).1, isc_of x_NothingToUndo cl_NothingToUndo⟩); (· exact ⟨He.eqO_ok (He.ba x_TooManyEvents).1, isc_of x_TooManyEvents cl_TooManyEvents⟩); (· exact ⟨He.eqO_ok (He.ba x_TooManyStates).1, isc_of x_TooManyStates cl_TooManyStates⟩); (· exact ⟨He.eqO_ok (He.ba x_TooManyEdits).1, isc_of x_TooManyEdits cl_TooManyEdits⟩)
  let c0 : C0 K mg := { f_law := He.ga K "law", fd_law := fd_dL_law, F_law := fun_ofD F_dL_law, m_law := He.glo_ok KX G (cD.fact 0 (f := .glo "law") rfl), f__law_limits_right := He.ga K "_law_limits_right", fd__law_limits_right := fd_dL__law_limits_right, F__law_limits_right := fun_ofD F_dL__law_limits_right, m__law_limits_right := He.glo_ok KX G (cD.fact 1 (f := .glo "_law_limits_right") rfl), f__law_cell := He.ga K "_law_cell", fd__law_cell := fd_dL__law_cell, F__law_cell := fun_ofD F_dL__law_cell, m__law_cell := He.glo_ok KX G (cD.fact 2 (f := .glo "_law_cell") rfl), f__law_pool := He.ga K "_law_pool", fd__law_pool := fd_dL__law_pool, F__law_pool := fun_ofD F_dL__law_pool, m__law_pool := He.glo_ok KX G (cD.fact 3 (f := .glo "_law_pool") rfl), f__law_right := He.ga K "_law_right", fd__law_right := fd_dL__law_right, F__law_right := fun_ofD F_dL__law_right, m__law_right := He.glo_ok KX G (cD.fact 4 (f := .glo "_law_right") rfl), f__law_draw := He.ga K "_law_draw", fd__law_draw := fd_dL__law_draw, F__law_draw := fun_ofD F_dL__law_draw, m__law_draw := He.glo_ok KX G (cD.fact 5 (f := .glo "_law_draw") rfl), f__law_first := He.ga K "_law_first", fd__law_first := fd_dL__law_first, F__law_first := fun_ofD F_dL__law_first, m__law_first := He.glo_ok KX G (cD.fact 6 (f := .glo "_law_first") rfl), f__law_second := He.ga K "_law_second", fd__law_second := fd_dL__law_second, F__law_second := fun_ofD F_dL__law_second, m__law_second := He.glo_ok KX G (cD.fact 7 (f := .glo "_law_second") rfl), f__law_third := He.ga K "_law_third", fd__law_third := fd_dL__law_third, F__law_third := fun_ofD F_dL__law_third, m__law_third := He.glo_ok KX G (cD.fact 8 (f := .glo "_law_third") rfl), f__law_caught := He.ga K "_law_caught", fd__law_caught := fd_dL__law_caught, F__law_caught := fun_ofD F_dL__law_caught, m__law_caught := He.glo_ok KX G (cD.fact 9 (f := .glo "_law_caught") rfl), f__law_error := He.ga K "_law_error", fd__law_error := fd_dL__law_error, F__law_error := fun_ofD F_dL__law_error, m__law_error := He.glo_ok KX G (cD.fact 10 (f := .glo "_law_error") rfl), z_all := He.free_ok KX G (cD.fact 11 (f := .free "all") rfl), z_range := He.free_ok KX G (cD.fact 12 (f := .free "range") rfl), z_max := He.free_ok KX G (cD.fact 13 (f := .free "max") rfl), z_min := He.free_ok KX G (cD.fact 14 (f := .free "min") rfl), z_len := He.free_ok KX G (cD.fact 15 (f := .free "len") rfl), z_repr := He.free_ok KX G (cD.fact 16 (f := .free "repr") rfl), z_abs := He.free_ok KX G (cD.fact 17 (f := .free "abs") rfl), z_divmod := He.free_ok KX G (cD.fact 18 (f := .free "divmod") rfl), z_isinstance := He.free_ok KX G (cD.fact 19 (f := .free "isinstance") rfl), z_ValueError := He.free_ok KX G (cD.fact 20 (f := .free "ValueError") rfl), z_LookupError := He.free_ok KX G (cD.fact 21 (f := .free "LookupError") rfl), z_ArithmeticError := He.free_ok KX G (cD.fact 22 (f := .free "ArithmeticError") rfl), g_MAX_EVENTS := int_ofD KX G (cD.fact 23 (f := .int "MAX_EVENTS" 6) rfl), g_MAX_LOG := int_ofD KX G (cD.fact 24 (f := .int "MAX_LOG" 400) rfl), g_MAX_ON_THE_WAY := int_ofD KX G (cD.fact 25 (f := .int "MAX_ON_THE_WAY" 2000) rfl), g_MAX_DERIVED := int_ofD KX G (cD.fact 26 (f := .int "MAX_DERIVED" 10) rfl), g_MAX_STEPS := int_ofD KX G (cD.fact 27 (f := .int "MAX_STEPS" 60000) rfl), g_MAX_REDUCED := int_ofD KX G (cD.fact 28 (f := .int "MAX_REDUCED" 40) rfl), g_FEW_EVENTS := int_ofD KX G (cD.fact 29 (f := .int "FEW_EVENTS" 3) rfl), g_MAX_STATES := int_ofD KX G (cD.fact 30 (f := .int "MAX_STATES" 160) rfl), g_FEW_STATES := int_ofD KX G (cD.fact 31 (f := .int "FEW_STATES" 5) rfl), g_MAX_SEPARATING := int_ofD KX G (cD.fact 32 (f := .int "MAX_SEPARATING" 16) rfl), g_MAX_RECEIVER_EVENTS := int_ofD KX G (cD.fact 33 (f := .int "MAX_RECEIVER_EVENTS" 12) rfl), g_FEW_RECEIVER_EVENTS := int_ofD KX G (cD.fact 34 (f := .int "FEW_RECEIVER_EVENTS" 4) rfl), g_MAX_PATTERN := int_ofD KX G (cD.fact 35 (f := .int "MAX_PATTERN" 60) rfl), g_MAX_MERGED := int_ofD KX G (cD.fact 36 (f := .int "MAX_MERGED" 12) rfl), g_MAX_TIMES := int_ofD KX G (cD.fact 37 (f := .int "MAX_TIMES" 1000000000000000000000000000000) rfl), g_MAX_EDITS := int_ofD KX G (cD.fact 38 (f := .int "MAX_EDITS" 500) rfl), C_InvalidLog := He.ga K "InvalidLog", I_InvalidLog := He.ma K (He.ga K "InvalidLog") "__init__", T_InvalidLog := ext_of KX G PySem.F.excBase_ValueError PySem.F.store_ValueError initF_index x_InvalidLog y_InvalidLog F_dI_InvalidLog, C_InvalidStep := He.ga K "InvalidStep", I_InvalidStep := He.ma K (He.ga K "InvalidStep") "__init__", T_InvalidStep := ext_of KX G PySem.F.excBase_ValueError PySem.F.store_ValueError initF_step x_InvalidStep y_InvalidStep F_dI_InvalidStep, C_InvalidSteps := He.ga K "InvalidSteps", I_InvalidSteps := He.ma K (He.ga K "InvalidSteps") "__init__", T_InvalidSteps := ext_of KX G PySem.F.excBase_ValueError PySem.F.store_ValueError initF_index x_InvalidSteps y_InvalidSteps F_dI_InvalidSteps, C_InvalidSignature := He.ga K "InvalidSignature", I_InvalidSignature := He.ma K (He.ga K "InvalidSignature") "__init__", T_InvalidSignature := ext_of KX G PySem.F.excBase_ValueError PySem.F.store_ValueError initF_signature x_InvalidSignature y_InvalidSignature F_dI_InvalidSignature, C_InvalidPath := He.ga K "InvalidPath", I_InvalidPath := He.ma K (He.ga K "InvalidPath") "__init__", T_InvalidPath := ext_of KX G PySem.F.excBase_ValueError PySem.F.store_ValueError initF_index x_InvalidPath y_InvalidPath F_dI_InvalidPath, C_InvalidEvent := He.ga K "InvalidEvent", I_InvalidEvent := He.ma K (He.ga K "InvalidEvent") "__init__", T_InvalidEvent := ext_of KX G PySem.F.excBase_ValueError PySem.F.store_ValueError initF_event x_InvalidEvent y_InvalidEvent F_dI_InvalidEvent, C_InvalidEvents := He.ga K "InvalidEvents", I_InvalidEvents := He.ma K (He.ga K "InvalidEvents") "__init__", T_InvalidEvents := ext_of KX G PySem.F.excBase_ValueError PySem.F.store_ValueError initF_index x_InvalidEvents y_InvalidEvents F_dI_InvalidEvents, C_InvalidNumber := He.ga K "InvalidNumber", I_InvalidNumber := He.ma K (He.ga K "InvalidNumber") "__init__", T_InvalidNumber := ext_of KX G PySem.F.excBase_ValueError PySem.F.store_ValueError initF_number x_InvalidNumber y_InvalidNumber F_dI_InvalidNumber, C_InvalidTable := He.ga K "InvalidTable", I_InvalidTable := He.ma K (He.ga K "InvalidTable") "__init__", T_InvalidTable := ext_of KX G PySem.F.excBase_ValueError PySem.F.store_ValueError initF_index x_InvalidTable y_InvalidTable F_dI_InvalidTable, C_InvalidState := He.ga K "InvalidState", I_InvalidState := He.ma K (He.ga K "InvalidState") "__init__", T_InvalidState := ext_of KX G PySem.F.excBase_ValueError PySem.F.store_ValueError initF_state x_InvalidState y_InvalidState F_dI_InvalidState, C_InvalidPattern := He.ga K "InvalidPattern", I_InvalidPattern := He.ma K (He.ga K "InvalidPattern") "__init__", T_InvalidPattern := ext_of KX G PySem.F.excBase_ValueError PySem.F.store_ValueError initF_index x_InvalidPattern y_InvalidPattern F_dI_InvalidPattern, C_InvalidEdges := He.ga K "InvalidEdges", I_InvalidEdges := He.ma K (He.ga K "InvalidEdges") "__init__", T_InvalidEdges := ext_of KX G PySem.F.excBase_ValueError PySem.F.store_ValueError initF_index x_InvalidEdges y_InvalidEdges F_dI_InvalidEdges, C_InvalidShares := He.ga K "InvalidShares", I_InvalidShares := He.ma K (He.ga K "InvalidShares") "__init__", T_InvalidShares := ext_of KX G PySem.F.excBase_ValueError PySem.F.store_ValueError initF_index x_InvalidShares y_InvalidShares F_dI_InvalidShares, C_InvalidProgram := He.ga K "InvalidProgram", I_InvalidProgram := He.ma K (He.ga K "InvalidProgram") "__init__", T_InvalidProgram := ext_of KX G PySem.F.excBase_ValueError PySem.F.store_ValueError initF_index x_InvalidProgram y_InvalidProgram F_dI_InvalidProgram, C_InvalidEdit := He.ga K "InvalidEdit", I_InvalidEdit := He.ma K (He.ga K "InvalidEdit") "__init__", T_InvalidEdit := ext_of KX G PySem.F.excBase_ValueError PySem.F.store_ValueError initF_index x_InvalidEdit y_InvalidEdit F_dI_InvalidEdit, C_NoPath := He.ga K "NoPath", I_NoPath := He.ma K (He.ga K "NoPath") "__init__", T_NoPath := ext_of KX G PySem.F.excBase_LookupError PySem.F.store_LookupError initF_index x_NoPath y_NoPath F_dI_NoPath, C_NotApplicable := He.ga K "NotApplicable", I_NotApplicable := He.ma K (He.ga K "NotApplicable") "__init__", T_NotApplicable := ext_of KX G PySem.F.excBase_LookupError PySem.F.store_LookupError initF_step x_NotApplicable y_NotApplicable F_dI_NotApplicable, C_UnknownEvent := He.ga K "UnknownEvent", I_UnknownEvent := He.ma K (He.ga K "UnknownEvent") "__init__", T_UnknownEvent := ext_of KX G PySem.F.excBase_LookupError PySem.F.store_LookupError initF_event x_UnknownEvent y_UnknownEvent F_dI_UnknownEvent, C_InvalidReceiver := He.ga K "InvalidReceiver", I_InvalidReceiver := He.ma K (He.ga K "InvalidReceiver") "__init__", T_InvalidReceiver := ext_of KX G PySem.F.excBase_ValueError PySem.F.store_ValueError initF_receiver x_InvalidReceiver y_InvalidReceiver F_dI_InvalidReceiver, C_InvalidGraph := He.ga K "InvalidGraph", I_InvalidGraph := He.ma K (He.ga K "InvalidGraph") "__init__", T_InvalidGraph := ext_of KX G PySem.F.excBase_ValueError PySem.F.store_ValueError initF_graph x_InvalidGraph y_InvalidGraph F_dI_InvalidGraph, C_InvalidText := He.ga K "InvalidText", I_InvalidText := He.ma K (He.ga K "InvalidText") "__init__", T_InvalidText := ext_of KX G PySem.F.excBase_ValueError PySem.F.store_ValueError initF_text x_InvalidText y_InvalidText F_dI_InvalidText, C_InvalidCommand := He.ga K "InvalidCommand", I_InvalidCommand := He.ma K (He.ga K "InvalidCommand") "__init__", T_InvalidCommand := ext_of KX G PySem.F.excBase_ValueError PySem.F.store_ValueError initF_line x_InvalidCommand y_InvalidCommand F_dI_InvalidCommand, C_EmptyLog := He.ga K "EmptyLog", T_EmptyLog := exb_of KX G PySem.F.excBase_LookupError PySem.F.store_LookupError x_EmptyLog y_EmptyLog, C_UnknownEffect := He.ga K "UnknownEffect", I_UnknownEffect := He.ma K (He.ga K "UnknownEffect") "__init__", T_UnknownEffect := ext_of KX G PySem.F.excBase_LookupError PySem.F.store_LookupError initF_effect x_UnknownEffect y_UnknownEffect F_dI_UnknownEffect, C_NothingToUndo := He.ga K "NothingToUndo", T_NothingToUndo := exb_of KX G PySem.F.excBase_LookupError PySem.F.store_LookupError x_NothingToUndo y_NothingToUndo, C_TooManyEvents := He.ga K "TooManyEvents", I_TooManyEvents := He.ma K (He.ga K "TooManyEvents") "__init__", T_TooManyEvents := ext_of KX G PySem.F.excBase_ArithmeticError PySem.F.store_ArithmeticError initF_count x_TooManyEvents y_TooManyEvents F_dI_TooManyEvents, C_TooLong := He.ga K "TooLong", I_TooLong := He.ma K (He.ga K "TooLong") "__init__", T_TooLong := ext_of KX G PySem.F.excBase_ArithmeticError PySem.F.store_ArithmeticError initF_length x_TooLong y_TooLong F_dI_TooLong, C_TooManyStates := He.ga K "TooManyStates", I_TooManyStates := He.ma K (He.ga K "TooManyStates") "__init__", T_TooManyStates := ext_of KX G PySem.F.excBase_ArithmeticError PySem.F.store_ArithmeticError initF_count x_TooManyStates y_TooManyStates F_dI_TooManyStates, C_TooManyEdits := He.ga K "TooManyEdits", I_TooManyEdits := He.ma K (He.ga K "TooManyEdits") "__init__", T_TooManyEdits := ext_of KX G PySem.F.excBase_ArithmeticError PySem.F.store_ArithmeticError initF_count x_TooManyEdits y_TooManyEdits F_dI_TooManyEdits, CH_DeliveryError := He.ga K "DeliveryError", mH_DeliveryError := He.glo_ok KX G (cD.fact 39 (f := .glo "DeliveryError") rfl), hA_DeliveryError := by intro t ht; simp only [List.mem_cons, List.not_mem_nil, or_false] at ht; rcases ht with rfl | rfl | rfl; (· exact ⟨_, He.eqO_ok (He.ba x_InvalidStep).1, of_decide_eq_true (cD.fact 71 (f := .exm "InvalidStep" "DeliveryError" true) rfl)⟩); (· exact ⟨_, He.eqO_ok (He.ba x_UnknownEvent).1, of_decide_eq_true (cD.fact 72 (f := .exm "UnknownEvent" "DeliveryError" false) rfl)⟩); (· exact ⟨_, He.eqO_ok (He.ba x_TooLong).1, of_decide_eq_true (cD.fact 73 (f := .exm "TooLong" "DeliveryError" false) rfl)⟩), CH_SearchError := He.ga K "SearchError", mH_SearchError := He.glo_ok KX G (cD.fact 40 (f := .glo "SearchError") rfl), hA_SearchError := by intro t ht; simp only [List.mem_cons, List.not_mem_nil, or_false] at ht; rcases ht with rfl | rfl | rfl; (· exact ⟨_, He.eqO_ok (He.ba x_InvalidStep).1, of_decide_eq_true (cD.fact 74 (f := .exm "InvalidStep" "SearchError" false) rfl)⟩); (· exact ⟨_, He.eqO_ok (He.ba x_UnknownEvent).1, of_decide_eq_true (cD.fact 75 (f := .exm "UnknownEvent" "SearchError" true) rfl)⟩); (· exact ⟨_, He.eqO_ok (He.ba x_TooLong).1, of_decide_eq_true (cD.fact 76 (f := .exm "TooLong" "SearchError" false) rfl)⟩), CH_LimitError := He.ga K "LimitError", mH_LimitError := He.glo_ok KX G (cD.fact 41 (f := .glo "LimitError") rfl), hA_LimitError := by intro t ht; simp only [List.mem_cons, List.not_mem_nil, or_false] at ht; rcases ht with rfl | rfl | rfl; (· exact ⟨_, He.eqO_ok (He.ba x_InvalidStep).1, of_decide_eq_true (cD.fact 77 (f := .exm "InvalidStep" "LimitError" false) rfl)⟩); (· exact ⟨_, He.eqO_ok (He.ba x_UnknownEvent).1, of_decide_eq_true (cD.fact 78 (f := .exm "UnknownEvent" "LimitError" false) rfl)⟩); (· exact ⟨_, He.eqO_ok (He.ba x_TooLong).1, of_decide_eq_true (cD.fact 79 (f := .exm "TooLong" "LimitError" true) rfl)⟩), CI_InvalidLog := He.ga K "InvalidLog", mI_InvalidLog := He.glo_ok KX G (cD.fact 42 (f := .glo "InvalidLog") rfl), kI_InvalidLog := kit_of hI ki_InvalidLog, CI_InvalidStep := He.ga K "InvalidStep", mI_InvalidStep := He.glo_ok KX G (cD.fact 43 (f := .glo "InvalidStep") rfl), kI_InvalidStep := kit_of hI ki_InvalidStep, CI_InvalidSteps := He.ga K "InvalidSteps", mI_InvalidSteps := He.glo_ok KX G (cD.fact 44 (f := .glo "InvalidSteps") rfl), kI_InvalidSteps := kit_of hI ki_InvalidSteps, CI_InvalidSignature := He.ga K "InvalidSignature", mI_InvalidSignature := He.glo_ok KX G (cD.fact 45 (f := .glo "InvalidSignature") rfl), kI_InvalidSignature := kit_of hI ki_InvalidSignature, CI_InvalidPath := He.ga K "InvalidPath", mI_InvalidPath := He.glo_ok KX G (cD.fact 46 (f := .glo "InvalidPath") rfl), kI_InvalidPath := kit_of hI ki_InvalidPath, CI_InvalidEvent := He.ga K "InvalidEvent", mI_InvalidEvent := He.glo_ok KX G (cD.fact 47 (f := .glo "InvalidEvent") rfl), kI_InvalidEvent := kit_of hI ki_InvalidEvent, CI_InvalidEvents := He.ga K "InvalidEvents", mI_InvalidEvents := He.glo_ok KX G (cD.fact 48 (f := .glo "InvalidEvents") rfl), kI_InvalidEvents := kit_of hI ki_InvalidEvents, CI_InvalidNumber := He.ga K "InvalidNumber", mI_InvalidNumber := He.glo_ok KX G (cD.fact 49 (f := .glo "InvalidNumber") rfl), kI_InvalidNumber := kit_of hI ki_InvalidNumber, CI_InvalidTable := He.ga K "InvalidTable", mI_InvalidTable := He.glo_ok KX G (cD.fact 50 (f := .glo "InvalidTable") rfl), kI_InvalidTable := kit_of hI ki_InvalidTable, CI_InvalidState := He.ga K "InvalidState", mI_InvalidState := He.glo_ok KX G (cD.fact 51 (f := .glo "InvalidState") rfl), kI_InvalidState := kit_of hI ki_InvalidState, CI_InvalidReceiver := He.ga K "InvalidReceiver", mI_InvalidReceiver := He.glo_ok KX G (cD.fact 52 (f := .glo "InvalidReceiver") rfl), kI_InvalidReceiver := kit_of hI ki_InvalidReceiver, CI_InvalidPattern := He.ga K "InvalidPattern", mI_InvalidPattern := He.glo_ok KX G (cD.fact 53 (f := .glo "InvalidPattern") rfl), kI_InvalidPattern := kit_of hI ki_InvalidPattern, CI_InvalidEdges := He.ga K "InvalidEdges", mI_InvalidEdges := He.glo_ok KX G (cD.fact 54 (f := .glo "InvalidEdges") rfl), kI_InvalidEdges := kit_of hI ki_InvalidEdges, CI_InvalidGraph := He.ga K "InvalidGraph", mI_InvalidGraph := He.glo_ok KX G (cD.fact 55 (f := .glo "InvalidGraph") rfl), kI_InvalidGraph := kit_of hI ki_InvalidGraph, CI_InvalidShares := He.ga K "InvalidShares", mI_InvalidShares := He.glo_ok KX G (cD.fact 56 (f := .glo "InvalidShares") rfl), kI_InvalidShares := kit_of hI ki_InvalidShares, CI_InvalidProgram := He.ga K "InvalidProgram", mI_InvalidProgram := He.glo_ok KX G (cD.fact 57 (f := .glo "InvalidProgram") rfl), kI_InvalidProgram := kit_of hI ki_InvalidProgram, CI_InvalidText := He.ga K "InvalidText", mI_InvalidText := He.glo_ok KX G (cD.fact 58 (f := .glo "InvalidText") rfl), kI_InvalidText := kit_of hI ki_InvalidText, CI_InvalidEdit := He.ga K "InvalidEdit", mI_InvalidEdit := He.glo_ok KX G (cD.fact 59 (f := .glo "InvalidEdit") rfl), kI_InvalidEdit := kit_of hI ki_InvalidEdit, CI_InvalidCommand := He.ga K "InvalidCommand", mI_InvalidCommand := He.glo_ok KX G (cD.fact 60 (f := .glo "InvalidCommand") rfl), kI_InvalidCommand := kit_of hI ki_InvalidCommand, CI_EmptyLog := He.ga K "EmptyLog", mI_EmptyLog := He.glo_ok KX G (cD.fact 61 (f := .glo "EmptyLog") rfl), kI_EmptyLog := kit_of hI ki_EmptyLog, CI_NoPath := He.ga K "NoPath", mI_NoPath := He.glo_ok KX G (cD.fact 62 (f := .glo "NoPath") rfl), kI_NoPath := kit_of hI ki_NoPath, CI_NotApplicable := He.ga K "NotApplicable", mI_NotApplicable := He.glo_ok KX G (cD.fact 63 (f := .glo "NotApplicable") rfl), kI_NotApplicable := kit_of hI ki_NotApplicable, CI_UnknownEvent := He.ga K "UnknownEvent", mI_UnknownEvent := He.glo_ok KX G (cD.fact 64 (f := .glo "UnknownEvent") rfl), kI_UnknownEvent := kit_of hI ki_UnknownEvent, CI_UnknownEffect := He.ga K "UnknownEffect", mI_UnknownEffect := He.glo_ok KX G (cD.fact 65 (f := .glo "UnknownEffect") rfl), kI_UnknownEffect := kit_of hI ki_UnknownEffect, CI_NothingToUndo := He.ga K "NothingToUndo", mI_NothingToUndo := He.glo_ok KX G (cD.fact 66 (f := .glo "NothingToUndo") rfl), kI_NothingToUndo := kit_of hI ki_NothingToUndo, CI_TooManyEvents := He.ga K "TooManyEvents", mI_TooManyEvents := He.glo_ok KX G (cD.fact 67 (f := .glo "TooManyEvents") rfl), kI_TooManyEvents := kit_of hI ki_TooManyEvents, CI_TooLong := He.ga K "TooLong", mI_TooLong := He.glo_ok KX G (cD.fact 68 (f := .glo "TooLong") rfl), kI_TooLong := kit_of hI ki_TooLong, CI_TooManyStates := He.ga K "TooManyStates", mI_TooManyStates := He.glo_ok KX G (cD.fact 69 (f := .glo "TooManyStates") rfl), kI_TooManyStates := kit_of hI ki_TooManyStates, CI_TooManyEdits := He.ga K "TooManyEdits", mI_TooManyEdits := He.glo_ok KX G (cD.fact 70 (f := .glo "TooManyEdits") rfl), kI_TooManyEdits := kit_of hI ki_TooManyEdits, CI_DeliveryError := He.ga K "DeliveryError", mI_DeliveryError := He.glo_ok KX G (cD.fact 39 (f := .glo "DeliveryError") rfl), kI_DeliveryError := kit_of hI ki_DeliveryError, CI_SearchError := He.ga K "SearchError", mI_SearchError := He.glo_ok KX G (cD.fact 40 (f := .glo "SearchError") rfl), kI_SearchError := kit_of hI ki_SearchError, CI_LimitError := He.ga K "LimitError", mI_LimitError := He.glo_ok KX G (cD.fact 41 (f := .glo "LimitError") rfl), kI_LimitError := kit_of hI ki_LimitError, kI_ValueError := kit_of hI ki_ValueError, kI_LookupError := kit_of hI ki_LookupError, kI_ArithmeticError := kit_of hI ki_ArithmeticError }
  cases hfa.symm.trans (He.glo_ok KX G (cD.fact 0 (f := .glo "law") rfl))
  refine ⟨[], fd_dL_law, fun p hp => ?_, fun s v => FunD.bindsA (ps := ["_law_script"]) F_dL_law (fun _ _ _ _ _ _ us hl => match us, hl with | [_], _ => rfl) s [v] rfl, fun base _ _ tb sm => ?_⟩
  · cases hp
  · letI : Wd := ⟨w, ([] : List ((Addr × Addr) × Str)).map fun p => (p.1.2, p.2)⟩
    exact (all_n (P := l.prog) (base := base) (W := 5000) c0 (sm True.intro) 60).n_law

end RV
/-! LRE: the text of small data that may hold {}, lists or not. -/
namespace RV
open PySem
structure SmE (k n : Nat) (d : D) : Prop where
  dt : dat d = true
  sh : (pyD d).showable = true
  lv : (pyD d).leavesShort 201 = true
  em : eD (pyD d) = true
  dp : (pyD d).depth ≤ k
  wt : (pyD d).weight ≤ n
structure SmEL (k n : Nat) (d : List D) : Prop where
  dt : datL d = true
  sh : PyData.showableAll (pyL d) = true
  lv : PyData.leavesShortAll 201 (pyL d) = true
  em : eDL (pyL d) = true
  dp : PyData.depthAll (pyL d) ≤ k
  wt : PyData.weightAll (pyL d) ≤ n
theorem SmE.nr {k n : Nat} {d : D} (h : SmE k n d) : noRef d = true := dat_no h.dt
theorem SmEL.nr {k n : Nat} {d : List D} (h : SmEL k n d) : noRefL d = true := datL_no h.dt
theorem SmE.mono {k n k' n' : Nat} {d : D} (h : SmE k n d) (hk : k ≤ k') (hn : n ≤ n') : SmE k' n' d := ⟨h.dt, h.sh, h.lv, h.em, Nat.le_trans h.dp hk, Nat.le_trans h.wt hn⟩
theorem SmEL.mono {k n k' n' : Nat} {d : List D} (h : SmEL k n d) (hk : k ≤ k') (hn : n ≤ n') : SmEL k' n' d := ⟨h.dt, h.sh, h.lv, h.em, Nat.le_trans h.dp hk, Nat.le_trans h.wt hn⟩
theorem SmEL.nil : SmEL 0 0 [] := ⟨rfl, rfl, rfl, rfl, Nat.le_refl _, Nat.le_refl _⟩
theorem SmEL.cons {k k' n m : Nat} {d : D} {ds : List D} (h : SmE k n d) (t : SmEL k' m ds) : SmEL (max k k') (n + 1 + m) (d :: ds) := by
  refine ⟨by rw [datL, h.dt, t.dt]; rfl, by rw [pyL, PyData.showableAll, h.sh, t.sh]; rfl, by rw [pyL, PyData.leavesShortAll, h.lv, t.lv]; rfl, by rw [pyL, eDL, h.em, t.em]; rfl, ?_, ?_⟩
  · rw [pyL, PyData.depthAll]
    have := h.dp; have := t.dp
    omega
  · rw [pyL, PyData.weightAll]
    have := h.wt; have := t.wt
    omega
theorem SmE.tup {k n : Nat} {ds : List D} (h : SmEL k n ds) : SmE (k + 1) n (.tup ds) := by
  refine ⟨by rw [dat]; exact h.dt, by rw [pyD, PyData.showable]; exact h.sh, by rw [pyD, PyData.leavesShort]; exact h.lv, by rw [pyD, eD]; exact h.em, ?_, by rw [pyD, PyData.weight]; exact h.wt⟩
  rw [pyD, PyData.depth]
  exact Nat.succ_le_succ h.dp
theorem SmE.fl {k n : Nat} {ds : List D} (h : SmEL k n ds) : SmE (k + 1) n (.fl ds) := by
  refine ⟨by rw [dat]; exact h.dt, by rw [pyD, PyData.showable]; exact h.sh, by rw [pyD, PyData.leavesShort]; exact h.lv, by rw [pyD, eD]; exact h.em, ?_, by rw [pyD, PyData.weight]; exact h.wt⟩
  rw [pyD, PyData.depth]
  exact Nat.succ_le_succ h.dp
theorem SmE.ed : SmE 1 0 .ed := ⟨SmD.ed.dt, SmD.ed.sh, SmD.ed.lv, by rw [pyD]; rfl, SmD.ed.dp, SmD.ed.wt⟩
mutual
theorem em_of : ∀ {d : PyData}, d.hasDict = false → eD d = true
  | .none, _ => rfl
  | .bool _, _ => rfl
  | .int _, _ => rfl
  | .str _, _ => rfl
  | .list xs, h => by rw [PyData.hasDict] at h; rw [eD]; exact em_ofL h
  | .tuple xs, h => by rw [PyData.hasDict] at h; rw [eD]; exact em_ofL h
  | .dict kvs, h => by rw [PyData.hasDict] at h; cases h
theorem em_ofL : ∀ {ds : List PyData}, PyData.hasDictAll ds = false → eDL ds = true
  | [], _ => rfl
  | d :: ds, h => by
    rw [PyData.hasDictAll, Bool.or_eq_false_iff] at h
    rw [eDL, em_of h.1, em_ofL h.2]
    rfl
end
theorem Sm.toE {k n : Nat} {d : D} (h : Sm k n d) : SmE k n d := ⟨h.dt, h.sh, h.lv, em_of h.hd, h.dp, h.wt⟩
theorem SmL.toE {k n : Nat} {d : List D} (h : SmL k n d) : SmEL k n d := ⟨h.dt, h.sh, h.lv, em_ofL h.hd, h.dp, h.wt⟩
theorem repr_E {st : Sto} {d : D} {k n : Nat} {P : D → Sto → Prop} (h : SmE k n d) (hk : k ≤ 64 := by decide) (hn : n ≤ 80000 := by decide) : RunM (bReprE [d]) st P = P (.str (rp d)) st := by
  unfold bReprE reprDE
  simp only [runM_bind, asPy_no h.dt, runM_guard, runM_pure]
  have ln : (pyD d).shown.length ≤ sizeLine := by
    have := PyData.shown_le 201 (by decide) (pyD d) h.lv
    have e : sizeLine = 16777216 := rfl
    have h6 : (201 + 2) * (pyD d).weight ≤ 203 * 80000 := Nat.mul_le_mul (by decide) (Nat.le_trans h.wt hn)
    omega
  rw [h.sh, decide_eq_true (Nat.le_trans h.dp hk), decide_eq_true ln, h.em]
  simp only [Bool.and_self, true_and]
  rfl
end RV

set_option maxHeartbeats 4000000
/-! Lk93a: errors made of a value, told apart. -/
namespace RV
open PySem
theorem has_draw : HasDraw tab := ⟨rfl, rfl, rfl⟩
variable {W m : Nat}
def e2 (t f : Str) (d : D) : D := .fl [.ob t [f] [d], .ob t [f] [d]]
def e0 (t : Str) : D := .fl [.ob t [] [], .ob t [] []]
def made1 (d : D) : List D := [e2 "InvalidLog" "index" d, e2 "InvalidStep" "step" d, e2 "InvalidSteps" "index" d, e2 "InvalidSignature" "signature" d, e2 "InvalidPath" "index" d, e2 "InvalidEvent" "event" d, e2 "InvalidEvents" "index" d, e2 "InvalidNumber" "number" d, e2 "InvalidTable" "index" d, e2 "InvalidState" "state" d]
def made2 (d : D) : List D := [e2 "InvalidReceiver" "receiver" d, e2 "InvalidPattern" "index" d, e2 "InvalidEdges" "index" d, e2 "InvalidGraph" "graph" d, e2 "InvalidShares" "index" d, e2 "InvalidProgram" "index" d, e2 "InvalidText" "text" d, e2 "InvalidEdit" "index" d, e2 "InvalidCommand" "line" d]
def made3 (d : D) : List D := [e0 "EmptyLog", e2 "NoPath" "index" d, e2 "NotApplicable" "step" d, e2 "UnknownEvent" "event" d, e2 "UnknownEffect" "effect" d, e0 "NothingToUndo", e2 "TooManyEvents" "count" d, e2 "TooLong" "length" d, e2 "TooManyStates" "count" d, e2 "TooManyEdits" "count" d]
def flds (n : Nat) (d : D) : List D := List.replicate n (.fl [d, d])
def ten (v : Int) : List D := [.int v, .int 0, .non, .bl true, .str (Str.ofString ""), .str (Str.ofString "merge"), .tup [], .tup [.str (Str.ofString "merge"), .int 0, .int v], .fl [.int v], .ed]
theorem ten_nr {v : Int} : ∀ d ∈ ten v, noRef d = true := by
  intro d hd
  unfold ten at hd
  simp only [List.mem_cons, List.not_mem_nil, or_false] at hd
  rcases hd with rfl | rfl | rfl | rfl | rfl | rfl | rfl | rfl | rfl | rfl <;> rfl
theorem first_ok {v : Int} : ∀ d ∈ ten v, runF tab W (m + 3) "_law_first" [d] = N.pure (.fl [.fl (made1 d), .fl (flds 10 d)]) := by
  intro d hd
  have nr := ten_nr d hd
  refine go_pure (env := [some d, none, none, none, none]) lk__law_first rfl rfl rfl (by rw [noRefL, nr]; rfl) rfl ?_
  show Run (N.bind (runSs _ W c__law_first _) fin) _ _ _
  have e : N.bind (runSs (runF tab W (m + 2)) W c__law_first [some d, none, none, none, none]) fin [] = .ok (.fl [.ref 0, .ref 1]) [.lst (made1 d), .lst (flds 10 d)] := by
    unfold ten at hd
    simp only [List.mem_cons, List.not_mem_nil, or_false] at hd
    rcases hd with rfl | rfl | rfl | rfl | rfl | rfl | rfl | rfl | rfl | rfl <;> kernel_rfl
  unfold Run
  rw [e]
  show fz _ 0 _ = some _
  unfold ten at hd
  simp only [List.mem_cons, List.not_mem_nil, or_false] at hd
  rcases hd with rfl | rfl | rfl | rfl | rfl | rfl | rfl | rfl | rfl | rfl <;> kernel_rfl
theorem second_ok {v : Int} : ∀ d ∈ ten v, runF tab W (m + 3) "_law_second" [d] = N.pure (.fl [.fl (made2 d), .fl (flds 9 d)]) := by
  intro d hd
  have nr := ten_nr d hd
  refine go_pure (env := [some d, none, none, none, none]) lk__law_second rfl rfl rfl (by rw [noRefL, nr]; rfl) rfl ?_
  show Run (N.bind (runSs _ W c__law_second _) fin) _ _ _
  have e : N.bind (runSs (runF tab W (m + 2)) W c__law_second [some d, none, none, none, none]) fin [] = .ok (.fl [.ref 0, .ref 1]) [.lst (made2 d), .lst (flds 9 d)] := by
    unfold ten at hd
    simp only [List.mem_cons, List.not_mem_nil, or_false] at hd
    rcases hd with rfl | rfl | rfl | rfl | rfl | rfl | rfl | rfl | rfl | rfl <;> kernel_rfl
  unfold Run
  rw [e]
  show fz _ 0 _ = some _
  unfold ten at hd
  simp only [List.mem_cons, List.not_mem_nil, or_false] at hd
  rcases hd with rfl | rfl | rfl | rfl | rfl | rfl | rfl | rfl | rfl | rfl <;> kernel_rfl
theorem third_ok {v : Int} : ∀ d ∈ ten v, runF tab W (m + 3) "_law_third" [d] = N.pure (.fl [.fl (made3 d), .fl (flds 8 d)]) := by
  intro d hd
  have nr := ten_nr d hd
  refine go_pure (env := [some d, none, none, none, none]) lk__law_third rfl rfl rfl (by rw [noRefL, nr]; rfl) rfl ?_
  show Run (N.bind (runSs _ W c__law_third _) fin) _ _ _
  have e : N.bind (runSs (runF tab W (m + 2)) W c__law_third [some d, none, none, none, none]) fin [] = .ok (.fl [.ref 0, .ref 1]) [.lst (made3 d), .lst (flds 8 d)] := by
    unfold ten at hd
    simp only [List.mem_cons, List.not_mem_nil, or_false] at hd
    rcases hd with rfl | rfl | rfl | rfl | rfl | rfl | rfl | rfl | rfl | rfl <;> kernel_rfl
  unfold Run
  rw [e]
  show fz _ 0 _ = some _
  unfold ten at hd
  simp only [List.mem_cons, List.not_mem_nil, or_false] at hd
  rcases hd with rfl | rfl | rfl | rfl | rfl | rfl | rfl | rfl | rfl | rfl <;> kernel_rfl
theorem caught_ok {v : Int} : ∀ d ∈ ten v, runF tab W (m + 1) "_law_caught" [d] = N.pure (.fl [d, d, d]) := by
  intro d hd
  have nr := ten_nr d hd
  refine go_pure (env := [some d, none, none]) lk__law_caught rfl rfl rfl (by rw [noRefL, nr]; rfl) rfl ?_
  show Run (N.bind (runSs _ W c__law_caught _) fin) _ _ _
  have e : N.bind (runSs (runF tab W m) W c__law_caught [some d, none, none]) fin [] = .ok (.ref 0) [.lst [d, d, d]] := by
    unfold ten at hd
    simp only [List.mem_cons, List.not_mem_nil, or_false] at hd
    rcases hd with rfl | rfl | rfl | rfl | rfl | rfl | rfl | rfl | rfl | rfl <;> kernel_rfl
  unfold Run
  rw [e]
  show fz _ 0 _ = some _
  unfold ten at hd
  simp only [List.mem_cons, List.not_mem_nil, or_false] at hd
  rcases hd with rfl | rfl | rfl | rfl | rfl | rfl | rfl | rfl | rfl | rfl <;> kernel_rfl
theorem limits_ok : runF tab W (m + 1) "_law_limits_right" [] = N.pure (.bl true) := by
  refine go_pure (env := [none, none]) lk__law_limits_right rfl rfl rfl rfl rfl ?_
  show Run (N.bind (runSs _ W c__law_limits_right _) fin) _ _ _
  have e : N.bind (runSs (runF tab W m) W c__law_limits_right [none, none]) fin [] = .ok (.bl true) [] := by kernel_rfl
  unfold Run
  rw [e]
  rfl
end RV

namespace RV
open PySem
def k_is_event : Ss := (.cons (.ite (.or (.not (.isi (.var 0) .str)) (.not (.chn .le .le (.cst (.int 1)) (.bif .len (.cons (.var 0) .nil)) (.cst (.int 6))))) (.cons (.ret (.cst (.bl false))) .nil) .nil) (.cons (.ret (.bif .all (.cons (.frz (.comp (.cmp .in_ (.var 1) (.cst (.str "abcdefghijklmnopqrstuvwxyz"))) (.nm 1) (.seq (.var 0)) .no [1])) .nil))) .nil))
def k_fault_of_log : Ss := (.cons (.ite (.or (.not (.isi (.var 0) .tuple)) (.cmp .gt (.bif .len (.cons (.var 0) .nil)) (.cst (.int 400)))) (.cons (.ret (.tup (.cons (.cst .non) .nil))) .nil) .nil) (.cons (.asg (.nm 1) (.lst .nil)) (.cons (.for_ (.tp (.cons (.nm 2) (.cons (.nm 3) .nil))) (.enum (.var 0)) (.cons (.ite (.not (.call "is_event" (.cons (.var 3) .nil))) (.cons (.ret (.tup (.cons (.var 2) .nil))) .nil) .nil) (.cons (.ite (.cmp .notIn (.var 3) (.var 1)) (.cons (.expr (.mth .append (.var 1) (.cons (.var 3) .nil))) .nil) .nil) (.cons (.ite (.cmp .gt (.bif .len (.cons (.var 1) .nil)) (.cst (.int 6))) (.cons (.ret (.tup (.cons (.var 2) .nil))) .nil) .nil) .nil)))) (.cons (.ret (.cst .non)) .nil))))
def k_check_log : Ss := (.cons (.asg (.nm 1) (.call "fault_of_log" (.cons (.var 0) .nil))) (.cons (.ite (.cmp .isNot (.var 1) (.cst .non)) (.cons (.raise1 "InvalidLog" "index" (.idx (.var 1) (.cst (.int 0)))) .nil) .nil) .nil))
def k_events_in : Ss := (.cons (.ret (.bif .tup1 (.cons (.frz (.bif .sortedSet (.cons (.var 0) .nil))) .nil))) .nil)
def k__law_signs : Ss := (.cons (.asg (.nm 2) (.frz (.lst (.cons (.cst (.str "append")) (.cons (.cst (.str "undo")) (.cons (.cst (.str "log")) (.cons (.cst (.str "same")) (.cons (.cst (.str "normal")) (.cons (.cst (.str "merge")) (.cons (.cst (.str "a")) (.cons (.cst (.str "b")) (.cons (.cst (.str "newest")) (.cons (.cst (.str "short")) (.cons (.cst (.str "none")) (.cons (.cst (.str "check")) .nil))))))))))))))) (.cons (.asg (.tp (.cons (.nm 3) (.cons (.nm 4) .nil))) (.tup (.cons (.call "_law_draw" (.cons (.var 0) (.cons (.cst (.int 12)) .nil))) (.cons (.idx (.frz (.lst (.cons (.cst (.int 1)) (.cons (.cst (.int 5)) (.cons (.cst (.int 7)) (.cons (.cst (.int 11)) .nil)))))) (.call "_law_draw" (.cons (.var 0) (.cons (.cst (.int 4)) .nil)))) .nil)))) (.cons (.ite (.cmp .eq (.call "_law_draw" (.cons (.var 0) (.cons (.cst (.int 4)) .nil))) (.cst (.int 1))) (.cons (.ret (.frz (.bif .sorted (.cons (.frz (.comp (.idx (.var 2) (.bin .mod (.bin .add (.var 3) (.bin .mul (.var 4) (.var 10))) (.cst (.int 12)))) (.nm 10) (.rng (.var 1)) .no [10])) .nil)))) .nil) .nil) (.cons (.asg (.nm 5) (.cst (.str "abcdefghijklmnopqrstuvwxyz"))) (.cons (.asg (.nm 6) (.mth .join (.cst (.str "")) (.cons (.frz (.comp (.idx (.var 5) (.call "_law_draw" (.cons (.var 0) (.cons (.cst (.int 26)) .nil)))) (.nm 10) (.rng (.call "_law_draw" (.cons (.var 0) (.cons (.cst (.int 6)) .nil)))) .no [10])) .nil))) (.cons (.asg (.tp (.cons (.nm 7) (.cons (.nm 8) .nil))) (.tup (.cons (.call "_law_draw" (.cons (.var 0) (.cons (.bin .add (.bif .len (.cons (.var 6) .nil)) (.cst (.int 1))) .nil))) (.cons (.call "_law_draw" (.cons (.var 0) (.cons (.cst (.int 26)) .nil))) .nil)))) (.cons (.asg (.nm 9) (.frz (.comp (.idx (.var 5) (.bin .mod (.bin .add (.var 8) (.bin .mul (.var 4) (.var 10))) (.cst (.int 26)))) (.nm 10) (.rng (.var 1)) .no [10]))) (.cons (.ret (.frz (.bif .sorted (.cons (.frz (.comp (.bin .add (.bin .add (.slc (.var 6) .no (.so (.var 7))) (.var 11)) (.slc (.var 6) (.so (.var 7)) .no)) (.nm 11) (.seq (.var 9)) .no [11])) .nil)))) .nil))))))))
def k__law_trail : Ss := (.cons (.asg (.tp (.cons (.nm 3) (.cons (.nm 4) .nil))) (.tup (.cons (.tup .nil) (.cons (.call "_law_draw" (.cons (.var 0) (.cons (.cst (.int 4)) .nil))) .nil)))) (.cons (.for_ (.nm 5) (.rng (.bin .mul (.call "_law_draw" (.cons (.var 0) (.cons (.bin .add (.var 2) (.cst (.int 1))) .nil))) (.bif .int1 (.cons (.cmp .ne (.var 1) (.frz (.lst .nil))) .nil)))) (.cons (.asg (.nm 6) (.ite (.cmp .gt (.var 4) (.cst (.int 0))) (.var 1) (.frz (.slc (.var 1) .no (.so (.bin .add (.cst (.int 1)) (.call "_law_draw" (.cons (.var 0) (.cons (.bif .len (.cons (.var 1) .nil)) .nil))))))))) (.cons (.asg (.nm 3) (.bin .add (.var 3) (.tup (.cons (.idx (.var 6) (.call "_law_draw" (.cons (.var 0) (.cons (.bif .len (.cons (.var 6) .nil)) .nil)))) .nil)))) (.cons (.ite (.and (.cmp .eq (.var 4) (.cst (.int 3))) (.cmp .eq (.call "_law_draw" (.cons (.var 0) (.cons (.cst (.int 4)) .nil))) (.cst (.int 0)))) (.cons (.asg (.nm 3) (.slc (.bin .add (.var 3) (.slc (.var 3) (.so (.call "_law_draw" (.cons (.var 0) (.cons (.bif .len (.cons (.var 3) .nil)) .nil)))) .no)) .no (.so (.var 2)))) .nil) .nil) .nil)))) (.cons (.ret (.slc (.var 3) .no (.so (.var 2)))) .nil)))
def k_parts_of : Ss := (.cons (.asg (.tp (.cons (.nm 1) (.cons (.nm 2) .nil))) (.tup (.cons (.call "events_in" (.cons (.var 0) .nil)) (.cons (.rev (.var 0)) .nil)))) (.cons (.asg (.nm 3) (.bif .max1 (.cons (.frz (.comp (.mth .index (.var 0) (.cons (.var 5) .nil)) (.nm 5) (.seq (.var 1)) .no [5])) .nil))) (.cons (.asg (.nm 4) (.bin .sub (.bin .sub (.bif .len (.cons (.var 0) .nil)) (.cst (.int 1))) (.bif .max1 (.cons (.frz (.comp (.mth .index (.var 2) (.cons (.var 5) .nil)) (.nm 5) (.seq (.var 1)) .no [5])) .nil)))) (.cons (.ret (.tup (.cons (.slc (.var 0) .no (.so (.var 3))) (.cons (.idx (.var 0) (.var 3)) (.cons (.idx (.var 0) (.var 4)) (.cons (.slc (.var 0) (.so (.bin .add (.var 4) (.cst (.int 1)))) .no) .nil)))))) .nil))))
def k_signature_in : Ss := (.cons (.ite (.cmp .eq (.var 0) (.tup .nil)) (.cons (.ret (.tup .nil)) .nil) .nil) (.cons (.asg (.tp (.cons (.nm 1) (.cons (.nm 2) (.cons (.nm 3) (.cons (.nm 4) .nil))))) (.call "parts_of" (.cons (.var 0) .nil))) (.cons (.ret (.tup (.cons (.call "signature_in" (.cons (.var 1) .nil)) (.cons (.var 2) (.cons (.var 3) (.cons (.call "signature_in" (.cons (.var 4) .nil)) .nil)))))) .nil)))
def k__law_parts : Ss := (.cons (.asg (.nm 1) (.frz (.comp (.var 3) (.nm 3) (.rng (.bif .len (.cons (.var 0) .nil))) (.so (.cmp .notIn (.idx (.var 0) (.var 3)) (.slc (.var 0) .no (.so (.var 3))))) [3]))) (.cons (.asg (.nm 2) (.frz (.comp (.var 3) (.nm 3) (.rng (.bif .len (.cons (.var 0) .nil))) (.so (.cmp .notIn (.idx (.var 0) (.var 3)) (.slc (.var 0) (.so (.bin .add (.var 3) (.cst (.int 1)))) .no))) [3]))) (.cons (.ret (.frz (.lst (.cons (.slc (.var 0) .no (.so (.idx (.var 1) (.neg (.cst (.int 1)))))) (.cons (.idx (.var 0) (.idx (.var 1) (.neg (.cst (.int 1))))) (.cons (.idx (.var 0) (.idx (.var 2) (.cst (.int 0)))) (.cons (.slc (.var 0) (.so (.bin .add (.idx (.var 2) (.cst (.int 0))) (.cst (.int 1)))) .no) .nil))))))) .nil)))
def k__law_mark : Ss := (.cons (.ite (.cmp .eq (.var 0) (.tup .nil)) (.cons (.ret (.tup .nil)) .nil) .nil) (.cons (.asg (.tp (.cons (.nm 1) (.cons (.nm 2) (.cons (.nm 3) (.cons (.nm 4) .nil))))) (.call "_law_parts" (.cons (.var 0) .nil))) (.cons (.ret (.tup (.cons (.call "_law_mark" (.cons (.var 1) .nil)) (.cons (.var 2) (.cons (.var 3) (.cons (.call "_law_mark" (.cons (.var 4) .nil)) .nil)))))) .nil)))
structure HasIsEv (T : Tab) : Prop where
  is_event : List.lookup ("is_event" : Str) T = some ⟨1, 2, false, false, k_is_event⟩
structure HasCheck (T : Tab) : Prop extends HasIsEv T where
  fault_of_log : List.lookup ("fault_of_log" : Str) T = some ⟨1, 4, false, false, k_fault_of_log⟩
  check_log : List.lookup ("check_log" : Str) T = some ⟨1, 2, false, false, k_check_log⟩
structure HasEvIn (T : Tab) : Prop where
  events_in : List.lookup ("events_in" : Str) T = some ⟨1, 1, false, false, k_events_in⟩
structure HasSigns (T : Tab) : Prop where
  _law_signs : List.lookup ("_law_signs" : Str) T = some ⟨2, 12, true, false, k__law_signs⟩
structure HasTrail (T : Tab) : Prop where
  _law_trail : List.lookup ("_law_trail" : Str) T = some ⟨3, 7, true, false, k__law_trail⟩
structure HasParts (T : Tab) : Prop where
  parts_of : List.lookup ("parts_of" : Str) T = some ⟨1, 6, false, false, k_parts_of⟩
structure HasSig (T : Tab) : Prop extends HasParts T where
  signature_in : List.lookup ("signature_in" : Str) T = some ⟨1, 5, false, false, k_signature_in⟩
structure HasLParts (T : Tab) : Prop where
  _law_parts : List.lookup ("_law_parts" : Str) T = some ⟨1, 4, false, false, k__law_parts⟩
structure HasLMark (T : Tab) : Prop extends HasLParts T where
  _law_mark : List.lookup ("_law_mark" : Str) T = some ⟨1, 5, false, false, k__law_mark⟩
end RV

set_option maxHeartbeats 4000000
/-! L1: events, logs; what the program looks at first. -/
namespace RV
open PySem
def isLet (c : Nat) : Bool := decide (97 ≤ c) && decide (c ≤ 122)
/-- an event -/
structure Ev (s : Str) : Prop where
  lo : 1 ≤ s.length
  hi : s.length ≤ 6
  le : ∀ c ∈ s.cps.toList, isLet c = true
section
variable {T : Tab} {W m : Nat} {st : Sto} {P : D → Sto → Prop} {E : Ex → Sto → Prop}
/-- the different ones in the order of their first places -/
def nubStep (acc : List Str) (x : Str) : List Str := if acc.contains x then acc else acc ++ [x]
def nub (l : List Str) : List Str := l.foldl nubStep []
structure Lg (l : List Str) : Prop where
  len : l.length ≤ 400
  few : (nub l).length ≤ 6
  ev : ∀ s ∈ l, Ev s
end
end RV

set_option maxHeartbeats 4000000
/-! LO: any values: what is_event and fault_of_log say of them. -/
namespace RV
open PySem
structure HasFault (T : Tab) : Prop extends HasIsEv T where
  fault_of_log : List.lookup ("fault_of_log" : Str) T = some ⟨1, 4, false, false, k_fault_of_log⟩
theorem HasCheck.f {T : Tab} (C : HasCheck T) : HasFault T := ⟨C.toHasIsEv, C.fault_of_log⟩
/-- a value that may be looked at: no place, no object, no great text -/
def okV : D → Bool
  | .ref _ => false
  | .ob _ _ _ => false
  | .str s => decide (s.length ≤ 100000)
  | .tup xs => noRefL xs
  | .fl xs => noRefL xs
  | _ => true
theorem okV.nr : ∀ {d : D}, okV d = true → noRef d = true
  | .non, _ => rfl
  | .bl _, _ => rfl
  | .int _, _ => rfl
  | .str _, _ => rfl
  | .tup _, h => by unfold okV at h; unfold noRef; exact h
  | .fl _, h => by unfold okV at h; unfold noRef; exact h
  | .ed, _ => rfl
  | .ref _, h => by cases h
  | .ob _ _ _, h => by cases h
section
variable {T : Tab} {W m : Nat} {st : Sto} {P : D → Sto → Prop} {E : Ex → Sto → Prop}
/-- values whose parts may be looked at, too -/
def okVs : D → Bool
  | .tup xs => xs.all okV
  | d => okV d
theorem okVs.nr : ∀ {d : D}, okVs d = true → noRef d = true
  | .tup xs, h => by
    unfold okVs at h
    unfold noRef
    rw [noRefL_iff]
    exact fun d hd => okV.nr (List.all_eq_true.mp h d hd)
  | .non, _ => rfl
  | .bl _, _ => rfl
  | .int _, _ => rfl
  | .str _, _ => rfl
  | .fl _, h => by unfold okVs okV at h; unfold noRef; exact h
  | .ed, _ => rfl
  | .ref _, h => by cases h
  | .ob _ _ _, h => by cases h
end
end RV

set_option maxHeartbeats 4000000
/-! Ls: the drawn events and logs. -/
namespace RV
open PySem
abbrev cs (z : Str) : List Nat := z.cps.toList
def ownS : List Str := ["append", "undo", "log", "same", "normal", "merge", "a", "b", "newest", "short", "none", "check"]
/-- drawn events: so many, ascending, each once; words of the interface, or all of one length -/
structure Sg (ss : List Str) (n : Nat) : Prop where
  len : ss.length = n
  ev : ∀ s ∈ ss, Ev s
  rise : RiseS ss
  nd : ss.Nodup
  kd : (∀ s ∈ ss, s ∈ ownS) ∨ ∃ L, ∀ s ∈ ss, s.length = L
theorem Sg.of {us : List Str} {n : Nat} (h1 : us.length = n) (h2 : ∀ s ∈ us, Ev s) (h3 : us.Nodup) (h4 : (∀ s ∈ us, s ∈ ownS) ∨ ∃ L, ∀ s ∈ us, s.length = L) : Sg (sortS us) n := by
  have p := sortS_perm us
  exact ⟨p.length_eq.trans h1, fun s hs => h2 s (p.mem_iff.mp hs), sortS_rise us, p.nodup_iff.mpr h3, h4.imp (fun h s hs => h s (p.mem_iff.mp hs)) fun ⟨L, h⟩ => ⟨L, fun s hs => h s (p.mem_iff.mp hs)⟩⟩
section
variable {T : Tab} {W m : Nat} {st : Sto} {P : D → Sto → Prop} {E : Ex → Sto → Prop}
end
end RV

set_option maxHeartbeats 4000000
/-! Ls2: _law_signs. -/
namespace RV
open PySem
section
variable {T : Tab} {W m : Nat} {st : Sto} {P : D → Sto → Prop} {E : Ex → Sto → Prop}
end
end RV

set_option maxHeartbeats 4000000
/-! Ls3: _law_trail. -/
namespace RV
open PySem
theorem Sm.ev {s : Str} (h : Ev s) : Sm 0 6 (.str s) := by
  refine (Sm.str ?_).mono (Nat.le_refl _) h.hi
  unfold okS PyData.strOk
  rw [Array.all_eq_true']
  intro c hc
  have := h.le c (by simpa using hc)
  unfold isLet at this
  rw [Bool.and_eq_true, decide_eq_true_eq, decide_eq_true_eq] at this
  exact decide_eq_true (by omega)
theorem SmL.evs {l : List Str} (h : ∀ s ∈ l, Ev s) : SmL 0 (7 * l.length) (l.map .str) := SmL.map fun s hs => Sm.ev (h s hs)
theorem Sm.log {l : List Str} (h : ∀ s ∈ l, Ev s) : Sm 1 (7 * l.length) (tS l) := Sm.tup (SmL.evs h)
section
variable {T : Tab} {W m : Nat} {st : Sto} {P : D → Sto → Prop} {E : Ex → Sto → Prop}
end
end RV

set_option maxHeartbeats 4000000
/-! LO2: texts made of texts; odd values as data. -/
namespace RV
open PySem
theorem okS_iff {x : Str} : okS x = true ↔ ∀ c ∈ x.cps.toList, c < 0x110000 := by
  unfold okS PyData.strOk
  rw [Array.all_eq_true']
  exact ⟨fun h c hc => of_decide_eq_true (h c (by simpa using hc)), fun h c hc => decide_eq_true (h c (by simpa using hc))⟩
theorem Ev.okS {s : Str} (h : Ev s) : okS s = true := by
  rw [okS_iff]
  intro c hc
  have := h.le c hc
  unfold isLet at this
  rw [Bool.and_eq_true, decide_eq_true_eq, decide_eq_true_eq] at this
  omega
/-- one of a row -/
theorem ix_pick {Q : D → Prop} {xs : List D} {v : Int} {k : Nat} {st : Sto} {P : D → Sto → Prop} (hq : ∀ d ∈ xs, Q d) (hk : xs.length = k) (h0 : 0 ≤ v) (h1 : v < k) (p : ∀ d, Q d → P d st) : RunM (ofO ((L2.ixN k v).bind fun j => xs[j]?)) st P := by
  subst hk
  rw [ixN_int h0 h1, Option.bind_some, List.getElem?_eq_getElem (by omega), runM_some]
  exact p _ (hq _ (List.getElem_mem _))
/-- data whose text can be told -/
structure Rb (k n : Nat) (d : D) : Prop where
  h : Sm k n d ∨ SmD k n d
theorem Rb.nr {k n : Nat} {d : D} (h : Rb k n d) : noRef d = true := h.h.elim Sm.nr SmD.nr
theorem Rb.mono {k n k' n' : Nat} {d : D} (h : Rb k n d) (hk : k ≤ k') (hn : n ≤ n') : Rb k' n' d := ⟨h.h.imp (fun h => h.mono hk hn) fun h => h.mono hk hn⟩
theorem Rb.str {z : Str} {n : Nat} (h : okS z = true) (hl : z.length ≤ n) : Rb 0 n (.str z) := ⟨.inl ((Sm.str h).mono (Nat.le_refl _) hl)⟩
theorem SmD.ev {s : Str} (h : Ev s) : SmD 0 6 (.str s) := (Sm.ev h).toD (by rw [pyD]; simp [noL])
end RV

set_option maxHeartbeats 2000000
/-! Lk93b: each error's number; k93. -/
namespace RV
open PySem
variable {W m : Nat}
theorem er_InvalidLog {d : D} : N.bind (runSs (runF tab W m) W c__law_error [some (.ob "InvalidLog" ["index"] [d]), none, none, none, none]) fin [] = .ok (.int 0) [] := by kernel_rfl
theorem er_InvalidStep {d : D} : N.bind (runSs (runF tab W m) W c__law_error [some (.ob "InvalidStep" ["step"] [d]), none, none, none, none]) fin [] = .ok (.int 1) [] := by kernel_rfl
theorem er_InvalidSteps {d : D} : N.bind (runSs (runF tab W m) W c__law_error [some (.ob "InvalidSteps" ["index"] [d]), none, none, none, none]) fin [] = .ok (.int 2) [] := by kernel_rfl
theorem er_InvalidSignature {d : D} : N.bind (runSs (runF tab W m) W c__law_error [some (.ob "InvalidSignature" ["signature"] [d]), none, none, none, none]) fin [] = .ok (.int 3) [] := by kernel_rfl
theorem er_InvalidPath {d : D} : N.bind (runSs (runF tab W m) W c__law_error [some (.ob "InvalidPath" ["index"] [d]), none, none, none, none]) fin [] = .ok (.int 4) [] := by kernel_rfl
theorem er_InvalidEvent {d : D} : N.bind (runSs (runF tab W m) W c__law_error [some (.ob "InvalidEvent" ["event"] [d]), none, none, none, none]) fin [] = .ok (.int 5) [] := by kernel_rfl
theorem er_InvalidEvents {d : D} : N.bind (runSs (runF tab W m) W c__law_error [some (.ob "InvalidEvents" ["index"] [d]), none, none, none, none]) fin [] = .ok (.int 6) [] := by kernel_rfl
theorem er_InvalidNumber {d : D} : N.bind (runSs (runF tab W m) W c__law_error [some (.ob "InvalidNumber" ["number"] [d]), none, none, none, none]) fin [] = .ok (.int 7) [] := by kernel_rfl
theorem er_InvalidTable {d : D} : N.bind (runSs (runF tab W m) W c__law_error [some (.ob "InvalidTable" ["index"] [d]), none, none, none, none]) fin [] = .ok (.int 8) [] := by kernel_rfl
theorem er_InvalidState {d : D} : N.bind (runSs (runF tab W m) W c__law_error [some (.ob "InvalidState" ["state"] [d]), none, none, none, none]) fin [] = .ok (.int 9) [] := by kernel_rfl
theorem er_InvalidReceiver {d : D} : N.bind (runSs (runF tab W m) W c__law_error [some (.ob "InvalidReceiver" ["receiver"] [d]), none, none, none, none]) fin [] = .ok (.int 10) [] := by kernel_rfl
theorem er_InvalidPattern {d : D} : N.bind (runSs (runF tab W m) W c__law_error [some (.ob "InvalidPattern" ["index"] [d]), none, none, none, none]) fin [] = .ok (.int 11) [] := by kernel_rfl
theorem er_InvalidEdges {d : D} : N.bind (runSs (runF tab W m) W c__law_error [some (.ob "InvalidEdges" ["index"] [d]), none, none, none, none]) fin [] = .ok (.int 12) [] := by kernel_rfl
theorem er_InvalidGraph {d : D} : N.bind (runSs (runF tab W m) W c__law_error [some (.ob "InvalidGraph" ["graph"] [d]), none, none, none, none]) fin [] = .ok (.int 13) [] := by kernel_rfl
theorem er_InvalidShares {d : D} : N.bind (runSs (runF tab W m) W c__law_error [some (.ob "InvalidShares" ["index"] [d]), none, none, none, none]) fin [] = .ok (.int 14) [] := by kernel_rfl
theorem er_InvalidProgram {d : D} : N.bind (runSs (runF tab W m) W c__law_error [some (.ob "InvalidProgram" ["index"] [d]), none, none, none, none]) fin [] = .ok (.int 15) [] := by kernel_rfl
theorem er_InvalidText {d : D} : N.bind (runSs (runF tab W m) W c__law_error [some (.ob "InvalidText" ["text"] [d]), none, none, none, none]) fin [] = .ok (.int 16) [] := by kernel_rfl
theorem er_InvalidEdit {d : D} : N.bind (runSs (runF tab W m) W c__law_error [some (.ob "InvalidEdit" ["index"] [d]), none, none, none, none]) fin [] = .ok (.int 17) [] := by kernel_rfl
theorem er_InvalidCommand {d : D} : N.bind (runSs (runF tab W m) W c__law_error [some (.ob "InvalidCommand" ["line"] [d]), none, none, none, none]) fin [] = .ok (.int 18) [] := by kernel_rfl
theorem er_EmptyLog : N.bind (runSs (runF tab W m) W c__law_error [some (.ob "EmptyLog" [] []), none, none, none, none]) fin [] = .ok (.int 19) [] := by kernel_rfl
theorem er_NoPath {d : D} : N.bind (runSs (runF tab W m) W c__law_error [some (.ob "NoPath" ["index"] [d]), none, none, none, none]) fin [] = .ok (.int 20) [] := by kernel_rfl
theorem er_NotApplicable {d : D} : N.bind (runSs (runF tab W m) W c__law_error [some (.ob "NotApplicable" ["step"] [d]), none, none, none, none]) fin [] = .ok (.int 21) [] := by kernel_rfl
theorem er_UnknownEvent {d : D} : N.bind (runSs (runF tab W m) W c__law_error [some (.ob "UnknownEvent" ["event"] [d]), none, none, none, none]) fin [] = .ok (.int 22) [] := by kernel_rfl
theorem er_UnknownEffect {d : D} : N.bind (runSs (runF tab W m) W c__law_error [some (.ob "UnknownEffect" ["effect"] [d]), none, none, none, none]) fin [] = .ok (.int 23) [] := by kernel_rfl
theorem er_NothingToUndo : N.bind (runSs (runF tab W m) W c__law_error [some (.ob "NothingToUndo" [] []), none, none, none, none]) fin [] = .ok (.int 24) [] := by kernel_rfl
theorem er_TooManyEvents {d : D} : N.bind (runSs (runF tab W m) W c__law_error [some (.ob "TooManyEvents" ["count"] [d]), none, none, none, none]) fin [] = .ok (.int 25) [] := by kernel_rfl
theorem er_TooLong {d : D} : N.bind (runSs (runF tab W m) W c__law_error [some (.ob "TooLong" ["length"] [d]), none, none, none, none]) fin [] = .ok (.int 26) [] := by kernel_rfl
theorem er_TooManyStates {d : D} : N.bind (runSs (runF tab W m) W c__law_error [some (.ob "TooManyStates" ["count"] [d]), none, none, none, none]) fin [] = .ok (.int 27) [] := by kernel_rfl
theorem er_TooManyEdits {d : D} : N.bind (runSs (runF tab W m) W c__law_error [some (.ob "TooManyEdits" ["count"] [d]), none, none, none, none]) fin [] = .ok (.int 28) [] := by kernel_rfl
theorem err_of {o : D} {i : Int} (h : noRef o = true) (e : N.bind (runSs (runF tab W m) W c__law_error [some o, none, none, none, none]) fin [] = .ok (.int i) []) : runF tab W (m + 1) "_law_error" [o] = N.pure (.int i) := by
  refine go_pure (env := [some o, none, none, none, none]) lk__law_error rfl rfl rfl (by rw [noRefL, h]; rfl) rfl ?_
  show Run (N.bind (runSs _ W c__law_error _) fin) _ _ _
  unfold Run
  rw [e]
  rfl
/-- a pair of one error, twice, and its number -/
structure PairN (W m : Nat) (x : D) (i : Int) : Prop where
  ex : ∃ o, x = .fl [o, o] ∧ noRef o = true ∧ runF tab W (m + 1) "_law_error" [o] = N.pure (.int i)
def all29 (d : D) : List D := made1 d ++ made2 d ++ made3 d
theorem pairs_ok {d : D} (h : noRef d = true) : ∀ (j : Nat) (x : D), (all29 d)[j]? = some x → PairN W m x (j : Int) := by
  intro j x hx
  have n1 : ∀ t f, noRef (.ob t [f] [d]) = true := fun t f => by simp [noRef, noRefL, h]
  have hj : j < 29 := by
    have := (List.getElem?_eq_some_iff.mp hx).1
    exact this
  match j, hj, hx with
  | 0, _, hx => cases (Option.some.inj hx : _ = x); exact ⟨_, rfl, n1 _ _, err_of (n1 _ _) er_InvalidLog⟩
  | 1, _, hx => cases (Option.some.inj hx : _ = x); exact ⟨_, rfl, n1 _ _, err_of (n1 _ _) er_InvalidStep⟩
  | 2, _, hx => cases (Option.some.inj hx : _ = x); exact ⟨_, rfl, n1 _ _, err_of (n1 _ _) er_InvalidSteps⟩
  | 3, _, hx => cases (Option.some.inj hx : _ = x); exact ⟨_, rfl, n1 _ _, err_of (n1 _ _) er_InvalidSignature⟩
  | 4, _, hx => cases (Option.some.inj hx : _ = x); exact ⟨_, rfl, n1 _ _, err_of (n1 _ _) er_InvalidPath⟩
  | 5, _, hx => cases (Option.some.inj hx : _ = x); exact ⟨_, rfl, n1 _ _, err_of (n1 _ _) er_InvalidEvent⟩
  | 6, _, hx => cases (Option.some.inj hx : _ = x); exact ⟨_, rfl, n1 _ _, err_of (n1 _ _) er_InvalidEvents⟩
  | 7, _, hx => cases (Option.some.inj hx : _ = x); exact ⟨_, rfl, n1 _ _, err_of (n1 _ _) er_InvalidNumber⟩
  | 8, _, hx => cases (Option.some.inj hx : _ = x); exact ⟨_, rfl, n1 _ _, err_of (n1 _ _) er_InvalidTable⟩
  | 9, _, hx => cases (Option.some.inj hx : _ = x); exact ⟨_, rfl, n1 _ _, err_of (n1 _ _) er_InvalidState⟩
  | 10, _, hx => cases (Option.some.inj hx : _ = x); exact ⟨_, rfl, n1 _ _, err_of (n1 _ _) er_InvalidReceiver⟩
  | 11, _, hx => cases (Option.some.inj hx : _ = x); exact ⟨_, rfl, n1 _ _, err_of (n1 _ _) er_InvalidPattern⟩
  | 12, _, hx => cases (Option.some.inj hx : _ = x); exact ⟨_, rfl, n1 _ _, err_of (n1 _ _) er_InvalidEdges⟩
  | 13, _, hx => cases (Option.some.inj hx : _ = x); exact ⟨_, rfl, n1 _ _, err_of (n1 _ _) er_InvalidGraph⟩
  | 14, _, hx => cases (Option.some.inj hx : _ = x); exact ⟨_, rfl, n1 _ _, err_of (n1 _ _) er_InvalidShares⟩
  | 15, _, hx => cases (Option.some.inj hx : _ = x); exact ⟨_, rfl, n1 _ _, err_of (n1 _ _) er_InvalidProgram⟩
  | 16, _, hx => cases (Option.some.inj hx : _ = x); exact ⟨_, rfl, n1 _ _, err_of (n1 _ _) er_InvalidText⟩
  | 17, _, hx => cases (Option.some.inj hx : _ = x); exact ⟨_, rfl, n1 _ _, err_of (n1 _ _) er_InvalidEdit⟩
  | 18, _, hx => cases (Option.some.inj hx : _ = x); exact ⟨_, rfl, n1 _ _, err_of (n1 _ _) er_InvalidCommand⟩
  | 19, _, hx => cases (Option.some.inj hx : _ = x); exact ⟨_, rfl, rfl, err_of rfl er_EmptyLog⟩
  | 20, _, hx => cases (Option.some.inj hx : _ = x); exact ⟨_, rfl, n1 _ _, err_of (n1 _ _) er_NoPath⟩
  | 21, _, hx => cases (Option.some.inj hx : _ = x); exact ⟨_, rfl, n1 _ _, err_of (n1 _ _) er_NotApplicable⟩
  | 22, _, hx => cases (Option.some.inj hx : _ = x); exact ⟨_, rfl, n1 _ _, err_of (n1 _ _) er_UnknownEvent⟩
  | 23, _, hx => cases (Option.some.inj hx : _ = x); exact ⟨_, rfl, n1 _ _, err_of (n1 _ _) er_UnknownEffect⟩
  | 24, _, hx => cases (Option.some.inj hx : _ = x); exact ⟨_, rfl, rfl, err_of rfl er_NothingToUndo⟩
  | 25, _, hx => cases (Option.some.inj hx : _ = x); exact ⟨_, rfl, n1 _ _, err_of (n1 _ _) er_TooManyEvents⟩
  | 26, _, hx => cases (Option.some.inj hx : _ = x); exact ⟨_, rfl, n1 _ _, err_of (n1 _ _) er_TooLong⟩
  | 27, _, hx => cases (Option.some.inj hx : _ = x); exact ⟨_, rfl, n1 _ _, err_of (n1 _ _) er_TooManyStates⟩
  | 28, _, hx => cases (Option.some.inj hx : _ = x); exact ⟨_, rfl, n1 _ _, err_of (n1 _ _) er_TooManyEdits⟩
theorem SmEL.rep {k n : Nat} {d : D} (h : SmE k n d) : ∀ j : Nat, SmEL k (j * (n + 1)) (List.replicate j d)
  | 0 => ⟨rfl, rfl, rfl, rfl, Nat.zero_le _, by rw [Nat.zero_mul]; exact Nat.le_refl _⟩
  | j + 1 => by
    have q := SmEL.cons h (SmEL.rep h j)
    rw [List.replicate_succ]
    exact ⟨q.dt, q.sh, q.lv, q.em, Nat.le_trans q.dp (by omega), Nat.le_trans q.wt (by rw [Nat.add_mul]; omega)⟩
theorem ten_E {v : Int} (hv : v.natAbs < 2 ^ 140) : ∀ d ∈ ten v, SmE 2 400 d := by
  have s0 : ∀ s : Str, okS s = true → s.length ≤ 20 → Sm 0 20 (.str s) := fun s h l => (Sm.str h).mono (Nat.le_refl _) l
  have sm : Sm 0 20 (.str (Str.ofString "merge")) := s0 _ (by decide +kernel) (by decide +kernel)
  have se : Sm 0 20 (.str (Str.ofString "")) := s0 _ (by decide +kernel) (by decide +kernel)
  have iv : Sm 0 140 (.int v) := Sm.int hv (by decide)
  have i0 : Sm 0 8 (.int 0) := Sm.int (by decide) (by decide)
  intro d hd
  unfold ten at hd
  simp only [List.mem_cons, List.not_mem_nil, or_false] at hd
  rcases hd with rfl | rfl | rfl | rfl | rfl | rfl | rfl | rfl | rfl | rfl
  · exact (iv.mono (by decide) (by decide)).toE
  · exact (i0.mono (by decide) (by decide)).toE
  · exact (Sm.non.mono (by decide) (by decide)).toE
  · exact (Sm.bl.mono (by decide) (by decide)).toE
  · exact (se.mono (by decide) (by decide)).toE
  · exact (sm.mono (by decide) (by decide)).toE
  · exact ((Sm.tup SmL.nil).mono (by decide) (by decide)).toE
  · exact ((Sm.tup (SmL.cons sm (SmL.cons i0 (SmL.cons iv SmL.nil)))).mono (by decide) (by decide)).toE
  · exact ((Sm.fl (SmL.cons iv SmL.nil)).mono (by decide) (by decide)).toE
  · exact SmE.ed.mono (by decide) (by decide)
def mU (d : D) : Nat → List D
  | 0 => []
  | 1 => made1 d
  | 2 => made1 d ++ made2 d
  | _ => all29 d
def fU (d : D) : Nat → List D
  | 0 => []
  | 1 => flds 10 d
  | 2 => flds 19 d
  | _ => flds 27 d
def rowN (i : Nat) : List D := (List.range i).map fun (k : Nat) => D.fl [.int (Int.ofNat k), .int (Int.ofNat k)]
theorem rowN_succ {i : Nat} : rowN (i + 1) = rowN i ++ [.fl [.int (i : Int), .int (i : Int)]] := by
  unfold rowN
  rw [List.range_succ, List.map_append]
  rfl
theorem run_okX {α : Type} {m : N α} {st st' : Sto} {a : α} {P : α → Sto → Prop} {E : Ex → Sto → Prop} (h : m st = .ok a st') (p : P a st') : Run m st P E := by
  unfold Run; rw [h]; exact p
theorem comp29e {y2 r R : List D} {n : Nat} (hn : n = 29) (hr : r = rangeD 0 29) (hR : R = rowN n) : compL (fun x => (frzN (up (alloc (O.lst [x, x])))).bind fun v => N.pure (some v)) r [] [O.lst y2] = .ok R [O.lst y2] := by
  cases hn; cases hr; cases hR; kernel_rfl
theorem eq29r {R : List D} {n : Nat} (hn : n = 29) (hR : R = rowN n) (st : Sto) (P : Bool → Sto → Prop) (p : P true st) : RunM (eqD (.fl R) (.fl R)) st P := by
  have e : eqD (.fl R) (.fl R) = M.pure true := by
    cases hn; cases hR; kernel_rfl
  rw [e, runM_pure]; exact p
theorem last29 {y2 r R : List D} {n : Nat} (hn : n = 29) (hr : r = rangeD 0 29) (hR : R = rowN n) (hy : Pl y2) : Run (compL (fun x => (frzN (up (alloc (O.lst [x, x])))).bind fun v => N.pure (some v)) r []) [O.lst y2] (fun a s => 1 ≤ s.length ∧ RunM (eqD (.fl R) (.fl a)) s fun a s => Fin (fun d _ => d = .bl true) [] (.bl a) s) (fun x s => no x s) :=
  run_okX (comp29e hn hr hR) ⟨Nat.le_refl _, eq29r hn hR _ _ ⟨_, _, _, rfl, hy, rfl, rfl⟩⟩
theorem right_gen : ∀ ys : List D, Pl ys → Run (runF tab W 59 "_law_right" [.ref 0]) [.lst ys] (fun d _ => d = .bl true) no := by
  intro ys hy
  refine go_pl (env := [some (.ref 0), none, none, none, none, none, none, none, none, none]) lk__law_right rfl rfl rfl hy rfl rfl ?_
  show Run (N.bind (runSs _ _ c__law_right _) fin) _ _ _
  unfold c__law_right
  simp only [ss_run, ss_nil_run, n_next, n_ret, n_brk, n_cont, n_exn, runS, runE, runEs, runG, runGs, runG2, runP, runI, runIf, runO, runB, runC, runBI, runMI, run_raise, up_true, noErr_pure, nb_pure, nb_bind, frz_app, rc_upper, m_upper, q_mulX, frz_ed, frz_ob, frzD_app, frzD_0, frzD_1, frzD_2, frzD_3, frzD_4, frzD_5, frzD_6, frzD_7, frzD_8, frzD_9, fz_ed, wipeE, List.filterMap_cons, List.filterMap_nil, run_bind, run_tr, run_up, run_noErr, run_pure, run_bad, run_ite, runM_pure, runM_bad, runM_bind, runM_guard, runM_alloc, runM_some, runM_none, runM_put, List.getElem?_cons_zero, List.getElem?_cons_succ, List.set_cons_zero, List.set_cons_succ, List.length_cons, List.length_nil, List.cons_append, List.nil_append, List.take_succ_cons, List.take_zero, Nat.reduceAdd, Nat.reduceLeDiff, Nat.reduceLT, Int.reduceLT, Int.reduceLE, Int.reduceNe, Int.reduceEq, ne_eq, not_false_eq_true, reduceCtorEq, Int.reduceToNat, Int.reducePow, Int.reduceNeg, Nat.reduceMul, Nat.reduceEqDiff, Nat.le_refl, Option.some.injEq, O.lst.injEq, exists_eq_left', exists_eq_left, run_frz, frz_int, frz_bl, frz_str, frz_tup, frz_fl, frz_non, frz_0, frz_1, frz_2, frz_3, frz_4, frz_5, frz_6, frz_7, Nat.zero_le, fz_int, fz_bl, fz_str, fz_non, getM_st, getL_st, m_append, m_extend, l_fl, l_ref, rc_append, rc_extend, rc_pop1, rc_pop0, rc_index, rc_join, size_ok, size_lt, b_int, b_bl, b_str, b_non, comp_stat, compA_stat, for_stat, comp_enum, for_enum, decide_eq_true_eq, Option.bind_some, Option.map_some, Option.map_none, fin_ret, fin_next, fin_exn, Gs.len, if_true, if_false, Bool.false_eq_true, Bool.true_eq_false, Bool.not_true, Bool.not_false, decide_true, decide_false, and_true, true_and, beq_self_eq_true, q_add_int, q_add_str, q_add_tup, q_add_rr, q_add_ff, q_add_rf, q_add_fr, q_sub, q_mul, q_mul_ref, q_mul_fl, q_mul_tup, q_fdiv, q_fdivW, q_le_str, q_mod, q_pow, q_ix_tup, q_ix_fl, q_ix_ref, q_set, q_eq_int, q_eq_str, q_eq_bl, q_ne, q_lt, q_le, q_gt, q_ge, q_is, q_isNot, q_isB, q_isNotB, q_notIn, t_bl, t_int, t_tup, t_non, ixN_0, ixN_1, ixN_2, ixN_3, q_divmod, q_abs, q_max2, q_min2, q_len_tup, q_len_fl, q_len_ref, q_len_str, q_seq_tup, q_seq_fl, q_seq_ref, q_src_tup, q_src_fl, q_src_ref, q_part_i, q_part_n, q_list1_tup, q_list1_fl, q_tup1_fl, q_list1_ref, q_tup1_tup, q_tup1_ref, q_slc_tup, q_slc_fl, q_slc_ref, q_src_str, q_srcE_tup, q_srcE_fl, q_srcE_str, in_tupS, in_flS, q_sortedSetS, q_sorted_tupS, q_sorted_flS, q_max_flI, q_min_flI, q_sum_flI, q_rev_tup, q_rev_fl, q_int_bl, q_int_int, q_bool_bl, q_ix_str, q_slc_str, q_join_flS, q_join_tupS, q_split, q_tup1_str, rc_split, ty1, ty2, ty3, ty4, ty5, tStr, tInt, tBool, tTuple, tList]
  refine ⟨by decide, ?_⟩
  refine draw_go has_draw hy (by decide) (by decide) fun v y1 a1 b1 h1 => ?_
  refine draw_go has_draw h1 (by decide) (by decide) fun v2 y2 a2 b2 h2 => ?_
  refine ix_pick (Q := fun d => d ∈ ten v) (fun d hd => hd) rfl a2 b2 fun d hd => ?_
  have nr := ten_nr d hd
  have k1 : runF tab W 58 "_law_first" [d] = _ := first_ok (m := 55) d hd
  have k2 : runF tab W 58 "_law_second" [d] = _ := second_ok (m := 55) d hd
  have k3 : runF tab W 58 "_law_third" [d] = _ := third_ok (m := 55) d hd
  have k4 : runF tab W 58 "_law_caught" [d] = _ := caught_ok (m := 57) d hd
  have big : (10 : Int) ^ 40 < 2 ^ 140 := by decide
  have vb : v.natAbs < 2 ^ 140 := by
    have h2 : v < 2 ^ 140 := Int.lt_trans b1 big
    have : ((v.natAbs : Nat) : Int) < ((2 ^ 140 : Nat) : Int) := by
      rw [Int.natAbs_of_nonneg a1]
      exact h2
    exact Int.ofNat_lt.mp this
  have sd := ten_E vb d hd
  simp only [ss_run, ss_nil_run, n_next, n_ret, n_brk, n_cont, n_exn, runS, runE, runEs, runG, runGs, runG2, runP, runI, runIf, runO, runB, runC, runBI, runMI, run_raise, up_true, noErr_pure, nb_pure, nb_bind, frz_app, rc_upper, m_upper, q_mulX, frz_ed, frz_ob, frzD_app, frzD_0, frzD_1, frzD_2, frzD_3, frzD_4, frzD_5, frzD_6, frzD_7, frzD_8, frzD_9, fz_ed, wipeE, List.filterMap_cons, List.filterMap_nil, run_bind, run_tr, run_up, run_noErr, run_pure, run_bad, run_ite, runM_pure, runM_bad, runM_bind, runM_guard, runM_alloc, runM_some, runM_none, runM_put, List.getElem?_cons_zero, List.getElem?_cons_succ, List.set_cons_zero, List.set_cons_succ, List.length_cons, List.length_nil, List.cons_append, List.nil_append, List.take_succ_cons, List.take_zero, Nat.reduceAdd, Nat.reduceLeDiff, Nat.reduceLT, Int.reduceLT, Int.reduceLE, Int.reduceNe, Int.reduceEq, ne_eq, not_false_eq_true, reduceCtorEq, Int.reduceToNat, Int.reducePow, Int.reduceNeg, Nat.reduceMul, Nat.reduceEqDiff, Nat.le_refl, Option.some.injEq, O.lst.injEq, exists_eq_left', exists_eq_left, run_frz, frz_int, frz_bl, frz_str, frz_tup, frz_fl, frz_non, frz_0, frz_1, frz_2, frz_3, frz_4, frz_5, frz_6, frz_7, Nat.zero_le, fz_int, fz_bl, fz_str, fz_non, getM_st, getL_st, m_append, m_extend, l_fl, l_ref, rc_append, rc_extend, rc_pop1, rc_pop0, rc_index, rc_join, size_ok, size_lt, b_int, b_bl, b_str, b_non, comp_stat, compA_stat, for_stat, comp_enum, for_enum, decide_eq_true_eq, Option.bind_some, Option.map_some, Option.map_none, fin_ret, fin_next, fin_exn, Gs.len, if_true, if_false, Bool.false_eq_true, Bool.true_eq_false, Bool.not_true, Bool.not_false, decide_true, decide_false, and_true, true_and, beq_self_eq_true, q_add_int, q_add_str, q_add_tup, q_add_rr, q_add_ff, q_add_rf, q_add_fr, q_sub, q_mul, q_mul_ref, q_mul_fl, q_mul_tup, q_fdiv, q_fdivW, q_le_str, q_mod, q_pow, q_ix_tup, q_ix_fl, q_ix_ref, q_set, q_eq_int, q_eq_str, q_eq_bl, q_ne, q_lt, q_le, q_gt, q_ge, q_is, q_isNot, q_isB, q_isNotB, q_notIn, t_bl, t_int, t_tup, t_non, ixN_0, ixN_1, ixN_2, ixN_3, q_divmod, q_abs, q_max2, q_min2, q_len_tup, q_len_fl, q_len_ref, q_len_str, q_seq_tup, q_seq_fl, q_seq_ref, q_src_tup, q_src_fl, q_src_ref, q_part_i, q_part_n, q_list1_tup, q_list1_fl, q_tup1_fl, q_list1_ref, q_tup1_tup, q_tup1_ref, q_slc_tup, q_slc_fl, q_slc_ref, q_src_str, q_srcE_tup, q_srcE_fl, q_srcE_str, in_tupS, in_flS, q_sortedSetS, q_sorted_tupS, q_sorted_flS, q_max_flI, q_min_flI, q_sum_flI, q_rev_tup, q_rev_fl, q_int_bl, q_int_int, q_bool_bl, q_ix_str, q_slc_str, q_join_flS, q_join_tupS, q_split, q_tup1_str, rc_split, ty1, ty2, ty3, ty4, ty5, tStr, tInt, tBool, tTuple, tList, k1, k2, k3]
  refine forL_run (fun j env s => ∃ z, j ≤ 3 ∧ env = [some (.ref 0), some (.int v), some (.fl (ten v)), some d, some (.fl (mU d j)), some (.fl (fU d j)), z, none, none, none] ∧ s = [.lst y2]) ⟨_, Nat.zero_le _, rfl, rfl⟩ ?_ ?_
  · rintro j x env s ex ⟨z, hj, rfl, rfl⟩
    have hj3 := (List.getElem?_eq_some_iff.mp ex).1
    match j, hj3, ex with
    | 0, _, ex =>
      cases (Option.some.inj ex : _ = x)
      simp only [ss_run, ss_nil_run, n_next, n_ret, n_brk, n_cont, n_exn, runS, runE, runEs, runG, runGs, runG2, runP, runI, runIf, runO, runB, runC, runBI, runMI, run_raise, up_true, noErr_pure, nb_pure, nb_bind, frz_app, rc_upper, m_upper, q_mulX, frz_ed, frz_ob, frzD_app, frzD_0, frzD_1, frzD_2, frzD_3, frzD_4, frzD_5, frzD_6, frzD_7, frzD_8, frzD_9, fz_ed, wipeE, List.filterMap_cons, List.filterMap_nil, run_bind, run_tr, run_up, run_noErr, run_pure, run_bad, run_ite, runM_pure, runM_bad, runM_bind, runM_guard, runM_alloc, runM_some, runM_none, runM_put, List.getElem?_cons_zero, List.getElem?_cons_succ, List.set_cons_zero, List.set_cons_succ, List.length_cons, List.length_nil, List.cons_append, List.nil_append, List.take_succ_cons, List.take_zero, Nat.reduceAdd, Nat.reduceLeDiff, Nat.reduceLT, Int.reduceLT, Int.reduceLE, Int.reduceNe, Int.reduceEq, ne_eq, not_false_eq_true, reduceCtorEq, Int.reduceToNat, Int.reducePow, Int.reduceNeg, Nat.reduceMul, Nat.reduceEqDiff, Nat.le_refl, Option.some.injEq, O.lst.injEq, exists_eq_left', exists_eq_left, run_frz, frz_int, frz_bl, frz_str, frz_tup, frz_fl, frz_non, frz_0, frz_1, frz_2, frz_3, frz_4, frz_5, frz_6, frz_7, Nat.zero_le, fz_int, fz_bl, fz_str, fz_non, getM_st, getL_st, m_append, m_extend, l_fl, l_ref, rc_append, rc_extend, rc_pop1, rc_pop0, rc_index, rc_join, size_ok, size_lt, b_int, b_bl, b_str, b_non, comp_stat, compA_stat, for_stat, comp_enum, for_enum, decide_eq_true_eq, Option.bind_some, Option.map_some, Option.map_none, fin_ret, fin_next, fin_exn, Gs.len, if_true, if_false, Bool.false_eq_true, Bool.true_eq_false, Bool.not_true, Bool.not_false, decide_true, decide_false, and_true, true_and, beq_self_eq_true, q_add_int, q_add_str, q_add_tup, q_add_rr, q_add_ff, q_add_rf, q_add_fr, q_sub, q_mul, q_mul_ref, q_mul_fl, q_mul_tup, q_fdiv, q_fdivW, q_le_str, q_mod, q_pow, q_ix_tup, q_ix_fl, q_ix_ref, q_set, q_eq_int, q_eq_str, q_eq_bl, q_ne, q_lt, q_le, q_gt, q_ge, q_is, q_isNot, q_isB, q_isNotB, q_notIn, t_bl, t_int, t_tup, t_non, ixN_0, ixN_1, ixN_2, ixN_3, q_divmod, q_abs, q_max2, q_min2, q_len_tup, q_len_fl, q_len_ref, q_len_str, q_seq_tup, q_seq_fl, q_seq_ref, q_src_tup, q_src_fl, q_src_ref, q_part_i, q_part_n, q_list1_tup, q_list1_fl, q_tup1_fl, q_list1_ref, q_tup1_tup, q_tup1_ref, q_slc_tup, q_slc_fl, q_slc_ref, q_src_str, q_srcE_tup, q_srcE_fl, q_srcE_str, in_tupS, in_flS, q_sortedSetS, q_sorted_tupS, q_sorted_flS, q_max_flI, q_min_flI, q_sum_flI, q_rev_tup, q_rev_fl, q_int_bl, q_int_int, q_bool_bl, q_ix_str, q_slc_str, q_join_flS, q_join_tupS, q_split, q_tup1_str, rc_split, ty1, ty2, ty3, ty4, ty5, tStr, tInt, tBool, tTuple, tList]
      exact ⟨by rw [sizeLine_eq]; show (0 + 10 : Nat) ≤ _; decide, by rw [sizeLine_eq]; show (0 + 10 : Nat) ≤ _; decide, _, rfl⟩
    | 1, _, ex =>
      cases (Option.some.inj ex : _ = x)
      simp only [ss_run, ss_nil_run, n_next, n_ret, n_brk, n_cont, n_exn, runS, runE, runEs, runG, runGs, runG2, runP, runI, runIf, runO, runB, runC, runBI, runMI, run_raise, up_true, noErr_pure, nb_pure, nb_bind, frz_app, rc_upper, m_upper, q_mulX, frz_ed, frz_ob, frzD_app, frzD_0, frzD_1, frzD_2, frzD_3, frzD_4, frzD_5, frzD_6, frzD_7, frzD_8, frzD_9, fz_ed, wipeE, List.filterMap_cons, List.filterMap_nil, run_bind, run_tr, run_up, run_noErr, run_pure, run_bad, run_ite, runM_pure, runM_bad, runM_bind, runM_guard, runM_alloc, runM_some, runM_none, runM_put, List.getElem?_cons_zero, List.getElem?_cons_succ, List.set_cons_zero, List.set_cons_succ, List.length_cons, List.length_nil, List.cons_append, List.nil_append, List.take_succ_cons, List.take_zero, Nat.reduceAdd, Nat.reduceLeDiff, Nat.reduceLT, Int.reduceLT, Int.reduceLE, Int.reduceNe, Int.reduceEq, ne_eq, not_false_eq_true, reduceCtorEq, Int.reduceToNat, Int.reducePow, Int.reduceNeg, Nat.reduceMul, Nat.reduceEqDiff, Nat.le_refl, Option.some.injEq, O.lst.injEq, exists_eq_left', exists_eq_left, run_frz, frz_int, frz_bl, frz_str, frz_tup, frz_fl, frz_non, frz_0, frz_1, frz_2, frz_3, frz_4, frz_5, frz_6, frz_7, Nat.zero_le, fz_int, fz_bl, fz_str, fz_non, getM_st, getL_st, m_append, m_extend, l_fl, l_ref, rc_append, rc_extend, rc_pop1, rc_pop0, rc_index, rc_join, size_ok, size_lt, b_int, b_bl, b_str, b_non, comp_stat, compA_stat, for_stat, comp_enum, for_enum, decide_eq_true_eq, Option.bind_some, Option.map_some, Option.map_none, fin_ret, fin_next, fin_exn, Gs.len, if_true, if_false, Bool.false_eq_true, Bool.true_eq_false, Bool.not_true, Bool.not_false, decide_true, decide_false, and_true, true_and, beq_self_eq_true, q_add_int, q_add_str, q_add_tup, q_add_rr, q_add_ff, q_add_rf, q_add_fr, q_sub, q_mul, q_mul_ref, q_mul_fl, q_mul_tup, q_fdiv, q_fdivW, q_le_str, q_mod, q_pow, q_ix_tup, q_ix_fl, q_ix_ref, q_set, q_eq_int, q_eq_str, q_eq_bl, q_ne, q_lt, q_le, q_gt, q_ge, q_is, q_isNot, q_isB, q_isNotB, q_notIn, t_bl, t_int, t_tup, t_non, ixN_0, ixN_1, ixN_2, ixN_3, q_divmod, q_abs, q_max2, q_min2, q_len_tup, q_len_fl, q_len_ref, q_len_str, q_seq_tup, q_seq_fl, q_seq_ref, q_src_tup, q_src_fl, q_src_ref, q_part_i, q_part_n, q_list1_tup, q_list1_fl, q_tup1_fl, q_list1_ref, q_tup1_tup, q_tup1_ref, q_slc_tup, q_slc_fl, q_slc_ref, q_src_str, q_srcE_tup, q_srcE_fl, q_srcE_str, in_tupS, in_flS, q_sortedSetS, q_sorted_tupS, q_sorted_flS, q_max_flI, q_min_flI, q_sum_flI, q_rev_tup, q_rev_fl, q_int_bl, q_int_int, q_bool_bl, q_ix_str, q_slc_str, q_join_flS, q_join_tupS, q_split, q_tup1_str, rc_split, ty1, ty2, ty3, ty4, ty5, tStr, tInt, tBool, tTuple, tList]
      exact ⟨by rw [sizeLine_eq]; show (10 + 9 : Nat) ≤ _; decide, by rw [sizeLine_eq]; show (10 + 9 : Nat) ≤ _; decide, _, rfl⟩
    | 2, _, ex =>
      cases (Option.some.inj ex : _ = x)
      simp only [ss_run, ss_nil_run, n_next, n_ret, n_brk, n_cont, n_exn, runS, runE, runEs, runG, runGs, runG2, runP, runI, runIf, runO, runB, runC, runBI, runMI, run_raise, up_true, noErr_pure, nb_pure, nb_bind, frz_app, rc_upper, m_upper, q_mulX, frz_ed, frz_ob, frzD_app, frzD_0, frzD_1, frzD_2, frzD_3, frzD_4, frzD_5, frzD_6, frzD_7, frzD_8, frzD_9, fz_ed, wipeE, List.filterMap_cons, List.filterMap_nil, run_bind, run_tr, run_up, run_noErr, run_pure, run_bad, run_ite, runM_pure, runM_bad, runM_bind, runM_guard, runM_alloc, runM_some, runM_none, runM_put, List.getElem?_cons_zero, List.getElem?_cons_succ, List.set_cons_zero, List.set_cons_succ, List.length_cons, List.length_nil, List.cons_append, List.nil_append, List.take_succ_cons, List.take_zero, Nat.reduceAdd, Nat.reduceLeDiff, Nat.reduceLT, Int.reduceLT, Int.reduceLE, Int.reduceNe, Int.reduceEq, ne_eq, not_false_eq_true, reduceCtorEq, Int.reduceToNat, Int.reducePow, Int.reduceNeg, Nat.reduceMul, Nat.reduceEqDiff, Nat.le_refl, Option.some.injEq, O.lst.injEq, exists_eq_left', exists_eq_left, run_frz, frz_int, frz_bl, frz_str, frz_tup, frz_fl, frz_non, frz_0, frz_1, frz_2, frz_3, frz_4, frz_5, frz_6, frz_7, Nat.zero_le, fz_int, fz_bl, fz_str, fz_non, getM_st, getL_st, m_append, m_extend, l_fl, l_ref, rc_append, rc_extend, rc_pop1, rc_pop0, rc_index, rc_join, size_ok, size_lt, b_int, b_bl, b_str, b_non, comp_stat, compA_stat, for_stat, comp_enum, for_enum, decide_eq_true_eq, Option.bind_some, Option.map_some, Option.map_none, fin_ret, fin_next, fin_exn, Gs.len, if_true, if_false, Bool.false_eq_true, Bool.true_eq_false, Bool.not_true, Bool.not_false, decide_true, decide_false, and_true, true_and, beq_self_eq_true, q_add_int, q_add_str, q_add_tup, q_add_rr, q_add_ff, q_add_rf, q_add_fr, q_sub, q_mul, q_mul_ref, q_mul_fl, q_mul_tup, q_fdiv, q_fdivW, q_le_str, q_mod, q_pow, q_ix_tup, q_ix_fl, q_ix_ref, q_set, q_eq_int, q_eq_str, q_eq_bl, q_ne, q_lt, q_le, q_gt, q_ge, q_is, q_isNot, q_isB, q_isNotB, q_notIn, t_bl, t_int, t_tup, t_non, ixN_0, ixN_1, ixN_2, ixN_3, q_divmod, q_abs, q_max2, q_min2, q_len_tup, q_len_fl, q_len_ref, q_len_str, q_seq_tup, q_seq_fl, q_seq_ref, q_src_tup, q_src_fl, q_src_ref, q_part_i, q_part_n, q_list1_tup, q_list1_fl, q_tup1_fl, q_list1_ref, q_tup1_tup, q_tup1_ref, q_slc_tup, q_slc_fl, q_slc_ref, q_src_str, q_srcE_tup, q_srcE_fl, q_srcE_str, in_tupS, in_flS, q_sortedSetS, q_sorted_tupS, q_sorted_flS, q_max_flI, q_min_flI, q_sum_flI, q_rev_tup, q_rev_fl, q_int_bl, q_int_int, q_bool_bl, q_ix_str, q_slc_str, q_join_flS, q_join_tupS, q_split, q_tup1_str, rc_split, ty1, ty2, ty3, ty4, ty5, tStr, tInt, tBool, tTuple, tList]
      exact ⟨by rw [sizeLine_eq]; show (19 + 10 : Nat) ≤ _; decide, by rw [sizeLine_eq]; show (19 + 8 : Nat) ≤ _; decide, _, rfl⟩
  · rintro env s ⟨z, hj, rfl, rfl⟩
    have r27 : repD [D.fl [d, d]] 27 = flds 27 d := rfl
    have r3 : repD [d] 3 = [d, d, d] := rfl
    have s27 : SmE 4 30000 (.fl (flds 27 d)) := (SmE.fl (SmEL.rep (SmE.fl (SmEL.cons sd (SmEL.cons sd SmEL.nil))) 27)).mono (by decide) (by decide)
    have s3 : SmE 3 3000 (.fl [d, d, d]) := (SmE.fl (SmEL.cons sd (SmEL.cons sd (SmEL.cons sd SmEL.nil)))).mono (by decide) (by decide)
    have f3 : fU d 3 = flds 27 d := rfl
    have m3 : mU d 3 = all29 d := rfl
    simp only [ss_run, ss_nil_run, n_next, n_ret, n_brk, n_cont, n_exn, runS, runE, runEs, runG, runGs, runG2, runP, runI, runIf, runO, runB, runC, runBI, runMI, run_raise, up_true, noErr_pure, nb_pure, nb_bind, frz_app, rc_upper, m_upper, q_mulX, frz_ed, frz_ob, frzD_app, frzD_0, frzD_1, frzD_2, frzD_3, frzD_4, frzD_5, frzD_6, frzD_7, frzD_8, frzD_9, fz_ed, wipeE, List.filterMap_cons, List.filterMap_nil, run_bind, run_tr, run_up, run_noErr, run_pure, run_bad, run_ite, runM_pure, runM_bad, runM_bind, runM_guard, runM_alloc, runM_some, runM_none, runM_put, List.getElem?_cons_zero, List.getElem?_cons_succ, List.set_cons_zero, List.set_cons_succ, List.length_cons, List.length_nil, List.cons_append, List.nil_append, List.take_succ_cons, List.take_zero, Nat.reduceAdd, Nat.reduceLeDiff, Nat.reduceLT, Int.reduceLT, Int.reduceLE, Int.reduceNe, Int.reduceEq, ne_eq, not_false_eq_true, reduceCtorEq, Int.reduceToNat, Int.reducePow, Int.reduceNeg, Nat.reduceMul, Nat.reduceEqDiff, Nat.le_refl, Option.some.injEq, O.lst.injEq, exists_eq_left', exists_eq_left, run_frz, frz_int, frz_bl, frz_str, frz_tup, frz_fl, frz_non, frz_0, frz_1, frz_2, frz_3, frz_4, frz_5, frz_6, frz_7, Nat.zero_le, fz_int, fz_bl, fz_str, fz_non, getM_st, getL_st, m_append, m_extend, l_fl, l_ref, rc_append, rc_extend, rc_pop1, rc_pop0, rc_index, rc_join, size_ok, size_lt, b_int, b_bl, b_str, b_non, comp_stat, compA_stat, for_stat, comp_enum, for_enum, decide_eq_true_eq, Option.bind_some, Option.map_some, Option.map_none, fin_ret, fin_next, fin_exn, Gs.len, if_true, if_false, Bool.false_eq_true, Bool.true_eq_false, Bool.not_true, Bool.not_false, decide_true, decide_false, and_true, true_and, beq_self_eq_true, q_add_int, q_add_str, q_add_tup, q_add_rr, q_add_ff, q_add_rf, q_add_fr, q_sub, q_mul, q_mul_ref, q_mul_fl, q_mul_tup, q_fdiv, q_fdivW, q_le_str, q_mod, q_pow, q_ix_tup, q_ix_fl, q_ix_ref, q_set, q_eq_int, q_eq_str, q_eq_bl, q_ne, q_lt, q_le, q_gt, q_ge, q_is, q_isNot, q_isB, q_isNotB, q_notIn, t_bl, t_int, t_tup, t_non, ixN_0, ixN_1, ixN_2, ixN_3, q_divmod, q_abs, q_max2, q_min2, q_len_tup, q_len_fl, q_len_ref, q_len_str, q_seq_tup, q_seq_fl, q_seq_ref, q_src_tup, q_src_fl, q_src_ref, q_part_i, q_part_n, q_list1_tup, q_list1_fl, q_tup1_fl, q_list1_ref, q_tup1_tup, q_tup1_ref, q_slc_tup, q_slc_fl, q_slc_ref, q_src_str, q_srcE_tup, q_srcE_fl, q_srcE_str, in_tupS, in_flS, q_sortedSetS, q_sorted_tupS, q_sorted_flS, q_max_flI, q_min_flI, q_sum_flI, q_rev_tup, q_rev_fl, q_int_bl, q_int_int, q_bool_bl, q_ix_str, q_slc_str, q_join_flS, q_join_tupS, q_split, q_tup1_str, rc_split, ty1, ty2, ty3, ty4, ty5, tStr, tInt, tBool, tTuple, tList]
    simp only [ss_run, ss_nil_run, n_next, n_ret, n_brk, n_cont, n_exn, runS, runE, runEs, runG, runGs, runG2, runP, runI, runIf, runO, runB, runC, runBI, runMI, run_raise, up_true, noErr_pure, nb_pure, nb_bind, frz_app, rc_upper, m_upper, q_mulX, frz_ed, frz_ob, frzD_app, frzD_0, frzD_1, frzD_2, frzD_3, frzD_4, frzD_5, frzD_6, frzD_7, frzD_8, frzD_9, fz_ed, wipeE, List.filterMap_cons, List.filterMap_nil, run_bind, run_tr, run_up, run_noErr, run_pure, run_bad, run_ite, runM_pure, runM_bad, runM_bind, runM_guard, runM_alloc, runM_some, runM_none, runM_put, List.getElem?_cons_zero, List.getElem?_cons_succ, List.set_cons_zero, List.set_cons_succ, List.length_cons, List.length_nil, List.cons_append, List.nil_append, List.take_succ_cons, List.take_zero, Nat.reduceAdd, Nat.reduceLeDiff, Nat.reduceLT, Int.reduceLT, Int.reduceLE, Int.reduceNe, Int.reduceEq, ne_eq, not_false_eq_true, reduceCtorEq, Int.reduceToNat, Int.reducePow, Int.reduceNeg, Nat.reduceMul, Nat.reduceEqDiff, Nat.le_refl, Option.some.injEq, O.lst.injEq, exists_eq_left', exists_eq_left, run_frz, frz_int, frz_bl, frz_str, frz_tup, frz_fl, frz_non, frz_0, frz_1, frz_2, frz_3, frz_4, frz_5, frz_6, frz_7, Nat.zero_le, fz_int, fz_bl, fz_str, fz_non, getM_st, getL_st, m_append, m_extend, l_fl, l_ref, rc_append, rc_extend, rc_pop1, rc_pop0, rc_index, rc_join, size_ok, size_lt, b_int, b_bl, b_str, b_non, comp_stat, compA_stat, for_stat, comp_enum, for_enum, decide_eq_true_eq, Option.bind_some, Option.map_some, Option.map_none, fin_ret, fin_next, fin_exn, Gs.len, if_true, if_false, Bool.false_eq_true, Bool.true_eq_false, Bool.not_true, Bool.not_false, decide_true, decide_false, and_true, true_and, beq_self_eq_true, q_add_int, q_add_str, q_add_tup, q_add_rr, q_add_ff, q_add_rf, q_add_fr, q_sub, q_mul, q_mul_ref, q_mul_fl, q_mul_tup, q_fdiv, q_fdivW, q_le_str, q_mod, q_pow, q_ix_tup, q_ix_fl, q_ix_ref, q_set, q_eq_int, q_eq_str, q_eq_bl, q_ne, q_lt, q_le, q_gt, q_ge, q_is, q_isNot, q_isB, q_isNotB, q_notIn, t_bl, t_int, t_tup, t_non, ixN_0, ixN_1, ixN_2, ixN_3, q_divmod, q_abs, q_max2, q_min2, q_len_tup, q_len_fl, q_len_ref, q_len_str, q_seq_tup, q_seq_fl, q_seq_ref, q_src_tup, q_src_fl, q_src_ref, q_part_i, q_part_n, q_list1_tup, q_list1_fl, q_tup1_fl, q_list1_ref, q_tup1_tup, q_tup1_ref, q_slc_tup, q_slc_fl, q_slc_ref, q_src_str, q_srcE_tup, q_srcE_fl, q_srcE_str, in_tupS, in_flS, q_sortedSetS, q_sorted_tupS, q_sorted_flS, q_max_flI, q_min_flI, q_sum_flI, q_rev_tup, q_rev_fl, q_int_bl, q_int_int, q_bool_bl, q_ix_str, q_slc_str, q_join_flS, q_join_tupS, q_split, q_tup1_str, rc_split, ty1, ty2, ty3, ty4, ty5, tStr, tInt, tBool, tTuple, tList, f3, m3, r27, repr_E s27, beq_self_eq_true, k4, r3, repr_E s3]
    refine compL_inv (fun i acc s => acc = rowN i ∧ s = [.lst y2]) (i := 0) ?_ ⟨rfl, rfl⟩ ?_
    · rintro j x acc s ex ⟨rfl, rfl⟩
      obtain ⟨o, rfl, no, eo⟩ := (pairs_ok (W := W) (m := 57) nr j x ex).ex
      have hj : j < 29 := (List.getElem?_eq_some_iff.mp ex).1
      have eo : runF tab W 58 "_law_error" [o] = N.pure (.int (j : Int)) := eo
      simp only [ss_run, ss_nil_run, n_next, n_ret, n_brk, n_cont, n_exn, runS, runE, runEs, runG, runGs, runG2, runP, runI, runIf, runO, runB, runC, runBI, runMI, run_raise, up_true, noErr_pure, nb_pure, nb_bind, frz_app, rc_upper, m_upper, q_mulX, frz_ed, frz_ob, frzD_app, frzD_0, frzD_1, frzD_2, frzD_3, frzD_4, frzD_5, frzD_6, frzD_7, frzD_8, frzD_9, fz_ed, wipeE, List.filterMap_cons, List.filterMap_nil, run_bind, run_tr, run_up, run_noErr, run_pure, run_bad, run_ite, runM_pure, runM_bad, runM_bind, runM_guard, runM_alloc, runM_some, runM_none, runM_put, List.getElem?_cons_zero, List.getElem?_cons_succ, List.set_cons_zero, List.set_cons_succ, List.length_cons, List.length_nil, List.cons_append, List.nil_append, List.take_succ_cons, List.take_zero, Nat.reduceAdd, Nat.reduceLeDiff, Nat.reduceLT, Int.reduceLT, Int.reduceLE, Int.reduceNe, Int.reduceEq, ne_eq, not_false_eq_true, reduceCtorEq, Int.reduceToNat, Int.reducePow, Int.reduceNeg, Nat.reduceMul, Nat.reduceEqDiff, Nat.le_refl, Option.some.injEq, O.lst.injEq, exists_eq_left', exists_eq_left, run_frz, frz_int, frz_bl, frz_str, frz_tup, frz_fl, frz_non, frz_0, frz_1, frz_2, frz_3, frz_4, frz_5, frz_6, frz_7, Nat.zero_le, fz_int, fz_bl, fz_str, fz_non, getM_st, getL_st, m_append, m_extend, l_fl, l_ref, rc_append, rc_extend, rc_pop1, rc_pop0, rc_index, rc_join, size_ok, size_lt, b_int, b_bl, b_str, b_non, comp_stat, compA_stat, for_stat, comp_enum, for_enum, decide_eq_true_eq, Option.bind_some, Option.map_some, Option.map_none, fin_ret, fin_next, fin_exn, Gs.len, if_true, if_false, Bool.false_eq_true, Bool.true_eq_false, Bool.not_true, Bool.not_false, decide_true, decide_false, and_true, true_and, beq_self_eq_true, q_add_int, q_add_str, q_add_tup, q_add_rr, q_add_ff, q_add_rf, q_add_fr, q_sub, q_mul, q_mul_ref, q_mul_fl, q_mul_tup, q_fdiv, q_fdivW, q_le_str, q_mod, q_pow, q_ix_tup, q_ix_fl, q_ix_ref, q_set, q_eq_int, q_eq_str, q_eq_bl, q_ne, q_lt, q_le, q_gt, q_ge, q_is, q_isNot, q_isB, q_isNotB, q_notIn, t_bl, t_int, t_tup, t_non, ixN_0, ixN_1, ixN_2, ixN_3, q_divmod, q_abs, q_max2, q_min2, q_len_tup, q_len_fl, q_len_ref, q_len_str, q_seq_tup, q_seq_fl, q_seq_ref, q_src_tup, q_src_fl, q_src_ref, q_part_i, q_part_n, q_list1_tup, q_list1_fl, q_tup1_fl, q_list1_ref, q_tup1_tup, q_tup1_ref, q_slc_tup, q_slc_fl, q_slc_ref, q_src_str, q_srcE_tup, q_srcE_fl, q_srcE_str, in_tupS, in_flS, q_sortedSetS, q_sorted_tupS, q_sorted_flS, q_max_flI, q_min_flI, q_sum_flI, q_rev_tup, q_rev_fl, q_int_bl, q_int_int, q_bool_bl, q_ix_str, q_slc_str, q_join_flS, q_join_tupS, q_split, q_tup1_str, rc_split, ty1, ty2, ty3, ty4, ty5, tStr, tInt, tBool, tTuple, tList]
      refine compL_map (g := fun _ => .int (j : Int)) (fun x hx => ?_) (by simp [sizeLine_eq]) ?_
      · have hx : x = o := by simpa using hx
        subst hx
        simp only [ss_run, ss_nil_run, n_next, n_ret, n_brk, n_cont, n_exn, runS, runE, runEs, runG, runGs, runG2, runP, runI, runIf, runO, runB, runC, runBI, runMI, run_raise, up_true, noErr_pure, nb_pure, nb_bind, frz_app, rc_upper, m_upper, q_mulX, frz_ed, frz_ob, frzD_app, frzD_0, frzD_1, frzD_2, frzD_3, frzD_4, frzD_5, frzD_6, frzD_7, frzD_8, frzD_9, fz_ed, wipeE, List.filterMap_cons, List.filterMap_nil, run_bind, run_tr, run_up, run_noErr, run_pure, run_bad, run_ite, runM_pure, runM_bad, runM_bind, runM_guard, runM_alloc, runM_some, runM_none, runM_put, List.getElem?_cons_zero, List.getElem?_cons_succ, List.set_cons_zero, List.set_cons_succ, List.length_cons, List.length_nil, List.cons_append, List.nil_append, List.take_succ_cons, List.take_zero, Nat.reduceAdd, Nat.reduceLeDiff, Nat.reduceLT, Int.reduceLT, Int.reduceLE, Int.reduceNe, Int.reduceEq, ne_eq, not_false_eq_true, reduceCtorEq, Int.reduceToNat, Int.reducePow, Int.reduceNeg, Nat.reduceMul, Nat.reduceEqDiff, Nat.le_refl, Option.some.injEq, O.lst.injEq, exists_eq_left', exists_eq_left, run_frz, frz_int, frz_bl, frz_str, frz_tup, frz_fl, frz_non, frz_0, frz_1, frz_2, frz_3, frz_4, frz_5, frz_6, frz_7, Nat.zero_le, fz_int, fz_bl, fz_str, fz_non, getM_st, getL_st, m_append, m_extend, l_fl, l_ref, rc_append, rc_extend, rc_pop1, rc_pop0, rc_index, rc_join, size_ok, size_lt, b_int, b_bl, b_str, b_non, comp_stat, compA_stat, for_stat, comp_enum, for_enum, decide_eq_true_eq, Option.bind_some, Option.map_some, Option.map_none, fin_ret, fin_next, fin_exn, Gs.len, if_true, if_false, Bool.false_eq_true, Bool.true_eq_false, Bool.not_true, Bool.not_false, decide_true, decide_false, and_true, true_and, beq_self_eq_true, q_add_int, q_add_str, q_add_tup, q_add_rr, q_add_ff, q_add_rf, q_add_fr, q_sub, q_mul, q_mul_ref, q_mul_fl, q_mul_tup, q_fdiv, q_fdivW, q_le_str, q_mod, q_pow, q_ix_tup, q_ix_fl, q_ix_ref, q_set, q_eq_int, q_eq_str, q_eq_bl, q_ne, q_lt, q_le, q_gt, q_ge, q_is, q_isNot, q_isB, q_isNotB, q_notIn, t_bl, t_int, t_tup, t_non, ixN_0, ixN_1, ixN_2, ixN_3, q_divmod, q_abs, q_max2, q_min2, q_len_tup, q_len_fl, q_len_ref, q_len_str, q_seq_tup, q_seq_fl, q_seq_ref, q_src_tup, q_src_fl, q_src_ref, q_part_i, q_part_n, q_list1_tup, q_list1_fl, q_tup1_fl, q_list1_ref, q_tup1_tup, q_tup1_ref, q_slc_tup, q_slc_fl, q_slc_ref, q_src_str, q_srcE_tup, q_srcE_fl, q_srcE_str, in_tupS, in_flS, q_sortedSetS, q_sorted_tupS, q_sorted_flS, q_max_flI, q_min_flI, q_sum_flI, q_rev_tup, q_rev_fl, q_int_bl, q_int_int, q_bool_bl, q_ix_str, q_slc_str, q_join_flS, q_join_tupS, q_split, q_tup1_str, rc_split, ty1, ty2, ty3, ty4, ty5, tStr, tInt, tBool, tTuple, tList, eo]
      · refine ⟨Nat.le_refl _, ?_, ?_, rfl⟩
        · rw [sizeLine_eq]
          unfold rowN
          rw [List.length_map, List.length_range]
          omega
        · rw [Nat.zero_add, rowN_succ]
          rfl
    · rintro acc s ⟨rfl, rfl⟩
      simp only [ss_run, ss_nil_run, n_next, n_ret, n_brk, n_cont, n_exn, runS, runE, runEs, runG, runGs, runG2, runP, runI, runIf, runO, runB, runC, runBI, runMI, run_raise, up_true, noErr_pure, nb_pure, nb_bind, frz_app, rc_upper, m_upper, q_mulX, frz_ed, frz_ob, frzD_app, frzD_0, frzD_1, frzD_2, frzD_3, frzD_4, frzD_5, frzD_6, frzD_7, frzD_8, frzD_9, fz_ed, wipeE, List.filterMap_cons, List.filterMap_nil, run_bind, run_tr, run_up, run_noErr, run_pure, run_bad, run_ite, runM_pure, runM_bad, runM_bind, runM_guard, runM_alloc, runM_some, runM_none, runM_put, List.getElem?_cons_zero, List.getElem?_cons_succ, List.set_cons_zero, List.set_cons_succ, List.length_cons, List.length_nil, List.cons_append, List.nil_append, List.take_succ_cons, List.take_zero, Nat.reduceAdd, Nat.reduceLeDiff, Nat.reduceLT, Int.reduceLT, Int.reduceLE, Int.reduceNe, Int.reduceEq, ne_eq, not_false_eq_true, reduceCtorEq, Int.reduceToNat, Int.reducePow, Int.reduceNeg, Nat.reduceMul, Nat.reduceEqDiff, Nat.le_refl, Option.some.injEq, O.lst.injEq, exists_eq_left', exists_eq_left, run_frz, frz_int, frz_bl, frz_str, frz_tup, frz_fl, frz_non, frz_0, frz_1, frz_2, frz_3, frz_4, frz_5, frz_6, frz_7, Nat.zero_le, fz_int, fz_bl, fz_str, fz_non, getM_st, getL_st, m_append, m_extend, l_fl, l_ref, rc_append, rc_extend, rc_pop1, rc_pop0, rc_index, rc_join, size_ok, size_lt, b_int, b_bl, b_str, b_non, comp_stat, compA_stat, for_stat, comp_enum, for_enum, decide_eq_true_eq, Option.bind_some, Option.map_some, Option.map_none, fin_ret, fin_next, fin_exn, Gs.len, if_true, if_false, Bool.false_eq_true, Bool.true_eq_false, Bool.not_true, Bool.not_false, decide_true, decide_false, and_true, true_and, beq_self_eq_true, q_add_int, q_add_str, q_add_tup, q_add_rr, q_add_ff, q_add_rf, q_add_fr, q_sub, q_mul, q_mul_ref, q_mul_fl, q_mul_tup, q_fdiv, q_fdivW, q_le_str, q_mod, q_pow, q_ix_tup, q_ix_fl, q_ix_ref, q_set, q_eq_int, q_eq_str, q_eq_bl, q_ne, q_lt, q_le, q_gt, q_ge, q_is, q_isNot, q_isB, q_isNotB, q_notIn, t_bl, t_int, t_tup, t_non, ixN_0, ixN_1, ixN_2, ixN_3, q_divmod, q_abs, q_max2, q_min2, q_len_tup, q_len_fl, q_len_ref, q_len_str, q_seq_tup, q_seq_fl, q_seq_ref, q_src_tup, q_src_fl, q_src_ref, q_part_i, q_part_n, q_list1_tup, q_list1_fl, q_tup1_fl, q_list1_ref, q_tup1_tup, q_tup1_ref, q_slc_tup, q_slc_fl, q_slc_ref, q_src_str, q_srcE_tup, q_srcE_fl, q_srcE_str, in_tupS, in_flS, q_sortedSetS, q_sorted_tupS, q_sorted_flS, q_max_flI, q_min_flI, q_sum_flI, q_rev_tup, q_rev_fl, q_int_bl, q_int_int, q_bool_bl, q_ix_str, q_slc_str, q_join_flS, q_join_tupS, q_split, q_tup1_str, rc_split, ty1, ty2, ty3, ty4, ty5, tStr, tInt, tBool, tTuple, tList]
      refine ⟨rfl, ?_⟩
      generalize hr : rangeD 0 29 = r
      generalize hn : 0 + (all29 d).length = n
      generalize hR : rowN n = R
      exact last29 (hn.symm.trans rfl) hr.symm hR.symm h2
end RV

set_option maxHeartbeats 400000
/-! Lk93: k93. -/
namespace RV
open PySem
theorem right_run : ∀ ys : List D, Pl ys → Run (runF tab 5000 59 "_law_right" [.ref 0]) [.lst ys] (fun d _ => d = .bl true) no := right_gen
theorem law_true : ∀ ns : List Int, ns.length ≤ 63 → ∃ st, runF tab 5000 60 "law" [.fl (ns.map .int)] [] = .ok (.bl true) st := fun ns h => by
  have : Run (runF tab 5000 60 "law" [.fl (ns.map .int)]) [] (fun d _ => d = .bl true) no := by
    refine go_run lk_law rfl rfl rfl (by rw [noRefL, noRef, noRefL_ints]; rfl) rfl ?_
    have kl : runF tab 5000 59 "_law_limits_right" [] = _ := limits_ok (m := 58)
    show Run (N.bind (runSs _ _ (.cons (.ite (.not (.call "_law_limits_right" .nil)) (.cons (.ret (.cst (.bl false))) .nil) .nil) (.cons (.ret (cTail 3 1)) .nil)) [some (.fl (ns.map .int)), none]) fin) _ _ _
    simp only [ss_run, ss_nil_run, n_next, n_ret, n_brk, n_cont, n_exn, runS, runE, runEs, runG, runGs, runG2, runP, runI, runIf, runO, runB, runC, runBI, runMI, run_raise, up_true, noErr_pure, nb_pure, nb_bind, frz_app, rc_upper, m_upper, q_mulX, frz_ed, frz_ob, frzD_app, frzD_0, frzD_1, frzD_2, frzD_3, frzD_4, frzD_5, frzD_6, frzD_7, frzD_8, frzD_9, fz_ed, wipeE, List.filterMap_cons, List.filterMap_nil, run_bind, run_tr, run_up, run_noErr, run_pure, run_bad, run_ite, runM_pure, runM_bad, runM_bind, runM_guard, runM_alloc, runM_some, runM_none, runM_put, List.getElem?_cons_zero, List.getElem?_cons_succ, List.set_cons_zero, List.set_cons_succ, List.length_cons, List.length_nil, List.cons_append, List.nil_append, List.take_succ_cons, List.take_zero, Nat.reduceAdd, Nat.reduceLeDiff, Nat.reduceLT, Int.reduceLT, Int.reduceLE, Int.reduceNe, Int.reduceEq, ne_eq, not_false_eq_true, reduceCtorEq, Int.reduceToNat, Int.reducePow, Int.reduceNeg, Nat.reduceMul, Nat.reduceEqDiff, Nat.le_refl, Option.some.injEq, O.lst.injEq, exists_eq_left', exists_eq_left, run_frz, frz_int, frz_bl, frz_str, frz_tup, frz_fl, frz_non, frz_0, frz_1, frz_2, frz_3, frz_4, frz_5, frz_6, frz_7, Nat.zero_le, fz_int, fz_bl, fz_str, fz_non, getM_st, getL_st, m_append, m_extend, l_fl, l_ref, rc_append, rc_extend, rc_pop1, rc_pop0, rc_index, rc_join, size_ok, size_lt, b_int, b_bl, b_str, b_non, comp_stat, compA_stat, for_stat, comp_enum, for_enum, decide_eq_true_eq, Option.bind_some, Option.map_some, Option.map_none, fin_ret, fin_next, fin_exn, Gs.len, if_true, if_false, Bool.false_eq_true, Bool.true_eq_false, Bool.not_true, Bool.not_false, decide_true, decide_false, and_true, true_and, beq_self_eq_true, q_add_int, q_add_str, q_add_tup, q_add_rr, q_add_ff, q_add_rf, q_add_fr, q_sub, q_mul, q_mul_ref, q_mul_fl, q_mul_tup, q_fdiv, q_fdivW, q_le_str, q_mod, q_pow, q_ix_tup, q_ix_fl, q_ix_ref, q_set, q_eq_int, q_eq_str, q_eq_bl, q_ne, q_lt, q_le, q_gt, q_ge, q_is, q_isNot, q_isB, q_isNotB, q_notIn, t_bl, t_int, t_tup, t_non, ixN_0, ixN_1, ixN_2, ixN_3, q_divmod, q_abs, q_max2, q_min2, q_len_tup, q_len_fl, q_len_ref, q_len_str, q_seq_tup, q_seq_fl, q_seq_ref, q_src_tup, q_src_fl, q_src_ref, q_part_i, q_part_n, q_list1_tup, q_list1_fl, q_tup1_fl, q_list1_ref, q_tup1_tup, q_tup1_ref, q_slc_tup, q_slc_fl, q_slc_ref, q_src_str, q_srcE_tup, q_srcE_fl, q_srcE_str, in_tupS, in_flS, q_sortedSetS, q_sorted_tupS, q_sorted_flS, q_max_flI, q_min_flI, q_sum_flI, q_rev_tup, q_rev_fl, q_int_bl, q_int_int, q_bool_bl, q_ix_str, q_slc_str, q_join_flS, q_join_tupS, q_split, q_tup1_str, rc_split, ty1, ty2, ty3, ty4, ty5, tStr, tInt, tBool, tTuple, tList, kl]
    refine tail_go has_draw lk__law_right h (by decide) (by decide) rfl (by simp) (by decide) right_run fun s => ?_
    simp only [runSs, runS, runE, runEs, runG, runGs, runG2, runP, runI, runIf, runO, runB, runC, runBI, runMI, run_raise, up_true, noErr_pure, nb_pure, nb_bind, frz_app, rc_upper, m_upper, q_mulX, frz_ed, frz_ob, frzD_app, frzD_0, frzD_1, frzD_2, frzD_3, frzD_4, frzD_5, frzD_6, frzD_7, frzD_8, frzD_9, fz_ed, wipeE, List.filterMap_cons, List.filterMap_nil, run_bind, run_tr, run_up, run_noErr, run_pure, run_bad, run_ite, runM_pure, runM_bad, runM_bind, runM_guard, runM_alloc, runM_some, runM_none, runM_put, List.getElem?_cons_zero, List.getElem?_cons_succ, List.set_cons_zero, List.set_cons_succ, List.length_cons, List.length_nil, List.cons_append, List.nil_append, List.take_succ_cons, List.take_zero, Nat.reduceAdd, Nat.reduceLeDiff, Nat.reduceLT, Int.reduceLT, Int.reduceLE, Int.reduceNe, Int.reduceEq, ne_eq, not_false_eq_true, reduceCtorEq, Int.reduceToNat, Int.reducePow, Int.reduceNeg, Nat.reduceMul, Nat.reduceEqDiff, Nat.le_refl, Option.some.injEq, O.lst.injEq, exists_eq_left', exists_eq_left, run_frz, frz_int, frz_bl, frz_str, frz_tup, frz_fl, frz_non, frz_0, frz_1, frz_2, frz_3, frz_4, frz_5, frz_6, frz_7, Nat.zero_le, fz_int, fz_bl, fz_str, fz_non, getM_st, getL_st, m_append, m_extend, l_fl, l_ref, rc_append, rc_extend, rc_pop1, rc_pop0, rc_index, rc_join, size_ok, size_lt, b_int, b_bl, b_str, b_non, comp_stat, compA_stat, for_stat, comp_enum, for_enum, decide_eq_true_eq, Option.bind_some, Option.map_some, Option.map_none, fin_ret, fin_next, fin_exn, Gs.len, if_true, if_false, Bool.false_eq_true, Bool.true_eq_false, Bool.not_true, Bool.not_false, decide_true, decide_false, and_true, true_and, beq_self_eq_true, q_add_int, q_add_str, q_add_tup, q_add_rr, q_add_ff, q_add_rf, q_add_fr, q_sub, q_mul, q_mul_ref, q_mul_fl, q_mul_tup, q_fdiv, q_fdivW, q_le_str, q_mod, q_pow, q_ix_tup, q_ix_fl, q_ix_ref, q_set, q_eq_int, q_eq_str, q_eq_bl, q_ne, q_lt, q_le, q_gt, q_ge, q_is, q_isNot, q_isB, q_isNotB, q_notIn, t_bl, t_int, t_tup, t_non, ixN_0, ixN_1, ixN_2, ixN_3, q_divmod, q_abs, q_max2, q_min2, q_len_tup, q_len_fl, q_len_ref, q_len_str, q_seq_tup, q_seq_fl, q_seq_ref, q_src_tup, q_src_fl, q_src_ref, q_part_i, q_part_n, q_list1_tup, q_list1_fl, q_tup1_fl, q_list1_ref, q_tup1_tup, q_tup1_ref, q_slc_tup, q_slc_fl, q_slc_ref, q_src_str, q_srcE_tup, q_srcE_fl, q_srcE_str, in_tupS, in_flS, q_sortedSetS, q_sorted_tupS, q_sorted_flS, q_max_flI, q_min_flI, q_sum_flI, q_rev_tup, q_rev_fl, q_int_bl, q_int_int, q_bool_bl, q_ix_str, q_slc_str, q_join_flS, q_join_tupS, q_split, q_tup1_str, rc_split, ty1, ty2, ty3, ty4, ty5, tStr, tInt, tBool, tTuple, tList]
  obtain ⟨a, s, e, rfl⟩ := this.ok
  exact ⟨s, e⟩
end RV

namespace RV
open PySem PySem.Spec PyProof.Rows L2
end RV
open PySem PySem.W PySem.Calls PyProof.Rows
set_option maxHeartbeats 0 in
theorem PySem.Challenge.cw_redeliver_k93_limits_and_errors_holds : PySem.Challenge.rw_redeliver_k93_limits_and_errors.Holds := by
  w_on; o_law
  refine HandSHeadRun.head_any (r := OpenLaw.row PySem.Challenge.rw_redeliver_k93_limits_and_errors) (q := view (OpenLaw.row PySem.Challenge.rw_redeliver_k93_limits_and_errors).prog [60]) (H := RV.hkL) (ob := RV.obL) (M := 30000) (loose := RV.namesL) (d := HandSHeadRun.topDef (OpenLaw.row PySem.Challenge.rw_redeliver_k93_limits_and_errors).prog 60) (kwd := []) RV.obL_eq
    (by kernel_rfl) (fun s => by kernel_rfl) RV.runL (by kernel_rfl) (by kernel_rfl) (by kernel_rfl) (by rfl) (by first | assumption | decide +kernel) (by decide +kernel) ⟨rfl, rfl, rfl, rfl, rfl, by decide +kernel⟩ ?hw ?hc
  case hw => w_witness2
  case hc =>
    refine RV.walkGT (l := PySem.Challenge.rw_redeliver_k93_limits_and_errors) (n := 63) (k := 60) (x := "_law_script") (Ψ := RV.runF RV.tab 5000 60 "law") (Sd := True) (fun _ _ _ y => y.2) rfl (by decide) (by kernel_rfl) ⟨rfl, by decide, by decide⟩ ?F RV.law_true
    intro w mg fa h Y G hmg0
    obtain ⟨⟨K, KX, c⟩, _⟩ := Y
    have hmg : mg ("law" : PySem.Str) = some (.ref fa) := by
      have e : (HandSHeadRun.topDef (OpenLaw.row PySem.Challenge.rw_redeliver_k93_limits_and_errors).prog 60).name = ("law" : PySem.Str) := by kernel_rfl
      rw [← e]
      exact hmg0
    obtain ⟨ts, fd, h1, h2, h3⟩ := RV.factsL (l := PySem.Challenge.rw_redeliver_k93_limits_and_errors) KX G hmg c
    exact ⟨K, ts, fd, KX, h1, h2, h3⟩

