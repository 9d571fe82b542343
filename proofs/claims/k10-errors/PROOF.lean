import PyProof.Rows.All
import Wide.All
import OpenK.AllK
import Wide.FinOn
import HandS.ForMost
import HandS.ForExc
import HandS.More
import HandS.Walk
import HandS.Flow
import HandS.CallSlots
import HandS.HeadHook1
import HandS.ExcInit
import KE.KExcInit
import KE.KExcIs
import HandS.Head0
import HandS.Head1
import HandS.Head2
import HandS.HeadEnd
import HandS.HeadHook2
import PySem.Challenge.RW_settlesfirst_k10_errors
import KE.KStateDown
import HandS.ExcOwn
import HandS.Defaults
import HandS.IsInst
import HandS.Strs
import HandS.TupAny
import HandS.Style
import HandS.Call
import PyProof.ReprRoads
import PyProof.CallFns
import HandS.Iter
import HandS.Ends
import HandS.Words
import PyProof.ReprLen
set_option Elab.async false
set_option linter.all false
set_option maxRecDepth 100000
set_option maxHeartbeats 0
set_option autoImplicit false
namespace Mi
open PySem PySem.Spec PyProof.Rows L2
abbrev tlOf (B : String) : List Value := [.type B, .type "Exception", .type "BaseException", .type "object"]
def xcB (K : PySem.W.Frag) (C : Addr) (newId : String) (bmB : List Value) : Bool :=
  PySem.W.excInitIn K C bmB newId && (PySem.W.excOver K C bmB && (PySem.W.hasDictIn K C && (PySem.W.keepIn K (.ref C) && (decide (PySem.W.findIn K (.ref C) "__setattr__" = some (some (.builtin "object.__setattr__"))) && (decide (PySem.W.subIn K (.ref C) (.type "BaseException") = some true) &&
  (decide (PySem.W.typeIn K (.ref C) = some (.type "type")) && (decide (PySem.W.findIn K (.ref C) "__getattribute__" = some (some (.builtin "BaseException.__getattribute__"))) && (decide (PySem.W.findIn K (.ref C) "__getattr__" = some none) && ((PySem.W.clsIn K C).isSome &&
  (decide (PySem.W.findIn K (.ref C) "__class__" = some (some (.builtin "object.__class__"))) && decide (PySem.W.mroIn K C (.type "object") = some true)))))))))))
def xinB (K : PySem.W.Frag) (bs : Addr) (initId : String) : Bool := PySem.W.readsIn K bs (.type "type") && (decide (PySem.W.specialIn K (.ref bs) "__getattribute__" = some (some (.builtin "type.__getattribute__"))) && (match PySem.W.findCls K (.ref bs) (.type "type") "__init__" with | some (.val v) => v == .builtin initId | _ => false))
def obsM (fa : List He.Fa) (fn : List He.DefD) (ck : PySem.W.Frag → Bool) (K : PySem.W.Frag) : Bool × He.AlD := (ck K, He.obsD fa fn K)
def frM (n : Nat) (g : Addr → Option Obj) : PySem.W.Frag := He.frG g (sysModules :: cStatics :: He.asD g n)
def obsMG (n : Nat) (fa : List He.Fa) (fn : List He.DefD) (ck : PySem.W.Frag → Bool) (g : Addr → Option Obj) : Bool × He.AlD := obsM fa fn ck (frM n g)
def SaysM (fa : List He.Fa) (fn : List He.DefD) (ck : PySem.W.Frag → Bool) (K : PySem.W.Frag) : Prop := ck K = true ∧ He.SaysD fa fn K
def hookM (n : Nat) (fa : List He.Fa) (fn : List He.DefD) (ck : PySem.W.Frag → Bool) : PySem.W.Hook where
  α := Bool × He.AlD
  obs := fun s => obsMG n fa fn ck s.heap.get?
  val := fun _ => (true, He.valD fn)
  says := fun _ h => ∃ K : PySem.W.Frag, K.In h ∧ SaysM fa fn ck K
  of := fun _ _ e => ⟨_, He.frG_in, congrArg Prod.fst e, congrArg Prod.snd e⟩
  keeps := fun _ _ _ ⟨K, hK, c⟩ k => ⟨K, PySem.W.Frag.In.keeps hK k, c⟩
theorem obsMG_eq {n : Nat} {fa : List He.Fa} {fn : List He.DefD} {ck : PySem.W.Frag → Bool} {g : Addr → Option Obj} {s : Shared} (h : ∀ a, g a = s.heap.get? a) : obsMG n fa fn ck g = (hookM n fa fn ck).obs s := by
  have e : g = s.heap.get? := funext h
  rw [e] <;> rfl
def sysB (K : PySem.W.Frag) : Bool := match K.lookup sysModules with
  | some o => o.cls == .type "dict"
  | none => false
def obcB (K : PySem.W.Frag) : Bool := decide (PySem.W.specialIn K (.builtin "object.__class__") "__get__" = some (some (.builtin "getset_descriptor.__get__"))) && decide (PySem.W.takesIn K (.builtin "object.__class__") = some true)
def xallB (K : PySem.W.Frag) (cs : List (Str × String)) : Bool := cs.all fun p => xcB K (He.ga K p.1) (p.2 ++ ".__new__") (tlOf p.2)
def nofB (K : PySem.W.Frag) (cs : List Str) (f : Str) : Bool := cs.all fun c => He.eqO (PySem.W.findIn K (.ref (He.ga K c)) f) (some none)
def kvOf (K : PySem.W.Frag) (t : Str ⊕ String) : Value := match t with
  | .inl x => .ref (He.ga K x)
  | .inr T => .type T
def isB (K : PySem.W.Frag) (t : Str ⊕ String) (tb : List (Str × Bool)) : Bool := tb.all fun p => decide (PySem.W.kitOne K (.ref (He.ga K p.1)) (kvOf K t) = some p.2)
def inB (K : PySem.W.Frag) (cs : List Str) : Bool := cs.all fun c => He.eqO (PySem.W.findIn K (.ref (He.ga K c)) "__init__") (some (some (.ref (He.ma K (He.ga K c) "__init__")))) && decide (PySem.W.typeIn K (.ref (He.ma K (He.ga K c) "__init__")) = some (.type "function"))
end Mi

namespace Law
open PySem PySem.Spec PyProof.Rows L2 Mi
def top (i : Nat) : Stmt := PySem.Challenge.pw_settlesfirst_k10_errors.main.body.getD i (.Pass ⟨0, 0, 0, 0⟩)

def cs : List Str := (["InvalidDeeds", "InvalidRows", "InvalidState", "InvalidDeed", "InvalidWord", "InvalidStates", "InvalidNames", "InvalidEntry", "InvalidAnswers", "InvalidNumber", "InvalidTeam", "InvalidHand", "InvalidOrder", "InvalidLayout", "InvalidThings", "InvalidScripts"] : List Str) ++ (["InvalidWeaving", "InvalidPlace", "InvalidText", "InvalidClaim", "InvalidCommand", "NoSuch", "SharedDeed", "OtherThing", "LastOne", "NotInIt", "NotTelling", "NotRecording", "NotRight", "NotCritical", "NothingToUndo", "CommandFailed"] : List Str) ++ (["TooMany"] : List Str)
def cs2 : List (Str × String) := cs.zip ["ValueError", "ValueError", "ValueError", "ValueError", "ValueError", "ValueError", "ValueError", "ValueError", "ValueError", "ValueError", "ValueError", "ValueError", "ValueError", "ValueError", "ValueError", "ValueError", "ValueError", "ValueError", "ValueError", "ValueError", "ValueError", "LookupError", "RuntimeError", "RuntimeError", "RuntimeError", "RuntimeError", "RuntimeError", "RuntimeError", "RuntimeError", "RuntimeError", "RuntimeError", "RuntimeError", "ArithmeticError"]
theorem cs_eq : cs2.map (·.1) = cs := rfl
def tb_SettleError : List (Str × Bool) := cs.zip [true, true, true, true, true, true, true, true, true, true, true, true, true, true, true, true, true, true, true, true, true, false, false, false, false, false, false, false, false, false, false, false, false]
def tb_InvalidDeeds : List (Str × Bool) := cs.zip [true, false, false, false, false, false, false, false, false, false, false, false, false, false, false, false, false, false, false, false, false, false, false, false, false, false, false, false, false, false, false, false, false]
def tb_InvalidRows : List (Str × Bool) := cs.zip [false, true, false, false, false, false, false, false, false, false, false, false, false, false, false, false, false, false, false, false, false, false, false, false, false, false, false, false, false, false, false, false, false]
def tb_InvalidState : List (Str × Bool) := cs.zip [false, false, true, false, false, false, false, false, false, false, false, false, false, false, false, false, false, false, false, false, false, false, false, false, false, false, false, false, false, false, false, false, false]
def tb_InvalidDeed : List (Str × Bool) := cs.zip [false, false, false, true, false, false, false, false, false, false, false, false, false, false, false, false, false, false, false, false, false, false, false, false, false, false, false, false, false, false, false, false, false]
def tb_InvalidWord : List (Str × Bool) := cs.zip [false, false, false, false, true, false, false, false, false, false, false, false, false, false, false, false, false, false, false, false, false, false, false, false, false, false, false, false, false, false, false, false, false]
def tb_InvalidStates : List (Str × Bool) := cs.zip [false, false, false, false, false, true, false, false, false, false, false, false, false, false, false, false, false, false, false, false, false, false, false, false, false, false, false, false, false, false, false, false, false]
def tb_InvalidNames : List (Str × Bool) := cs.zip [false, false, false, false, false, false, true, false, false, false, false, false, false, false, false, false, false, false, false, false, false, false, false, false, false, false, false, false, false, false, false, false, false]
def tb_InvalidEntry : List (Str × Bool) := cs.zip [false, false, false, false, false, false, false, true, false, false, false, false, false, false, false, false, false, false, false, false, false, false, false, false, false, false, false, false, false, false, false, false, false]
def tb_InvalidAnswers : List (Str × Bool) := cs.zip [false, false, false, false, false, false, false, false, true, false, false, false, false, false, false, false, false, false, false, false, false, false, false, false, false, false, false, false, false, false, false, false, false]
def tb_InvalidNumber : List (Str × Bool) := cs.zip [false, false, false, false, false, false, false, false, false, true, false, false, false, false, false, false, false, false, false, false, false, false, false, false, false, false, false, false, false, false, false, false, false]
def tb_InvalidTeam : List (Str × Bool) := cs.zip [false, false, false, false, false, false, false, false, false, false, true, false, false, false, false, false, false, false, false, false, false, false, false, false, false, false, false, false, false, false, false, false, false]
def tb_InvalidHand : List (Str × Bool) := cs.zip [false, false, false, false, false, false, false, false, false, false, false, true, false, false, false, false, false, false, false, false, false, false, false, false, false, false, false, false, false, false, false, false, false]
def tb_InvalidOrder : List (Str × Bool) := cs.zip [false, false, false, false, false, false, false, false, false, false, false, false, true, false, false, false, false, false, false, false, false, false, false, false, false, false, false, false, false, false, false, false, false]
def tb_InvalidLayout : List (Str × Bool) := cs.zip [false, false, false, false, false, false, false, false, false, false, false, false, false, true, false, false, false, false, false, false, false, false, false, false, false, false, false, false, false, false, false, false, false]
def tb_InvalidThings : List (Str × Bool) := cs.zip [false, false, false, false, false, false, false, false, false, false, false, false, false, false, true, false, false, false, false, false, false, false, false, false, false, false, false, false, false, false, false, false, false]
def tb_InvalidScripts : List (Str × Bool) := cs.zip [false, false, false, false, false, false, false, false, false, false, false, false, false, false, false, true, false, false, false, false, false, false, false, false, false, false, false, false, false, false, false, false, false]
def tb_InvalidWeaving : List (Str × Bool) := cs.zip [false, false, false, false, false, false, false, false, false, false, false, false, false, false, false, false, true, false, false, false, false, false, false, false, false, false, false, false, false, false, false, false, false]
def tb_InvalidPlace : List (Str × Bool) := cs.zip [false, false, false, false, false, false, false, false, false, false, false, false, false, false, false, false, false, true, false, false, false, false, false, false, false, false, false, false, false, false, false, false, false]
def tb_InvalidText : List (Str × Bool) := cs.zip [false, false, false, false, false, false, false, false, false, false, false, false, false, false, false, false, false, false, true, false, false, false, false, false, false, false, false, false, false, false, false, false, false]
def tb_InvalidClaim : List (Str × Bool) := cs.zip [false, false, false, false, false, false, false, false, false, false, false, false, false, false, false, false, false, false, false, true, false, false, false, false, false, false, false, false, false, false, false, false, false]
def tb_InvalidCommand : List (Str × Bool) := cs.zip [false, false, false, false, false, false, false, false, false, false, false, false, false, false, false, false, false, false, false, false, true, false, false, false, false, false, false, false, false, false, false, false, false]
def tb_MissingError : List (Str × Bool) := cs.zip [false, false, false, false, false, false, false, false, false, false, false, false, false, false, false, false, false, false, false, false, false, true, false, false, false, false, false, false, false, false, false, false, false]
def tb_NoSuch : List (Str × Bool) := cs.zip [false, false, false, false, false, false, false, false, false, false, false, false, false, false, false, false, false, false, false, false, false, true, false, false, false, false, false, false, false, false, false, false, false]
def tb_StateError : List (Str × Bool) := cs.zip [false, false, false, false, false, false, false, false, false, false, false, false, false, false, false, false, false, false, false, false, false, false, true, true, true, true, true, true, true, true, true, true, false]
def tb_SharedDeed : List (Str × Bool) := cs.zip [false, false, false, false, false, false, false, false, false, false, false, false, false, false, false, false, false, false, false, false, false, false, true, false, false, false, false, false, false, false, false, false, false]
def tb_OtherThing : List (Str × Bool) := cs.zip [false, false, false, false, false, false, false, false, false, false, false, false, false, false, false, false, false, false, false, false, false, false, false, true, false, false, false, false, false, false, false, false, false]
def tb_LastOne : List (Str × Bool) := cs.zip [false, false, false, false, false, false, false, false, false, false, false, false, false, false, false, false, false, false, false, false, false, false, false, false, true, false, false, false, false, false, false, false, false]
def tb_NotInIt : List (Str × Bool) := cs.zip [false, false, false, false, false, false, false, false, false, false, false, false, false, false, false, false, false, false, false, false, false, false, false, false, false, true, false, false, false, false, false, false, false]
def tb_NotTelling : List (Str × Bool) := cs.zip [false, false, false, false, false, false, false, false, false, false, false, false, false, false, false, false, false, false, false, false, false, false, false, false, false, false, true, false, false, false, false, false, false]
def tb_NotRecording : List (Str × Bool) := cs.zip [false, false, false, false, false, false, false, false, false, false, false, false, false, false, false, false, false, false, false, false, false, false, false, false, false, false, false, true, false, false, false, false, false]
def tb_NotRight : List (Str × Bool) := cs.zip [false, false, false, false, false, false, false, false, false, false, false, false, false, false, false, false, false, false, false, false, false, false, false, false, false, false, false, false, true, false, false, false, false]
def tb_NotCritical : List (Str × Bool) := cs.zip [false, false, false, false, false, false, false, false, false, false, false, false, false, false, false, false, false, false, false, false, false, false, false, false, false, false, false, false, false, true, false, false, false]
def tb_NothingToUndo : List (Str × Bool) := cs.zip [false, false, false, false, false, false, false, false, false, false, false, false, false, false, false, false, false, false, false, false, false, false, false, false, false, false, false, false, false, false, true, false, false]
def tb_CommandFailed : List (Str × Bool) := cs.zip [false, false, false, false, false, false, false, false, false, false, false, false, false, false, false, false, false, false, false, false, false, false, false, false, false, false, false, false, false, false, false, true, false]
def tb_LimitError : List (Str × Bool) := cs.zip [false, false, false, false, false, false, false, false, false, false, false, false, false, false, false, false, false, false, false, false, false, false, false, false, false, false, false, false, false, false, false, false, true]
def tb_TooMany : List (Str × Bool) := cs.zip [false, false, false, false, false, false, false, false, false, false, false, false, false, false, false, false, false, false, false, false, false, false, false, false, false, false, false, false, false, false, false, false, true]
def tb_ArithmeticError : List (Str × Bool) := cs.zip [false, false, false, false, false, false, false, false, false, false, false, false, false, false, false, false, false, false, false, false, false, false, false, false, false, false, false, false, false, false, false, false, true]
def tb_LookupError : List (Str × Bool) := cs.zip [false, false, false, false, false, false, false, false, false, false, false, false, false, false, false, false, false, false, false, false, false, true, false, false, false, false, false, false, false, false, false, false, false]
def tb_RuntimeError : List (Str × Bool) := cs.zip [false, false, false, false, false, false, false, false, false, false, false, false, false, false, false, false, false, false, false, false, false, false, true, true, true, true, true, true, true, true, true, true, false]
def tb_ValueError : List (Str × Bool) := cs.zip [true, true, true, true, true, true, true, true, true, true, true, true, true, true, true, true, true, true, true, true, true, false, false, false, false, false, false, false, false, false, false, false, false]
end Law

namespace Law
open PySem PySem.Spec PyProof.Rows L2 Mi
def d2_0 : He.DefD := ⟨("InvalidDeeds", some "__init__"), "__init__", "InvalidDeeds.__init__", defArgs (inClass (top 2) 0), defBody (inClass (top 2) 0), defScope (inClass (top 2) 0), [], []⟩
def d3_0 : He.DefD := ⟨("InvalidRows", some "__init__"), "__init__", "InvalidRows.__init__", defArgs (inClass (top 3) 0), defBody (inClass (top 3) 0), defScope (inClass (top 3) 0), [], []⟩
def d4_0 : He.DefD := ⟨("InvalidState", some "__init__"), "__init__", "InvalidState.__init__", defArgs (inClass (top 4) 0), defBody (inClass (top 4) 0), defScope (inClass (top 4) 0), [], []⟩
def d5_0 : He.DefD := ⟨("InvalidDeed", some "__init__"), "__init__", "InvalidDeed.__init__", defArgs (inClass (top 5) 0), defBody (inClass (top 5) 0), defScope (inClass (top 5) 0), [], []⟩
def d6_0 : He.DefD := ⟨("InvalidWord", some "__init__"), "__init__", "InvalidWord.__init__", defArgs (inClass (top 6) 0), defBody (inClass (top 6) 0), defScope (inClass (top 6) 0), [], []⟩
def d7_0 : He.DefD := ⟨("InvalidStates", some "__init__"), "__init__", "InvalidStates.__init__", defArgs (inClass (top 7) 0), defBody (inClass (top 7) 0), defScope (inClass (top 7) 0), [], []⟩
def d8_0 : He.DefD := ⟨("InvalidNames", some "__init__"), "__init__", "InvalidNames.__init__", defArgs (inClass (top 8) 0), defBody (inClass (top 8) 0), defScope (inClass (top 8) 0), [], []⟩
def d9_0 : He.DefD := ⟨("InvalidEntry", some "__init__"), "__init__", "InvalidEntry.__init__", defArgs (inClass (top 9) 0), defBody (inClass (top 9) 0), defScope (inClass (top 9) 0), [], []⟩
def d10_0 : He.DefD := ⟨("InvalidAnswers", some "__init__"), "__init__", "InvalidAnswers.__init__", defArgs (inClass (top 10) 0), defBody (inClass (top 10) 0), defScope (inClass (top 10) 0), [], []⟩
def d11_0 : He.DefD := ⟨("InvalidNumber", some "__init__"), "__init__", "InvalidNumber.__init__", defArgs (inClass (top 11) 0), defBody (inClass (top 11) 0), defScope (inClass (top 11) 0), [], []⟩
def d12_0 : He.DefD := ⟨("InvalidTeam", some "__init__"), "__init__", "InvalidTeam.__init__", defArgs (inClass (top 12) 0), defBody (inClass (top 12) 0), defScope (inClass (top 12) 0), [], []⟩
def d13_0 : He.DefD := ⟨("InvalidHand", some "__init__"), "__init__", "InvalidHand.__init__", defArgs (inClass (top 13) 0), defBody (inClass (top 13) 0), defScope (inClass (top 13) 0), [], []⟩
def d14_0 : He.DefD := ⟨("InvalidOrder", some "__init__"), "__init__", "InvalidOrder.__init__", defArgs (inClass (top 14) 0), defBody (inClass (top 14) 0), defScope (inClass (top 14) 0), [], []⟩
def d15_0 : He.DefD := ⟨("InvalidLayout", some "__init__"), "__init__", "InvalidLayout.__init__", defArgs (inClass (top 15) 0), defBody (inClass (top 15) 0), defScope (inClass (top 15) 0), [], []⟩
def d16_0 : He.DefD := ⟨("InvalidThings", some "__init__"), "__init__", "InvalidThings.__init__", defArgs (inClass (top 16) 0), defBody (inClass (top 16) 0), defScope (inClass (top 16) 0), [], []⟩
def d17_0 : He.DefD := ⟨("InvalidScripts", some "__init__"), "__init__", "InvalidScripts.__init__", defArgs (inClass (top 17) 0), defBody (inClass (top 17) 0), defScope (inClass (top 17) 0), [], []⟩
def d18_0 : He.DefD := ⟨("InvalidWeaving", some "__init__"), "__init__", "InvalidWeaving.__init__", defArgs (inClass (top 18) 0), defBody (inClass (top 18) 0), defScope (inClass (top 18) 0), [], []⟩
def d19_0 : He.DefD := ⟨("InvalidPlace", some "__init__"), "__init__", "InvalidPlace.__init__", defArgs (inClass (top 19) 0), defBody (inClass (top 19) 0), defScope (inClass (top 19) 0), [], []⟩
def d20_0 : He.DefD := ⟨("InvalidText", some "__init__"), "__init__", "InvalidText.__init__", defArgs (inClass (top 20) 0), defBody (inClass (top 20) 0), defScope (inClass (top 20) 0), [], []⟩
def d21_0 : He.DefD := ⟨("InvalidClaim", some "__init__"), "__init__", "InvalidClaim.__init__", defArgs (inClass (top 21) 0), defBody (inClass (top 21) 0), defScope (inClass (top 21) 0), [], []⟩
def d22_0 : He.DefD := ⟨("InvalidCommand", some "__init__"), "__init__", "InvalidCommand.__init__", defArgs (inClass (top 22) 0), defBody (inClass (top 22) 0), defScope (inClass (top 22) 0), [], []⟩
def d24_0 : He.DefD := ⟨("NoSuch", some "__init__"), "__init__", "NoSuch.__init__", defArgs (inClass (top 24) 0), defBody (inClass (top 24) 0), defScope (inClass (top 24) 0), [], []⟩
def d26_0 : He.DefD := ⟨("SharedDeed", some "__init__"), "__init__", "SharedDeed.__init__", defArgs (inClass (top 26) 0), defBody (inClass (top 26) 0), defScope (inClass (top 26) 0), [], []⟩
def d27_0 : He.DefD := ⟨("OtherThing", some "__init__"), "__init__", "OtherThing.__init__", defArgs (inClass (top 27) 0), defBody (inClass (top 27) 0), defScope (inClass (top 27) 0), [], []⟩
def d28_0 : He.DefD := ⟨("LastOne", some "__init__"), "__init__", "LastOne.__init__", defArgs (inClass (top 28) 0), defBody (inClass (top 28) 0), defScope (inClass (top 28) 0), [], []⟩
def d29_0 : He.DefD := ⟨("NotInIt", some "__init__"), "__init__", "NotInIt.__init__", defArgs (inClass (top 29) 0), defBody (inClass (top 29) 0), defScope (inClass (top 29) 0), [], []⟩
def d30_0 : He.DefD := ⟨("NotTelling", some "__init__"), "__init__", "NotTelling.__init__", defArgs (inClass (top 30) 0), defBody (inClass (top 30) 0), defScope (inClass (top 30) 0), [], []⟩
def d31_0 : He.DefD := ⟨("NotRecording", some "__init__"), "__init__", "NotRecording.__init__", defArgs (inClass (top 31) 0), defBody (inClass (top 31) 0), defScope (inClass (top 31) 0), [], []⟩
def d32_0 : He.DefD := ⟨("NotRight", some "__init__"), "__init__", "NotRight.__init__", defArgs (inClass (top 32) 0), defBody (inClass (top 32) 0), defScope (inClass (top 32) 0), [], []⟩
def d33_0 : He.DefD := ⟨("NotCritical", some "__init__"), "__init__", "NotCritical.__init__", defArgs (inClass (top 33) 0), defBody (inClass (top 33) 0), defScope (inClass (top 33) 0), [], []⟩
def d34_0 : He.DefD := ⟨("NothingToUndo", some "__init__"), "__init__", "NothingToUndo.__init__", defArgs (inClass (top 34) 0), defBody (inClass (top 34) 0), defScope (inClass (top 34) 0), [], []⟩
def d35_0 : He.DefD := ⟨("CommandFailed", some "__init__"), "__init__", "CommandFailed.__init__", defArgs (inClass (top 35) 0), defBody (inClass (top 35) 0), defScope (inClass (top 35) 0), [], []⟩
def d37_0 : He.DefD := ⟨("TooMany", some "__init__"), "__init__", "TooMany.__init__", defArgs (inClass (top 37) 0), defBody (inClass (top 37) 0), defScope (inClass (top 37) 0), [], []⟩
def d39 : He.DefD := ⟨("_law_pot", none), "_law_pot", "_law_pot", defArgs (top 39), defBody (top 39), defScope (top 39), [], []⟩
def d40 : He.DefD := ⟨("_law_draw", none), "_law_draw", "_law_draw", defArgs (top 40), defBody (top 40), defScope (top 40), [], []⟩
def d41 : He.DefD := ⟨("_law_pick", none), "_law_pick", "_law_pick", defArgs (top 41), defBody (top 41), defScope (top 41), [], []⟩
def d42 : He.DefD := ⟨("_law_thing", none), "_law_thing", "_law_thing", defArgs (top 42), defBody (top 42), defScope (top 42), [], []⟩
def d43 : He.DefD := ⟨("_law_placed", none), "_law_placed", "_law_placed", defArgs (top 43), defBody (top 43), defScope (top 43), [], []⟩
def d44 : He.DefD := ⟨("_law_placed_by_name", none), "_law_placed_by_name", "_law_placed_by_name", defArgs (top 44), defBody (top 44), defScope (top 44), [], []⟩
def d45 : He.DefD := ⟨("_law_valued", none), "_law_valued", "_law_valued", defArgs (top 45), defBody (top 45), defScope (top 45), [], []⟩
def d46 : He.DefD := ⟨("_law_valued_by_name", none), "_law_valued_by_name", "_law_valued_by_name", defArgs (top 46), defBody (top 46), defScope (top 46), [], []⟩
def d47 : He.DefD := ⟨("_law_stood", none), "_law_stood", "_law_stood", defArgs (top 47), defBody (top 47), defScope (top 47), [], []⟩
def d48 : He.DefD := ⟨("_law_every", none), "_law_every", "_law_every", defArgs (top 48), defBody (top 48), defScope (top 48), [], []⟩
def d49 : He.DefD := ⟨("_law_of_first", none), "_law_of_first", "_law_of_first", defArgs (top 49), defBody (top 49), defScope (top 49), [], []⟩
def d50 : He.DefD := ⟨("_law_of_others", none), "_law_of_others", "_law_of_others", defArgs (top 50), defBody (top 50), defScope (top 50), [], []⟩
def d51 : He.DefD := ⟨("_law_families", none), "_law_families", "_law_families", defArgs (top 51), defBody (top 51), defScope (top 51), [], []⟩
def d52 : He.DefD := ⟨("_law_kept_right", none), "_law_kept_right", "_law_kept_right", defArgs (top 52), defBody (top 52), defScope (top 52), [], []⟩
def d53 : He.DefD := ⟨("_law_kinds_right", none), "_law_kinds_right", "_law_kinds_right", defArgs (top 53), defBody (top 53), defScope (top 53), [], []⟩
def d54 : He.DefD := ⟨("law", none), "law", "law", defArgs (top 54), defBody (top 54), defScope (top 54), [], []⟩
def fn : List He.DefD := [d2_0, d3_0, d4_0, d5_0, d6_0, d7_0, d8_0, d9_0, d10_0, d11_0, d12_0, d13_0, d14_0, d15_0, d16_0, d17_0, d18_0, d19_0, d20_0, d21_0, d22_0, d24_0, d26_0, d27_0, d28_0, d29_0, d30_0, d31_0, d32_0, d33_0, d34_0, d35_0, d37_0, d39, d40, d41, d42, d43, d44, d45, d46, d47, d48, d49, d50, d51, d52, d53, d54]
def fa : List He.Fa := [.glo "SettleError", .glo "InvalidDeeds", .glo "InvalidRows", .glo "InvalidState", .glo "InvalidDeed", .glo "InvalidWord", .glo "InvalidStates", .glo "InvalidNames", .glo "InvalidEntry", .glo "InvalidAnswers", .glo "InvalidNumber", .glo "InvalidTeam", .glo "InvalidHand", .glo "InvalidOrder", .glo "InvalidLayout", .glo "InvalidThings", .glo "InvalidScripts", .glo "InvalidWeaving", .glo "InvalidPlace", .glo "InvalidText", .glo "InvalidClaim", .glo "InvalidCommand", .glo "MissingError", .glo "NoSuch", .glo "StateError", .glo "SharedDeed", .glo "OtherThing", .glo "LastOne", .glo "NotInIt", .glo "NotTelling"] ++ [.glo "NotRecording", .glo "NotRight", .glo "NotCritical", .glo "NothingToUndo", .glo "CommandFailed", .glo "LimitError", .glo "TooMany", .glo "_law_pot", .glo "_law_draw", .glo "_law_pick", .glo "_law_thing", .glo "_law_placed", .glo "_law_placed_by_name", .glo "_law_valued", .glo "_law_valued_by_name", .glo "_law_stood", .glo "_law_every", .glo "_law_of_first", .glo "_law_of_others", .glo "_law_families", .glo "_law_kept_right", .glo "_law_kinds_right", .glo "law", .free "ArithmeticError", .free "LookupError", .free "RuntimeError", .free "ValueError", .free "abs", .free "all", .free "divmod"] ++ [.free "enumerate", .free "int", .free "isinstance", .free "len", .free "max", .free "min", .free "range", .free "repr"]
def loose : List Str := (["SettleError", "InvalidDeeds", "InvalidRows", "InvalidState", "InvalidDeed", "InvalidWord", "InvalidStates", "InvalidNames", "InvalidEntry", "InvalidAnswers", "InvalidNumber", "InvalidTeam", "InvalidHand", "InvalidOrder", "InvalidLayout", "InvalidThings", "InvalidScripts", "InvalidWeaving", "InvalidPlace", "InvalidText", "InvalidClaim", "InvalidCommand", "MissingError", "NoSuch", "StateError", "SharedDeed", "OtherThing", "LastOne", "NotInIt", "NotTelling"] : List Str) ++ (["NotRecording", "NotRight", "NotCritical", "NothingToUndo", "CommandFailed", "LimitError", "TooMany", "_law_pot", "_law_draw", "_law_pick", "_law_thing", "_law_placed", "_law_placed_by_name", "_law_valued", "_law_valued_by_name", "_law_stood", "_law_every", "_law_of_first", "_law_of_others", "_law_families", "_law_kept_right", "_law_kinds_right"] : List Str)
def cks (K : PySem.W.Frag) : List Bool := [sysB K, obcB K, xallB K cs2, inB K cs, nofB K cs "hand", nofB K cs "limit", nofB K cs "line", nofB K cs "position", nofB K cs "value", nofB K cs "what", isB K (.inl "SettleError") tb_SettleError, isB K (.inl "InvalidDeeds") tb_InvalidDeeds, isB K (.inl "InvalidRows") tb_InvalidRows, isB K (.inl "InvalidState") tb_InvalidState, isB K (.inl "InvalidDeed") tb_InvalidDeed, isB K (.inl "InvalidWord") tb_InvalidWord, isB K (.inl "InvalidStates") tb_InvalidStates, isB K (.inl "InvalidNames") tb_InvalidNames, isB K (.inl "InvalidEntry") tb_InvalidEntry, isB K (.inl "InvalidAnswers") tb_InvalidAnswers, isB K (.inl "InvalidNumber") tb_InvalidNumber, isB K (.inl "InvalidTeam") tb_InvalidTeam, isB K (.inl "InvalidHand") tb_InvalidHand, isB K (.inl "InvalidOrder") tb_InvalidOrder, isB K (.inl "InvalidLayout") tb_InvalidLayout, isB K (.inl "InvalidThings") tb_InvalidThings, isB K (.inl "InvalidScripts") tb_InvalidScripts, isB K (.inl "InvalidWeaving") tb_InvalidWeaving, isB K (.inl "InvalidPlace") tb_InvalidPlace, isB K (.inl "InvalidText") tb_InvalidText, isB K (.inl "InvalidClaim") tb_InvalidClaim, isB K (.inl "InvalidCommand") tb_InvalidCommand, isB K (.inl "MissingError") tb_MissingError, isB K (.inl "NoSuch") tb_NoSuch, isB K (.inl "StateError") tb_StateError, isB K (.inl "SharedDeed") tb_SharedDeed, isB K (.inl "OtherThing") tb_OtherThing, isB K (.inl "LastOne") tb_LastOne, isB K (.inl "NotInIt") tb_NotInIt, isB K (.inl "NotTelling") tb_NotTelling, isB K (.inl "NotRecording") tb_NotRecording, isB K (.inl "NotRight") tb_NotRight, isB K (.inl "NotCritical") tb_NotCritical, isB K (.inl "NothingToUndo") tb_NothingToUndo, isB K (.inl "CommandFailed") tb_CommandFailed, isB K (.inl "LimitError") tb_LimitError, isB K (.inl "TooMany") tb_TooMany, isB K (.inr "ArithmeticError") tb_ArithmeticError, isB K (.inr "LookupError") tb_LookupError, isB K (.inr "RuntimeError") tb_RuntimeError, isB K (.inr "ValueError") tb_ValueError, xinB K (He.ga K "LimitError") "ArithmeticError.__init__", xinB K (He.ga K "MissingError") "LookupError.__init__", xinB K (He.ga K "SettleError") "ValueError.__init__", xinB K (He.ga K "StateError") "RuntimeError.__init__"]
def ck (K : PySem.W.Frag) : Bool := (cks K).all id
abbrev Rw : PySem.W.OpenRow := PySem.W.OpenLaw.row PySem.Challenge.rw_settlesfirst_k10_errors
abbrev hk : PySem.W.Hook := hookM 5 fa fn ck
def ob (s : PySem.W.SharedT) : Bool × He.AlD := obsMG 5 fa fn ck (HandSHeadRun.getT s)
theorem ob_eq (s : PySem.W.SharedT) : ob s = hk.obs s.abs := obsMG_eq (HandSHeadRun.getT_eq s)
theorem run (w : World) : HandSHeadRun.RunEq Rw (PySem.W.view Rw.prog [54]) hk ob 30000 loose w := by
  intro os
  kernel_rfl
end Law

namespace Mi
open PySem PySem.Spec PyProof.Rows L2
abbrev St := L2.St

/-! ### trees of data, and how the abstract heap bears them -/
inductive D where
  | non
  | bl (b : Bool)
  | int (i : Int)
  | str (x : Str)
  | lst (xs : List D)
  | rol (xs : List D)
  | tup (xs : List D)
  | dct (kvs : List (Key × D))
  | ins (C : Str) (fs : List (Str × D))
  | exc (C : Str) (fs : List (Str × D))

mutual
inductive Rep (K : PySem.W.Frag) (F : Hp) : V → D → Prop
  | non : Rep K F .non .non
  | bl (b : Bool) : Rep K F (.bl b) (.bl b)
  | int (i : Int) : Rep K F (.int i) (.int i)
  | str (x : Str) : Rep K F (.str x) (.str x)
  | lst {a : Addr} {vs : List V} {ds : List D} : F a = some (.lst vs) → RepL K F vs ds → Rep K F (.ref a) (.lst ds)
  | rol {a : Addr} {vs : List V} {ds : List D} : SqL K F a vs → RepL K F vs ds → Rep K F (.ref a) (.rol ds)
  | tup {a : Addr} {vs : List V} {ds : List D} : SqT K F a vs → RepL K F vs ds → Rep K F (.ref a) (.tup ds)
  | dct {a : Addr} {kvs : List (Key × V)} {kds : List (Key × D)} : F a = some (.dK kvs) → RepK K F kvs kds → Rep K F (.ref a) (.dct kds)
  | ins {a dx : Addr} {C : Str} {fs : List (Str × V)} {gs : List (Str × D)} : F a = some (.ins (He.ga K C) dx fs) → RepF K F fs gs → Rep K F (.ref a) (.ins C gs)
  | exc {a dx : Addr} {C : Str} {fs : List (Str × V)} {gs : List (Str × D)} : F a = some (exo a (He.ga K C) (some dx)) → F dx = some (exd dx fs) → RepF K F fs gs → Rep K F (.ref a) (.exc C gs)
  | exn {a : Addr} {C : Str} : F a = some (exo a (He.ga K C) none) → Rep K F (.ref a) (.exc C [])
inductive RepL (K : PySem.W.Frag) (F : Hp) : List V → List D → Prop
  | nil : RepL K F [] []
  | cons {v : V} {vs : List V} {d : D} {ds : List D} : Rep K F v d → RepL K F vs ds → RepL K F (v :: vs) (d :: ds)
inductive RepK (K : PySem.W.Frag) (F : Hp) : List (Key × V) → List (Key × D) → Prop
  | nil : RepK K F [] []
  | cons {k : Key} {v : V} {vs : List (Key × V)} {d : D} {ds : List (Key × D)} : Rep K F v d → RepK K F vs ds → RepK K F ((k, v) :: vs) ((k, d) :: ds)
inductive RepF (K : PySem.W.Frag) (F : Hp) : List (Str × V) → List (Str × D) → Prop
  | nil : RepF K F [] []
  | cons {k : Str} {v : V} {vs : List (Str × V)} {d : D} {ds : List (Str × D)} : Rep K F v d → RepF K F vs ds → RepF K F ((k, v) :: vs) ((k, d) :: ds)
end

theorem sqL_up {K : PySem.W.Frag} {F F' : Hp} {a : Addr} {xs : List V} (s : Same F F') (h : SqL K F a xs) : SqL K F' a xs := Same.seq s h
theorem sqT_up {K : PySem.W.Frag} {F F' : Hp} {a : Addr} {xs : List V} (s : Same F F') (h : SqT K F a xs) : SqT K F' a xs := by
  rcases h with (z | ⟨o, z⟩) | z
  · exact .inl (.inl (s _ _ z))
  · exact .inl (.inr ⟨o, s _ _ z⟩)
  · exact .inr z

mutual
theorem Rep.up {K : PySem.W.Frag} {F F' : Hp} (s : Same F F') {v : V} {d : D} : Rep K F v d → Rep K F' v d
  | .non => .non
  | .bl b => .bl b
  | .int i => .int i
  | .str x => .str x
  | .lst h r => .lst (s _ _ h) (RepL.up s r)
  | .rol h r => .rol (sqL_up s h) (RepL.up s r)
  | .tup h r => .tup (sqT_up s h) (RepL.up s r)
  | .dct h r => .dct (s _ _ h) (RepK.up s r)
  | .ins h r => .ins (s _ _ h) (RepF.up s r)
  | .exc h e r => .exc (s _ _ h) (s _ _ e) (RepF.up s r)
  | .exn h => .exn (s _ _ h)
theorem RepL.up {K : PySem.W.Frag} {F F' : Hp} (s : Same F F') {vs : List V} {ds : List D} : RepL K F vs ds → RepL K F' vs ds
  | .nil => .nil
  | .cons h r => .cons (Rep.up s h) (RepL.up s r)
theorem RepK.up {K : PySem.W.Frag} {F F' : Hp} (s : Same F F') {vs : List (Key × V)} {ds : List (Key × D)} : RepK K F vs ds → RepK K F' vs ds
  | .nil => .nil
  | .cons h r => .cons (Rep.up s h) (RepK.up s r)
theorem RepF.up {K : PySem.W.Frag} {F F' : Hp} (s : Same F F') {vs : List (Str × V)} {ds : List (Str × D)} : RepF K F vs ds → RepF K F' vs ds
  | .nil => .nil
  | .cons h r => .cons (Rep.up s h) (RepF.up s r)
end

section
variable {K : PySem.W.Frag} {F : Hp}
theorem RepL.len : ∀ {vs : List V} {ds : List D}, RepL K F vs ds → vs.length = ds.length
  | _, _, .nil => rfl
  | _, _, .cons _ r => by simp [RepL.len r]
theorem RepL.at : ∀ {vs : List V} {ds : List D} {i : Nat} {d : D}, RepL K F vs ds → ds[i]? = some d → ∃ v, vs[i]? = some v ∧ Rep K F v d
  | _, _, _, _, .nil, e => by simp at e
  | _, _, 0, _, .cons h _, e => by simp at e; subst e; exact ⟨_, rfl, h⟩
  | _, _, i + 1, d, .cons _ r, e => by
    obtain ⟨v, h1, h2⟩ := RepL.at (i := i) (d := d) r (by simpa using e)
    exact ⟨v, by simpa using h1, h2⟩
theorem RepL.of : ∀ {vs : List V} {ds : List D} {i : Nat} {v : V}, RepL K F vs ds → vs[i]? = some v → ∃ d, ds[i]? = some d ∧ Rep K F v d
  | _, _, _, _, .nil, e => by simp at e
  | _, _, 0, _, .cons h _, e => by simp at e; subst e; exact ⟨_, rfl, h⟩
  | _, _, i + 1, v, .cons _ r, e => by
    obtain ⟨d, h1, h2⟩ := RepL.of (i := i) (v := v) r (by simpa using e)
    exact ⟨d, by simpa using h1, h2⟩
theorem RepL.app : ∀ {vs us : List V} {ds es : List D}, RepL K F vs ds → RepL K F us es → RepL K F (vs ++ us) (ds ++ es)
  | _, _, _, _, .nil, q => q
  | _, _, _, _, .cons h r, q => .cons h (RepL.app r q)
theorem RepL.put {v : V} {d : D} (x : Rep K F v d) : ∀ {vs : List V} {ds : List D} (i : Nat), RepL K F vs ds → RepL K F (vs.set i v) (ds.set i d)
  | _, _, _, .nil => .nil
  | _, _, 0, .cons _ r => .cons x r
  | _, _, i + 1, .cons h r => .cons h (RepL.put x i r)
theorem RepL.taken : ∀ {vs : List V} {ds : List D} (n : Nat), RepL K F vs ds → RepL K F (vs.take n) (ds.take n)
  | _, _, 0, _ => .nil
  | _, _, _ + 1, .nil => .nil
  | _, _, n + 1, .cons h r => .cons h (RepL.taken n r)
theorem RepL.dropped : ∀ {vs : List V} {ds : List D} (n : Nat), RepL K F vs ds → RepL K F (vs.drop n) (ds.drop n)
  | _, _, 0, r => r
  | _, _, _ + 1, .nil => .nil
  | _, _, n + 1, .cons _ r => RepL.dropped n r
theorem RepF.look : ∀ {vs : List (Str × V)} {ds : List (Str × D)} {f : Str} {d : D}, RepF K F vs ds → ds.lookup f = some d → ∃ v, vs.lookup f = some v ∧ Rep K F v d
  | _, _, _, _, .nil, e => by simp at e
  | _, _, f, d, .cons (k := k) h r, e => by
    simp only [List.lookup_cons] at e ⊢
    cases q : (f == k) with
    | true => rw [q] at e; cases e; exact ⟨_, rfl, h⟩
    | false => rw [q] at e; exact RepF.look r e
theorem RepF.no : ∀ {vs : List (Str × V)} {ds : List (Str × D)} {f : Str}, RepF K F vs ds → ds.lookup f = none → vs.lookup f = none
  | _, _, _, .nil, _ => rfl
  | _, _, f, .cons (k := k) h r, e => by
    simp only [List.lookup_cons] at e ⊢
    cases q : (f == k) with
    | true => rw [q] at e; cases e
    | false => rw [q] at e; exact RepF.no r e
theorem RepF.len : ∀ {vs : List (Str × V)} {ds : List (Str × D)}, RepF K F vs ds → vs.length = ds.length
  | _, _, .nil => rfl
  | _, _, .cons _ r => by simp [RepF.len r]
theorem RepK.len : ∀ {vs : List (Key × V)} {ds : List (Key × D)}, RepK K F vs ds → vs.length = ds.length
  | _, _, .nil => rfl
  | _, _, .cons _ r => by simp [RepK.len r]
end

/-! ### slots: what a name holds; an object that is changed belongs to one slot alone -/
inductive Sl where
  | un
  | fz (d : D)
  | ow (d : D)
abbrev En := List Sl

def Top (K : PySem.W.Frag) (F : Hp) (o : HO) : D → Prop
  | .lst ds => ∃ vs, o = .lst vs ∧ RepL K F vs ds
  | .dct kds => ∃ kvs, o = .dK kvs ∧ RepK K F kvs kds
  | .ins C gs => ∃ dx fs, o = .ins (He.ga K C) dx fs ∧ RepF K F fs gs
  | _ => False
theorem Top.up {K : PySem.W.Frag} {F F' : Hp} (s : Same F F') {o : HO} {d : D} (h : Top K F o d) : Top K F' o d := by
  cases d with
  | lst ds => obtain ⟨vs, e, r⟩ := h; exact ⟨vs, e, r.up s⟩
  | dct kds => obtain ⟨vs, e, r⟩ := h; exact ⟨vs, e, r.up s⟩
  | ins C gs => obtain ⟨dx, fs, e, r⟩ := h; exact ⟨dx, fs, e, r.up s⟩
  | _ => exact h.elim
theorem Top.rep {K : PySem.W.Frag} {F : Hp} {a : Addr} {o : HO} {d : D} (e : F a = some o) (h : Top K F o d) : Rep K F (.ref a) d := by
  cases d with
  | lst ds => obtain ⟨vs, rfl, r⟩ := h; exact .lst e r
  | dct kds => obtain ⟨vs, rfl, r⟩ := h; exact .dct e r
  | ins C gs => obtain ⟨dx, fs, rfl, r⟩ := h; exact .ins e r
  | _ => exact h.elim

/-- a value of a slot -/
def RepS (K : PySem.W.Frag) (F H : Hp) (v : V) : Sl → Prop
  | .un => False
  | .fz d => Rep K F v d
  | .ow d => ∃ a o, v = .ref a ∧ F a = none ∧ H a = some o ∧ Top K F o d

structure EOk (K : PySem.W.Frag) (F H : Hp) (σ : St) (ε : En) : Prop where
  sub : Same F H
  len : σ.length = ε.length
  val : ∀ (i : Nat) (s : Sl), ε[i]? = some s → s ≠ .un → ∃ v, σ[i]? = some (some v) ∧ RepS K F H v s
  inj : ∀ (i j : Nat) (d e : D) (v : V), ε[i]? = some (.ow d) → ε[j]? = some (.ow e) → σ[i]? = some (some v) → σ[j]? = some (some v) → i = j

/-- the frozen part grows, the owned things stay -/
structure Gr (F H F' H' : Hp) : Prop where
  fs : Same F F'
  sub : Same F' H'
  own : ∀ a o, F a = none → H a = some o → F' a = none ∧ H' a = some o
theorem Gr.refl {F H : Hp} (s : Same F H) : Gr F H F H := ⟨.refl _, s, fun _ _ h1 h2 => ⟨h1, h2⟩⟩
theorem Gr.trans {F H F1 H1 F2 H2 : Hp} (a : Gr F H F1 H1) (b : Gr F1 H1 F2 H2) : Gr F H F2 H2 :=
  ⟨a.fs.trans b.fs, b.sub, fun x o h1 h2 => b.own x o (a.own x o h1 h2).1 (a.own x o h1 h2).2⟩
theorem same_upd2 {F H : Hp} (s : Same F H) (p : Addr) (o : HO) : Same (upd F p o) (upd H p o) := fun b u e => by
  by_cases hb : b = p
  · rw [hb, upd_same] at e ⊢; exact e
  · rw [upd_ne hb] at e ⊢; exact s _ _ e
theorem same_new {F : Hp} {p : Addr} {o : HO} (h : F p = none) : Same F (upd F p o) := fun b u e => by
  rw [upd_ne (ne_of_none e h)]; exact e
/-- a new thing, frozen at once -/
theorem Gr.new {F H : Hp} (s : Same F H) {p : Addr} {o : HO} (h : H p = none) : Gr F H (upd F p o) (upd H p o) :=
  ⟨same_new (s.free h), same_upd2 s p o, fun a u h1 h2 => by
    have ne : a ≠ p := ne_of_none h2 h
    rw [upd_ne ne, upd_ne ne]; exact ⟨h1, h2⟩⟩
/-- a new thing, not frozen -/
theorem Gr.loose {F H : Hp} (s : Same F H) {p : Addr} {o : HO} (h : H p = none) : Gr F H F (upd H p o) :=
  ⟨.refl _, s.trans (same_new h), fun a u h1 h2 => ⟨h1, by rw [upd_ne (ne_of_none h2 h)]; exact h2⟩⟩

theorem RepS.grow {K : PySem.W.Frag} {F H F' H' : Hp} (g : Gr F H F' H') {v : V} {s : Sl} (r : RepS K F H v s) : RepS K F' H' v s := by
  cases s with
  | un => exact r
  | fz d => exact Rep.up g.fs r
  | ow d =>
    obtain ⟨a, o, e, h1, h2, t⟩ := r
    exact ⟨a, o, e, (g.own a o h1 h2).1, (g.own a o h1 h2).2, t.up g.fs⟩
theorem EOk.grow {K : PySem.W.Frag} {F H F' H' : Hp} {σ : St} {ε : En} (e : EOk K F H σ ε) (g : Gr F H F' H') : EOk K F' H' σ ε :=
  ⟨g.sub, e.len, fun i s h n => let ⟨v, h1, h2⟩ := e.val i s h n; ⟨v, h1, h2.grow g⟩, e.inj⟩

/-! ### results -/
inductive R (α : Type) where
  | v (a : α) (ε : En)
  | x (c : Str) (fs : List (Str × D)) (ε : En)
abbrev FE := En → Option (R Sl)
abbrev FA := En → Option (R (List Sl))
abbrev FB := En → Option (R Bool)
def bnd {α β : Type} (r : Option (R α)) (k : α → En → Option (R β)) : Option (R β) := match r with
  | some (.v a ε) => k a ε
  | some (.x c fs ε) => some (.x c fs ε)
  | none => none
@[simp] theorem bnd_v {α β : Type} (a : α) (ε : En) (k : α → En → Option (R β)) : bnd (some (.v a ε)) k = k a ε := rfl
@[simp] theorem bnd_x {α β : Type} (c : Str) (fs : List (Str × D)) (ε : En) (k : α → En → Option (R β)) : bnd (some (.x c fs ε)) k = some (.x c fs ε) := rfl
@[simp] theorem bnd_n {α β : Type} (k : α → En → Option (R β)) : bnd (none : Option (R α)) k = none := rfl

/-- no slot owns the value -/
def Apart (σ : St) (ε : En) (v : V) : Sl → Prop
  | .ow _ => ∀ (i : Nat) (d : D), ε[i]? = some (.ow d) → σ[i]? ≠ some (some v)
  | _ => True
/-- a thing that is neither frozen nor owned here: it belongs to others -/
structure Oth (σ : St) (ε : En) (F H : Hp) (a : Addr) (o : HO) : Prop where
  nf : F a = none
  at_ : H a = some o
  no : ∀ (i : Nat) (d : D), ε[i]? = some (.ow d) → σ[i]? ≠ some (some (.ref a))
/-- things of others stay theirs, as they are -/
def Frm (σ : St) (ε : En) (F H : Hp) (σ' : St) (ε' : En) (F' H' : Hp) : Prop := ∀ a o, Oth σ ε F H a o → Oth σ' ε' F' H' a o
theorem Frm.refl {σ : St} {ε : En} {F H : Hp} : Frm σ ε F H σ ε F H := fun _ _ h => h
theorem Frm.trans {σ σ1 σ2 : St} {ε ε1 ε2 : En} {F H F1 H1 F2 H2 : Hp} (a : Frm σ ε F H σ1 ε1 F1 H1) (b : Frm σ1 ε1 F1 H1 σ2 ε2 F2 H2) : Frm σ ε F H σ2 ε2 F2 H2 := fun c o h => b c o (a c o h)
theorem Gr.frm {σ : St} {ε : En} {F H F' H' : Hp} (g : Gr F H F' H') : Frm σ ε F H σ ε F' H' := fun a o h => ⟨(g.own a o h.nf h.at_).1, (g.own a o h.nf h.at_).2, h.no⟩
/-- an owned value is no thing of others -/
def Mine (σ : St) (ε : En) (F H : Hp) (v : V) : Sl → Prop
  | .ow _ => ∀ a o, Oth σ ε F H a o → v ≠ .ref a
  | _ => True
structure Aft (K : PySem.W.Frag) (σ : St) (ε : En) (F H F' H' : Hp) (ε' : En) (v : V) (s : Sl) : Prop where
  fs : Same F F'
  eo : EOk K F' H' σ ε'
  rs : RepS K F' H' v s
  ap : Apart σ ε' v s
  fr : Frm σ ε F H σ ε' F' H'
  mi : Mine σ ε F H v s
theorem Aft.here {K : PySem.W.Frag} {σ : St} {ε : En} {F H : Hp} {v : V} {d : D} (e : EOk K F H σ ε) (r : Rep K F v d) : Aft K σ ε F H F H ε v (.fz d) := ⟨.refl F, e, r, trivial, .refl, trivial⟩
theorem Mine.pre {σ σ1 : St} {ε ε1 : En} {F H F1 H1 : Hp} {v : V} {s : Sl} (a : Frm σ ε F H σ1 ε1 F1 H1) (m : Mine σ1 ε1 F1 H1 v s) : Mine σ ε F H v s := by
  cases s with
  | ow d => exact fun b o h => m b o (a b o h)
  | _ => exact trivial
theorem Aft.then {K : PySem.W.Frag} {σ : St} {ε ε1 ε2 : En} {F H F1 H1 F2 H2 : Hp} {v : V} {s : Sl} (a : Aft K σ ε1 F1 H1 F2 H2 ε2 v s) (fs : Same F F1) (fr : Frm σ ε F H σ ε1 F1 H1) : Aft K σ ε F H F2 H2 ε2 v s :=
  ⟨fs.trans a.fs, a.eo, a.rs, a.ap, fr.trans a.fr, a.mi.pre fr⟩
/-- an exception of the class at c lies behind: its own dict at d -/
structure AftX (K : PySem.W.Frag) (σ : St) (ε : En) (F H F' H' : Hp) (ε' : En) (d : Addr) (gs : List (Str × D)) : Prop where
  fs : Same F F'
  eo : EOk K F' H' σ ε'
  xd : ∃ vs, H' d = some (.xd vs) ∧ RepF K F' vs gs
  fr : Frm σ ε F H σ ε' F' H'
theorem AftX.then {K : PySem.W.Frag} {σ : St} {ε ε1 ε2 : En} {F H F1 H1 F2 H2 : Hp} {d : Addr} {gs : List (Str × D)} (a : AftX K σ ε1 F1 H1 F2 H2 ε2 d gs) (fs : Same F F1) (fr : Frm σ ε F H σ ε1 F1 H1) : AftX K σ ε F H F2 H2 ε2 d gs :=
  ⟨fs.trans a.fs, a.eo, a.xd, fr.trans a.fr⟩
def Do (K : PySem.W.Frag) (W : WX) (σ : St) (ε : En) (F H : Hp) (r : Option (R Sl)) (Q : VK) : Prop := match r with
  | none => False
  | some (.v s ε') => ∀ v H' F', Aft K σ ε F H F' H' ε' v s → Q v H'
  | some (.x c fs ε') => ∀ d H' F', AftX K σ ε F H F' H' ε' d fs → W (.ref (He.ga K c)) (some d) σ H'
def tM (K : PySem.W.Frag) (W : WX) (f : FE) : TE := fun σ H Q => ∃ F ε, EOk K F H σ ε ∧ Do K W σ ε F H (f ε) Q
theorem Do.sub {K : PySem.W.Frag} {W : WX} {σ : St} {ε ε1 : En} {F H F1 H1 : Hp} {r : Option (R Sl)} {Q : VK} (h : Do K W σ ε F H r Q) (s : Same F F1) (fr : Frm σ ε F H σ ε1 F1 H1) : Do K W σ ε1 F1 H1 r Q := by
  cases r with
  | none => exact h
  | some q =>
    cases q with
    | v s2 ε2 => exact fun v2 H2 F2 a2 => h v2 H2 F2 (a2.then s fr)
    | x c fs ε2 => exact fun d H2 F2 a2 => h d H2 F2 (a2.then s fr)
theorem Do.bind {K : PySem.W.Frag} {W : WX} {σ : St} {ε : En} {F H : Hp} {r : Option (R Sl)} {k : Sl → En → Option (R Sl)} {Q G : VK} (h : Do K W σ ε F H (bnd r k) Q)
    (g : ∀ s ε1 v H1 F1, Aft K σ ε F H F1 H1 ε1 v s → Do K W σ ε1 F1 H1 (k s ε1) Q → G v H1) : Do K W σ ε F H r G := by
  cases r with
  | none => exact h
  | some r =>
    cases r with
    | x c fs ε1 => exact h
    | v s ε1 => exact fun v H1 F1 a => g s ε1 v H1 F1 a (Do.sub (show Do K W σ ε F H (k s ε1) Q from h) a.fs a.fr)

theorem PE.imp {X : Cx} {e : Expr} {t t' : TE} (h : PE X e t) (i : ∀ σ H Q, t' σ H Q → t σ H Q) : PE X e t' := ⟨fun pins s σ H Q I q => h.run pins s σ H Q I (i σ H Q q)⟩
theorem PT.imp {X : Cx} {e : Expr} {t t' : TT} (h : PT X e t) (i : ∀ σ H Q, t' σ H Q → t σ H Q) : PT X e t' := ⟨fun pins s σ H Q I q => h.run pins s σ H Q I (i σ H Q q)⟩
theorem PS.imp {X : Cx} {e : Stmt} {t t' : TS} (h : PS X e t) (i : ∀ D σ H, t' D σ H → t D σ H) : PS X e t' := ⟨fun pins s σ H D I q => h.run pins s σ H D I (i D σ H q)⟩
theorem PSs.imp {X : Cx} {e : List Stmt} {t t' : TS} (h : PSs X e t) (i : ∀ D σ H, t' D σ H → t D σ H) : PSs X e t' := ⟨fun pins s σ H D I q => h.run pins s σ H D I (i D σ H q)⟩

end Mi

namespace Mi
open PySem PySem.Spec PyProof.Rows L2

abbrev ME (X : Cx) (W : WX) (e : Expr) (f : FE) : Prop := PE X e (tM X.K W f)

/-! ### constants and names -/
def eC (d : D) : FE := fun ε => some (.v (.fz d) ε)
def eV (i : Nat) : FE := fun ε => match ε[i]? with
  | some (.fz d) => some (.v (.fz d) ε)
  | some (.ow d) => some (.v (.fz d) (ε.set i (.fz d)))
  | _ => none
/-- the name is given up -/
def eG (i : Nat) : FE := fun ε => match ε[i]? with
  | some (.fz d) => some (.v (.fz d) ε)
  | some (.ow d) => some (.v (.ow d) (ε.set i .un))
  | _ => none

section
variable {X : Cx} {W : WX}
theorem me_C {e : Expr} {v : V} {d : D} (h : PE X e (tC v)) (r : ∀ F, Rep X.K F v d) : ME X W e (eC d) :=
  PE.imp h fun _ H _ ⟨F, _, E0, k⟩ => k v H F (.here E0 (r F))
theorem me_int {i j pos} : ME X W (.Constant (.int i) j pos) (eC (.int i)) := me_C pe_int fun _ => .int i
theorem me_str {i j pos} : ME X W (.Constant (.str i) j pos) (eC (.str i)) := me_C pe_str fun _ => .str i
theorem me_bl {i j pos} : ME X W (.Constant (.bool i) j pos) (eC (.bl i)) := me_C pe_bl fun _ => .bl i
theorem me_non {j pos} : ME X W (.Constant .none j pos) (eC .non) := me_C pe_non fun _ => .non

theorem getset_ne {α : Type} {l : List α} {i j : Nat} {x : α} (h : i ≠ j) : (l.set i x)[j]? = l[j]? := List.getElem?_set_ne h
/-- a slot's thing is frozen -/
theorem EOk.freeze {K : PySem.W.Frag} {F H : Hp} {σ : St} {ε : En} {i : Nat} {d : D} {s : Sl} (e : EOk K F H σ ε) (h : ε[i]? = some (.ow d)) (hs : s = .fz d ∨ s = .un) :
    ∃ F' v, σ[i]? = some (some v) ∧ Same F F' ∧ EOk K F' H σ (ε.set i s) ∧ Rep K F' v d ∧ Frm σ ε F H σ (ε.set i s) F' H := by
  obtain ⟨v, hv, a, o, rfl, h1, h2, t⟩ := e.val i _ h (by simp)
  have sf : Same F (upd F a o) := same_new h1
  have rp : Rep K (upd F a o) (.ref a) d := Top.rep upd_same (t.up sf)
  have il : i < ε.length := (List.getElem?_eq_some_iff.mp h).1
  have ni : ∀ (j : Nat) (z : D), (ε.set i s)[j]? = some (.ow z) → j ≠ i ∧ ε[j]? = some (.ow z) := fun j z q => by
    by_cases hj : j = i
    · subst hj
      rw [List.getElem?_set_self il] at q
      rcases hs with rfl | rfl <;> cases q
    · rw [List.getElem?_set_ne (Ne.symm hj)] at q
      exact ⟨hj, q⟩
  refine ⟨upd F a o, .ref a, hv, sf, ⟨fun b u q => ?_, by rw [e.len]; simp, fun j s' q n => ?_, fun j k x y w q1 q2 q3 q4 => ?_⟩, rp, fun b u ob => ⟨?_, ob.at_, fun j z q => ob.no j z (ni j z q).2⟩⟩
  · by_cases hb : b = a
    · rw [hb, upd_same] at q; cases q; rw [hb]; exact h2
    · rw [upd_ne hb] at q; exact e.sub _ _ q
  · by_cases hj : j = i
    · subst hj
      rw [List.getElem?_set_self il] at q
      cases q
      rcases hs with rfl | rfl
      · exact ⟨_, hv, rp⟩
      · exact absurd rfl n
    · rw [List.getElem?_set_ne (Ne.symm hj)] at q
      obtain ⟨w, hw, r⟩ := e.val j s' q n
      refine ⟨w, hw, ?_⟩
      cases s' with
      | un => exact r
      | fz d' => exact Rep.up sf r
      | ow d' =>
        obtain ⟨b, u, rfl, k1, k2, t'⟩ := r
        have nb : b ≠ a := fun z => hj (e.inj j i d' d (.ref b) q h hw (by rw [z]; exact hv))
        exact ⟨b, u, rfl, by rw [upd_ne nb]; exact k1, k2, t'.up sf⟩
  · exact e.inj j k x y w (ni j x q1).2 (ni k y q2).2 q3 q4
  · rw [upd_ne (fun z => ob.no i d h (by rw [hv, z]))]; exact ob.nf
/-- the slot is given up: its thing is no one's -/
theorem EOk.give {K : PySem.W.Frag} {F H : Hp} {σ : St} {ε : En} {i : Nat} {d : D} (e : EOk K F H σ ε) (h : ε[i]? = some (.ow d)) :
    ∃ v, σ[i]? = some (some v) ∧ Aft K σ ε F H F H (ε.set i .un) v (.ow d) := by
  obtain ⟨v, hv, r⟩ := e.val i _ h (by simp)
  have il : i < ε.length := (List.getElem?_eq_some_iff.mp h).1
  have ni : ∀ (j : Nat) (s : Sl), (ε.set i .un)[j]? = some s → s ≠ .un → j ≠ i ∧ ε[j]? = some s := fun j s q n => by
    by_cases hj : j = i
    · subst hj
      rw [List.getElem?_set_self il] at q
      cases q
      exact absurd rfl n
    · rw [List.getElem?_set_ne (Ne.symm hj)] at q
      exact ⟨hj, q⟩
  refine ⟨v, hv, .refl F, ⟨e.sub, by rw [e.len]; simp, fun j s q n => e.val j s (ni j s q n).2 n, fun j k x y w q1 q2 q3 q4 => ?_⟩, r, fun j x q z => ?_, fun b u ob => ⟨ob.nf, ob.at_, fun j z q => ob.no j z (ni j _ q (by simp)).2⟩, fun b u ob z => ob.no i d h (by rw [hv, z])⟩
  · exact e.inj j k x y w (ni j _ q1 (by simp)).2 (ni k _ q2 (by simp)).2 q3 q4
  · exact (ni j _ q (by simp)).1 (e.inj j i x d v (ni j _ q (by simp)).2 h z hv)

theorem me_V {i : Nat} {e : Expr} (h : PE X e (tVar i)) : ME X W e (eV i) := by
  refine PE.imp h fun σ H Q ⟨F, ε, E0, k⟩ => ?_
  unfold eV at k
  cases q : ε[i]? with
  | none => rw [q] at k; exact k.elim
  | some s =>
    rw [q] at k
    cases s with
    | un => exact k.elim
    | fz d =>
      obtain ⟨v, hv, r⟩ := E0.val i _ q (by simp)
      exact ⟨v, hv, k v H F (.here E0 r)⟩
    | ow d =>
      obtain ⟨F', v, hv, s1, E1, r, fr⟩ := E0.freeze q (.inl rfl)
      exact ⟨v, hv, k v H F' ⟨s1, E1, r, trivial, fr, trivial⟩⟩
theorem me_G {i : Nat} {e : Expr} (h : PE X e (tVar i)) : ME X W e (eG i) := by
  refine PE.imp h fun σ H Q ⟨F, ε, E0, k⟩ => ?_
  unfold eG at k
  cases q : ε[i]? with
  | none => rw [q] at k; exact k.elim
  | some s =>
    rw [q] at k
    cases s with
    | un => exact k.elim
    | fz d =>
      obtain ⟨v, hv, r⟩ := E0.val i _ q (by simp)
      exact ⟨v, hv, k v H F (.here E0 r)⟩
    | ow d =>
      obtain ⟨v, hv, a⟩ := E0.give q
      exact ⟨v, hv, k v H F a⟩
end

/-! ### a value that is wanted as data: it is frozen -/
def bf {β : Type} (r : Option (R Sl)) (k : D → En → Option (R β)) : Option (R β) := bnd r fun s ε => match s with
  | .fz d => k d ε
  | .ow d => k d ε
  | .un => none
@[simp] theorem bf_fz {β : Type} (d : D) (ε : En) (k : D → En → Option (R β)) : bf (some (.v (.fz d) ε)) k = k d ε := rfl
@[simp] theorem bf_ow {β : Type} (d : D) (ε : En) (k : D → En → Option (R β)) : bf (some (.v (.ow d) ε)) k = k d ε := rfl
@[simp] theorem bf_x {β : Type} (c : Str) (fs : List (Str × D)) (ε : En) (k : D → En → Option (R β)) : bf (some (.x c fs ε)) k = some (.x c fs ε) := rfl
@[simp] theorem bf_n {β : Type} (k : D → En → Option (R β)) : bf (none : Option (R Sl)) k = none := rfl
structure AftD (K : PySem.W.Frag) (σ : St) (ε : En) (F H F' H' : Hp) (ε' : En) (v : V) (d : D) : Prop where
  fs : Same F F'
  eo : EOk K F' H' σ ε'
  rp : Rep K F' v d
  fr : Frm σ ε F H σ ε' F' H'
/-- a thing that no slot owns is frozen -/
theorem Aft.data {K : PySem.W.Frag} {σ : St} {ε : En} {F H F' H' : Hp} {ε' : En} {v : V} {d : D} {s : Sl} (a : Aft K σ ε F H F' H' ε' v s) (h : s = .fz d ∨ s = .ow d) : ∃ F2, AftD K σ ε F H F2 H' ε' v d := by
  rcases h with rfl | rfl
  · exact ⟨F', a.fs, a.eo, a.rs, a.fr⟩
  · obtain ⟨fs, e, ⟨b, o, rfl, h1, h2, t⟩, ap, fr, mi⟩ := a
    have sf : Same F' (upd F' b o) := same_new h1
    refine ⟨upd F' b o, fs.trans sf, ⟨fun c u q => ?_, e.len, fun j s q n => ?_, e.inj⟩, Top.rep upd_same (t.up sf), fun c u oc => ?_⟩
    · by_cases hb : c = b
      · rw [hb, upd_same] at q; cases q; rw [hb]; exact h2
      · rw [upd_ne hb] at q; exact e.sub _ _ q
    · obtain ⟨w, hw, r⟩ := e.val j s q n
      refine ⟨w, hw, ?_⟩
      cases s with
      | un => exact r
      | fz d' => exact Rep.up sf r
      | ow d' =>
        obtain ⟨c, u, rfl, k1, k2, t'⟩ := r
        have nb : c ≠ b := fun z => ap j d' q (by rw [hw, z])
        exact ⟨c, u, rfl, by rw [upd_ne nb]; exact k1, k2, t'.up sf⟩
    · have nb : c ≠ b := fun z => mi c u oc (by rw [z])
      have := fr c u oc
      exact ⟨by rw [upd_ne nb]; exact this.nf, this.at_, this.no⟩
theorem Do.bindF {K : PySem.W.Frag} {W : WX} {σ : St} {ε : En} {F H : Hp} {r : Option (R Sl)} {k : D → En → Option (R Sl)} {Q G : VK} (h : Do K W σ ε F H (bf r k) Q)
    (g : ∀ d ε1 v H1 F1, AftD K σ ε F H F1 H1 ε1 v d → Do K W σ ε1 F1 H1 (k d ε1) Q → G v H1) : Do K W σ ε F H r G := by
  cases r with
  | none => exact h
  | some r =>
    cases r with
    | x c fs ε1 => exact h
    | v s ε1 =>
      intro v H1 F1 a
      cases s with
      | un => exact a.rs.elim
      | fz d =>
        obtain ⟨F2, a2⟩ := a.data (.inl rfl)
        exact g d ε1 v H1 F2 a2 (Do.sub (show Do K W σ ε F H (k d ε1) Q from h) a2.fs a2.fr)
      | ow d =>
        obtain ⟨F2, a2⟩ := a.data (.inr rfl)
        exact g d ε1 v H1 F2 a2 (Do.sub (show Do K W σ ε F H (k d ε1) Q from h) a2.fs a2.fr)

/-! ### operations on data -/
def ret (o : Option Sl) (ε : En) : Option (R Sl) := match o with
  | some s => some (.v s ε)
  | none => none
@[simp] theorem ret_some (s : Sl) (ε : En) : ret (some s) ε = some (.v s ε) := rfl
@[simp] theorem ret_none (ε : En) : ret none ε = none := rfl
/-- a new thing -/
def New (H : Hp) (v : V) : Sl → Prop
  | .ow _ => ∀ a, v = .ref a → H a = none
  | _ => True
/-- what an operation on data promises: s, the frozen part grown -/
def Gives (K : PySem.W.Frag) (F H : Hp) (s : Sl) (Q : VK) : Prop := ∀ v F' H', Gr F H F' H' → RepS K F' H' v s → New H v s → Q v H'
theorem Do.gives {K : PySem.W.Frag} {W : WX} {σ : St} {F H : Hp} {ε : En} {s : Sl} {Q : VK} (e : EOk K F H σ ε) (h : Do K W σ ε F H (some (.v s ε)) Q) : Gives K F H s Q := fun v F' H' g r n => by
  refine h v H' F' ⟨g.fs, e.grow g, r, ?_, g.frm, ?_⟩
  · cases s with
    | ow d =>
      intro i x q z
      obtain ⟨w, hw, a, o, rfl, h1, h2, t⟩ := e.val i _ q (by simp)
      rw [hw] at z
      have z := Option.some.inj (Option.some.inj z)
      subst z
      have := n a rfl
      rw [h2] at this
      cases this
    | _ => exact trivial
  · cases s with
    | ow d => exact fun a o ob z => by have := n a z; rw [ob.at_] at this; cases this
    | _ => exact trivial
theorem Gives.same {K : PySem.W.Frag} {F H : Hp} {v : V} {d : D} {Q : VK} (h : Gives K F H (.fz d) Q) (s : Same F H) (r : Rep K F v d) : Q v H := h v F H (Gr.refl s) r trivial
theorem Gives.new {K : PySem.W.Frag} {F H : Hp} {p : Addr} {o : HO} {d : D} {Q : VK} (h : Gives K F H (.fz d) Q) (s : Same F H) (hp : H p = none) (r : ∀ F', Same F F' → F' p = some o → Rep K F' (.ref p) d) : Q (.ref p) (upd H p o) :=
  h (.ref p) (upd F p o) (upd H p o) (Gr.new s hp) (r _ (same_new (s.free hp)) upd_same) trivial
theorem Gives.newO {K : PySem.W.Frag} {F H : Hp} {p : Addr} {o : HO} {d : D} {Q : VK} (h : Gives K F H (.ow d) Q) (s : Same F H) (hp : H p = none) (t : Top K F o d) : Q (.ref p) (upd H p o) :=
  h (.ref p) F (upd H p o) (Gr.loose s hp) ⟨p, o, rfl, s.free hp, upd_same, t⟩ fun a e => by cases e; exact hp

/-- the value bears the data, frozen or owned by a slot: it is read, not handed on -/
def RepA (K : PySem.W.Frag) (F H : Hp) (v : V) (d : D) : Prop := Rep K F v d ∨ RepS K F H v (.ow d)
theorem Rep.a {K : PySem.W.Frag} {F H : Hp} {v : V} {d : D} (h : Rep K F v d) : RepA K F H v d := .inl h
/-- a list that is read -/
theorem RepA.lst {K : PySem.W.Frag} {F H : Hp} {v : V} {ds : List D} (s : Same F H) (h : RepA K F H v (.lst ds)) : ∃ a vs, v = .ref a ∧ H a = some (.lst vs) ∧ RepL K F vs ds := by
  rcases h with h | h
  · cases h with
    | lst e r => exact ⟨_, _, rfl, s _ _ e, r⟩
  · obtain ⟨a, o, e, h1, h2, vs, rfl, r⟩ := h
    exact ⟨a, vs, e, h2, r⟩
theorem RepA.dct {K : PySem.W.Frag} {F H : Hp} {v : V} {ds : List (Key × D)} (s : Same F H) (h : RepA K F H v (.dct ds)) : ∃ a vs, v = .ref a ∧ H a = some (.dK vs) ∧ RepK K F vs ds := by
  rcases h with h | h
  · cases h with
    | dct e r => exact ⟨_, _, rfl, s _ _ e, r⟩
  · obtain ⟨a, o, e, h1, h2, vs, rfl, r⟩ := h
    exact ⟨a, vs, e, h2, r⟩
theorem RepA.ins {K : PySem.W.Frag} {F H : Hp} {v : V} {C : Str} {ds : List (Str × D)} (s : Same F H) (h : RepA K F H v (.ins C ds)) : ∃ a dx vs, v = .ref a ∧ H a = some (.ins (He.ga K C) dx vs) ∧ RepF K F vs ds := by
  rcases h with h | h
  · cases h with
    | ins e r => exact ⟨_, _, _, rfl, s _ _ e, r⟩
  · obtain ⟨a, o, e, h1, h2, dx, vs, rfl, r⟩ := h
    exact ⟨a, dx, vs, e, h2, r⟩
theorem RepA.tup {K : PySem.W.Frag} {F H : Hp} {v : V} {ds : List D} (s : Same F H) (h : RepA K F H v (.tup ds)) : ∃ a vs, v = .ref a ∧ SqT K H a vs ∧ RepL K F vs ds := by
  rcases h with h | h
  · cases h with
    | tup e r => exact ⟨_, _, rfl, sqT_up s e, r⟩
  · obtain ⟨a, o, e, h1, h2, t⟩ := h
    exact t.elim
theorem RepA.rol {K : PySem.W.Frag} {F H : Hp} {v : V} {ds : List D} (s : Same F H) (h : RepA K F H v (.rol ds)) : ∃ a vs, v = .ref a ∧ SqL K H a vs ∧ RepL K F vs ds := by
  rcases h with h | h
  · cases h with
    | rol e r => exact ⟨_, _, rfl, sqL_up s e, r⟩
  · obtain ⟨a, o, e, h1, h2, t⟩ := h
    exact t.elim
theorem RepA.int {K : PySem.W.Frag} {F H : Hp} {v : V} {i : Int} (h : RepA K F H v (.int i)) : v = .int i := by
  rcases h with h | h
  · cases h; rfl
  · obtain ⟨a, o, e, h1, h2, t⟩ := h; exact t.elim
theorem RepA.str {K : PySem.W.Frag} {F H : Hp} {v : V} {i : Str} (h : RepA K F H v (.str i)) : v = .str i := by
  rcases h with h | h
  · cases h; rfl
  · obtain ⟨a, o, e, h1, h2, t⟩ := h; exact t.elim
theorem RepA.bl {K : PySem.W.Frag} {F H : Hp} {v : V} {i : Bool} (h : RepA K F H v (.bl i)) : v = .bl i := by
  rcases h with h | h
  · cases h; rfl
  · obtain ⟨a, o, e, h1, h2, t⟩ := h; exact t.elim
theorem RepA.non {K : PySem.W.Frag} {F H : Hp} {v : V} (h : RepA K F H v .non) : v = .non := by
  rcases h with h | h
  · cases h; rfl
  · obtain ⟨a, o, e, h1, h2, t⟩ := h; exact t.elim

/-- the data of a slot, looked at -/
def look (ε : En) (i : Nat) : Option D := match ε[i]? with
  | some (.fz d) => some d
  | some (.ow d) => some d
  | _ => none
theorem EOk.look {K : PySem.W.Frag} {F H : Hp} {σ : St} {ε : En} (e : EOk K F H σ ε) {i : Nat} {d : D} (h : look ε i = some d) : ∃ v, σ[i]? = some (some v) ∧ RepA K F H v d := by
  unfold Mi.look at h
  cases q : ε[i]? with
  | none => rw [q] at h; cases h
  | some s =>
    rw [q] at h
    cases s with
    | un => cases h
    | fz d' => cases h; obtain ⟨v, hv, r⟩ := e.val i _ q (by simp); exact ⟨v, hv, .inl r⟩
    | ow d' => cases h; obtain ⟨v, hv, r⟩ := e.val i _ q (by simp); exact ⟨v, hv, .inr r⟩

/-- a rule for two values, of data -/
def Prim2 (K : PySem.W.Frag) (r : R2) (op : D → D → Option Sl) : Prop := ∀ F H vx vy x y s Q, Same F H → RepA K F H vx x → RepA K F H vy y → op x y = some s → Gives K F H s Q → r vx vy H Q
def Prim1 (K : PySem.W.Frag) (r : V → Hp → VK → Prop) (op : D → Option Sl) : Prop := ∀ F H vx x s Q, Same F H → RepA K F H vx x → op x = some s → Gives K F H s Q → r vx H Q
/-- both operands are reckoned -/
def e2 (op : D → D → Option Sl) (fa fb : FE) : FE := fun ε => bf (fa ε) fun x ε1 => bf (fb ε1) fun y ε2 => ret (op x y) ε2
/-- the left one is a name, looked at behind the right one -/
def e2n (op : D → D → Option Sl) (i : Nat) (fb : FE) : FE := fun ε => match look ε i with
  | none => none
  | some _ => bf (fb ε) fun y ε2 => ret ((look ε2 i).bind fun x => op x y) ε2
/-- the right one is a name -/
def e2m (op : D → D → Option Sl) (fa : FE) (i : Nat) : FE := fun ε => bf (fa ε) fun x ε1 => ret ((look ε1 i).bind fun y => op x y) ε1
def e2nn (op : D → D → Option Sl) (i j : Nat) : FE := fun ε => ret ((look ε i).bind fun x => (look ε j).bind fun y => op x y) ε
def e1 (op : D → Option Sl) (fa : FE) : FE := fun ε => bf (fa ε) fun x ε1 => ret (op x) ε1
def e1n (op : D → Option Sl) (i : Nat) : FE := fun ε => ret ((look ε i).bind op) ε

theorem ret_do {K : PySem.W.Frag} {W : WX} {σ : St} {ε0 : En} {F H : Hp} {o : Option Sl} {ε : En} {Q : VK} (h : Do K W σ ε0 F H (ret o ε) Q) : ∃ s, o = some s ∧ Do K W σ ε0 F H (some (.v s ε)) Q := by
  cases o with
  | none => exact h.elim
  | some s => exact ⟨s, rfl, h⟩
section
variable {K : PySem.W.Frag} {W : WX} {r : R2} {op : D → D → Option Sl} {fa fb : FE} {i j : Nat} {σ : St} {H : Hp} {Q : VK}
theorem e2_ok (p : Prim2 K r op) (h : tM K W (e2 op fa fb) σ H Q) : tOp r (tM K W fa) (tM K W fb) σ H Q := by
  obtain ⟨F, ε, E0, h⟩ := h
  refine ⟨F, ε, E0, h.bindF fun x ε1 vx H1 F1 a1 h1 => ⟨F1, ε1, a1.eo, h1.bindF fun y ε2 vy H2 F2 a2 h2 => ?_⟩⟩
  obtain ⟨s, e, h2⟩ := ret_do h2
  exact p F2 H2 vx vy x y s Q a2.eo.sub (.inl (a1.rp.up a2.fs)) (.inl a2.rp) e (h2.gives a2.eo)
theorem e2n_ok (p : Prim2 K r op) (h : tM K W (e2n op i fb) σ H Q) : tOp r (tVar i) (tM K W fb) σ H Q := by
  obtain ⟨F, ε, E0, h⟩ := h
  unfold e2n at h
  cases q0 : look ε i with
  | none => rw [q0] at h; exact h.elim
  | some x0 =>
    rw [q0] at h
    obtain ⟨v, hv, _⟩ := E0.look q0
    refine ⟨v, hv, F, ε, E0, Do.bindF h fun y ε2 vy H2 F2 a2 h2 => ?_⟩
    obtain ⟨s, e, h2⟩ := ret_do h2
    cases q : look ε2 i with
    | none => rw [q] at e; cases e
    | some x =>
      rw [q] at e
      obtain ⟨w, hw, ra⟩ := a2.eo.look q
      rw [hv] at hw
      cases hw
      exact p F2 H2 v vy x y s Q a2.eo.sub ra (.inl a2.rp) e (h2.gives a2.eo)
theorem e2m_ok (p : Prim2 K r op) (h : tM K W (e2m op fa i) σ H Q) : tOp r (tM K W fa) (tVar i) σ H Q := by
  obtain ⟨F, ε, E0, h⟩ := h
  refine ⟨F, ε, E0, h.bindF fun x ε1 vx H1 F1 a1 h1 => ?_⟩
  obtain ⟨s, e, h2⟩ := ret_do h1
  cases q : look ε1 i with
  | none => rw [q] at e; cases e
  | some y =>
    rw [q] at e
    obtain ⟨w, hw, ra⟩ := a1.eo.look q
    exact ⟨w, hw, p F1 H1 vx w x y s Q a1.eo.sub (.inl a1.rp) ra e (h2.gives a1.eo)⟩
theorem e2nn_ok (p : Prim2 K r op) (h : tM K W (e2nn op i j) σ H Q) : tOp r (tVar i) (tVar j) σ H Q := by
  obtain ⟨F, ε, E0, h⟩ := h
  obtain ⟨s, e, h2⟩ := ret_do h
  cases q : look ε i with
  | none => rw [q] at e; cases e
  | some x =>
    cases q2 : look ε j with
    | none => rw [q, q2] at e; cases e
    | some y =>
      rw [q, q2] at e
      obtain ⟨w, hw, ra⟩ := E0.look q
      obtain ⟨u, hu, rb⟩ := E0.look q2
      exact ⟨w, hw, u, hu, p F H w u x y s Q E0.sub ra rb e (h2.gives E0)⟩
theorem e1_ok {r : V → Hp → VK → Prop} {op : D → Option Sl} (p : Prim1 K r op) (h : tM K W (e1 op fa) σ H Q) : tM K W fa σ H fun x H1 => r x H1 Q := by
  obtain ⟨F, ε, E0, h⟩ := h
  refine ⟨F, ε, E0, h.bindF fun x ε1 vx H1 F1 a1 h1 => ?_⟩
  obtain ⟨s, e, h2⟩ := ret_do h1
  exact p F1 H1 vx x s Q a1.eo.sub (.inl a1.rp) e (h2.gives a1.eo)
theorem e1n_ok {r : V → Hp → VK → Prop} {op : D → Option Sl} (p : Prim1 K r op) (h : tM K W (e1n op i) σ H Q) : tVar i σ H fun x H1 => r x H1 Q := by
  obtain ⟨F, ε, E0, h⟩ := h
  obtain ⟨s, e, h2⟩ := ret_do h
  cases q : look ε i with
  | none => rw [q] at e; cases e
  | some x =>
    rw [q] at e
    obtain ⟨w, hw, ra⟩ := E0.look q
    exact ⟨w, hw, p F H w x s Q E0.sub ra e (h2.gives E0)⟩
end

/-! ### operators -/
theorem OpR.or {X : Cx} {f : Value → Value → Sem Value} {r r' : R2} (h : OpR X f r) (h' : OpR X f r') : OpR X f (fun x y H Q => r x y H Q ∨ r' x y H Q) := by
  intro pins s σ H x y v u Q I rx ry q
  rcases q with q | q
  · exact h pins s σ H x y v u Q I rx ry q
  · exact h' pins s σ H x y v u Q I rx ry q
theorem CallR.or {X : Cx} {f : Value} {r r' : List V → Hp → VK → Prop} (h : CallR X f r) (h' : CallR X f r') : CallR X f (fun x H Q => r x H Q ∨ r' x H Q) := by
  intro pins s σ H x v Q I rx q
  rcases q with q | q
  · exact h pins s σ H x v Q I rx q
  · exact h' pins s σ H x v Q I rx q
theorem UnR.or {X : Cx} {f : Value → Sem Value} {r r' : V → Hp → VK → Prop} (h : UnR X f r) (h' : UnR X f r') : UnR X f (fun x H Q => r x H Q ∨ r' x H Q) := by
  intro pins s σ H x v Q I rx q
  rcases q with q | q
  · exact h pins s σ H x v Q I rx q
  · exact h' pins s σ H x v Q I rx q

def oAdd : D → D → Option Sl
  | .int i, .int j => some (.fz (.int (i + j)))
  | .str x, .str y => if x.length + y.length ≤ sizeLine then some (.fz (.str (x ++ y))) else none
  | .lst xs, .lst ys => if xs.length + ys.length ≤ sizeLine then some (.ow (.lst (xs ++ ys))) else none
  | .tup xs, .tup ys => if xs.length + ys.length ≤ sizeLine ∧ xs ≠ [] then some (.fz (.tup (xs ++ ys))) else none
  | _, _ => none
def oSub : D → D → Option Sl
  | .int i, .int j => some (.fz (.int (i - j)))
  | _, _ => none
def oMul : D → D → Option Sl
  | .int i, .int j => if (-(2 ^ 64) < i ∧ i < 2 ^ 64) ∨ (-(2 ^ 64) < j ∧ j < 2 ^ 64) then some (.fz (.int (i * j))) else none
  | .lst xs, .int k => if -(2 ^ 63) ≤ k ∧ k < 2 ^ 63 ∧ xs.length * k.toNat ≤ sizeLine then some (.ow (.lst (List.replicate k.toNat xs).flatten)) else none
  | _, _ => none
def oMod : D → D → Option Sl
  | .int i, .int j => if 0 < j then some (.fz (.int (i % j))) else none
  | _, _ => none
def oDiv : D → D → Option Sl
  | .int i, .int j => if 0 < j ∧ j < 1073741824 then some (.fz (.int (i / j))) else none
  | _, _ => none
def oPow : D → D → Option Sl
  | .int i, .int j => if 0 ≤ j ∧ j ≤ 1000000 ∧ i.natAbs < 2 ^ 64 then some (.fz (.int (i ^ j.toNat))) else none
  | _, _ => none
def oNeg : D → Option Sl
  | .int i => some (.fz (.int (-i)))
  | _ => none

section
variable {K : PySem.W.Frag}
theorem RepL.rep {F : Hp} {vs : List V} {ds : List D} (r : RepL K F vs ds) : ∀ n : Nat, RepL K F (List.replicate n vs).flatten (List.replicate n ds).flatten
  | 0 => .nil
  | n + 1 => by
    rw [List.replicate_succ, List.replicate_succ, List.flatten_cons, List.flatten_cons]
    exact r.app (RepL.rep r n)
theorem p_add : Prim2 K (fun x y H Q => rI0 (fun i j => .int (i + j)) x y H Q ∨ (∃ i j, x = .str i ∧ y = .str j ∧ i.length + j.length ≤ sizeLine ∧ Q (.str (i ++ j)) H) ∨ rCat x y H Q ∨ rCatT K x y H Q) oAdd := by
  intro F H vx vy x y s Q sm rx ry e g
  cases x with
  | int i =>
    cases y with
    | int j => cases e; exact .inl ⟨i, j, rx.int, ry.int, g.same sm (.int _)⟩
    | _ => cases e
  | str i =>
    cases y with
    | str j =>
      simp only [oAdd] at e
      split at e
      · cases e; exact .inr (.inl ⟨i, j, rx.str, ry.str, by assumption, g.same sm (.str _)⟩)
      · cases e
    | _ => cases e
  | lst xs =>
    cases y with
    | lst ys =>
      simp only [oAdd] at e
      split at e
      · rename_i hz
        cases e
        obtain ⟨a, vs, rfl, h1, r1⟩ := rx.lst sm
        obtain ⟨b, us, rfl, h2, r2⟩ := ry.lst sm
        exact .inr (.inr (.inl ⟨a, b, vs, us, rfl, rfl, h1, h2, by rw [r1.len, r2.len]; exact hz, fun p hp => g.newO sm hp ⟨_, rfl, r1.app r2⟩⟩))
      · cases e
    | _ => cases e
  | tup xs =>
    cases y with
    | tup ys =>
      simp only [oAdd] at e
      split at e
      · rename_i hz
        cases e
        obtain ⟨a, vs, rfl, h1, r1⟩ := rx.tup sm
        obtain ⟨b, us, rfl, h2, r2⟩ := ry.tup sm
        refine .inr (.inr (.inr ⟨a, b, vs, us, rfl, rfl, h1, h2, fun z => ?_, by rw [r1.len, r2.len]; exact hz.1, fun z => ?_, fun z p hp => g.new sm hp fun F' s' h' => .tup (SqT.of h') ((r1.app r2).up s')⟩))
        · subst z; cases r1; exact hz.2 rfl
        · subst z
          cases r2
          rw [List.append_nil] at g
          rcases rx with rx | rx
          · exact g.same sm rx
          · obtain ⟨_, _, _, _, _, t⟩ := rx; exact t.elim
      · cases e
    | _ => cases e
  | _ => cases e
theorem p_sub : Prim2 K (rI0 fun i j => .int (i - j)) oSub := by
  intro F H vx vy x y s Q sm rx ry e g
  cases x with
  | int i =>
    cases y with
    | int j => cases e; exact ⟨i, j, rx.int, ry.int, g.same sm (.int _)⟩
    | _ => cases e
  | _ => cases e
theorem p_mul : Prim2 K (fun x y H Q => rI CMul (fun i j => .int (i * j)) x y H Q ∨ rRep x y H Q) oMul := by
  intro F H vx vy x y s Q sm rx ry e g
  cases x with
  | int i =>
    cases y with
    | int j =>
      simp only [oMul] at e
      split at e
      · rename_i hz
        cases e
        exact .inl ⟨i, j, rx.int, ry.int, hz, g.same sm (.int _)⟩
      · cases e
    | _ => cases e
  | lst xs =>
    cases y with
    | int k =>
      simp only [oMul] at e
      split at e
      · rename_i hz
        cases e
        obtain ⟨a, vs, rfl, h1, r1⟩ := rx.lst sm
        exact .inr ⟨a, k, vs, rfl, ry.int, h1, hz.1, hz.2.1, by rw [r1.len]; exact hz.2.2, fun p hp => g.newO sm hp ⟨_, rfl, r1.rep _⟩⟩
      · cases e
    | _ => cases e
  | _ => cases e
theorem p_mod : Prim2 K (rI (fun _ j => 0 < j) fun i j => .int (i % j)) oMod := by
  intro F H vx vy x y s Q sm rx ry e g
  cases x with
  | int i =>
    cases y with
    | int j =>
      simp only [oMod] at e
      split at e
      · cases e; exact ⟨i, j, rx.int, ry.int, by assumption, g.same sm (.int _)⟩
      · cases e
    | _ => cases e
  | _ => cases e
theorem p_div : Prim2 K (rI CDiv fun i j => .int (i / j)) oDiv := by
  intro F H vx vy x y s Q sm rx ry e g
  cases x with
  | int i =>
    cases y with
    | int j =>
      simp only [oDiv] at e
      split at e
      · cases e; exact ⟨i, j, rx.int, ry.int, by assumption, g.same sm (.int _)⟩
      · cases e
    | _ => cases e
  | _ => cases e
theorem p_pow : Prim2 K (rI CPow fun i j => .int (i ^ j.toNat)) oPow := by
  intro F H vx vy x y s Q sm rx ry e g
  cases x with
  | int i =>
    cases y with
    | int j =>
      simp only [oPow] at e
      split at e
      · cases e; exact ⟨i, j, rx.int, ry.int, by assumption, g.same sm (.int _)⟩
      · cases e
    | _ => cases e
  | _ => cases e
theorem p_neg : Prim1 K (rU fun i => .int (-i)) oNeg := by
  intro F H vx x s Q sm rx e g
  cases x with
  | int i => cases e; exact ⟨i, rx.int, g.same sm (.int _)⟩
  | _ => cases e
end
end Mi

namespace Mi
open PySem PySem.Spec PyProof.Rows L2

inductive Fl where
  | nx (ε : En)
  | rt (s : Sl) (ε : En)
  | bk (ε : En)
  | ct (ε : En)
  | ex (c : Str) (gs : List (Str × D)) (ε : En)
abbrev FS := En → Option Fl
def KeepP (np : Nat) (σ σ' : St) : Prop := ∀ i : Nat, i < np → σ'[i]? = σ[i]?
theorem KeepP.refl {np : Nat} {σ : St} : KeepP np σ σ := fun _ _ => rfl
theorem KeepP.trans {np : Nat} {σ σ1 σ2 : St} (a : KeepP np σ σ1) (b : KeepP np σ1 σ2) : KeepP np σ σ2 := fun i h => (b i h).trans (a i h)
def DoS (K : PySem.W.Frag) (W : WX) (np : Nat) (σ : St) (ε : En) (F H : Hp) (r : Option Fl) (Z : Ends) : Prop := match r with
  | none => False
  | some (.nx ε') => ∀ σ' H' F', Same F F' → EOk K F' H' σ' ε' → KeepP np σ σ' → Frm σ ε F H σ' ε' F' H' → Z.nx σ' H'
  | some (.bk ε') => ∀ σ' H' F', Same F F' → EOk K F' H' σ' ε' → KeepP np σ σ' → Frm σ ε F H σ' ε' F' H' → Z.bk σ' H'
  | some (.ct ε') => ∀ σ' H' F', Same F F' → EOk K F' H' σ' ε' → KeepP np σ σ' → Frm σ ε F H σ' ε' F' H' → Z.ct σ' H'
  | some (.rt s ε') => ∀ v σ' H' F', Same F F' → EOk K F' H' σ' ε' → RepS K F' H' v s → Apart σ' ε' v s → KeepP np σ σ' → Frm σ ε F H σ' ε' F' H' → Mine σ ε F H v s → Z.rt v H'
  | some (.ex c gs ε') => ∀ d σ' H' F', Same F F' → EOk K F' H' σ' ε' → (∃ vs, H' d = some (.xd vs) ∧ RepF K F' vs gs) → KeepP np σ σ' → Frm σ ε F H σ' ε' F' H' → W (.ref (He.ga K c)) (some d) σ' H'
def sM (K : PySem.W.Frag) (W : WX) (np : Nat) (f : FS) : TS := fun Z σ H => ∃ F ε, EOk K F H σ ε ∧ DoS K W np σ ε F H (f ε) Z
abbrev MS (X : Cx) (W : WX) (np : Nat) (e : Stmt) (f : FS) : Prop := PS X e (sM X.K W np f)
abbrev MSs (X : Cx) (W : WX) (np : Nat) (e : List Stmt) (f : FS) : Prop := PSs X e (sM X.K W np f)

section
variable {K : PySem.W.Frag} {W : WX} {np : Nat} {σ : St} {ε0 : En} {F H : Hp} {Z : Ends}
theorem DoS.sub {F' H' : Hp} {σ' : St} {ε' : En} {r : Option Fl} (h : DoS K W np σ ε0 F H r Z) (s : Same F F') (k : KeepP np σ σ') (fr : Frm σ ε0 F H σ' ε' F' H') : DoS K W np σ' ε' F' H' r Z := by
  cases r with
  | none => exact h
  | some q =>
    cases q with
    | nx ε => exact fun σ2 H2 F2 a e b c => h σ2 H2 F2 (s.trans a) e (k.trans b) (fr.trans c)
    | bk ε => exact fun σ2 H2 F2 a e b c => h σ2 H2 F2 (s.trans a) e (k.trans b) (fr.trans c)
    | ct ε => exact fun σ2 H2 F2 a e b c => h σ2 H2 F2 (s.trans a) e (k.trans b) (fr.trans c)
    | rt t ε => exact fun v σ2 H2 F2 a e r ap b c m => h v σ2 H2 F2 (s.trans a) e r ap (k.trans b) (fr.trans c) (m.pre fr)
    | ex c gs ε => exact fun v σ2 H2 F2 a e r b c => h v σ2 H2 F2 (s.trans a) e r (k.trans b) (fr.trans c)
end

/-- behind an expression -/
def bs (r : Option (R Sl)) (k : Sl → En → Option Fl) : Option Fl := match r with
  | some (.v s ε) => k s ε
  | some (.x c fs ε) => some (.ex c fs ε)
  | none => none
@[simp] theorem bs_v (s : Sl) (ε : En) (k : Sl → En → Option Fl) : bs (some (.v s ε)) k = k s ε := rfl
@[simp] theorem bs_x (c : Str) (fs : List (Str × D)) (ε : En) (k : Sl → En → Option Fl) : bs (some (.x c fs ε)) k = some (.ex c fs ε) := rfl
@[simp] theorem bs_n (k : Sl → En → Option Fl) : bs none k = none := rfl
theorem DoS.exx {K : PySem.W.Frag} {W : WX} {np : Nat} {σ : St} {ε ε1 : En} {F H : Hp} {Z : Ends} {c : Str} {gs : List (Str × D)} (h : DoS K W np σ ε F H (some (.ex c gs ε1)) Z) : ∀ d H' F', AftX K σ ε F H F' H' ε1 d gs → W (.ref (He.ga K c)) (some d) σ H' :=
  fun d H' F' a => h d σ H' F' a.fs a.eo a.xd .refl a.fr
theorem bs_do {K : PySem.W.Frag} {W : WX} {np : Nat} {σ : St} {ε : En} {F H : Hp} {Z : Ends} {r : Option (R Sl)} {k : Sl → En → Option Fl} {G : VK} (h : DoS K W np σ ε F H (bs r k) Z)
    (g : ∀ s ε1 v H1 F1, Aft K σ ε F H F1 H1 ε1 v s → DoS K W np σ ε F H (k s ε1) Z → G v H1) : Do K W σ ε F H r G := by
  cases r with
  | none => exact h
  | some r =>
    cases r with
    | x c fs ε1 => exact DoS.exx h
    | v s ε1 => exact fun v H1 F1 a => g s ε1 v H1 F1 a h

def sNext : FS := fun ε => some (.nx ε)
def sSeq (f g : FS) : FS := fun ε => match f ε with
  | some (.nx ε1) => g ε1
  | o => o
def sRet (f : FE) : FS := fun ε => bs (f ε) fun s ε1 => some (.rt s ε1)
def sRetN : FS := fun ε => some (.rt (.fz .non) ε)
def sExpr (f : FE) : FS := fun ε => bs (f ε) fun _ ε1 => some (.nx ε1)
def sSet (i : Nat) (f : FE) : FS := fun ε => bs (f ε) fun s ε1 => some (.nx (ε1.set i s))
def sBrk : FS := fun ε => some (.bk ε)
def sCnt : FS := fun ε => some (.ct ε)

theorem EOk.put {K : PySem.W.Frag} {F H : Hp} {σ : St} {ε : En} {i : Nat} {v : V} {s : Sl} (e : EOk K F H σ ε) (r : RepS K F H v s) (ap : Apart σ ε v s) : EOk K F H (σ.set i (some v)) (ε.set i s) := by
  have cse : ∀ (j : Nat) (x : Sl), (ε.set i s)[j]? = some x → (j = i ∧ x = s ∧ (σ.set i (some v))[j]? = some (some v)) ∨ (j ≠ i ∧ ε[j]? = some x ∧ (σ.set i (some v))[j]? = σ[j]?) := fun j x q => by
    by_cases hj : j = i
    · subst hj
      have jl : j < (ε.set j s).length := (List.getElem?_eq_some_iff.mp q).1
      rw [List.length_set] at jl
      rw [List.getElem?_set_self jl] at q
      cases q
      exact .inl ⟨rfl, rfl, List.getElem?_set_self (by rw [e.len]; exact jl)⟩
    · rw [List.getElem?_set_ne (Ne.symm hj)] at q
      exact .inr ⟨hj, q, List.getElem?_set_ne (Ne.symm hj)⟩
  refine ⟨e.sub, by rw [List.length_set, List.length_set]; exact e.len, fun j x q n => ?_, fun j k x y w q1 q2 q3 q4 => ?_⟩
  · rcases cse j x q with ⟨_, rfl, h⟩ | ⟨_, h1, h2⟩
    · exact ⟨v, h, r⟩
    · rw [h2]; exact e.val j x h1 n
  · rcases cse j _ q1 with ⟨a1, b1, c1⟩ | ⟨a1, b1, c1⟩ <;> rcases cse k _ q2 with ⟨a2, b2, c2⟩ | ⟨a2, b2, c2⟩
    · rw [a1, a2]
    · subst b1
      rw [c1] at q3
      cases q3
      rw [c2] at q4
      exact absurd q4 (ap k y b2)
    · subst b2
      rw [c2] at q4
      cases q4
      rw [c1] at q3
      exact absurd q3 (ap j x b1)
    · rw [c1] at q3
      rw [c2] at q4
      exact e.inj j k x y w b1 b2 q3 q4
/-- a value stored into a slot: things of others stay -/
theorem Aft.frmPut {K : PySem.W.Frag} {σ : St} {ε : En} {F H F' H' : Hp} {ε' : En} {v : V} {s : Sl} {i : Nat} (a : Aft K σ ε F H F' H' ε' v s) : Frm σ ε F H (σ.set i (some v)) (ε'.set i s) F' H' := fun b o ob => by
  have q := a.fr b o ob
  refine ⟨q.nf, q.at_, fun j d h z => ?_⟩
  by_cases hj : j = i
  · subst hj
    have jl : j < (ε'.set j s).length := (List.getElem?_eq_some_iff.mp h).1
    rw [List.length_set] at jl
    rw [List.getElem?_set_self jl] at h
    cases h
    rw [List.getElem?_set_self (by rw [a.eo.len]; exact jl)] at z
    exact a.mi b o ob (Option.some.inj (Option.some.inj z))
  · rw [List.getElem?_set_ne (Ne.symm hj)] at h z
    exact q.no j d h z
theorem keep_set {np i : Nat} {σ : St} {x : Option V} (h : np ≤ i) : KeepP np σ (σ.set i x) := fun j hj => List.getElem?_set_ne (by omega)

section
variable {X : Cx} {W : WX} {np : Nat}
theorem ms_expr {e : Expr} {f : FE} {pos : Pos} (h : ME X W e f) (hs : swapsWith e none pos.line X.env = pure false := by rfl) : MS X W np (.Expr e pos) (sExpr f) := by
  refine PS.imp (ps_expr h hs) fun Z σ H ⟨F, ε, E0, h⟩ => ⟨F, ε, E0, bs_do h fun s ε1 v H1 F1 a h1 => ?_⟩
  exact h1 σ H1 F1 a.fs a.eo .refl a.fr
theorem ms_ret {e : Expr} {f : FE} {pos : Pos} (h : ME X W e f) : MS X W np (.Return (some e) pos) (sRet f) := by
  refine PS.imp (ps_ret h) fun Z σ H ⟨F, ε, E0, h⟩ => ⟨F, ε, E0, bs_do h fun s ε1 v H1 F1 a h1 => ?_⟩
  exact h1 v σ H1 F1 a.fs a.eo a.rs a.ap .refl a.fr a.mi
theorem ms_retN {pos : Pos} : MS X W np (.Return none pos) sRetN :=
  PS.imp ps_retN fun Z σ H ⟨F, ε, E0, h⟩ => h .non σ H F (.refl _) E0 .non trivial .refl .refl trivial
theorem ms_pass {pos : Pos} : MS X W np (.Pass pos) sNext := PS.imp ps_pass fun Z σ H ⟨F, ε, E0, h⟩ => h σ H F (.refl _) E0 .refl .refl
theorem ms_brk {pos : Pos} : MS X W np (.Break pos) sBrk := PS.imp ps_break fun Z σ H ⟨F, ε, E0, h⟩ => h σ H F (.refl _) E0 .refl .refl
theorem ms_cnt {pos : Pos} : MS X W np (.Continue pos) sCnt := PS.imp ps_continue fun Z σ H ⟨F, ε, E0, h⟩ => h σ H F (.refl _) E0 .refl .refl
theorem mss_nil : MSs X W np [] sNext := PSs.imp pss_nil fun Z σ H ⟨F, ε, E0, h⟩ => h σ H F (.refl _) E0 .refl .refl
theorem mss_one {st : Stmt} {f : FS} (h : MS X W np st f) : MSs X W np [st] f := pss_one h
theorem mss_cons {st : Stmt} {rest : List Stmt} {f g : FS} (h : MS X W np st f) (h2 : MSs X W np rest g) : MSs X W np (st :: rest) (sSeq f g) := by
  refine PSs.imp (pss_cons h h2) fun Z σ H ⟨F, ε, E0, h⟩ => ⟨F, ε, E0, ?_⟩
  unfold sSeq at h
  cases q : f ε with
  | none => rw [q] at h; exact h
  | some r =>
    rw [q] at h
    cases r with
    | nx ε1 => exact fun σ1 H1 F1 s1 e1 k1 c1 => ⟨F1, ε1, e1, DoS.sub h s1 k1 c1⟩
    | bk ε1 => exact h
    | ct ε1 => exact h
    | rt s ε1 => exact h
    | ex c gs ε1 => exact h
theorem ms_set {i : Nat} {x : Str} {e : Expr} {f : FE} {pos pos' : Pos} (hN : X.N.Nodup) (hi : X.N[i]? = some x) (hx : Loc X.env.scope x) (h : ME X W e f) (hnp : np ≤ i := by decide) (hs : swapsWith e (some (.Name x pos')) pos.line X.env = pure false := by rfl)
    (hf : X.fn x = true ∨ X.env.scope.names.lookup x = some .local := by first | exact .inl rfl | exact .inr rfl | assumption) : MS X W np (.Assign [.Name x pos'] e pos) (sSet i f) := by
  refine PS.imp (ps_set (i := i) hN hi hx h hs hf) fun Z σ H ⟨F, ε, E0, h⟩ => ⟨F, ε, E0, bs_do h fun s ε1 v H1 F1 a h1 => ?_⟩
  exact h1 _ H1 F1 a.fs (a.eo.put a.rs a.ap) (keep_set hnp) (a.frmPut)
end

/-! ### tests -/
def DoT (K : PySem.W.Frag) (W : WX) (σ : St) (ε : En) (F H : Hp) (r : Option (R Bool)) (Q : Bool → Hp → Prop) : Prop := match r with
  | none => False
  | some (.v b ε') => ∀ H' F', Same F F' → EOk K F' H' σ ε' → Frm σ ε F H σ ε' F' H' → Q b H'
  | some (.x c fs ε') => ∀ d H' F', AftX K σ ε F H F' H' ε' d fs → W (.ref (He.ga K c)) (some d) σ H'
def tMT (K : PySem.W.Frag) (W : WX) (f : FB) : TT := fun σ H Q => ∃ F ε, EOk K F H σ ε ∧ DoT K W σ ε F H (f ε) Q
abbrev MT (X : Cx) (W : WX) (e : Expr) (f : FB) : Prop := PT X e (tMT X.K W f)
/-- a truth that is known -/
def bB (f : FE) : FB := fun ε => bf (f ε) fun d ε1 => match d with
  | .bl b => some (.v b ε1)
  | _ => none
theorem DoT.sub {K : PySem.W.Frag} {W : WX} {σ : St} {ε ε1 : En} {F H F' H' : Hp} {r : Option (R Bool)} {Q : Bool → Hp → Prop} (h : DoT K W σ ε F H r Q) (s : Same F F') (fr : Frm σ ε F H σ ε1 F' H') : DoT K W σ ε1 F' H' r Q := by
  cases r with
  | none => exact h
  | some q =>
    cases q with
    | v b ε2 => exact fun H2 F2 a2 e2 c => h H2 F2 (s.trans a2) e2 (fr.trans c)
    | x c fs ε2 => exact fun d H2 F2 a2 => h d H2 F2 (a2.then s fr)
theorem DoT.bindF {K : PySem.W.Frag} {W : WX} {σ : St} {ε : En} {F H : Hp} {r : Option (R Sl)} {k : D → En → Option (R Bool)} {Q : Bool → Hp → Prop} {G : VK} (h : DoT K W σ ε F H (bf r k) Q)
    (g : ∀ d ε1 v H1 F1, AftD K σ ε F H F1 H1 ε1 v d → DoT K W σ ε1 F1 H1 (k d ε1) Q → G v H1) : Do K W σ ε F H r G := by
  cases r with
  | none => exact h
  | some r =>
    cases r with
    | x c fs ε1 => exact h
    | v s ε1 =>
      intro v H1 F1 a
      cases s with
      | un => exact a.rs.elim
      | fz d =>
        obtain ⟨F2, a2⟩ := a.data (.inl rfl)
        exact g d ε1 v H1 F2 a2 (DoT.sub (show DoT K W σ ε F H (k d ε1) Q from h) a2.fs a2.fr)
      | ow d =>
        obtain ⟨F2, a2⟩ := a.data (.inr rfl)
        exact g d ε1 v H1 F2 a2 (DoT.sub (show DoT K W σ ε F H (k d ε1) Q from h) a2.fs a2.fr)
theorem bB_ok {K : PySem.W.Frag} {W : WX} {f : FE} {σ : St} {H : Hp} {Q : Bool → Hp → Prop} (h : tMT K W (bB f) σ H Q) : tM K W f σ H fun x H1 => ∃ c, x = .bl c ∧ Q c H1 := by
  obtain ⟨F, ε, E0, h⟩ := h
  refine ⟨F, ε, E0, DoT.bindF h fun d ε1 v H1 F1 a h1 => ?_⟩
  cases d with
  | bl b =>
    cases a.rp
    exact ⟨b, rfl, h1 H1 F1 (.refl _) a.eo .refl⟩
  | _ => exact h1.elim
def bnot (f : FB) : FB := fun ε => bnd (f ε) fun b ε1 => some (.v (!b) ε1)
def band (f g : FB) : FB := fun ε => bnd (f ε) fun b ε1 => if b then g ε1 else some (.v false ε1)
def bor (f g : FB) : FB := fun ε => bnd (f ε) fun b ε1 => if b then some (.v true ε1) else g ε1
section
variable {X : Cx} {W : WX} {np : Nat}
theorem mt_val {e : Expr} {f : FE} (h : ME X W e f) (he : ∀ whole, isTrue e X.env whole = (do let v ← whole; standAt e.pos; holding [v] (truthy v)) := by intro _; rfl) : MT X W e (bB f) :=
  PT.imp (pt_val h he) fun _ _ _ q => bB_ok q
theorem DoT.bind {K : PySem.W.Frag} {σ : St} {ε : En} {F H : Hp} {r : Option (R Bool)} {k : Bool → En → Option (R Bool)} {Q G : Bool → Hp → Prop} (h : DoT K W σ ε F H (bnd r k) Q)
    (g : ∀ b ε1 H1 F1, EOk K F1 H1 σ ε1 → DoT K W σ ε1 F1 H1 (k b ε1) Q → G b H1) : DoT K W σ ε F H r G := by
  cases r with
  | none => exact h
  | some r =>
    cases r with
    | x c fs ε1 => exact h
    | v b ε1 => exact fun H1 F1 s e fr => g b ε1 H1 F1 e (DoT.sub (show DoT K W σ ε F H (k b ε1) Q from h) s fr)
theorem mt_not {e : Expr} {f : FB} {pos : Pos} (h : MT X W e f) : MT X W (.UnaryOp .Not e pos) (bnot f) := by
  refine PT.imp (pt_not h) fun σ H Q ⟨F, ε, E0, h⟩ => ⟨F, ε, E0, DoT.bind h fun b ε1 H1 F1 e h1 => ?_⟩
  exact h1 H1 F1 (.refl _) e .refl
theorem mt_and1 {e : Expr} {f : FB} {pos : Pos} (h : MT X W e f) : PW X (.BoolOp .And [e] pos) (tMT X.K W f) := pw_and1 h
theorem mt_or1 {e : Expr} {f : FB} {pos : Pos} (h : MT X W e f) : PW X (.BoolOp .Or [e] pos) (tMT X.K W f) := pw_or1 h
theorem PW.imp {e : Expr} {t t' : TT} (h : PW X e t) (i : ∀ σ H Q, t' σ H Q → t σ H Q) : PW X e t' := ⟨fun wh pins s σ H Q I q => h.run wh pins s σ H Q I (i σ H Q q)⟩
theorem mt_and {a b : Expr} {rest : List Expr} {f g : FB} {pos : Pos} (h : MT X W a f) (h2 : PW X (.BoolOp .And (b :: rest) pos) (tMT X.K W g)) : PW X (.BoolOp .And (a :: b :: rest) pos) (tMT X.K W (band f g)) := by
  refine PW.imp (pw_and h h2) fun σ H Q ⟨F, ε, E0, h⟩ => ⟨F, ε, E0, DoT.bind h fun b ε1 H1 F1 e h1 => ?_⟩
  cases b with
  | true => exact iteT ⟨F1, ε1, e, h1⟩
  | false => exact iteF (h1 H1 F1 (.refl _) e .refl)
theorem mt_or {a b : Expr} {rest : List Expr} {f g : FB} {pos : Pos} (h : MT X W a f) (h2 : PW X (.BoolOp .Or (b :: rest) pos) (tMT X.K W g)) : PW X (.BoolOp .Or (a :: b :: rest) pos) (tMT X.K W (bor f g)) := by
  refine PW.imp (pw_or h h2) fun σ H Q ⟨F, ε, E0, h⟩ => ⟨F, ε, E0, DoT.bind h fun b ε1 H1 F1 e h1 => ?_⟩
  cases b with
  | true => exact iteT (h1 H1 F1 (.refl _) e .refl)
  | false => exact iteF ⟨F1, ε1, e, h1⟩

/-! ### truths as values: and, or, not, if-else -/
def eAnd (f g : FE) : FE := fun ε => bf (f ε) fun d ε1 => match d with
  | .bl true => g ε1
  | .bl false => some (.v (.fz (.bl false)) ε1)
  | _ => none
def eOr (f g : FE) : FE := fun ε => bf (f ε) fun d ε1 => match d with
  | .bl true => some (.v (.fz (.bl true)) ε1)
  | .bl false => g ε1
  | _ => none
def eNot (f : FE) : FE := e1 (fun d => match d with
  | .bl b => some (.fz (.bl (!b)))
  | _ => none) f
def eIf (c : FB) (f g : FE) : FE := fun ε => bnd (c ε) fun b ε1 => if b then f ε1 else g ε1
theorem me_one {op} {e : Expr} {f : FE} {pos : Pos} (h : ME X W e f) : ME X W (.BoolOp op [e] pos) f := pe_one h
theorem me_and {a b : Expr} {rest : List Expr} {f g : FE} {pos : Pos} (h : ME X W a f) (h2 : ME X W (.BoolOp .And (b :: rest) pos) g) : ME X W (.BoolOp .And (a :: b :: rest) pos) (eAnd f g) := by
  refine PE.imp (pe_and h h2) fun σ H Q ⟨F, ε, E0, h⟩ => ⟨F, ε, E0, Do.bindF h fun d ε1 v H1 F1 a h1 => ?_⟩
  cases d with
  | bl b =>
    cases a.rp
    cases b with
    | true => exact ⟨true, rfl, iteT ⟨F1, ε1, a.eo, h1⟩⟩
    | false => exact ⟨false, rfl, iteF (h1 _ H1 F1 (.here a.eo (.bl _)))⟩
  | _ => exact h1.elim
theorem me_or {a b : Expr} {rest : List Expr} {f g : FE} {pos : Pos} (h : ME X W a f) (h2 : ME X W (.BoolOp .Or (b :: rest) pos) g) : ME X W (.BoolOp .Or (a :: b :: rest) pos) (eOr f g) := by
  refine PE.imp (pe_or h h2) fun σ H Q ⟨F, ε, E0, h⟩ => ⟨F, ε, E0, Do.bindF h fun d ε1 v H1 F1 a h1 => ?_⟩
  cases d with
  | bl b =>
    cases a.rp
    cases b with
    | true => exact ⟨true, rfl, iteT (h1 _ H1 F1 (.here a.eo (.bl _)))⟩
    | false => exact ⟨false, rfl, iteF ⟨F1, ε1, a.eo, h1⟩⟩
  | _ => exact h1.elim
theorem p_not {K : PySem.W.Frag} : Prim1 K (fun x H Q => ∃ c, x = .bl c ∧ Q (.bl (!c)) H) (fun d => match d with
  | .bl b => some (.fz (.bl (!b)))
  | _ => none) := by
  intro F H vx x s Q sm rx e g
  cases x with
  | bl b => cases e; exact ⟨b, rx.bl, g.same sm (.bl _)⟩
  | _ => cases e
theorem me_not {e : Expr} {f : FE} {pos : Pos} (h : ME X W e f) : ME X W (.UnaryOp .Not e pos) (eNot f) := PE.imp (pe_not h) fun _ _ _ q => e1_ok p_not q
theorem me_if {c a b : Expr} {t : FB} {f g : FE} {pos : Pos} (hc : MT X W c t) (h : ME X W a f) (h2 : ME X W b g) : ME X W (.IfExp c a b pos) (eIf t f g) := by
  refine PE.imp (pe_ifExp hc h h2) fun σ H Q ⟨F, ε, E0, h⟩ => ⟨F, ε, E0, ?_⟩
  unfold eIf at h
  cases q : t ε with
  | none => rw [q] at h; exact h
  | some r =>
    rw [q] at h
    cases r with
    | x c gs ε1 => exact h
    | v b ε1 =>
      intro H1 F1 s1 e1 c1
      cases b with
      | true => exact iteT ⟨F1, ε1, e1, Do.sub h s1 c1⟩
      | false => exact iteF ⟨F1, ε1, e1, Do.sub h s1 c1⟩

/-! ### if -/
def sIf (c : FB) (f g : FS) : FS := fun ε => match c ε with
  | some (.v true ε1) => f ε1
  | some (.v false ε1) => g ε1
  | some (.x c fs ε1) => some (.ex c fs ε1)
  | none => none
theorem ms_if {c : Expr} {a b : List Stmt} {t : FB} {f g : FS} {pos : Pos} (hc : MT X W c t) (h : MSs X W np a f) (h2 : MSs X W np b g) : MS X W np (.If c a b pos) (sIf t f g) := by
  refine PS.imp (ps_if hc h h2) fun Z σ H ⟨F, ε, E0, h⟩ => ⟨F, ε, E0, ?_⟩
  unfold sIf at h
  cases q : t ε with
  | none => rw [q] at h; exact h
  | some r =>
    rw [q] at h
    cases r with
    | x c gs ε1 => exact DoS.exx h
    | v b ε1 =>
      intro H1 F1 s1 e1 c1
      cases b with
      | true => exact iteT ⟨F1, ε1, e1, DoS.sub h s1 .refl c1⟩
      | false => exact iteF ⟨F1, ε1, e1, DoS.sub h s1 .refl c1⟩
end
end Mi

namespace Mi
open PySem PySem.Spec PyProof.Rows L2

/-! ### a def's promise, where no text of a list is being made -/
structure FnG (P : Program) (w : World) (K : PySem.W.Frag) (mg : Str → Option Value) (base : Heap) (u : Bool) (n : Nat) (f : Addr) (fd : FuncData) (ps : List Str) (sp : Sp) : Prop where
  len : ∀ vs H Q E, sp vs H Q E → vs.length = ps.length
  run : ∀ (A : Around) (out : List Env) (st : Shared) (H : Hp) (ar : Args) (us : List Value) (vs : List V) (Q : VK) (E : XK), Room n A → (u = true → A.guards = some []) → Env0 P w K mg base A out st H →
    BindsTo st fd ar (ps.zip us) → Vals vs us → sp vs H Q E → codeAny (model P w) A (.call (.ref f) ar) (CR (L2.CX P w) out P w H st Q E) st
theorem FnG.mono {P : Program} {w : World} {K : PySem.W.Frag} {mg : Str → Option Value} {base : Heap} {u : Bool} {n m : Nat} {f : Addr} {fd : FuncData} {ps : List Str} {sp : Sp} (g : FnG P w K mg base u n f fd ps sp) (h : n ≤ m) : FnG P w K mg base u m f fd ps sp :=
  ⟨g.len, fun A out st H ar us vs Q E rm => g.run A out st H ar us vs Q E (rm.mono h)⟩

/-- a def in which no text of a list is asked for -/
theorem FnG.ok {P : Program} {w : World} {K : PySem.W.Frag} {mg : Str → Option Value} {base : Heap} {n : Nat} {f : Addr} {fd : FuncData} {ps : List Str} {sp : Sp} (g : FnG P w K mg base false n f fd ps sp) : FnOk P w K mg base (L2.CX P w) n f fd ps sp :=
  ⟨g.len, fun A out st H ar us vs Q E rm => g.run A out st H ar us vs Q E rm (fun z => Bool.noConfusion z)⟩
/-- a def by its body -/
theorem fnG_of {P : Program} {w : World} {K : PySem.W.Frag} {mg : Str → Option Value} {base : Heap} {u : Bool} {n : Nat} {f : Addr} {x q : Str} {pr : Arguments} {body : List Stmt} {sc : Scope} {fd : FuncData} {dvs : List V} {kws : List (Str × V)} {N ps : List Str} {sp : Sp}
    (D : FunD K x q pr body sc dvs kws f fd) (S : FnScope N ps sc) (ln : ∀ vs H Q E, sp vs H Q E → vs.length = ps.length)
    (hb : ∀ (cv : Value) (A : Around) (out : List Env) (st : Shared) (H : Hp) (vs : List V) (Q : VK) (E : XK), Room n (A.deeper (envOfC q sc st.heap.objs.size f cv)) → (u = true → A.guards = some []) → sp vs H Q E →
      ∃ t, PSs (cxOf (L2.CX P w) P w K mg base N q sc f cv A out st H E) body t ∧ t { nx := fun _ H' => Q .non H', rt := Q } (start N vs) H) : FnG P w K mg base u (n + 1) f fd ps sp := by
  obtain ⟨oc, od, dV, kV, dc, pm, an, cv, ct, sl, rfl, lk, hc, _, _⟩ := D.ex
  refine ⟨ln, fun A out st H ar us vs Q E rm gd e0 bd rv wish => ?_⟩
  have inn : K.In st.heap := e0.mod.kin.keeps fun b o z => (e0.bs b o z).1
  have nol : st.heap.NoLimit := e0.mod.nolimit.keeps fun b o z => (e0.bs b o z).1
  refine codeAny_call_function rm.depth (inn _ _ lk) rfl S.co S.gen rfl (PySem.W.codeRec_of inn hc) (bd _ _ _ _ ?_)
  have kinds : ∀ y ∈ ps.zip us, sc.names.lookup y.1 = some .local ∨ (sc.names.lookup y.1 = some .cell ∧ ((cellsFrom (st.heap.objs.size + 1) sc.names []).lookup y.1).isSome = true) := by
    rintro ⟨m, v⟩ hy
    rcases S.par m (List.of_mem_zip hy).1 with z | z
    · exact Or.inl z
    · exact Or.inr ⟨z, PySem.W.cellsFrom_some _ _ _ (.inl z)⟩
  refine wpAny_newFunctionEnv_cells S.kind kinds fun env he st1 ic => ?_
  subst he
  refine ⟨nol.keeps ic.toInCall.keep, codeAny_func ?_⟩
  obtain ⟨t, ht, hq⟩ := hb cv A out st H vs Q E (rm.deeper _) gd wish
  have J := inv_start (CX := L2.CX P w) (E := E) S rm.hd e0 (ln _ _ _ _ wish) rv ic
  refine wpAny_mono (ht.run [] st1 (start N vs) H _ J hq) (fun fl st2 z => ?_) fun e st2 z => z
  cases fl with
  | ret u =>
    obtain ⟨v, σ', H', I2, r2, q2⟩ := z
    exact ⟨v, H', I2.os, I2.bare, I2.base, I2.hok, r2, q2⟩
  | next =>
    obtain ⟨σ', H', I2, q2⟩ := z
    exact ⟨V.non, H', I2.os, I2.bare, I2.base, I2.hok, rfl, q2⟩
  | brk =>
    obtain ⟨_, _, _, q2⟩ := z
    exact q2.elim
  | cont =>
    obtain ⟨_, _, _, q2⟩ := z
    exact q2.elim

/-! ### a def as a function on slots -/
abbrev FD := List Sl → Option (R Sl)
abbrev WE0 (E : XK) : WX := fun c d _ H => E c d H
def spM (K : PySem.W.Frag) (np : Nat) (Fd : FD) : Sp := fun vs H Q E => vs.length = np ∧ ∃ F ss, EOk K F H (vs.map some) ss ∧ Do K (WE0 E) (vs.map some) ss F H (Fd ss) Q
/-- n slots, the body f -/
def runD (n : Nat) (f : FS) : FD := fun ss => match f (ss ++ List.replicate (n - ss.length) Sl.un) with
  | some (.nx ε) => some (.v (.fz .non) (ε.take ss.length))
  | some (.rt s ε) => some (.v s (ε.take ss.length))
  | some (.ex c gs ε) => some (.x c gs (ε.take ss.length))
  | _ => none

section
variable {K : PySem.W.Frag} {F H : Hp}
theorem EOk.start {N : List Str} {vs : List V} {ss : List Sl} (e : EOk K F H (vs.map some) ss) (hn : vs.length ≤ N.length) : EOk K F H (start N vs) (ss ++ List.replicate (N.length - ss.length) Sl.un) := by
  have ln : vs.length = ss.length := by have := e.len; simpa using this
  have at1 : ∀ (i : Nat) (s : Sl), (ss ++ List.replicate (N.length - ss.length) Sl.un)[i]? = some s → s ≠ .un → ss[i]? = some s ∧ (L2.start N vs)[i]? = (vs.map some)[i]? := fun i s q n => by
    by_cases hi : i < ss.length
    · rw [List.getElem?_append_left hi] at q
      refine ⟨q, ?_⟩
      unfold L2.start
      rw [List.getElem?_append_left (by simpa [ln] using hi)]
    · rw [List.getElem?_append_right (by omega), List.getElem?_replicate] at q
      split at q
      · cases q; exact absurd rfl n
      · cases q
  refine ⟨e.sub, ?_, fun i s q n => ?_, fun i j d d' v q1 q2 q3 q4 => ?_⟩
  · unfold L2.start; simp; omega
  · obtain ⟨a, b⟩ := at1 i s q n
    rw [b]; exact e.val i s a n
  · obtain ⟨a, b⟩ := at1 i _ q1 (by simp)
    obtain ⟨a', b'⟩ := at1 j _ q2 (by simp)
    rw [b] at q3
    rw [b'] at q4
    exact e.inj i j d d' v a a' q3 q4
/-- the parameters' slots alone -/
theorem EOk.pars {N : List Str} {vs : List V} {σ' : St} {ε' : En} {np : Nat} (e : EOk K F H σ' ε') (hv : vs.length = np) (k : KeepP np (L2.start N vs) σ') : EOk K F H (vs.map some) (ε'.take np) ∧ (∀ (i : Nat) (s : Sl), (ε'.take np)[i]? = some s → ε'[i]? = some s ∧ σ'[i]? = (vs.map some)[i]?) := by
  have st : ∀ i : Nat, i < np → σ'[i]? = (vs.map some)[i]? := fun i hi => by
    rw [k i hi]
    unfold L2.start
    rw [List.getElem?_append_left (by simpa [hv] using hi)]
  have long : np ≤ ε'.length := by
    rw [← e.len]
    cases np with
    | zero => exact Nat.zero_le _
    | succ m =>
      have z := st m (Nat.lt_succ_self _)
      rw [List.getElem?_map, List.getElem?_eq_getElem (by omega : m < vs.length)] at z
      have := (List.getElem?_eq_some_iff.mp z).1
      omega
  have at2 : ∀ (i : Nat) (s : Sl), (ε'.take np)[i]? = some s → ε'[i]? = some s ∧ σ'[i]? = (vs.map some)[i]? := fun i s q => by
    have hi : i < np := by
      have := (List.getElem?_eq_some_iff.mp q).1
      rw [List.length_take] at this
      omega
    rw [List.getElem?_take_of_lt hi] at q
    exact ⟨q, st i hi⟩
  refine ⟨⟨e.sub, by simp; omega, fun i s q n => ?_, fun i j d d' v q1 q2 q3 q4 => ?_⟩, at2⟩
  · obtain ⟨a, b⟩ := at2 i s q
    rw [← b]; exact e.val i s a n
  · obtain ⟨a, b⟩ := at2 i _ q1
    obtain ⟨a', b'⟩ := at2 j _ q2
    rw [← b] at q3
    rw [← b'] at q4
    exact e.inj i j d d' v a a' q3 q4
theorem frm_def {N : List Str} {vs : List V} {ss : List Sl} {σ' : St} {ε' : En} {F' H' : Hp} (e : EOk K F H (vs.map some) ss) (at2 : ∀ (i : Nat) (s : Sl), (ε'.take ss.length)[i]? = some s → ε'[i]? = some s ∧ σ'[i]? = (vs.map some)[i]?)
    (fr : Frm (L2.start N vs) (ss ++ List.replicate (N.length - ss.length) Sl.un) F H σ' ε' F' H') :
    (∀ a o, Oth (vs.map some) ss F H a o → Oth (L2.start N vs) (ss ++ List.replicate (N.length - ss.length) Sl.un) F H a o) ∧ Frm (vs.map some) ss F H (vs.map some) (ε'.take ss.length) F' H' := by
  have ln : vs.length = ss.length := by have := e.len; simpa using this
  have up : ∀ a o, Oth (vs.map some) ss F H a o → Oth (L2.start N vs) (ss ++ List.replicate (N.length - ss.length) Sl.un) F H a o := fun a o z => ⟨z.nf, z.at_, fun i d q => by
    have hi : i < ss.length := by
      by_cases hi : i < ss.length
      · exact hi
      · rw [List.getElem?_append_right (by omega), List.getElem?_replicate] at q
        split at q <;> cases q
    rw [List.getElem?_append_left hi] at q
    unfold L2.start
    rw [List.getElem?_append_left (by simpa [ln] using hi)]
    exact z.no i d q⟩
  refine ⟨up, fun a o z => ?_⟩
  have z2 := fr a o (up a o z)
  refine ⟨z2.nf, z2.at_, fun i d q => ?_⟩
  obtain ⟨h1, h2⟩ := at2 i _ q
  rw [← h2]
  exact z2.no i d h1
end

theorem runD_ok {K : PySem.W.Frag} {N : List Str} {np : Nat} {f : FS} {vs : List V} {H : Hp} {Q : VK} {E : XK} (hn : np ≤ N.length) (h : spM K np (runD N.length f) vs H Q E) :
    sM K (WE0 E) np f { nx := fun _ H' => Q .non H', rt := Q } (start N vs) H := by
  obtain ⟨hv, F, ss, E0, h⟩ := h
  have ln : ss.length = np := by have := E0.len; simp at this; omega
  refine ⟨F, _, E0.start (N := N) (by omega), ?_⟩
  unfold runD at h
  have cv : ∀ {ε' : En} {σ' : St} {F' H' : Hp}, EOk K F' H' σ' ε' → KeepP np (L2.start N vs) σ' → Frm (L2.start N vs) (ss ++ List.replicate (N.length - ss.length) Sl.un) F H σ' ε' F' H' →
      EOk K F' H' (vs.map some) (ε'.take ss.length) ∧ Frm (vs.map some) ss F H (vs.map some) (ε'.take ss.length) F' H' ∧ (∀ (i : Nat) (s : Sl), (ε'.take ss.length)[i]? = some s → ε'[i]? = some s ∧ σ'[i]? = (vs.map some)[i]?) ∧
      (∀ a o, Oth (vs.map some) ss F H a o → Oth (L2.start N vs) (ss ++ List.replicate (N.length - ss.length) Sl.un) F H a o) := fun {ε' σ' F' H'} e k fr => by
    obtain ⟨e2, at2⟩ := e.pars hv k
    rw [← ln] at e2 at2
    obtain ⟨up, fr2⟩ := frm_def E0 at2 fr
    exact ⟨e2, fr2, at2, up⟩
  cases q : f (ss ++ List.replicate (N.length - ss.length) Sl.un) with
  | none => rw [q] at h; exact h
  | some r =>
    rw [q] at h
    cases r with
    | nx ε' =>
      intro σ' H' F' s e k fr
      obtain ⟨e2, fr2, _, _⟩ := cv e k fr
      exact h .non H' F' ⟨s, e2, .non, trivial, fr2, trivial⟩
    | bk ε' => exact h.elim
    | ct ε' => exact h.elim
    | rt s ε' =>
      intro v σ' H' F' sm e r ap k fr mi
      obtain ⟨e2, fr2, at2, up⟩ := cv e k fr
      refine h v H' F' ⟨sm, e2, r, ?_, fr2, ?_⟩
      · cases s with
        | ow d =>
          intro i x q
          obtain ⟨h1, h2⟩ := at2 i _ q
          rw [← h2]
          exact ap i x h1
        | _ => exact trivial
      · cases s with
        | ow d => exact fun a o z => mi a o (up a o z)
        | _ => exact trivial
    | ex c gs ε' =>
      intro d σ' H' F' sm e x k fr
      obtain ⟨e2, fr2, _, _⟩ := cv e k fr
      exact h d H' F' ⟨sm, e2, x, fr2⟩

/-! ### arguments -/
abbrev As := List (Option Nat × Sl)
abbrev FAr := En → Option (R As)
inductive ArgsOk (K : PySem.W.Frag) (σ : St) (ε : En) (F H : Hp) : List V → As → Prop
  | nil : ArgsOk K σ ε F H [] []
  | val {v : V} {d : D} {vs : List V} {ss : As} : Rep K F v d → ArgsOk K σ ε F H vs ss → ArgsOk K σ ε F H (v :: vs) ((none, .fz d) :: ss)
  | mu {v : V} {i : Nat} {s : Sl} {vs : List V} {ss : As} : σ[i]? = some (some v) → ε[i]? = some s → s ≠ .un → ArgsOk K σ ε F H vs ss → ArgsOk K σ ε F H (v :: vs) ((some i, s) :: ss)
  | tmp {v : V} {d : D} : RepS K F H v (.ow d) → Apart σ ε v (.ow d) → ArgsOk K σ ε F H [v] [(none, .ow d)]
structure AftA (K : PySem.W.Frag) (σ : St) (ε : En) (F H F' H' : Hp) (ε' : En) (vs : List V) (ss : As) : Prop where
  fs : Same F F'
  eo : EOk K F' H' σ ε'
  ok : ArgsOk K σ ε' F' H' vs ss
  fr : Frm σ ε F H σ ε' F' H'
  mi : ∀ (p : Nat) (v : V) (d : D), vs[p]? = some v → ss[p]? = some (none, .ow d) → Mine σ ε F H v (.ow d)
def DoA (K : PySem.W.Frag) (W : WX) (σ : St) (ε : En) (F H : Hp) (r : Option (R As)) (Q : List V → Hp → Prop) : Prop := match r with
  | none => False
  | some (.v ss ε') => ∀ vs H' F', AftA K σ ε F H F' H' ε' vs ss → Q vs H'
  | some (.x c gs ε') => ∀ d H' F', AftX K σ ε F H F' H' ε' d gs → W (.ref (He.ga K c)) (some d) σ H'
def tMA (K : PySem.W.Frag) (W : WX) (f : FAr) : TA := fun σ H Q => ∃ F ε, EOk K F H σ ε ∧ DoA K W σ ε F H (f ε) Q
abbrev MA (X : Cx) (W : WX) (es : List Expr) (f : FAr) : Prop := PA X es (tMA X.K W f)
theorem PA.imp {X : Cx} {e : List Expr} {t t' : TA} (h : PA X e t) (i : ∀ σ H Q, t' σ H Q → t σ H Q) : PA X e t' := ⟨fun p pins s σ H Q I q => h.run p pins s σ H Q I (i σ H Q q)⟩
def aNil : FAr := fun ε => some (.v [] ε)
def aCons (f : FE) (g : FAr) : FAr := fun ε => bf (f ε) fun d ε1 => bnd (g ε1) fun ss ε2 => some (.v ((none, .fz d) :: ss) ε2)
/-- a name, handed on as it is -/
def aMu (i : Nat) (g : FAr) : FAr := fun ε => match look ε i with
  | none => none
  | some _ => bnd (g ε) fun ss ε2 => match ε2[i]? with
    | some .un => none
    | some s => some (.v ((some i, s) :: ss) ε2)
    | none => none
/-- the last one, with what it owns -/
def aTmp (f : FE) : FAr := fun ε => bnd (f ε) fun s ε1 => match s with
  | .un => none
  | s => some (.v [(none, s)] ε1)

theorem DoA.sub {K : PySem.W.Frag} {W : WX} {σ : St} {ε ε1 : En} {F H F1 H1 : Hp} {r : Option (R As)} {Q : List V → Hp → Prop} (h : DoA K W σ ε F H r Q) (s : Same F F1) (fr : Frm σ ε F H σ ε1 F1 H1) : DoA K W σ ε1 F1 H1 r Q := by
  cases r with
  | none => exact h
  | some q =>
    cases q with
    | v ss ε2 => exact fun vs H2 F2 a => h vs H2 F2 ⟨s.trans a.fs, a.eo, a.ok, fr.trans a.fr, fun p v d h1 h2 => (a.mi p v d h1 h2).pre fr⟩
    | x c gs ε2 => exact fun d H2 F2 a2 => h d H2 F2 (a2.then s fr)
section
variable {X : Cx} {W : WX} {es : List Expr} {e : Expr}
theorem ma_nil : MA X W [] aNil := PA.imp pa_nil fun σ H Q ⟨F, ε, E0, h⟩ => h [] H F ⟨.refl _, E0, .nil, .refl, fun p v d h1 _ => by simp at h1⟩
theorem DoA.bindF {K : PySem.W.Frag} {σ : St} {ε : En} {F H : Hp} {r : Option (R Sl)} {k : D → En → Option (R As)} {Q : List V → Hp → Prop} {G : VK} (h : DoA K W σ ε F H (bf r k) Q)
    (g : ∀ d ε1 v H1 F1, AftD K σ ε F H F1 H1 ε1 v d → DoA K W σ ε1 F1 H1 (k d ε1) Q → G v H1) : Do K W σ ε F H r G := by
  cases r with
  | none => exact h
  | some r =>
    cases r with
    | x c fs ε1 => exact h
    | v s ε1 =>
      intro v H1 F1 a
      cases s with
      | un => exact a.rs.elim
      | fz d =>
        obtain ⟨F2, a2⟩ := a.data (.inl rfl)
        exact g d ε1 v H1 F2 a2 (DoA.sub (show DoA K W σ ε F H (k d ε1) Q from h) a2.fs a2.fr)
      | ow d =>
        obtain ⟨F2, a2⟩ := a.data (.inr rfl)
        exact g d ε1 v H1 F2 a2 (DoA.sub (show DoA K W σ ε F H (k d ε1) Q from h) a2.fs a2.fr)
theorem DoA.bind {K : PySem.W.Frag} {σ : St} {ε : En} {F H : Hp} {r : Option (R As)} {k : As → En → Option (R As)} {Q G : List V → Hp → Prop} (h : DoA K W σ ε F H (bnd r k) Q)
    (g : ∀ ss ε1 vs H1 F1, AftA K σ ε F H F1 H1 ε1 vs ss → DoA K W σ ε F H (k ss ε1) Q → G vs H1) : DoA K W σ ε F H r G := by
  cases r with
  | none => exact h
  | some r =>
    cases r with
    | x c fs ε1 => exact h
    | v b ε1 => exact fun vs H1 F1 a => g b ε1 vs H1 F1 a h
theorem ma_cons {f : FE} {g : FAr} (h : ME X W e f) (h2 : MA X W es g) (hs : starEach (e :: es) X.env = (false, eval e X.env) :: starEach es X.env := by rfl) : MA X W (e :: es) (aCons f g) := by
  refine PA.imp (pa_cons h h2 hs) fun σ H Q ⟨F, ε, E0, h⟩ => ⟨F, ε, E0, DoA.bindF h fun d ε1 v H1 F1 a h1 => ⟨F1, ε1, a.eo, DoA.bind h1 fun ss ε2 vs H2 F2 b h2 => ?_⟩⟩
  refine h2 (v :: vs) H2 F2 ⟨b.fs, b.eo, .val (a.rp.up b.fs) b.ok, b.fr, fun p u d' q1 q2 => ?_⟩
  cases p with
  | zero => simp at q2
  | succ p => exact b.mi p u d' (by simpa using q1) (by simpa using q2)
theorem ma_mu {i : Nat} {g : FAr} (h : PE X e (tVar i)) (h2 : MA X W es g) (hs : starEach (e :: es) X.env = (false, eval e X.env) :: starEach es X.env := by rfl) : MA X W (e :: es) (aMu i g) := by
  refine PA.imp (pa_cons h h2 hs) fun σ H Q ⟨F, ε, E0, h⟩ => ?_
  unfold aMu at h
  cases q0 : look ε i with
  | none => rw [q0] at h; exact h.elim
  | some x0 =>
    rw [q0] at h
    obtain ⟨v, hv, _⟩ := E0.look q0
    refine ⟨v, hv, F, ε, E0, DoA.bind h fun ss ε2 vs H2 F2 b h2 => ?_⟩
    cases q : ε2[i]? with
    | none => rw [q] at h2; exact h2.elim
    | some s =>
      rw [q] at h2
      cases s with
      | un => exact h2.elim
      | fz d =>
        refine h2 (v :: vs) H2 F2 ⟨b.fs, b.eo, .mu hv q (by simp) b.ok, b.fr, fun p u d' q1 q2 => ?_⟩
        cases p with
        | zero => simp at q2
        | succ p => exact b.mi p u d' (by simpa using q1) (by simpa using q2)
      | ow d =>
        refine h2 (v :: vs) H2 F2 ⟨b.fs, b.eo, .mu hv q (by simp) b.ok, b.fr, fun p u d' q1 q2 => ?_⟩
        cases p with
        | zero => simp at q2
        | succ p => exact b.mi p u d' (by simpa using q1) (by simpa using q2)
theorem DoA.bindS {K : PySem.W.Frag} {σ : St} {ε : En} {F H : Hp} {r : Option (R Sl)} {k : Sl → En → Option (R As)} {Q : List V → Hp → Prop} {G : VK} (h : DoA K W σ ε F H (bnd r k) Q)
    (g : ∀ s ε1 v H1 F1, Aft K σ ε F H F1 H1 ε1 v s → DoA K W σ ε F H (k s ε1) Q → G v H1) : Do K W σ ε F H r G := by
  cases r with
  | none => exact h
  | some r =>
    cases r with
    | x c fs ε1 => exact h
    | v s ε1 => exact fun v H1 F1 a => g s ε1 v H1 F1 a h
theorem ma_tmp {f : FE} (h : ME X W e f) (hs : starEach [e] X.env = (false, eval e X.env) :: starEach [] X.env := by rfl) : MA X W [e] (aTmp f) := by
  refine PA.imp (pa_cons h pa_nil hs) fun σ H Q ⟨F, ε, E0, h⟩ => ⟨F, ε, E0, DoA.bindS h fun s ε1 v H1 F1 a h1 => ?_⟩
  show Q [v] H1
  cases s with
  | un => exact h1.elim
  | fz d => exact h1 [v] H1 F1 ⟨a.fs, a.eo, .val a.rs .nil, a.fr, fun p u d' q1 q2 => by
      cases p with
      | zero => simp at q2
      | succ p => simp at q1⟩
  | ow d => exact h1 [v] H1 F1 ⟨a.fs, a.eo, .tmp a.rs a.ap, a.fr, fun p u d' q1 q2 => by
      cases p with
      | zero => simp at q1 q2; subst q1; subst q2; exact a.mi
      | succ p => simp at q1⟩
end
end Mi

namespace Mi
open PySem PySem.Spec PyProof.Rows L2

/-- what the callee left in the slots of names that were handed on -/
def wb : En → As → List Sl → En
  | ε, (some i, _) :: ss, s :: r => (wb ε ss r).set i s
  | ε, (none, _) :: ss, _ :: r => wb ε ss r
  | ε, _, _ => ε
def muOk (np : Nat) (ss : As) : Bool := decide (ss.filterMap (·.1)).Nodup && decide (ss.length = np)
theorem muOk_ok {np : Nat} {ss : As} (h : muOk np ss = true) : (ss.filterMap (·.1)).Nodup ∧ ss.length = np := by
  unfold muOk at h
  simpa using h
def eCall (np : Nat) (Fd : FD) (fa : FAr) : FE := fun ε => bnd (fa ε) fun ss ε1 => match muOk np ss with
  | true => (match Fd (ss.map (·.2)) with
    | some (.v s ss') => some (.v s (wb ε1 ss ss'))
    | some (.x c gs ss') => some (.x c gs (wb ε1 ss ss'))
    | none => none)
  | false => none

theorem wb_len : ∀ (ε : En) (ss : As) (r : List Sl), (wb ε ss r).length = ε.length
  | _, [], _ => by simp [wb]
  | _, (some i, _) :: ss, [] => by simp [wb]
  | _, (none, _) :: ss, [] => by simp [wb]
  | ε, (some i, _) :: ss, s :: r => by simp [wb, wb_len ε ss r]
  | ε, (none, _) :: ss, s :: r => by simp [wb, wb_len ε ss r]
/-- a slot behind the call: it was handed on at place p, or not at all -/
theorem wb_at : ∀ (ε : En) (ss : As) (r : List Sl) (j : Nat) (s : Sl), ss.length = r.length → (wb ε ss r)[j]? = some s →
    (∃ (p : Nat) (s0 : Sl), ss[p]? = some (some j, s0) ∧ r[p]? = some s) ∨ (ε[j]? = some s ∧ ∀ (p : Nat) (s0 : Sl), ss[p]? ≠ some (some j, s0))
  | _, [], [], j, s, _, h => .inr ⟨by simpa [wb] using h, by simp⟩
  | ε, (some i, s1) :: ss, t :: r, j, s, hl, h => by
    have h : ((wb ε ss r).set i t)[j]? = some s := h
    by_cases hj : i = j
    · subst hj
      have il : i < ((wb ε ss r).set i t).length := (List.getElem?_eq_some_iff.mp h).1
      rw [List.length_set] at il
      rw [List.getElem?_set_self il] at h
      cases h
      exact .inl ⟨0, s1, rfl, rfl⟩
    · rw [List.getElem?_set_ne hj] at h
      rcases wb_at ε ss r j s (by simpa using hl) h with ⟨p, s0, a, b⟩ | ⟨a, b⟩
      · exact .inl ⟨p + 1, s0, by simpa using a, by simpa using b⟩
      · refine .inr ⟨a, fun p s0 => ?_⟩
        cases p with
        | zero => simp [hj]
        | succ p => simpa using b p s0
  | ε, (none, s1) :: ss, t :: r, j, s, hl, h => by
    have h : (wb ε ss r)[j]? = some s := h
    rcases wb_at ε ss r j s (by simpa using hl) h with ⟨p, s0, a, b⟩ | ⟨a, b⟩
    · exact .inl ⟨p + 1, s0, by simpa using a, by simpa using b⟩
    · refine .inr ⟨a, fun p s0 => ?_⟩
      cases p with
      | zero => simp
      | succ p => simpa using b p s0

section
variable {K : PySem.W.Frag} {σ : St} {ε : En} {F H : Hp}
theorem ArgsOk.len : ∀ {vs : List V} {ss : As}, ArgsOk K σ ε F H vs ss → vs.length = ss.length
  | _, _, .nil => rfl
  | _, _, .val _ r => by simp [r.len]
  | _, _, .mu _ _ _ r => by simp [r.len]
  | _, _, .tmp _ _ => rfl
theorem ArgsOk.at : ∀ {vs : List V} {ss : As} {p : Nat} {o : Option Nat} {s : Sl}, ArgsOk K σ ε F H vs ss → ss[p]? = some (o, s) → ∃ v, vs[p]? = some v ∧
    ((∃ i, o = some i ∧ σ[i]? = some (some v) ∧ ε[i]? = some s ∧ s ≠ .un) ∨ (o = none ∧ ∃ d, s = .fz d ∧ Rep K F v d) ∨ (o = none ∧ ∃ d, s = .ow d ∧ RepS K F H v (.ow d) ∧ Apart σ ε v (.ow d) ∧ p + 1 = ss.length))
  | _, _, _, _, _, .nil, h => by simp at h
  | _, _, 0, _, _, .val (v := v) (d := d) r _, h => by
    simp at h
    obtain ⟨rfl, rfl⟩ := h
    exact ⟨v, rfl, .inr (.inl ⟨rfl, d, rfl, r⟩)⟩
  | _, _, p + 1, o, s, .val _ r, h => by
    obtain ⟨v, h1, h2⟩ := r.at (p := p) (by simpa using h)
    refine ⟨v, by simpa using h1, ?_⟩
    rcases h2 with h2 | h2 | ⟨e, d, h3, h4, h5, h6⟩
    · exact .inl h2
    · exact .inr (.inl h2)
    · exact .inr (.inr ⟨e, d, h3, h4, h5, by simp [h6]⟩)
  | _, _, 0, _, _, .mu (v := v) (i := i) a b c _, h => by
    simp at h
    obtain ⟨rfl, rfl⟩ := h
    exact ⟨v, rfl, .inl ⟨i, rfl, a, b, c⟩⟩
  | _, _, p + 1, o, s, .mu _ _ _ r, h => by
    obtain ⟨v, h1, h2⟩ := r.at (p := p) (by simpa using h)
    refine ⟨v, by simpa using h1, ?_⟩
    rcases h2 with h2 | h2 | ⟨e, d, h3, h4, h5, h6⟩
    · exact .inl h2
    · exact .inr (.inl h2)
    · exact .inr (.inr ⟨e, d, h3, h4, h5, by simp [h6]⟩)
  | _, _, 0, _, _, .tmp (v := v) (d := d) a b, h => by
    simp at h
    obtain ⟨rfl, rfl⟩ := h
    exact ⟨v, rfl, .inr (.inr ⟨rfl, d, rfl, a, b, rfl⟩)⟩
  | _, _, p + 1, _, _, .tmp _ _, h => by simp at h
theorem nodup_at {l : As} (h : (l.filterMap (·.1)).Nodup) : ∀ {p q : Nat} {i : Nat} {s t : Sl}, l[p]? = some (some i, s) → l[q]? = some (some i, t) → p = q := by
  induction l with
  | nil => intro p q i s t h1; simp at h1
  | cons a l ih =>
    intro p q i s t h1 h2
    have mem : ∀ {q : Nat} {t : Sl}, l[q]? = some (some i, t) → i ∈ l.filterMap (·.1) := fun {q t} z => List.mem_filterMap.mpr ⟨(some i, t), List.mem_of_getElem? z, rfl⟩
    obtain ⟨o, s0⟩ := a
    cases o with
    | none =>
      have h' : (l.filterMap (·.1)).Nodup := by simpa using h
      cases p with
      | zero => simp at h1
      | succ p =>
        cases q with
        | zero => simp at h2
        | succ q => rw [ih h' (p := p) (q := q) (by simpa using h1) (by simpa using h2)]
    | some k =>
      have h' : k ∉ l.filterMap (·.1) ∧ (l.filterMap (·.1)).Nodup := by simpa using h
      cases p with
      | zero =>
        cases q with
        | zero => rfl
        | succ q =>
          simp at h1
          obtain ⟨rfl, rfl⟩ := h1
          exact absurd (mem (q := q) (by simpa using h2)) h'.1
      | succ p =>
        cases q with
        | zero =>
          simp at h2
          obtain ⟨rfl, rfl⟩ := h2
          exact absurd (mem (q := p) (by simpa using h1)) h'.1
        | succ q => rw [ih h'.2 (p := p) (q := q) (by simpa using h1) (by simpa using h2)]

/-- the callee's slots -/
theorem ArgsOk.eok {vs : List V} {ss : As} (a : ArgsOk K σ ε F H vs ss) (e : EOk K F H σ ε) (hm : (ss.filterMap (·.1)).Nodup) : EOk K F H (vs.map some) (ss.map (·.2)) := by
  have pick : ∀ (p : Nat) (s : Sl), (ss.map (·.2))[p]? = some s → ∃ o, ss[p]? = some (o, s) := fun p s h => by
    rw [List.getElem?_map] at h
    cases q : ss[p]? with
    | none => rw [q] at h; cases h
    | some x =>
      rw [q] at h
      obtain ⟨o, s'⟩ := x
      cases h
      exact ⟨o, rfl⟩
  refine ⟨e.sub, by simp [a.len], fun p s h n => ?_, fun p q d d' v h1 h2 h3 h4 => ?_⟩
  · obtain ⟨o, ho⟩ := pick p s h
    obtain ⟨v, hv, z⟩ := a.at ho
    refine ⟨v, by rw [List.getElem?_map, hv]; rfl, ?_⟩
    rcases z with ⟨i, _, hi, hs, _⟩ | ⟨_, d, rfl, r⟩ | ⟨_, d, rfl, r, _⟩
    · obtain ⟨w, hw, r⟩ := e.val i s hs n
      rw [hi] at hw
      cases hw
      exact r
    · exact r
    · exact r
  · obtain ⟨o1, k1⟩ := pick p _ h1
    obtain ⟨o2, k2⟩ := pick q _ h2
    obtain ⟨v1, e1, z1⟩ := a.at k1
    obtain ⟨v2, e2, z2⟩ := a.at k2
    rw [List.getElem?_map, e1] at h3
    rw [List.getElem?_map, e2] at h4
    have h3 : v1 = v := by simpa using h3
    have h4 : v2 = v := by simpa using h4
    subst h3
    subst h4
    rcases z1 with ⟨i, rfl, hi, hs, _⟩ | ⟨_, _, z, _⟩ | ⟨rfl, x, _, _, ap, lp⟩
    · rcases z2 with ⟨j, rfl, hj, ht, _⟩ | ⟨_, _, z, _⟩ | ⟨rfl, y, _, _, ap, lp⟩
      · have := e.inj i j d d' _ hs ht hi hj
        subst this
        exact nodup_at hm k1 k2
      · cases z
      · exact absurd hi (ap i d hs)
    · cases z
    · rcases z2 with ⟨j, rfl, hj, ht, _⟩ | ⟨_, _, z, _⟩ | ⟨rfl, y, _, _, ap2, lp2⟩
      · exact absurd hj (ap j d' ht)
      · cases z
      · omega
end

theorem ecall_ok {np : Nat} {K : PySem.W.Frag} {W : WX} {σ : St} {ε ε1 : En} {F H F1 H1 : Hp} {vs : List V} {ss : As} {Fd : FD} {Q : VK} (a : AftA K σ ε F H F1 H1 ε1 vs ss) (hm : muOk np ss = true)
    (h : Do K W σ ε F H (match Fd (ss.map (·.2)) with
      | some (.v s ss') => some (.v s (wb ε1 ss ss'))
      | some (.x c gs ss') => some (.x c gs (wb ε1 ss ss'))
      | none => none) Q) : Do K (WE0 fun c d H' => W c d σ H') (vs.map some) (ss.map (·.2)) F1 H1 (Fd (ss.map (·.2))) Q := by
  have nd : (ss.filterMap (·.1)).Nodup := (muOk_ok hm).1
  have ce := a.ok.eok a.eo nd
  have pick : ∀ (p : Nat) (s : Sl), (ss.map (·.2))[p]? = some s → ∃ o, ss[p]? = some (o, s) := fun p s h => by
    rw [List.getElem?_map] at h
    cases q : ss[p]? with
    | none => rw [q] at h; cases h
    | some x =>
      rw [q] at h
      obtain ⟨o, s'⟩ := x
      cases h
      exact ⟨o, rfl⟩
  -- a thing of others at the start is one of others for the callee
  have oth : ∀ b o, Oth σ ε F H b o → Oth (vs.map some) (ss.map (·.2)) F1 H1 b o := fun b o ob => by
    have q := a.fr b o ob
    refine ⟨q.nf, q.at_, fun p d hp z => ?_⟩
    obtain ⟨oo, ho⟩ := pick p _ hp
    obtain ⟨v, hv, c⟩ := a.ok.at ho
    rw [List.getElem?_map, hv] at z
    have z : v = .ref b := by simpa using z
    rcases c with ⟨i, _, hi, hs, _⟩ | ⟨_, _, c, _⟩ | ⟨rfl, x, c, _⟩
    · exact q.no i d hs (by rw [hi, z])
    · cases c
    · cases c
      exact a.mi p v d hv ho b o ob z
  -- a slot that was not handed on owns a thing of others for the callee
  have kept : ∀ (j : Nat) (d : D) (v : V), ε1[j]? = some (.ow d) → (∀ (p : Nat) (s0 : Sl), ss[p]? ≠ some (some j, s0)) → σ[j]? = some (some v) → ∃ b o, v = .ref b ∧ Top K F1 o d ∧ Oth (vs.map some) (ss.map (·.2)) F1 H1 b o := fun j d v hj hno hv => by
    obtain ⟨w, hw, b, o, rfl, k1, k2, t⟩ := a.eo.val j _ hj (by simp)
    rw [hv] at hw
    cases hw
    refine ⟨b, o, rfl, t, k1, k2, fun p d' hp z => ?_⟩
    obtain ⟨oo, ho⟩ := pick p _ hp
    obtain ⟨u, hu, c⟩ := a.ok.at ho
    rw [List.getElem?_map, hu] at z
    have z : u = .ref b := by simpa using z
    subst z
    rcases c with ⟨i, rfl, hi, hs, _⟩ | ⟨_, _, c, _⟩ | ⟨rfl, x, c, _, ap, _⟩
    · have := a.eo.inj i j d' d _ hs hj hi hv
      subst this
      exact hno p _ ho
    · cases c
    · cases c
      exact ap j d hj hv
  have back : ∀ {ss' : List Sl} {F' H' : Hp}, EOk K F' H' (vs.map some) ss' → Same F1 F' → Frm (vs.map some) (ss.map (·.2)) F1 H1 (vs.map some) ss' F' H' →
      EOk K F' H' σ (wb ε1 ss ss') ∧ Frm σ ε F H σ (wb ε1 ss ss') F' H' ∧ (∀ (j : Nat) (d : D) (v : V), (wb ε1 ss ss')[j]? = some (.ow d) → σ[j]? = some (some v) → (∃ p : Nat, ss'[p]? = some (.ow d) ∧ (vs.map some)[p]? = some (some v)) ∨ ∃ b o, v = .ref b ∧ Oth (vs.map some) (ss.map (·.2)) F1 H1 b o) := by
    intro ss' F' H' e2 sm fr
    have ln : ss.length = ss'.length := by
      have := e2.len
      simp at this
      rw [← this, a.ok.len]
    have hand : ∀ (p j : Nat) (s0 : Sl), ss[p]? = some (some j, s0) → ∃ v, σ[j]? = some (some v) ∧ (vs.map some)[p]? = some (some v) := fun p j s0 ho => by
      obtain ⟨u, hu, c⟩ := a.ok.at ho
      rcases c with ⟨i, e, hi, _, _⟩ | ⟨e, _⟩ | ⟨e, _⟩
      · cases e; exact ⟨u, hi, by rw [List.getElem?_map, hu]; rfl⟩
      · cases e
      · cases e
    have own : ∀ (j : Nat) (d : D) (v : V), (wb ε1 ss ss')[j]? = some (.ow d) → σ[j]? = some (some v) →
        (∃ (p : Nat) (s0 : Sl), ss[p]? = some (some j, s0) ∧ ss'[p]? = some (.ow d) ∧ (vs.map some)[p]? = some (some v)) ∨ (ε1[j]? = some (.ow d) ∧ (∀ (p : Nat) (s0 : Sl), ss[p]? ≠ some (some j, s0))) := fun j d v h1 h2 => by
      rcases wb_at ε1 ss ss' j _ ln h1 with ⟨p, s0, k1, k2⟩ | ⟨k1, k2⟩
      · obtain ⟨w, w1, w2⟩ := hand p j s0 k1
        rw [h2] at w1
        cases w1
        exact .inl ⟨p, s0, k1, k2, w2⟩
      · exact .inr ⟨k1, k2⟩
    refine ⟨⟨e2.sub, by rw [wb_len]; exact a.eo.len, fun j s h n => ?_, fun j k d d' v h1 h2 h3 h4 => ?_⟩, fun b o ob => ?_, fun j d v h1 h2 => ?_⟩
    · rcases wb_at ε1 ss ss' j s ln h with ⟨p, s0, k1, k2⟩ | ⟨k1, k2⟩
      · obtain ⟨w, w1, w2⟩ := hand p j s0 k1
        obtain ⟨u, hu, r⟩ := e2.val p s k2 n
        rw [w2] at hu
        cases hu
        exact ⟨w, w1, r⟩
      · obtain ⟨w, hw, r⟩ := a.eo.val j s k1 n
        refine ⟨w, hw, ?_⟩
        cases s with
        | un => exact r
        | fz d => exact Rep.up sm r
        | ow d =>
          obtain ⟨b, o, rfl, t, ob⟩ := kept j d w k1 k2 hw
          have z := fr b o ob
          exact ⟨b, o, rfl, z.nf, z.at_, t.up sm⟩
    · rcases own j d v h1 h3 with ⟨p, s0, k1, k2, k3⟩ | ⟨k1, k2⟩ <;> rcases own k d' v h2 h4 with ⟨q, t0, l1, l2, l3⟩ | ⟨l1, l2⟩
      · have := e2.inj p q d d' v k2 l2 k3 l3
        subst this
        rw [k1] at l1
        cases l1
        rfl
      · obtain ⟨b, o, rfl, t, ob⟩ := kept k d' v l1 l2 h4
        exact absurd k3 ((fr b o ob).no p d k2)
      · obtain ⟨b, o, rfl, t, ob⟩ := kept j d v k1 k2 h3
        exact absurd l3 ((fr b o ob).no q d' l2)
      · exact a.eo.inj j k d d' v k1 l1 h3 h4
    · have z := fr b o (oth b o ob)
      refine ⟨z.nf, z.at_, fun j d h1 h2 => ?_⟩
      rcases own j d _ h1 h2 with ⟨p, s0, k1, k2, k3⟩ | ⟨k1, k2⟩
      · exact z.no p d k2 k3
      · exact (a.fr b o ob).no j d k1 h2
    · rcases own j d v h1 h2 with ⟨p, s0, k1, k2, k3⟩ | ⟨k1, k2⟩
      · exact .inl ⟨p, k2, k3⟩
      · obtain ⟨b, o, rfl, t, ob⟩ := kept j d v k1 k2 h2
        exact .inr ⟨b, o, rfl, ob⟩
  revert h
  cases Fd (ss.map (·.2)) with
  | none => exact fun h => h
  | some r =>
    cases r with
    | v s ss' =>
      intro h v H' F' b
      obtain ⟨e2, fr2, ow2⟩ := back b.eo b.fs b.fr
      refine h v H' F' ⟨a.fs.trans b.fs, e2, b.rs, ?_, fr2, ?_⟩
      · cases s with
        | ow d =>
          intro j x h1 h2
          rcases ow2 j x v h1 h2 with ⟨p, k1, k2⟩ | ⟨c, o, rfl, ob⟩
          · exact b.ap p x k1 k2
          · exact b.mi c o ob rfl
        | _ => exact trivial
      · cases s with
        | ow d => exact fun c o oc => b.mi c o (oth c o oc)
        | _ => exact trivial
    | x c gs ss' =>
      intro h d H' F' b
      obtain ⟨e2, fr2, ow2⟩ := back b.eo b.fs b.fr
      exact h d H' F' ⟨a.fs.trans b.fs, e2, b.xd, fr2⟩

/-! ### the call of a def -/
section
variable {X : Cx} {W : WX} {u : Bool} {n np : Nat} {f : Addr} {fd : FuncData} {ps : List Str} {Fd : FD} {x : Str} {p pos : Pos} {e : Expr} {es : List Expr} {fa : FAr}
/-- the callee runs -/
theorem run_g {pins : List (Addr × Obj)} {σ : St} {H : Hp} {st : Shared} {Q : VK} {us : List Value} {vs : List V} {sp : Sp} {E : XK} (G : FnG X.prog X.w X.K X.mg X.base u n f fd ps sp) (rm : Room n X.A) (gd : u = true → X.A.guards = some []) (bd : Binds X.K fd ps [])
    (hx : PassesAt (L2.CX X.prog X.w) X σ E) (I : Inv X pins σ H st) (r : Vals vs us) (h : sp vs H Q E) : wpAny (model X.prog X.w) X.A (call (.ref f) us) (EP X pins σ Q) X.xe st := by
  have ln : (us ++ []).length = ps.length := by rw [List.append_nil, ← r.length]; exact G.len _ _ _ _ h
  have b := bd st us I.kIn ln
  rw [List.append_nil] at b
  refine wpAny_call (codeAny_mono (G.run X.A X.stack st H ⟨us, []⟩ us vs Q E rm gd I.env0 b r h) fun rs st2 hq => ?_)
  cases rs with
  | error z => exact hx pins H st z st2 I hq
  | ok fl =>
    cases fl with
    | ret u => exact I.after hq
    | next => exact hq.elim
    | brk => exact hq.elim
    | cont => exact hq.elim
theorem tcall_ok {K : PySem.W.Frag} {σ : St} {H : Hp} {Q : VK} (h : tM K W (eCall np Fd fa) σ H Q) : tMA K W fa σ H fun vs H1 => spM K np Fd vs H1 Q fun c d H' => W c d σ H' := by
  obtain ⟨F, ε, E0, h⟩ := h
  refine ⟨F, ε, E0, ?_⟩
  unfold eCall at h
  cases q : fa ε with
  | none => rw [q] at h; exact h
  | some r =>
    rw [q] at h
    cases r with
    | x c gs ε1 => exact h
    | v ss ε1 =>
      intro vs H1 F1 a
      have h : Do K W σ ε F H (match muOk np ss with
        | true => (match Fd (ss.map (·.2)) with
          | some (.v s ss') => some (.v s (wb ε1 ss ss'))
          | some (.x c gs ss') => some (.x c gs (wb ε1 ss ss'))
          | none => none)
        | false => none) Q := h
      cases hm : muOk np ss with
      | false => rw [hm] at h; exact h.elim
      | true =>
        rw [hm] at h
        exact ⟨by rw [a.ok.len]; exact (muOk_ok hm).2, F1, ss.map (·.2), a.ok.eok a.eo (muOk_ok hm).1, ecall_ok a hm h⟩
theorem me_call (G : FnG X.prog X.w X.K X.mg X.base u n f fd ps (spM X.K np Fd)) (rm : Room n X.A) (gd : u = true → X.A.guards = some []) (hg : Gl X x) (hm : X.mg x = some (.ref f)) (kp : PySem.W.keepIn X.K (.ref f) = true) (bd : Binds X.K fd ps []) (tk : Takes X W)
    (ha : MA X W (e :: es) fa) (hdb : (x == ("__debug__" : Str)) = false := by decide) (he : starEach (e :: es) X.env = (false, eval e X.env) :: starEach es X.env := by rfl) (hpl : (backTo pos (starEach es X.env)).any (·.1) = false := by rfl) :
    ME X W (.Call (.Name x p) (e :: es) [] pos) (eCall np Fd fa) := by
  refine ⟨fun pins st σ H Q I h => ?_⟩
  refine wpAny_Call_Name_kw (ld_glob I hg hm ?_ hdb)
  refine PySem.W.callWith_K (h₀ := X.base) I.ok.mod.kin kp (thn (ha.run pos pins st σ H _ I (tcall_ok h)) fun us st1 ⟨vs, H1, I1, r, q⟩ => ⟨I1.kIn, ?_⟩) he hpl
  exact run_g G rm gd bd (passAt tk σ) I1 r q
end
end Mi

namespace Mi
open PySem PySem.Spec PyProof.Rows L2

/-! ### targets -/
abbrev FG := D → En → Option En
/-- but for the slots ts all are as they were -/
structure KeepT (ts : List Nat) (σ σ' : St) : Prop where
  len : σ'.length = σ.length
  at_ : ∀ i : Nat, i ∉ ts → σ'[i]? = σ[i]?
theorem KeepT.refl {ts : List Nat} {σ : St} : KeepT ts σ σ := ⟨rfl, fun _ _ => rfl⟩
theorem KeepT.trans {ts us : List Nat} {σ σ1 σ2 : St} (a : KeepT ts σ σ1) (b : KeepT us σ1 σ2) : KeepT (ts ++ us) σ σ2 :=
  ⟨b.len.trans a.len, fun i h => by
    simp only [List.mem_append, not_or] at h
    exact (b.at_ i h.2).trans (a.at_ i h.1)⟩
theorem KeepT.p {ts : List Nat} {np : Nat} {σ σ' : St} (a : KeepT ts σ σ') (h : ts.all (fun i => decide (np ≤ i)) = true) : KeepP np σ σ' := fun i hi => a.at_ i fun hm => by
  have := of_decide_eq_true (List.all_eq_true.mp h i hm)
  omega
theorem KeepT.wipe {ts vs : List Nat} {σ σ' : St} (a : KeepT ts (L2.wipe σ vs) σ') (h : ts.all (fun i => decide (i ∈ vs)) = true) : L2.wipe σ' vs = L2.wipe σ vs := by
  refine List.ext_getElem? fun i => ?_
  by_cases hi : i ∈ vs
  · have cl : ∀ (τ : St) (us : List Nat), i ∈ us → (L2.wipe τ us)[i]? = if i < τ.length then some none else none := by
      intro τ us
      induction us with
      | nil => intro z; simp at z
      | cons u us ih =>
        intro z
        show ((L2.wipe τ us).set u none)[i]? = _
        by_cases hu : u = i
        · subst hu
          by_cases hl : u < τ.length
          · rw [List.getElem?_set_self (by rw [wipe_length]; exact hl), if_pos hl]
          · rw [if_neg hl, List.getElem?_eq_none (by rw [List.length_set, wipe_length]; omega)]
        · rw [List.getElem?_set_ne hu]
          exact ih ((List.mem_cons.mp z).resolve_left fun q => hu q.symm)
    rw [cl _ _ hi, cl _ _ hi, a.len, wipe_length]
  · have o : ∀ (τ : St) (us : List Nat), i ∉ us → (L2.wipe τ us)[i]? = τ[i]? := by
      intro τ us
      induction us with
      | nil => intro _; rfl
      | cons u us ih =>
        intro z
        simp only [List.mem_cons, not_or] at z
        show ((L2.wipe τ us).set u none)[i]? = _
        rw [List.getElem?_set_ne (fun q => z.1 q.symm), ih z.2]
    rw [o _ _ hi, a.at_ i fun hm => hi (of_decide_eq_true (List.all_eq_true.mp h i hm))]
def tMG (K : PySem.W.Frag) (ts : List Nat) (g : FG) : TG := fun v σ H Q => ∃ F ε d ε', EOk K F H σ ε ∧ Rep K F v d ∧ g d ε = some ε' ∧
  ∀ σ' H' F', Same F F' → EOk K F' H' σ' ε' → KeepT ts σ σ' → Frm σ ε F H σ' ε' F' H' → Q σ' H'
abbrev MG (X : Cx) (ts : List Nat) (e : Expr) (g : FG) : Prop := PG X e (tMG X.K ts g)
theorem PG.imp {X : Cx} {e : Expr} {t t' : TG} (h : PG X e t) (i : ∀ v σ H Q, t' v σ H Q → t v σ H Q) : PG X e t' := ⟨fun pins s σ H v u Q I r q => h.run pins s σ H v u Q I r (i v σ H Q q)⟩
def gN (i : Nat) : FG := fun d ε => some (ε.set i (.fz d))
theorem mg_name {X : Cx} {i : Nat} {x : Str} {pos : Pos} (hN : X.N.Nodup) (hi : X.N[i]? = some x) (hx : Loc X.env.scope x) (hf : X.fn x = true ∨ X.env.scope.names.lookup x = some .local := by first | exact .inl rfl | exact .inr rfl | assumption) : MG X [i] (.Name x pos) (gN i) := by
  refine PG.imp (pg_name (i := i) hN hi hx hf) fun v σ H Q ⟨F, ε, d, ε', E0, r, e, k⟩ => ?_
  cases e
  exact k _ H F (.refl _) (E0.put (s := .fz d) r trivial) ⟨List.length_set, fun j hj => List.getElem?_set_ne (fun z => hj (by simp [z]))⟩ (Aft.frmPut (.here E0 r))
/-- several targets -/
abbrev FGs := List D → En → Option En
def tMGs (K : PySem.W.Frag) (ts : List Nat) (g : FGs) : TGs := fun vs σ H Q => ∃ F ε ds ε', EOk K F H σ ε ∧ RepL K F vs ds ∧ g ds ε = some ε' ∧
  ∀ σ' H' F', Same F F' → EOk K F' H' σ' ε' → KeepT ts σ σ' → Frm σ ε F H σ' ε' F' H' → Q σ' H'
theorem PGs.imp {X : Cx} {e : List Expr} {t t' : TGs} (h : PGs X e t) (i : ∀ v σ H Q, t' v σ H Q → t v σ H Q) : PGs X e t' := ⟨fun pins s σ H v u Q I r q => h.run pins s σ H v u Q I r (i v σ H Q q)⟩
def gNil : FGs := fun ds ε => match ds with
  | [] => some ε
  | _ => none
def gCons (g : FG) (r : FGs) : FGs := fun ds ε => match ds with
  | d :: ds => (g d ε).bind fun ε1 => r ds ε1
  | _ => none
def gT (n : Nat) (g : FGs) : FG := fun d ε => match d with
  | .tup ds => if ds.length = n then g ds ε else none
  | _ => none
section
variable {X : Cx} {ts us : List Nat}
theorem mgs_nil : PGs X [] (tMGs X.K [] gNil) := by
  refine PGs.imp pgs_nil fun vs σ H Q ⟨F, ε, ds, ε', E0, r, e, k⟩ => ?_
  cases r with
  | nil => cases e; exact ⟨rfl, k σ H F (.refl _) E0 .refl .refl⟩
  | cons => cases e
theorem mgs_cons {e : Expr} {es : List Expr} {g : FG} {r : FGs} (h : MG X ts e g) (h2 : PGs X es (tMGs X.K us r)) (hz : (assignEach (e :: es) X.env).map (·.2) = assign e X.env :: (assignEach es X.env).map (·.2) := by rfl) : PGs X (e :: es) (tMGs X.K (ts ++ us) (gCons g r)) := by
  refine PGs.imp (pgs_cons h h2 hz) fun vs σ H Q ⟨F, ε, ds, ε', E0, rr, e, k⟩ => ?_
  cases rr with
  | nil => cases e
  | @cons v vs d ds rv rr =>
    have e : (g d ε).bind (fun ε1 => r ds ε1) = some ε' := e
    cases q : g d ε with
    | none => rw [q] at e; cases e
    | some ε1 =>
      rw [q] at e
      exact ⟨v, vs, rfl, F, ε, d, ε1, E0, rv, q, fun σ1 H1 F1 s1 e1 k1 f1 => ⟨F1, ε1, ds, ε', e1, rr.up s1, e, fun σ2 H2 F2 s2 e2 k2 f2 => k σ2 H2 F2 (s1.trans s2) e2 (k1.trans k2) (f1.trans f2)⟩⟩
theorem mg_tup {es : List Expr} {kk : Nat} {pos : Pos} {g : FGs} {n : Nat} (hc : X.calm = true) (h : PGs X es (tMGs X.K ts g))
    (hn : (assignEach es X.env).length = n := by rfl) (hst : (assignEach es X.env).findIdx? (·.1) = none := by rfl) : MG X ts (.Tuple es kk pos) (gT n g) := by
  refine PG.imp (pg_tup hc h hn hst) fun v σ H Q ⟨F, ε, d, ε', E0, r, e, k⟩ => ?_
  cases d with
  | tup ds =>
    cases r with
    | tup hs rr =>
      unfold gT at e
      simp only at e
      split at e
      · rename_i hl
        exact ⟨_, _, rfl, sqT_up E0.sub hs, by rw [rr.len]; exact hl, F, ε, ds, ε', E0, rr, e, k⟩
      · cases e
  | _ => cases e
end

/-! ### what is walked -/
abbrev FI := En → Option (R (List D))
/-- a walk that yields these data, while the frozen part stands -/
def WalkD (K : PySem.W.Frag) (F : Hp) (J : It) (ds : List D) : Prop := ∃ G Y, Walk J ds.length G Y ∧ (∀ H', Same F H' → G H') ∧
  ∀ i H1 x H2 F1, i < ds.length → Y i H1 x H2 → Same F F1 → Same F1 H1 → ∃ F2 d, ds[i]? = some d ∧ Gr F1 H1 F2 H2 ∧ Rep K F2 x d
structure AftI (K : PySem.W.Frag) (σ : St) (ε : En) (F H F' H' : Hp) (ε' : En) (J : It) (ds : List D) : Prop where
  fs : Same F F'
  eo : EOk K F' H' σ ε'
  wk : WalkD K F' J ds
  fr : Frm σ ε F H σ ε' F' H'
def DoI (K : PySem.W.Frag) (W : WX) (σ : St) (ε : En) (F H : Hp) (r : Option (R (List D))) (Q : It → Hp → Prop) : Prop := match r with
  | none => False
  | some (.v ds ε') => ∀ J H' F', AftI K σ ε F H F' H' ε' J ds → Q J H'
  | some (.x c gs ε') => ∀ d H' F', AftX K σ ε F H F' H' ε' d gs → W (.ref (He.ga K c)) (some d) σ H'
def tMI (K : PySem.W.Frag) (W : WX) (f : FI) : TI := fun σ H Q => ∃ F ε, EOk K F H σ ε ∧ DoI K W σ ε F H (f ε) Q
abbrev MI (X : Cx) (W : WX) (tg e : Expr) (f : FI) : Prop := PI X tg e (tMI X.K W f)
theorem PI.imp {X : Cx} {tg e : Expr} {t t' : TI} (h : PI X tg e t) (i : ∀ σ H Q, t' σ H Q → t σ H Q) : PI X tg e t' := ⟨fun pins s σ H Q I q => h.run pins s σ H Q I (i σ H Q q)⟩
def signs (x : Str) : List D := x.cps.toList.map fun c => .str ⟨#[c]⟩
def items : D → Option (List D)
  | .lst ds => some ds
  | .rol ds => some ds
  | .tup ds => some ds
  | .str x => some (signs x)
  | _ => none
def iSeq (f : FE) : FI := fun ε => bf (f ε) fun d ε1 => (items d).bind fun ds => some (.v ds ε1)
theorem DoI.sub {K : PySem.W.Frag} {W : WX} {σ : St} {ε ε1 : En} {F H F1 H1 : Hp} {r : Option (R (List D))} {Q : It → Hp → Prop} (h : DoI K W σ ε F H r Q) (s : Same F F1) (fr : Frm σ ε F H σ ε1 F1 H1) : DoI K W σ ε1 F1 H1 r Q := by
  cases r with
  | none => exact h
  | some q =>
    cases q with
    | v ss ε2 => exact fun vs H2 F2 a => h vs H2 F2 ⟨s.trans a.fs, a.eo, a.wk, fr.trans a.fr⟩
    | x c gs ε2 => exact fun d H2 F2 a2 => h d H2 F2 (a2.then s fr)
theorem DoI.bindF {K : PySem.W.Frag} {W : WX} {σ : St} {ε : En} {F H : Hp} {r : Option (R Sl)} {k : D → En → Option (R (List D))} {Q : It → Hp → Prop} {G : VK} (h : DoI K W σ ε F H (bf r k) Q)
    (g : ∀ d ε1 v H1 F1, AftD K σ ε F H F1 H1 ε1 v d → DoI K W σ ε1 F1 H1 (k d ε1) Q → G v H1) : Do K W σ ε F H r G := by
  cases r with
  | none => exact h
  | some r =>
    cases r with
    | x c fs ε1 => exact h
    | v s ε1 =>
      intro v H1 F1 a
      cases s with
      | un => exact a.rs.elim
      | fz d =>
        obtain ⟨F2, a2⟩ := a.data (.inl rfl)
        exact g d ε1 v H1 F2 a2 (DoI.sub (show DoI K W σ ε F H (k d ε1) Q from h) a2.fs a2.fr)
      | ow d =>
        obtain ⟨F2, a2⟩ := a.data (.inr rfl)
        exact g d ε1 v H1 F2 a2 (DoI.sub (show DoI K W σ ε F H (k d ε1) Q from h) a2.fs a2.fr)

section
variable {K : PySem.W.Frag} {F : Hp}
theorem walkD_list {a : Addr} {vs : List V} {ds : List D} (h : SqL K F a vs) (r : RepL K F vs ds) : WalkD K F (Itl K a) ds := by
  refine ⟨_, _, r.len ▸ walk_list (xs := vs), fun H' s => sqL_up s h, fun i H1 x H2 F1 hi y s1 s2 => ?_⟩
  obtain ⟨rfl, e⟩ := y
  obtain ⟨d, hd, rd⟩ := r.of e
  exact ⟨F1, d, hd, Gr.refl s2, rd.up s1⟩
theorem walkD_tup {a : Addr} {vs : List V} {ds : List D} (h : SqT K F a vs) (r : RepL K F vs ds) : WalkD K F (Itt K a) ds := by
  refine ⟨_, _, r.len ▸ walk_tup (xs := vs), fun H' s => sqT_up s h, fun i H1 x H2 F1 hi y s1 s2 => ?_⟩
  obtain ⟨rfl, e⟩ := y
  obtain ⟨d, hd, rd⟩ := r.of e
  exact ⟨F1, d, hd, Gr.refl s2, rd.up s1⟩
theorem walkD_str {x : Str} : WalkD K F (Its x) (signs x) := by
  have hl : (signs x).length = x.cps.size := by simp [signs]
  refine ⟨_, _, hl ▸ walk_str (z := x), fun _ _ => trivial, fun i H1 v H2 F1 hi y s1 s2 => ?_⟩
  obtain ⟨rfl, c, e, rfl⟩ := y
  exact ⟨F1, .str ⟨#[c]⟩, by simp [signs, e], Gr.refl s2, .str _⟩
theorem walkD_range {n : Nat} {lo : Int} {ds : List D} (hd : ds = (List.range n).map fun i => .int (lo + (i : Nat))) : WalkD K F (Itr lo n) ds := by
  have hl : ds.length = n := by simp [hd]
  refine ⟨_, _, (show Walk (Itr lo n) ds.length _ _ by rw [hl]; exact walk_range (lo := lo) (n := n)), fun _ _ => trivial, fun i H1 v H2 F1 hi y s1 s2 => ?_⟩
  obtain ⟨rfl, rfl⟩ := y
  exact ⟨F1, .int (lo + (i : Nat)), by rw [hd, List.getElem?_map, List.getElem?_range (by omega)]; rfl, Gr.refl s2, .int _⟩
end

section
variable {X : Cx} {W : WX} {tg : Expr}
/-- a value that can be walked -/
theorem walk_val {pins : List (Addr × Obj)} {σ : St} {H F : Hp} {st : Shared} {v : V} {u : Value} {d : D} {ds : List D} {Q : It → Hp → Prop} {E : Value → Shared → Prop} (I : Inv X pins σ H st) (rv : RelV v u) (s : Same F H) (r : Rep X.K F v d) (hd : items d = some ds) (k : ∀ J, WalkD X.K F J ds → Q J H) :
    wpAny (model X.prog X.w) X.A (pyIter u) (PIE X pins σ tg Q) E st := by
  cases r with
  | lst h rl =>
    cases hd
    cases rv
    obtain ⟨its, ri, pl, _⟩ := I.list (SqL.of (K := X.K) (s _ _ h))
    refine wpAny_pyIter_list pl.isList ?_
    exact pi_one (tk := st.toks) I _ (turn_list _ _) ⟨_, Heap.get?_push_size _ rfl, rfl, rfl⟩ (k _ (walkD_list (SqL.of h) rl))
  | rol h rl =>
    cases hd
    cases rv
    obtain ⟨its, ri, pl, _⟩ := I.list (sqL_up s h)
    refine wpAny_pyIter_list pl.isList ?_
    exact pi_one (tk := st.toks) I _ (turn_list _ _) ⟨_, Heap.get?_push_size _ rfl, rfl, rfl⟩ (k _ (walkD_list h rl))
  | tup h rl =>
    cases hd
    cases rv
    obtain ⟨its, ri, pl, _⟩ := I.tuple (sqT_up s h)
    refine wpAny_pyIter_tuple (show st.heap.IsTuple _ its.toArray from pl) ?_
    exact pi_one (tk := st.toks) I _ (turn_tuple _ _) ⟨_, Heap.get?_push_size _ rfl, rfl, rfl⟩ (k _ (walkD_tup h rl))
  | str x =>
    cases hd
    obtain ⟨t, rfl⟩ := rv
    cases ha : x.cps.all (· < 128)
    · exact wpAny_pyIter_wide ha (pi_one (tk := st.toks) I _ (turn_str _ x t "str_iterator" (.inr rfl)) ⟨_, Heap.get?_push_size _ rfl, rfl, rfl⟩ (k _ walkD_str))
    · exact wpAny_pyIter_ascii ha (pi_one (tk := st.toks) I _ (turn_str _ x t "str_ascii_iterator" (.inl rfl)) ⟨_, Heap.get?_push_size _ rfl, rfl, rfl⟩ (k _ walkD_str))
  | _ => cases hd
theorem mi_seq {e : Expr} {f : FE} (h : ME X W e f) : MI X W tg e (iSeq f) := by
  refine ⟨fun pins st σ H Q I hq => ?_⟩
  have h2 : tM X.K W f σ H fun x H1 => ∃ F d ds, Same F H1 ∧ Rep X.K F x d ∧ items d = some ds ∧ ∀ J, WalkD X.K F J ds → Q J H1 := by
    obtain ⟨F, ε, E0, hq⟩ := hq
    refine ⟨F, ε, E0, DoI.bindF hq fun d ε1 v H1 F1 a h1 => ?_⟩
    cases hi : items d with
    | none => rw [hi] at h1; exact h1.elim
    | some ds =>
      rw [hi] at h1
      exact ⟨F1, d, ds, a.eo.sub, a.rp, hi, fun J w => h1 J H1 F1 ⟨.refl _, a.eo, w, .refl⟩⟩
  exact thn (h.run pins st σ H _ I h2) fun u s1 ⟨v, H1, I1, rv, F, d, ds, s, r, hi, k⟩ => walk_val I1 rv s r hi k
end

/-! ### for -/
def forL (g : FG) (b : FS) : List D → En → Option Fl
  | [], ε => some (.nx ε)
  | d :: ds, ε => match g d ε with
    | none => none
    | some ε1 => match b ε1 with
      | some (.nx ε2) => forL g b ds ε2
      | some (.ct ε2) => forL g b ds ε2
      | some (.bk ε2) => some (.nx ε2)
      | o => o
def sFor (fi : FI) (g : FG) (b : FS) : FS := fun ε => match fi ε with
  | some (.v ds ε1) => forL g b ds ε1
  | some (.x c gs ε1) => some (.ex c gs ε1)
  | none => none
section
variable {X : Cx} {W : WX} {np : Nat} {ts : List Nat}
theorem for_ok {K : PySem.W.Frag} {fi : FI} {g : FG} {b : FS} {Z : Ends} {σ : St} {H : Hp} (hts : ts.all (fun i => decide (np ≤ i)) = true) (h : sM K W np (sFor fi g b) Z σ H) : tFor (tMI K W fi) (tMG K ts g) (sM K W np b) Z σ H := by
  obtain ⟨F, ε, E0, h⟩ := h
  refine ⟨F, ε, E0, ?_⟩
  unfold sFor at h
  cases q : fi ε with
  | none => rw [q] at h; exact h
  | some r =>
    rw [q] at h
    cases r with
    | x c gs ε1 => exact DoS.exx h
    | v ds ε1 =>
      intro J H1 F1 a
      obtain ⟨G, Y, w, hG, hY⟩ := a.wk
      refine for_it w (Pv := fun i σ' H' => ∃ F' ε', EOk K F' H' σ' ε' ∧ Same F1 F' ∧ DoS K W np σ' ε' F' H' (forL g b (ds.drop i) ε') Z) ⟨F1, ε1, a.eo, .refl _, by rw [List.drop_zero]; exact DoS.sub h a.fs .refl a.fr⟩ ?_ ?_ ?_
      · rintro i σ' H' _ ⟨F', ε', e, s, _⟩
        exact hG H' (s.trans e.sub)
      · rintro i x σ' H' H2 hi ⟨F', ε', e, s, hd⟩ y
        obtain ⟨F2, d, hdd, gr, rp⟩ := hY i H' x H2 F' hi y s e.sub
        have hdr : ds.drop i = d :: ds.drop (i + 1) := by
          rw [List.drop_eq_getElem_cons hi]
          congr 1
          rw [List.getElem?_eq_getElem hi] at hdd
          exact Option.some.inj hdd
        rw [hdr] at hd
        have hd := DoS.sub hd gr.fs (.refl) gr.frm
        unfold forL at hd
        cases qg : g d ε' with
        | none => rw [qg] at hd; exact hd.elim
        | some ε2 =>
          rw [qg] at hd
          refine ⟨F2, ε', d, ε2, e.grow gr, rp, qg, fun σ3 H3 F3 s3 e3 k3 f3 => ⟨F3, ε2, e3, ?_⟩⟩
          have hd := DoS.sub hd s3 (k3.p hts) f3
          have st : ∀ {ε4 : En} {σ4 : St} {H4 F4 : Hp}, DoS K W np σ3 ε2 F3 H3 (forL g b (ds.drop (i + 1)) ε4) Z → Same F3 F4 → EOk K F4 H4 σ4 ε4 → KeepP np σ3 σ4 → Frm σ3 ε2 F3 H3 σ4 ε4 F4 H4 →
              ∃ F' ε', EOk K F' H4 σ4 ε' ∧ Same F1 F' ∧ DoS K W np σ4 ε' F' H4 (forL g b (ds.drop (i + 1)) ε') Z := fun hh s4 e4 k4 f4 => ⟨_, _, e4, ((s.trans gr.fs).trans s3).trans s4, DoS.sub hh s4 k4 f4⟩
          revert hd
          show DoS K W np σ3 ε2 F3 H3 (match b ε2 with
            | some (.nx ε2) => forL g b (ds.drop (i + 1)) ε2
            | some (.ct ε2) => forL g b (ds.drop (i + 1)) ε2
            | some (.bk ε2) => some (.nx ε2)
            | o => o) Z → DoS K W np σ3 ε2 F3 H3 (b ε2) _
          cases b ε2 with
          | none => exact fun hh => hh
          | some fl =>
            cases fl with
            | nx ε4 => exact fun hh σ4 H4 F4 s4 e4 k4 f4 => st hh s4 e4 k4 f4
            | ct ε4 => exact fun hh σ4 H4 F4 s4 e4 k4 f4 => st hh s4 e4 k4 f4
            | bk ε4 => exact fun hh => hh
            | rt s ε4 => exact fun hh => hh
            | ex c gs ε4 => exact fun hh => hh
      · rintro σ' H' ⟨F', ε', e, s, hd⟩
        rw [List.drop_length] at hd
        exact hd σ' H' F' (.refl _) e .refl .refl
theorem ms_for {tg iter : Expr} {body : List Stmt} {fi : FI} {g : FG} {b : FS} {pos : Pos} (hp : PassesOwn (model X.prog X.w) X.A X.env X.xe) (hc : X.calm = true) (hi : MI X W tg iter fi) (hg : MG X ts tg g) (hb : MSs X W np body b) (hts : ts.all (fun i => decide (np ≤ i)) = true := by rfl)
    (hs : ∀ x, foldedSetIterable iter X.env x = pure x := by intro _; rfl) : MS X W np (.For tg iter body [] pos) (sFor fi g b) :=
  PS.imp (ps_for hp hc hi hg hb hs) fun _ _ _ h => for_ok hts h
end
end Mi

namespace Mi
open PySem PySem.Spec PyProof.Rows L2

abbrev W0 : WX := fun _ _ _ _ => False
/-- the block's own slots are empty -/
def wipeE (ε : En) : List Nat → En
  | [] => ε
  | v :: vs => (wipeE ε vs).set v .un
/-- they hold again what they held -/
def backE (ε0 ε : En) : List Nat → En
  | [] => ε
  | v :: vs => match ε0[v]? with
    | some s => (backE ε0 ε vs).set v s
    | none => backE ε0 ε vs
theorem wipeE_len (ε : En) : ∀ vs : List Nat, (wipeE ε vs).length = ε.length
  | [] => rfl
  | v :: vs => by simp [wipeE, wipeE_len ε vs]
theorem wipeE_at {ε : En} {i : Nat} {s : Sl} : ∀ {vs : List Nat}, (wipeE ε vs)[i]? = some s → s ≠ .un → ε[i]? = some s ∧ i ∉ vs
  | [], h, _ => ⟨h, by simp⟩
  | v :: vs, h, n => by
    have h : ((wipeE ε vs).set v .un)[i]? = some s := h
    by_cases hi : v = i
    · subst hi
      have l := (List.getElem?_eq_some_iff.mp h).1
      rw [List.length_set] at l
      rw [List.getElem?_set_self l] at h
      cases h
      exact absurd rfl n
    · rw [List.getElem?_set_ne hi] at h
      obtain ⟨h1, h2⟩ := wipeE_at h n
      exact ⟨h1, by simp only [List.mem_cons, not_or]; exact ⟨fun z => hi z.symm, h2⟩⟩
theorem wipeE_out {ε : En} {i : Nat} : ∀ {vs : List Nat}, i ∉ vs → (wipeE ε vs)[i]? = ε[i]?
  | [], _ => rfl
  | v :: vs, h => by
    simp only [List.mem_cons, not_or] at h
    show ((wipeE ε vs).set v .un)[i]? = _
    rw [List.getElem?_set_ne (fun z => h.1 z.symm), wipeE_out h.2]
theorem wipe_out' {σ : St} {i : Nat} : ∀ {vs : List Nat}, i ∉ vs → (wipe σ vs)[i]? = σ[i]?
  | [], _ => rfl
  | v :: vs, h => by
    simp only [List.mem_cons, not_or] at h
    show ((wipe σ vs).set v none)[i]? = _
    rw [List.getElem?_set_ne (fun z => h.1 z.symm), wipe_out' h.2]
theorem backE_len (ε0 ε : En) : ∀ vs : List Nat, (backE ε0 ε vs).length = ε.length
  | [] => rfl
  | v :: vs => by
    unfold backE
    split
    · simp [backE_len ε0 ε vs]
    · exact backE_len ε0 ε vs
theorem backE_at {ε0 ε : En} {i : Nat} {s : Sl} (hl : ε0.length = ε.length) : ∀ {vs : List Nat}, (backE ε0 ε vs)[i]? = some s → (i ∈ vs ∧ ε0[i]? = some s) ∨ (i ∉ vs ∧ ε[i]? = some s)
  | [], h => .inr ⟨by simp, h⟩
  | v :: vs, h => by
    unfold backE at h
    cases q : ε0[v]? with
    | none =>
      rw [q] at h
      rcases backE_at hl h with ⟨a, b⟩ | ⟨a, b⟩
      · exact .inl ⟨List.mem_cons_of_mem _ a, b⟩
      · refine .inr ⟨?_, b⟩
        simp only [List.mem_cons, not_or]
        refine ⟨fun z => ?_, a⟩
        subst z
        have := (List.getElem?_eq_some_iff.mp b).1
        rw [List.getElem?_eq_none_iff] at q
        omega
    | some t =>
      rw [q] at h
      by_cases hi : v = i
      · subst hi
        have l := (List.getElem?_eq_some_iff.mp h).1
        rw [List.length_set] at l
        rw [List.getElem?_set_self l] at h
        cases h
        exact .inl ⟨List.mem_cons_self .., q⟩
      · rw [List.getElem?_set_ne hi] at h
        rcases backE_at hl h with ⟨a, b⟩ | ⟨a, b⟩
        · exact .inl ⟨List.mem_cons_of_mem _ a, b⟩
        · exact .inr ⟨by simp only [List.mem_cons, not_or]; exact ⟨fun z => hi z.symm, a⟩, b⟩
theorem EOk.wipe {K : PySem.W.Frag} {F H : Hp} {σ : St} {ε : En} (e : EOk K F H σ ε) (vs : List Nat) : EOk K F H (L2.wipe σ vs) (wipeE ε vs) := by
  refine ⟨e.sub, by rw [wipe_length, wipeE_len]; exact e.len, fun i s h n => ?_, fun i j d d' v h1 h2 h3 h4 => ?_⟩
  · obtain ⟨a, b⟩ := wipeE_at h n
    rw [wipe_out' b]
    exact e.val i s a n
  · obtain ⟨a, b⟩ := wipeE_at h1 (by simp)
    obtain ⟨a', b'⟩ := wipeE_at h2 (by simp)
    rw [wipe_out' b] at h3
    rw [wipe_out' b'] at h4
    exact e.inj i j d d' v a a' h3 h4
theorem frm_wipe {F H : Hp} {σ : St} {ε : En} (vs : List Nat) : Frm σ ε F H (L2.wipe σ vs) (wipeE ε vs) F H := fun a o ob => ⟨ob.nf, ob.at_, fun i d h => by
  obtain ⟨a, b⟩ := wipeE_at h (by simp)
  rw [wipe_out' b]
  exact ob.no i d a⟩

/-! ### [elt for target in iter if test] -/
def lcL (g : FG) (t : FB) (e : FE) (vs : List Nat) : List D → En → List D → Option (List D × En)
  | [], ε, acc => some (acc, ε)
  | d :: ds, ε, acc => match g d ε with
    | none => none
    | some ε1 => match t ε1 with
      | some (.v false ε2) => lcL g t e vs ds (wipeE ε2 vs) acc
      | some (.v true ε2) => (match e ε2 with
        | some (.v (.fz y) ε3) => if acc.length < sizeLine then lcL g t e vs ds (wipeE ε3 vs) (acc ++ [y]) else none
        | some (.v (.ow y) ε3) => if acc.length < sizeLine then lcL g t e vs ds (wipeE ε3 vs) (acc ++ [y]) else none
        | _ => none)
      | _ => none
def eLc (fi : FI) (g : FG) (t : FB) (e : FE) (vs : List Nat) : FE := fun ε => match fi ε with
  | some (.v ds ε1) => (match lcL g t e vs ds (wipeE ε1 vs) [] with
    | some (ys, ε2) => some (.v (.ow (.lst ys)) (backE ε1 ε2 vs))
    | none => none)
  | some (.x c gs ε1) => some (.x c gs ε1)
  | none => none
def bTrue : FB := fun ε => some (.v true ε)


/-- between two turns: the list so far at D belongs to no slot -/
structure LcI (K : PySem.W.Frag) (σ : St) (vs : List Nat) (ε1 : En) (F1 H1 : Hp) (Da : Addr) (ε : En) (acc : List D) (F H : Hp) : Prop where
  eo : EOk K F H (L2.wipe σ vs) ε
  fs : Same F1 F
  fr : Frm (L2.wipe σ vs) (wipeE ε1 vs) F1 H1 (L2.wipe σ vs) ε F H
  ob : ∃ us, Oth (L2.wipe σ vs) ε F H Da (.lst us) ∧ RepL K F us acc

theorem lc_ok {K : PySem.W.Frag} {W : WX} {fi : FI} {g : FG} {t : FB} {e : FE} {vs ts : List Nat} {σ : St} {H : Hp} {Q : VK} (hts : ts.all (fun i => decide (i ∈ vs)) = true) (h : tM K W (eLc fi g t e vs) σ H Q) :
    tLc (tMI K W fi) (tMG K ts g) (tMT K W0 t) (tM K W0 e) vs σ H Q := by
  obtain ⟨F, ε, E0, h⟩ := h
  refine ⟨F, ε, E0, ?_⟩
  unfold eLc at h
  cases q : fi ε with
  | none => rw [q] at h; exact h
  | some r =>
    rw [q] at h
    cases r with
    | x c gs ε1 => exact h
    | v ds ε1 =>
      intro J H1 F1 a Da hDa
      obtain ⟨G, Y, w, hG, hY⟩ := a.wk
      have ew := a.eo.wipe vs
      have h : Do K W σ ε F H (match lcL g t e vs ds (wipeE ε1 vs) [] with
        | some (ys, ε2) => some (.v (.ow (.lst ys)) (backE ε1 ε2 vs))
        | none => none) Q := h
      generalize hR : lcL g t e vs ds (wipeE ε1 vs) [] = res at h
      refine lc_it w (Pv := fun i H' => ∃ F' ε' acc, LcI K σ vs ε1 F1 H1 Da ε' acc F' H' ∧ lcL g t e vs (ds.drop i) ε' acc = res) ?_ ?_ ?_ ?_
      · have gl : Gr F1 H1 F1 (upd H1 Da (.lst [])) := Gr.loose a.eo.sub hDa
        exact ⟨F1, wipeE ε1 vs, [], ⟨ew.grow gl, .refl _, gl.frm, [], ⟨a.eo.sub.free hDa, upd_same, fun i d hh z => by
          obtain ⟨v, hv, b, o, rfl, k1, k2, _⟩ := ew.val i _ hh (by simp)
          rw [hv] at z
          have z : b = Da := by simpa using z
          rw [z, hDa] at k2
          cases k2⟩, .nil⟩, by rw [List.drop_zero]; exact hR⟩
      · rintro i H' _ ⟨F', ε', acc, L, _⟩
        exact hG H' (L.fs.trans L.eo.sub)
      · rintro i x H' H2 hi ⟨F', ε', acc, L, hl⟩ y
        obtain ⟨F2, d, hdd, gr, rp⟩ := hY i H' x H2 F' hi y L.fs L.eo.sub
        have hdr : ds.drop i = d :: ds.drop (i + 1) := by
          rw [List.drop_eq_getElem_cons hi]
          congr 1
          rw [List.getElem?_eq_getElem hi] at hdd
          exact Option.some.inj hdd
        rw [hdr] at hl
        have nn : res ≠ none := fun z => by rw [z] at h; exact h
        unfold lcL at hl
        cases qg : g d ε' with
        | none => rw [qg] at hl; exact absurd hl.symm nn
        | some ε2 =>
          rw [qg] at hl
          refine ⟨F2, ε', d, ε2, L.eo.grow gr, rp, qg, fun σ3 H3 F3 s3 e3 k3 f3 => ⟨k3.wipe hts, F3, ε2, e3, ?_⟩⟩
          have hl : (match t ε2 with
            | some (.v false ε2) => lcL g t e vs (ds.drop (i + 1)) (wipeE ε2 vs) acc
            | some (.v true ε2) => (match e ε2 with
              | some (.v (.fz y) ε3) => if acc.length < sizeLine then lcL g t e vs (ds.drop (i + 1)) (wipeE ε3 vs) (acc ++ [y]) else none
              | some (.v (.ow y) ε3) => if acc.length < sizeLine then lcL g t e vs (ds.drop (i + 1)) (wipeE ε3 vs) (acc ++ [y]) else none
              | _ => none)
            | _ => none) = res := hl
          have fr3 : Frm (L2.wipe σ vs) ε' F' H' σ3 ε2 F3 H3 := gr.frm.trans f3
          cases qt : t ε2 with
          | none => rw [qt] at hl; exact absurd hl.symm nn
          | some rt =>
            rw [qt] at hl
            cases rt with
            | x c gs ε4 => exact absurd hl.symm nn
            | v b ε4 =>
              intro H4 F4 s4 e4 f4
              have fr4 : Frm (L2.wipe σ vs) ε' F' H' σ3 ε4 F4 H4 := fr3.trans f4
              have sw : L2.wipe σ3 vs = L2.wipe σ vs := k3.wipe hts
              -- back to the turn's start
              have turn : ∀ {ε5 : En} {F5 H5 : Hp} {acc' : List D}, EOk K F5 H5 σ3 ε5 → Same F' F5 → Frm (L2.wipe σ vs) ε' F' H' σ3 ε5 F5 H5 → (∃ us, Oth σ3 ε5 F5 H5 Da (.lst us) ∧ RepL K F5 us acc') → LcI K σ vs ε1 F1 H1 Da (wipeE ε5 vs) acc' F5 H5 := fun {ε5 F5 H5 acc'} e5 s5 f5 ob => by
                have ew5 := e5.wipe vs
                have fw := frm_wipe (F := F5) (H := H5) (σ := σ3) (ε := ε5) vs
                rw [sw] at ew5 fw
                obtain ⟨us, o1, o2⟩ := ob
                exact ⟨ew5, L.fs.trans s5, (L.fr.trans f5).trans fw, us, fw _ _ o1, o2⟩
              have s04 : Same F' F4 := (gr.fs.trans s3).trans s4
              obtain ⟨us, o1, o2⟩ := L.ob
              cases b with
              | false => exact iteF ⟨F4, _, acc, turn e4 s04 fr4 ⟨us, fr4 _ _ o1, o2.up s04⟩, hl⟩
              | true =>
                refine iteT ⟨F4, ε4, e4, ?_⟩
                have hl : (match e ε4 with
                  | some (.v (.fz y) ε3) => if acc.length < sizeLine then lcL g t e vs (ds.drop (i + 1)) (wipeE ε3 vs) (acc ++ [y]) else none
                  | some (.v (.ow y) ε3) => if acc.length < sizeLine then lcL g t e vs (ds.drop (i + 1)) (wipeE ε3 vs) (acc ++ [y]) else none
                  | _ => none) = res := hl
                cases qe : e ε4 with
                | none => rw [qe] at hl; exact absurd hl.symm nn
                | some re =>
                  rw [qe] at hl
                  cases re with
                  | x c gs ε5 => exact absurd hl.symm nn
                  | v s ε5 =>
                    intro y H5 F5 a5
                    have fin : ∀ (yd : D), (s = .fz yd ∨ s = .ow yd) → (if acc.length < sizeLine then lcL g t e vs (ds.drop (i + 1)) (wipeE ε5 vs) (acc ++ [yd]) else none) = res →
                        ∃ acc_1, H5 Da = some (.lst acc_1) ∧ acc_1.length < sizeLine ∧ ∃ F' ε' acc, LcI K σ vs ε1 F1 H1 Da ε' acc F' (upd H5 Da (.lst (acc_1 ++ [y]))) ∧ lcL g t e vs (ds.drop (i + 1)) ε' acc = res := by
                      intro yd hs hl
                      by_cases hz : acc.length < sizeLine
                      · rw [if_pos hz] at hl
                        obtain ⟨F6, a6⟩ := a5.data hs
                        have fr6 : Frm (L2.wipe σ vs) ε' F' H' σ3 ε5 F6 H5 := fr4.trans a6.fr
                        have s6 : Same F' F6 := s04.trans a6.fs
                        have o6 := fr6 _ _ o1
                        refine ⟨us, o6.at_, by rw [o2.len]; exact hz, F6, wipeE ε5 vs, acc ++ [yd], ?_, hl⟩
                        have rr : RepL K F6 (us ++ [y]) (acc ++ [yd]) := (o2.up s6).app (.cons a6.rp .nil)
                        have nD : ∀ (j : Nat) (dd : D), ε5[j]? = some (.ow dd) → σ3[j]? ≠ some (some (.ref Da)) := o6.no
                        have sm7 : Same F6 (upd H5 Da (.lst (us ++ [y]))) := fun b o hb => by
                          rw [upd_ne (fun z => by rw [z, o6.nf] at hb; cases hb)]
                          exact a6.eo.sub b o hb
                        have eo7 : EOk K F6 (upd H5 Da (.lst (us ++ [y]))) σ3 ε5 := by
                          refine ⟨sm7, a6.eo.len, fun j s' hj n => ?_, a6.eo.inj⟩
                          obtain ⟨w', hw', r'⟩ := a6.eo.val j s' hj n
                          refine ⟨w', hw', ?_⟩
                          cases s' with
                          | un => exact r'
                          | fz d' => exact r'
                          | ow d' =>
                            obtain ⟨b, o, rfl, k1, k2, t'⟩ := r'
                            have nb : b ≠ Da := fun z => nD j d' hj (by rw [hw', z])
                            exact ⟨b, o, rfl, k1, by rw [upd_ne nb]; exact k2, t'⟩
                        have ew7 := eo7.wipe vs
                        have ow7 : Oth σ3 ε5 F6 (upd H5 Da (.lst (us ++ [y]))) Da (.lst (us ++ [y])) := ⟨o6.nf, upd_same, nD⟩
                        have fw := frm_wipe (F := F6) (H := upd H5 Da (.lst (us ++ [y]))) (σ := σ3) (ε := ε5) vs
                        rw [sw] at ew7 fw
                        refine ⟨ew7, L.fs.trans s6, fun b o hb => ?_, us ++ [y], fw _ _ ow7, rr⟩
                        have z1 := L.fr b o hb
                        have nb : b ≠ Da := fun z => by
                          have := hb.at_
                          rw [z, hDa] at this
                          cases this
                        have z2 := fr6 b o z1
                        exact fw b o ⟨z2.nf, by rw [upd_ne nb]; exact z2.at_, z2.no⟩
                      · rw [if_neg hz] at hl
                        exact absurd hl.symm nn
                    cases s with
                    | un => exact a5.rs.elim
                    | fz yd => exact fin yd (.inl rfl) hl
                    | ow yd => exact fin yd (.inr rfl) hl
      · rintro H' ⟨F', ε', acc, L, hl⟩
        rw [List.drop_length] at hl
        have hl : some (acc, ε') = res := hl
        rw [← hl] at h
        obtain ⟨us, o1, o2⟩ := L.ob
        have ll : ε1.length = ε'.length := by
          have := L.eo.len
          rw [wipe_length, a.eo.len] at this
          exact this
        -- a thing of others, or of a slot of the block's own, stays
        have own : ∀ (i : Nat) (d : D) (v : V), i ∈ vs → ε1[i]? = some (.ow d) → σ[i]? = some (some v) → ∃ b o, v = .ref b ∧ Top K F1 o d ∧ Oth (L2.wipe σ vs) ε' F' H' b o := fun i d v hi h1 h2 => by
          obtain ⟨w', hw', b, o, rfl, k1, k2, tt⟩ := a.eo.val i _ h1 (by simp)
          rw [h2] at hw'
          cases hw'
          refine ⟨b, o, rfl, tt, L.fr b o ⟨k1, k2, fun j d' hj z => ?_⟩⟩
          obtain ⟨hj1, hj2⟩ := wipeE_at hj (by simp)
          rw [wipe_out' hj2] at z
          have := a.eo.inj i j d d' _ h1 hj1 h2 z
          subst this
          exact hj2 hi
        have slot : ∀ (i : Nat) (d : D) (v : V), (backE ε1 ε' vs)[i]? = some (.ow d) → σ[i]? = some (some v) →
            (∃ b o, v = .ref b ∧ Oth (L2.wipe σ vs) ε' F' H' b o ∧ i ∈ vs ∧ ε1[i]? = some (.ow d)) ∨ (ε'[i]? = some (.ow d) ∧ (L2.wipe σ vs)[i]? = some (some v)) := fun i d v h1 h2 => by
          rcases backE_at ll h1 with ⟨m1, m2⟩ | ⟨m1, m2⟩
          · obtain ⟨b, o, e1, _, ob⟩ := own i d v m1 m2 h2
            exact .inl ⟨b, o, e1, ob, m1, m2⟩
          · exact .inr ⟨m2, by rw [wipe_out' m1]; exact h2⟩
        refine h (.ref Da) H' F' ⟨a.fs.trans L.fs, ⟨L.eo.sub, by rw [backE_len, ← ll]; exact a.eo.len, fun i s hh n => ?_, fun i j d d' v h1 h2 h3 h4 => ?_⟩, ⟨Da, _, rfl, o1.nf, o1.at_, us, rfl, o2⟩, fun i d hh z => ?_, fun b o hb => ?_, fun b o hb z => ?_⟩
        · rcases backE_at ll hh with ⟨m1, m2⟩ | ⟨m1, m2⟩
          · obtain ⟨v, hv, r⟩ := a.eo.val i s m2 n
            refine ⟨v, hv, ?_⟩
            cases s with
            | un => exact r
            | fz d => exact Rep.up L.fs r
            | ow d =>
              obtain ⟨b, o, rfl, tt, ob⟩ := own i d v m1 m2 hv
              exact ⟨b, o, rfl, ob.nf, ob.at_, tt.up L.fs⟩
          · obtain ⟨v, hv, r⟩ := L.eo.val i s m2 n
            rw [wipe_out' m1] at hv
            exact ⟨v, hv, r⟩
        · rcases slot i d v h1 h3 with ⟨b, o, e1, ob, m1, m2⟩ | ⟨m1, m2⟩ <;> rcases slot j d' v h2 h4 with ⟨b', o', e1', ob', m1', m2'⟩ | ⟨m1', m2'⟩
          · exact a.eo.inj i j d d' v m2 m2' h3 h4
          · rw [e1] at m2'
            exact absurd m2' (ob.no j d' m1')
          · rw [e1'] at m2
            exact absurd m2 (ob'.no i d m1)
          · exact L.eo.inj i j d d' v m1 m1' m2 m2'
        · rcases slot i d _ hh z with ⟨b, o, e1, ob, m1, m2⟩ | ⟨m1, m2⟩
          · cases e1
            obtain ⟨w', hw', b, o, rfl, k1, k2, tt⟩ := a.eo.val i _ m2 (by simp)
            rw [z] at hw'
            cases hw'
            rw [hDa] at k2
            cases k2
          · exact o1.no i d m1 m2
        · have z1 := a.fr b o hb
          have z2 : Oth (L2.wipe σ vs) (wipeE ε1 vs) F1 H1 b o := frm_wipe vs b o z1
          have z3 := L.fr b o z2
          refine ⟨z3.nf, z3.at_, fun i d hh z => ?_⟩
          rcases slot i d _ hh z with ⟨b', o', e1, ob, m1, m2⟩ | ⟨m1, m2⟩
          · exact z1.no i d m2 z
          · exact z3.no i d m1 m2
        · cases z
          have := (a.fr _ o hb).at_
          rw [hDa] at this
          cases this

section
variable {X : Cx} {W : WX} {np : Nat} {elt tg iter : Expr} {scope : Scope} {own : List (Str × Nat)} {pos : Pos} {fi : FI} {g : FG} {t : FB} {e : FE} {ts : List Nat}
/-- no test -/
theorem mts_nil {X : Cx} : PTs X [] (tMT X.K W0 bTrue) := ⟨fun pins s σ H Q I ⟨F, ε, E0, h⟩ => pts_nil.run pins s σ H Q I (h H F (.refl _) E0 .refl)⟩
theorem mts_one {X : Cx} {c : Expr} (h : MT X W0 c t) : PTs X [c] (tMT X.K W0 t) := pts_one h
theorem me_lc {ifs : List Expr} (hc : X.calm = true) (hN : X.N.Nodup) (hi : MI X W tg iter fi) (ok : BlkOk X.N X.env.scope scope own)
    (hg : ∀ (s : Shared) (H : Hp) (C : Addr) (cl : List (Str × Addr)) (fp : List Addr), MG (X.blk s H scope (compEnvC scope cl C X.env) fp) ts tg g)
    (ht : ∀ (s : Shared) (H : Hp) (C : Addr) (cl : List (Str × Addr)) (fp : List Addr), PTs (X.blk s H scope (compEnvC scope cl C X.env) fp) ifs (tMT X.K W0 t))
    (he : ∀ (s : Shared) (H : Hp) (C : Addr) (cl : List (Str × Addr)) (fp : List Addr), ME (X.blk s H scope (compEnvC scope cl C X.env) fp) W0 elt e)
    (hts : ts.all (fun i => decide (i ∈ own.map (·.2))) = true := by rfl) (hs : ∀ x, foldedSetIterable iter X.env x = pure x := by intro _; rfl) :
    ME X W (.ListComp elt [⟨tg, iter, ifs, 0⟩] scope pos) (eLc fi g t e (own.map (·.2))) :=
  PE.imp (pe_lc hc hN hi ok hg ht he hs) fun _ _ _ h => lc_ok hts h
/-- y = [..] -/
theorem ms_setLc {i : Nat} {y : Str} {py spos : Pos} {ifs : List Expr} (hc : X.calm = true) (hN : X.N.Nodup) (hy : X.N[i]? = some y) (hyl : X.env.scope.names.lookup y = some .local)
    (hsw : swapsWith (.ListComp elt [⟨tg, iter, ifs, 0⟩] scope pos) (some (.Name y py)) spos.line X.env = pure true) (hi : MI X W tg iter fi) (ok : BlkOk X.N X.env.scope scope own)
    (hg : ∀ (s : Shared) (H : Hp) (C : Addr) (cl : List (Str × Addr)) (fp : List Addr), MG (X.blk s H scope (compEnvC scope cl C X.env) fp) ts tg g)
    (ht : ∀ (s : Shared) (H : Hp) (C : Addr) (cl : List (Str × Addr)) (fp : List Addr), PTs (X.blk s H scope (compEnvC scope cl C X.env) fp) ifs (tMT X.K W0 t))
    (he : ∀ (s : Shared) (H : Hp) (C : Addr) (cl : List (Str × Addr)) (fp : List Addr), ME (X.blk s H scope (compEnvC scope cl C X.env) fp) W0 elt e)
    (hnp : np ≤ i := by decide) (hts : ts.all (fun i => decide (i ∈ own.map (·.2))) = true := by rfl) (hs : ∀ x, foldedSetIterable iter X.env x = pure x := by intro _; rfl) :
    MS X W np (.Assign [.Name y py] (.ListComp elt [⟨tg, iter, ifs, 0⟩] scope pos) spos) (sSet i (eLc fi g t e (own.map (·.2)))) := by
  refine PS.imp (ps_setLc (g := tMG X.K ts g) (tt := tMT X.K W0 t) (te := tM X.K W0 e) hc hN hy hyl hsw hi ok hg ht he hs) fun Z σ H h => ?_
  refine lc_ok hts ?_
  obtain ⟨F, ε, E0, h⟩ := h
  refine ⟨F, ε, E0, bs_do h fun s ε1 v H1 F1 a h1 => ?_⟩
  exact h1 _ H1 F1 a.fs (a.eo.put a.rs a.ap) (keep_set hnp) (a.frmPut)
end
end Mi

namespace Mi
open PySem PySem.Spec PyProof.Rows L2

/-! ### displays -/
def asD : As → Option (List D)
  | [] => some []
  | (none, .fz d) :: ss => (asD ss).map (d :: ·)
  | _ => none
def eLst (fa : FAr) : FE := fun ε => bnd (fa ε) fun ss ε1 => match asD ss with
  | some ds => if ds.length ≤ sizeLine then some (.v (.ow (.lst ds)) ε1) else none
  | none => none
def eTup (fa : FAr) : FE := fun ε => bnd (fa ε) fun ss ε1 => match asD ss with
  | some ds => if ds.length ≤ sizeLine then some (.v (.fz (.tup ds)) ε1) else none
  | none => none
theorem ArgsOk.rep {K : PySem.W.Frag} {σ : St} {ε : En} {F H : Hp} : ∀ {vs : List V} {ss : As} {ds : List D}, ArgsOk K σ ε F H vs ss → asD ss = some ds → RepL K F vs ds
  | _, _, _, .nil, h => by cases h; exact .nil
  | _, _, _, .val (d := d) (ss := ss) r a, h => by
    simp only [asD] at h
    cases q : asD ss with
    | none => rw [q] at h; cases h
    | some es => rw [q] at h; cases h; exact .cons r (a.rep q)
  | _, _, _, .mu (s := s) _ _ _ a, h => by cases s <;> cases h
  | _, _, _, .tmp _ _, h => by cases h
theorem DoA.bindE {K : PySem.W.Frag} {W : WX} {σ : St} {ε : En} {F H : Hp} {r : Option (R As)} {k : As → En → Option (R Sl)} {Q : VK} {G : List V → Hp → Prop} (h : Do K W σ ε F H (bnd r k) Q)
    (g : ∀ ss ε1 vs H1 F1, AftA K σ ε F H F1 H1 ε1 vs ss → Do K W σ ε1 F1 H1 (k ss ε1) Q → G vs H1) : DoA K W σ ε F H r G := by
  cases r with
  | none => exact h
  | some r =>
    cases r with
    | x c fs ε1 => exact h
    | v b ε1 => exact fun vs H1 F1 a => g b ε1 vs H1 F1 a (Do.sub (show Do K W σ ε F H (k b ε1) Q from h) a.fs a.fr)
section
variable {X : Cx} {W : WX} {es : List Expr} {fa : FAr} {pos : Pos}
theorem me_lst (h : MA X W es fa) : ME X W (.List es pos) (eLst fa) := by
  refine PE.imp (pe_lst h) fun σ H Q ⟨F, ε, E0, h⟩ => ⟨F, ε, E0, DoA.bindE h fun ss ε1 vs H1 F1 a h1 => ?_⟩
  cases q : asD ss with
  | none => rw [q] at h1; exact h1.elim
  | some ds =>
    rw [q] at h1
    simp only at h1
    split at h1
    · rename_i hz
      have rl := a.ok.rep q
      exact ⟨by rw [rl.len]; exact hz, fun p hp => (h1.gives a.eo).newO a.eo.sub hp ⟨vs, rfl, rl⟩⟩
    · exact h1.elim
theorem me_tup {k : Nat} (h : MA X W es fa) : ME X W (.Tuple es k pos) (eTup fa) := by
  refine PE.imp (pe_tup h) fun σ H Q ⟨F, ε, E0, h⟩ => ⟨F, ε, E0, DoA.bindE h fun ss ε1 vs H1 F1 a h1 => ?_⟩
  cases q : asD ss with
  | none => rw [q] at h1; exact h1.elim
  | some ds =>
    rw [q] at h1
    simp only at h1
    split at h1
    · rename_i hz
      have rl := a.ok.rep q
      exact ⟨by rw [rl.len]; exact hz, fun p hp => (h1.gives a.eo).new a.eo.sub hp fun F' s' h' => .tup (SqT.of h') (rl.up s')⟩
    · exact h1.elim
end

/-! ### operators -/
section
variable {X : Cx} {W : WX} {a b : Expr} {fa fb : FE} {pos : Pos} {i j : Nat}
theorem me_bin {bo : Operator} {r : R2} {op : D → D → Option Sl} (ho : OpR X (binaryOp bo) r) (p : Prim2 X.K r op) (ha : ME X W a fa) (hb : ME X W b fb) : ME X W (.BinOp a bo b pos) (e2 op fa fb) :=
  PE.imp (pe_op ho ha hb) fun _ _ _ h => e2_ok p h
theorem me_add (ha : ME X W a fa) (hb : ME X W b fb) : ME X W (.BinOp a .Add b pos) (e2 oAdd fa fb) := me_bin (OpR.or op_add (OpR.or op_add_str (OpR.or op_cat op_catT))) p_add ha hb
theorem me_sub (ha : ME X W a fa) (hb : ME X W b fb) : ME X W (.BinOp a .Sub b pos) (e2 oSub fa fb) := me_bin op_sub p_sub ha hb
theorem me_mul (ha : ME X W a fa) (hb : ME X W b fb) : ME X W (.BinOp a .Mult b pos) (e2 oMul fa fb) := me_bin (OpR.or op_mul op_rep) p_mul ha hb
theorem me_mod (ha : ME X W a fa) (hb : ME X W b fb) : ME X W (.BinOp a .Mod b pos) (e2 oMod fa fb) := me_bin op_mod p_mod ha hb
theorem me_div (ha : ME X W a fa) (hb : ME X W b fb) : ME X W (.BinOp a .FloorDiv b pos) (e2 oDiv fa fb) := me_bin op_fdiv p_div ha hb
theorem me_pow (ha : ME X W a fa) (hb : ME X W b fb) : ME X W (.BinOp a .Pow b pos) (e2 oPow fa fb) := me_bin op_pow p_pow ha hb
theorem me_neg (ha : ME X W a fa) : ME X W (.UnaryOp .USub a pos) (e1 oNeg fa) := PE.imp (pe_un un_neg ha) fun _ _ _ h => e1_ok p_neg h

/-! ### comparisons -/
theorem me_cmp {co : CmpOp} {r : R2} {op : D → D → Option Sl} (ho : OpR X (compareOp co) r) (p : Prim2 X.K r op) (ha : ME X W a fa) (hb : ME X W b fb) (hm : behindInMarks co b = false) : ME X W (.Compare a [co] [b] pos) (e2 op fa fb) :=
  PE.imp (pe_cmpR ho ha hb hm) fun _ _ _ h => e2_ok p h
/-- the right one is a name -/
theorem me_cmpN {co : CmpOp} {r : R2} {op : D → D → Option Sl} (ho : OpR X (compareOp co) r) (p : Prim2 X.K r op) (ha : ME X W a fa) (hb : PE X b (tVar j)) (hm : behindInMarks co b = false) : ME X W (.Compare a [co] [b] pos) (e2m op fa j) :=
  PE.imp (pe_cmpR ho ha hb hm) fun _ _ _ h => e2m_ok p h
end
def oInt (p : Int → Int → Bool) : D → D → Option Sl
  | .int i, .int j => some (.fz (.bl (p i j)))
  | _, _ => none
theorem p_int {K : PySem.W.Frag} (p : Int → Int → Bool) : Prim2 K (rI0 fun i j => .bl (p i j)) (oInt p) := by
  intro F H vx vy x y s Q sm rx ry e g
  cases x with
  | int i =>
    cases y with
    | int j => cases e; exact ⟨i, j, rx.int, ry.int, g.same sm (.bl _)⟩
    | _ => cases e
  | _ => cases e
abbrev oLt := oInt fun i j => decide (i < j)
abbrev oLe := oInt fun i j => decide (i ≤ j)
abbrev oGt := oInt fun i j => decide (j < i)
abbrev oGe := oInt fun i j => decide (j ≤ i)

mutual
def toPy : D → Option PyData
  | .non => some .none
  | .bl b => some (.bool b)
  | .int i => some (.int i)
  | .str x => some (.str x)
  | .lst xs => (toPyL xs).map .list
  | .rol xs => (toPyL xs).map .list
  | .tup xs => (toPyL xs).map .tuple
  | .dct _ => none
  | .ins _ _ => none
  | .exc _ _ => none
def toPyL : List D → Option (List PyData)
  | [] => some []
  | d :: ds => (toPy d).bind fun p => (toPyL ds).map (p :: ·)
end
mutual
theorem Rep.dp {K : PySem.W.Frag} {F H : Hp} (s : Same F H) : ∀ {v : V} {d : D} {p : PyData}, Rep K F v d → toPy d = some p → Dp K H v p
  | _, _, _, .non, h => by cases h; exact .non
  | _, _, _, .bl b, h => by cases h; exact .bl b
  | _, _, _, .int i, h => by cases h; exact .int i
  | _, _, _, .str x, h => by cases h; exact .str x
  | _, _, _, .lst (ds := ds) e r, h => by
    simp only [toPy, Option.map_eq_some_iff] at h
    obtain ⟨ps, h1, rfl⟩ := h
    exact .lst (SqL.of (s _ _ e)) (RepL.dp s r h1)
  | _, _, _, .rol (ds := ds) e r, h => by
    simp only [toPy, Option.map_eq_some_iff] at h
    obtain ⟨ps, h1, rfl⟩ := h
    exact .lst (sqL_up s e) (RepL.dp s r h1)
  | _, _, _, .tup (ds := ds) e r, h => by
    simp only [toPy, Option.map_eq_some_iff] at h
    obtain ⟨ps, h1, rfl⟩ := h
    exact .tup (sqT_up s e) (RepL.dp s r h1)
  | _, _, _, .dct e r, h => by cases h
  | _, _, _, .ins e r, h => by cases h
  | _, _, _, .exc e1 e2 r, h => by cases h
  | _, _, _, .exn e, h => by cases h
theorem RepL.dp {K : PySem.W.Frag} {F H : Hp} (s : Same F H) : ∀ {vs : List V} {ds : List D} {ps : List PyData}, RepL K F vs ds → toPyL ds = some ps → DpAll K H vs ps
  | _, _, _, .nil, h => by cases h; exact .nil
  | _, _, _, .cons (d := d) (ds := ds) r rr, h => by
    simp only [toPyL, Option.bind_eq_some_iff, Option.map_eq_some_iff] at h
    obtain ⟨p, h1, ps, h2, rfl⟩ := h
    exact .cons (Rep.dp s r h1) (RepL.dp s rr h2)
end
theorem RepA.dp {K : PySem.W.Frag} {F H : Hp} (s : Same F H) {v : V} {d : D} {p : PyData} (r : RepA K F H v d) (h : toPy d = some p) : Dp K H v p := by
  rcases r with r | ⟨a, o, rfl, h1, h2, t⟩
  · exact r.dp s h
  · cases d with
    | lst ds =>
      obtain ⟨vs, rfl, rl⟩ := t
      simp only [toPy, Option.map_eq_some_iff] at h
      obtain ⟨ps, h1, rfl⟩ := h
      exact .lst (SqL.of h2) (rl.dp s h1)
    | dct _ => cases h
    | ins _ _ => cases h
    | _ => exact t.elim
def eqP (x y : D) : Option Bool := (toPy x).bind fun p => (toPy y).bind fun q => if SeqAt.shaped p = true ∧ SeqAt.shaped q = true then some (PyData.eqv p q) else none
def eqQ : D → D → Option Bool
  | .str a, .str b => some (decide (a = b))
  | x, y => eqP x y
def oEq : D → D → Option Sl := fun x y => (eqQ x y).map fun b => .fz (.bl b)
def oNe : D → D → Option Sl := fun x y => (eqQ x y).map fun b => .fz (.bl (!b))
theorem eqQ_ok {x y : D} {b : Bool} (h : eqQ x y = some b) : (∃ c d, x = .str c ∧ y = .str d ∧ b = decide (c = d)) ∨ eqP x y = some b := by
  unfold eqQ at h
  split at h
  · cases h; exact .inl ⟨_, _, rfl, rfl, rfl⟩
  · exact .inr h
theorem eqP_ok {x y : D} {b : Bool} (h : eqP x y = some b) : ∃ p q, toPy x = some p ∧ toPy y = some q ∧ SeqAt.shaped p = true ∧ SeqAt.shaped q = true ∧ b = PyData.eqv p q := by
  unfold eqP at h
  cases h1 : toPy x with
  | none => rw [h1] at h; cases h
  | some p =>
    cases h2 : toPy y with
    | none => rw [h1, h2] at h; cases h
    | some q =>
      rw [h1, h2] at h
      simp only [Option.bind_some] at h
      split at h
      · rename_i z
        cases h
        exact ⟨p, q, rfl, rfl, z.1, z.2, rfl⟩
      · cases h
theorem p_eq {K : PySem.W.Frag} : Prim2 K (fun x y H Q => rEqD K x y H Q ∨ rEq x y H Q) oEq := by
  intro F H vx vy x y s Q sm rx ry e g
  unfold oEq at e
  simp only [Option.map_eq_some_iff] at e
  obtain ⟨b, h, rfl⟩ := e
  rcases eqQ_ok h with ⟨c, d, rfl, rfl, rfl⟩ | h
  · rw [rx.str, ry.str]
    have e : (decide (V.str c = V.str d)) = decide (c = d) := by simp
    exact .inr ⟨rfl, by rw [e]; exact g.same sm (.bl _)⟩
  · obtain ⟨p, q, h1, h2, s1, s2, rfl⟩ := eqP_ok h
    exact .inl ⟨p, q, rx.dp sm h1, ry.dp sm h2, s1, s2, g.same sm (.bl _)⟩
theorem p_ne {K : PySem.W.Frag} : Prim2 K (fun x y H Q => rNeD K x y H Q ∨ rNe x y H Q) oNe := by
  intro F H vx vy x y s Q sm rx ry e g
  unfold oNe at e
  simp only [Option.map_eq_some_iff] at e
  obtain ⟨b, h, rfl⟩ := e
  rcases eqQ_ok h with ⟨c, d, rfl, rfl, rfl⟩ | h
  · rw [rx.str, ry.str]
    have e : (decide (V.str c = V.str d)) = decide (c = d) := by simp
    exact .inr ⟨rfl, by rw [e]; exact g.same sm (.bl _)⟩
  · obtain ⟨p, q, h1, h2, s1, s2, rfl⟩ := eqP_ok h
    exact .inl ⟨p, q, rx.dp sm h1, ry.dp sm h2, s1, s2, g.same sm (.bl _)⟩

/-! ### in -/
def toV : D → Option V
  | .non => some .non
  | .bl b => some (.bl b)
  | .int i => some (.int i)
  | .str x => some (.str x)
  | _ => none
def toVs : List D → Option (List V)
  | [] => some []
  | d :: ds => (toV d).bind fun v => (toVs ds).map (v :: ·)
theorem toV_ok {K : PySem.W.Frag} {F H : Hp} {v w : V} {d : D} (r : RepA K F H v d) (h : toV d = some w) : v = w ∧ flatV w = true := by
  cases d with
  | non => cases h; exact ⟨r.non, rfl⟩
  | bl b => cases h; exact ⟨r.bl, rfl⟩
  | int b => cases h; exact ⟨r.int, rfl⟩
  | str b => cases h; exact ⟨r.str, rfl⟩
  | _ => cases h
theorem toVs_ok {K : PySem.W.Frag} {F : Hp} : ∀ {vs ws : List V} {ds : List D}, RepL K F vs ds → toVs ds = some ws → vs = ws ∧ ws.all flatV = true
  | _, _, _, .nil, h => by cases h; exact ⟨rfl, rfl⟩
  | _, _, _, .cons (d := d) (ds := ds) r rr, h => by
    simp only [toVs, Option.bind_eq_some_iff, Option.map_eq_some_iff] at h
    obtain ⟨w, h1, ws, h2, rfl⟩ := h
    obtain ⟨rfl, f1⟩ := toV_ok (H := F) (.inl r) h1
    obtain ⟨rfl, f2⟩ := toVs_ok rr h2
    exact ⟨rfl, by simp [f1, f2]⟩
/-- a dict's value, a dict with one put in -/
def valD {κ : Type} [DecidableEq κ] (kds : List (κ × D)) (k : κ) : Option D := (kds.find? fun kv => decide (kv.1 = k)).map (·.2)
def putD {κ : Type} [DecidableEq κ] (kds : List (κ × D)) (k : κ) (d : D) : List (κ × D) :=
  if (kds.any fun kv => decide (kv.1 = k)) = true then kds.map (fun kv => if kv.1 = k then (kv.1, d) else kv) else kds ++ [(k, d)]
def keyD : D → Option Key
  | .int i => some (.inl i)
  | .str x => some (.inr x)
  | _ => none
/-- is it in -/
def inD : D → D → Option Bool
  | x, .lst ds => (toV x).bind fun v => (toVs ds).map fun vs => inV v vs
  | x, .tup ds => (toV x).bind fun v => (toVs ds).map fun vs => inV v vs
  | .str x, .str y => match x.cps.toList with
    | [c] => some (decide (c ∈ y.cps.toList))
    | _ => none
  | x, .dct kds => (keyD x).map fun k => (valD kds k).isSome
  | _, _ => none
def oIn : D → D → Option Sl := fun x y => (inD x y).map fun b => .fz (.bl b)
def oNin : D → D → Option Sl := fun x y => (inD x y).map fun b => .fz (.bl (!b))
def rInA (K : PySem.W.Frag) (neg : Bool) : R2 := fun x y H Q => rIn K neg x y H Q ∨ (∃ (c : Nat) (z : Str), x = .str ⟨#[c]⟩ ∧ y = .str z ∧ Q (.bl (if neg then !decide (c ∈ z.cps.toList) else decide (c ∈ z.cps.toList))) H) ∨
  (∃ a o, y = .ref a ∧ DGet H a x o ∧ Q (.bl (if neg then !o.isSome else o.isSome)) H)
theorem keyD_ok {K : PySem.W.Frag} {F H : Hp} {v : V} {d : D} {k : Key} (r : RepA K F H v d) (h : keyD d = some k) : v = kV k := by
  cases d with
  | int i => cases h; exact r.int
  | str x => cases h; exact r.str
  | _ => cases h
theorem valV_rep {K : PySem.W.Frag} {F : Hp} : ∀ {kvs : List (Key × V)} {kds : List (Key × D)} (k : Key), RepK K F kvs kds → (valV kvs k = none ∧ valD kds k = none) ∨ ∃ v d, valV kvs k = some v ∧ valD kds k = some d ∧ Rep K F v d
  | _, _, _, .nil => .inl ⟨rfl, rfl⟩
  | _, _, k, .cons (k := k') (v := v) (d := d) (vs := vs) (ds := ds) r rr => by
    by_cases e : k' = k
    · exact .inr ⟨v, d, valV_pos e, by simp [valD, List.find?_cons, e], r⟩
    · have e1 : valV ((k', v) :: vs) k = valV vs k := valV_neg e
      have e2 : valD ((k', d) :: ds) k = valD ds k := by simp [valD, List.find?_cons, e]
      rw [e1, e2]
      exact valV_rep k rr
section
variable {X : Cx}
theorem op_inA (hu : X.A.units + 1 < cLine) : OpR X (compareOp .In) (rInA X.K false) := by
  intro pins s σ H x y v u Q I rx ry h
  rcases h with h | h | ⟨a, o, rfl, g, q⟩
  · exact op_in_seq pins s σ H x y v u Q I rx ry h
  · exact op_in_sign pins s σ H x y v u Q I rx ry h
  · cases ry
    exact d_in hu I g rx fun s3 I3 => ⟨.bl o.isSome, H, I3, rfl, q⟩
theorem op_ninA (hu : X.A.units + 1 < cLine) : OpR X (compareOp .NotIn) (rInA X.K true) := by
  intro pins s σ H x y v u Q I rx ry h
  rcases h with h | h | ⟨a, o, rfl, g, q⟩
  · exact op_notIn_seq pins s σ H x y v u Q I rx ry h
  · exact op_notIn_sign pins s σ H x y v u Q I rx ry h
  · cases ry
    exact d_notIn hu I g rx fun s3 I3 => ⟨.bl (!o.isSome), H, I3, rfl, q⟩
end

theorem p_inA {K : PySem.W.Frag} (neg : Bool) : Prim2 K (rInA K neg) (fun x y => (inD x y).map fun b => .fz (.bl (if neg then !b else b))) := by
  intro F H vx vy x y s Q sm rx ry e g
  simp only [Option.map_eq_some_iff] at e
  obtain ⟨b, h, rfl⟩ := e
  have seq : ∀ (p : Addr) (vs : List V) (ds : List D), vy = .ref p → (SqL K H p vs ∨ SqT K H p vs) → RepL K F vs ds → ((toV x).bind fun v => (toVs ds).map fun vs => inV v vs) = some b → rInA K neg vx vy H Q := fun p vs ds e1 hq rl hh => by
    simp only [Option.bind_eq_some_iff, Option.map_eq_some_iff] at hh
    obtain ⟨w, h1, ws, h2, rfl⟩ := hh
    obtain ⟨rfl, f1⟩ := toV_ok rx h1
    obtain ⟨rfl, f2⟩ := toVs_ok rl h2
    exact .inl ⟨p, vs, e1, hq, f1, f2, g.same sm (.bl _)⟩
  cases y with
  | lst ds =>
    obtain ⟨p, vs, e1, h1, rl⟩ := ry.lst sm
    exact seq p vs ds e1 (.inl (SqL.of h1)) rl (by cases x <;> exact h)
  | tup ds =>
    obtain ⟨p, vs, e1, h1, rl⟩ := ry.tup sm
    exact seq p vs ds e1 (.inr h1) rl (by cases x <;> exact h)
  | str z =>
    cases x with
    | str z' =>
      have h : (match z'.cps.toList with
        | [c] => some (decide (c ∈ z.cps.toList))
        | _ => none) = some b := h
      split at h
      · rename_i c hc
        cases h
        have e1 : z' = ⟨#[c]⟩ := by
          cases z' with
          | mk cps =>
            have : cps = #[c] := by
              apply Array.toList_inj.mp
              simpa using hc
            rw [this]
        exact .inr (.inl ⟨c, z, by rw [rx.str, e1], ry.str, g.same sm (.bl _)⟩)
      · cases h
    | _ => cases h
  | dct kds =>
    have h : ((keyD x).map fun k => (valD kds k).isSome) = some b := by cases x <;> exact h
    simp only [Option.map_eq_some_iff] at h
    obtain ⟨k, h1, rfl⟩ := h
    obtain ⟨p, kvs, e1, h2, rk⟩ := ry.dct sm
    have e2 := keyD_ok rx h1
    refine .inr (.inr ⟨p, valV kvs k, e1, by rw [e2]; exact DGet.k h2, ?_⟩)
    have : (valD kds k).isSome = (valV kvs k).isSome := by
      rcases valV_rep k rk with ⟨a, b⟩ | ⟨v, d, a, b, _⟩ <;> rw [a, b] <;> rfl
    rw [this] at g
    exact g.same sm (.bl _)
  | _ => cases x <;> cases h
section
variable {X : Cx} {W : WX} {a b : Expr} {fa fb : FE} {pos : Pos} {i j : Nat}
theorem me_lt (ha : ME X W a fa) (hb : ME X W b fb) : ME X W (.Compare a [.Lt] [b] pos) (e2 oLt fa fb) := me_cmp op_lt (p_int _) ha hb (nomark _)
theorem me_le (ha : ME X W a fa) (hb : ME X W b fb) : ME X W (.Compare a [.LtE] [b] pos) (e2 oLe fa fb) := me_cmp op_le (p_int _) ha hb (nomark _)
theorem me_gt (ha : ME X W a fa) (hb : ME X W b fb) : ME X W (.Compare a [.Gt] [b] pos) (e2 oGt fa fb) := me_cmp op_gt (p_int _) ha hb (nomark _)
theorem me_ge (ha : ME X W a fa) (hb : ME X W b fb) : ME X W (.Compare a [.GtE] [b] pos) (e2 oGe fa fb) := me_cmp op_ge (p_int _) ha hb (nomark _)
theorem me_eq (hu : X.A.units + 64 < cLine) (ha : ME X W a fa) (hb : ME X W b fb) : ME X W (.Compare a [.Eq] [b] pos) (e2 oEq fa fb) := me_cmp (OpR.or (op_eqD hu) op_eq) p_eq ha hb (nomark _)
theorem me_ne (hu : X.A.units + 64 < cLine) (ha : ME X W a fa) (hb : ME X W b fb) : ME X W (.Compare a [.NotEq] [b] pos) (e2 oNe fa fb) := me_cmp (OpR.or (op_neD hu) op_ne) p_ne ha hb (nomark _)
theorem me_in (hu : X.A.units + 1 < cLine) (ha : ME X W a fa) (hb : ME X W b fb) (hm : behindInMarks .In b = false := by rfl) : ME X W (.Compare a [.In] [b] pos) (e2 oIn fa fb) := me_cmp (op_inA hu) (p_inA false) ha hb hm
theorem me_nin (hu : X.A.units + 1 < cLine) (ha : ME X W a fa) (hb : ME X W b fb) (hm : behindInMarks .NotIn b = false := by rfl) : ME X W (.Compare a [.NotIn] [b] pos) (e2 oNin fa fb) := me_cmp (op_ninA hu) (p_inA true) ha hb hm
/-- in a name's list, which may be owned -/
theorem me_inN (hu : X.A.units + 1 < cLine) (ha : ME X W a fa) (hb : PE X b (tVar j)) (hm : behindInMarks .In b = false := by rfl) : ME X W (.Compare a [.In] [b] pos) (e2m oIn fa j) := me_cmpN (op_inA hu) (p_inA false) ha hb hm
theorem me_ninN (hu : X.A.units + 1 < cLine) (ha : ME X W a fa) (hb : PE X b (tVar j)) (hm : behindInMarks .NotIn b = false := by rfl) : ME X W (.Compare a [.NotIn] [b] pos) (e2m oNin fa j) := me_cmpN (op_ninA hu) (p_inA true) ha hb hm
end

/-! ### a < b < c -/
def e3 (p p' : D → D → Option Sl) (fa fb fc : FE) : FE := fun ε => bf (fa ε) fun x ε1 => bf (fb ε1) fun y ε2 => match p x y with
  | some (.fz (.bl true)) => bf (fc ε2) fun z ε3 => ret (p' y z) ε3
  | some (.fz (.bl false)) => some (.v (.fz (.bl false)) ε2)
  | _ => none
theorem me_chain {X : Cx} {W : WX} {a b c : Expr} {fa fb fc : FE} {pos : Pos} {o o' : CmpOp} {r r' : R2} {p p' : D → D → Option Sl} (ho : OpR X (compareOp o) r) (ho' : OpR X (compareOp o') r') (hp : Prim2 X.K r p) (hp' : Prim2 X.K r' p')
    (ha : ME X W a fa) (hb : ME X W b fb) (hc : ME X W c fc) (hm : lastMarks [o, o'] [b, c] = false := by with_unfolding_all rfl) : ME X W (.Compare a [o, o'] [b, c] pos) (e3 p p' fa fb fc) := by
  refine PE.imp (pe_chain ho ho' ha hb hc hm) fun σ H Q ⟨F, ε, E0, h⟩ => ⟨F, ε, E0, Do.bindF h fun x ε1 vx H1 F1 a1 h1 => ⟨F1, ε1, a1.eo, Do.bindF h1 fun y ε2 vy H2 F2 a2 h2 => ?_⟩⟩
  cases q : p x y with
  | none => rw [q] at h2; exact h2.elim
  | some s =>
    rw [q] at h2
    refine hp F2 H2 vx vy x y s _ a2.eo.sub (.inl (a1.rp.up a2.fs)) (.inl a2.rp) q fun v F3 H3 gr rs nw => ?_
    cases s with
    | un => exact rs.elim
    | ow d => exact h2.elim
    | fz d =>
      cases d with
      | bl k =>
        cases rs
        have e3 := a2.eo.grow gr
        cases k with
        | true =>
          refine ⟨true, rfl, iteT ⟨F3, ε2, e3, Do.bindF (Do.sub h2 gr.fs gr.frm) fun z ε4 vz H4 F4 a4 h4 => ?_⟩⟩
          obtain ⟨s, e, h5⟩ := ret_do h4
          exact hp' F4 H4 vy vz y z s Q a4.eo.sub (.inl (a2.rp.up (gr.fs.trans a4.fs))) (.inl a4.rp) e (h5.gives a4.eo)
        | false => exact ⟨false, rfl, iteF (h2 _ H3 F3 ⟨gr.fs, e3, .bl _, trivial, gr.frm, trivial⟩)⟩
      | _ => exact h2.elim

/-! ### subscripts -/
def ixD : D → D → Option D
  | .lst ds, .int i => atI ds i
  | .rol ds, .int i => atI ds i
  | .tup ds, .int i => atI ds i
  | .str x, .int i => if x.length ≤ sizeLine then (atI x.cps.toList i).map fun c => .str ⟨#[c]⟩ else none
  | .dct kds, y => (keyD y).bind fun k => valD kds k
  | _, _ => none
def oIx : D → D → Option Sl := fun x y => (ixD x y).map .fz
theorem RepL.atI {K : PySem.W.Frag} {F : Hp} {vs : List V} {ds : List D} {i : Int} {d : D} (r : RepL K F vs ds) (h : L2.atI ds i = some d) : ∃ v, L2.atI vs i = some v ∧ Rep K F v d := by
  unfold L2.atI at h ⊢
  rw [r.len]
  cases q : ixN ds.length i with
  | none => rw [q] at h; cases h
  | some j =>
    rw [q] at h
    simp only [Option.bind_some] at h ⊢
    exact r.at h
def rIxA (K : PySem.W.Frag) : R2 := fun x y H Q => rIx K x y H Q ∨ ∃ a v, x = .ref a ∧ DGet H a y (some v) ∧ Q v H
theorem ix_all {X : Cx} (hu : X.A.units + 1 < cLine) : IxR X (rIxA X.K) := by
  refine ix_seq.or ?_
  intro value slice pins s σ H x y v u Q I rx ry h hs
  obtain ⟨a, w, rfl, g, q⟩ := h
  cases rx
  exact tail_any (dict_typeIs I g) PySem.F.slot_dict_getitem.lookup (d_getItem hu I g ry fun w' s3 I3 rw' => ⟨w, H, I3, rw', q⟩) hs
theorem p_ix {K : PySem.W.Frag} : Prim2 K (rIxA K) oIx := by
  intro F H vx vy x y s Q sm rx ry e g
  unfold oIx at e
  simp only [Option.map_eq_some_iff] at e
  obtain ⟨d, h, rfl⟩ := e
  cases x with
  | lst ds =>
    cases y with
    | int i =>
      obtain ⟨p, vs, e1, h1, rl⟩ := rx.lst sm
      obtain ⟨v, h2, r2⟩ := rl.atI h
      exact .inl (.inl ⟨p, vs, i, v, e1, ry.int, SqL.of h1, h2, g.same sm r2⟩)
    | _ => cases h
  | rol ds =>
    cases y with
    | int i =>
      obtain ⟨p, vs, e1, h1, rl⟩ := rx.rol sm
      obtain ⟨v, h2, r2⟩ := rl.atI h
      exact .inl (.inl ⟨p, vs, i, v, e1, ry.int, h1, h2, g.same sm r2⟩)
    | _ => cases h
  | tup ds =>
    cases y with
    | int i =>
      obtain ⟨p, vs, e1, h1, rl⟩ := rx.tup sm
      obtain ⟨v, h2, r2⟩ := rl.atI h
      exact .inl (.inr (.inl ⟨p, vs, i, v, e1, ry.int, h1, h2, g.same sm r2⟩))
    | _ => cases h
  | str z =>
    cases y with
    | int i =>
      simp only [ixD] at h
      split at h
      · rename_i hz
        simp only [Option.map_eq_some_iff] at h
        obtain ⟨c, h1, rfl⟩ := h
        exact .inl (.inr (.inr ⟨z, i, c, rx.str, ry.int, hz, h1, g.same sm (.str _)⟩))
      · cases h
    | _ => cases h
  | dct kds =>
    have h : ((keyD y).bind fun k => valD kds k) = some d := by cases y <;> exact h
    simp only [Option.bind_eq_some_iff] at h
    obtain ⟨k, h1, h2⟩ := h
    obtain ⟨p, kvs, e1, h3, rk⟩ := rx.dct sm
    have e2 := keyD_ok ry h1
    rcases valV_rep k rk with ⟨a, b⟩ | ⟨v, d', a, b, r⟩
    · rw [b] at h2; cases h2
    · rw [b] at h2
      cases h2
      refine .inr ⟨p, v, e1, ?_, g.same sm r⟩
      rw [e2, ← a]
      exact DGet.k h3
  | _ => cases y <;> cases h
section
variable {X : Cx} {W : WX} {a b : Expr} {fa fb : FE} {pos : Pos} {i j : Nat}
theorem me_ix (hu : X.A.units + 1 < cLine) (ha : ME X W a fa) (hb : ME X W b fb) (hs : PlainIx b := by exact fun _ _ => rfl) : ME X W (.Subscript a b pos) (e2 oIx fa fb) :=
  PE.imp (pe_ix (ix_all hu) ha hb hs) fun _ _ _ h => e2_ok p_ix h
/-- of a name -/
theorem me_ixN (hu : X.A.units + 1 < cLine) (ha : PE X a (tVar i)) (hb : ME X W b fb) (hs : PlainIx b := by exact fun _ _ => rfl) : ME X W (.Subscript a b pos) (e2n oIx i fb) :=
  PE.imp (pe_ix (ix_all hu) ha hb hs) fun _ _ _ h => e2n_ok p_ix h
end

/-! ### built-ins of one value -/
def e1c (op : D → Option Sl) (fa : FE) : FE := e1 op fa
section
variable {X : Cx} {W : WX} {a : Expr} {fa : FE} {p pos : Pos} {i : Nat} {x : Str} {id : String} {r : List V → Hp → VK → Prop} {op : D → Option Sl}
/-- a rule for a call of one value -/
abbrev PrimC (K : PySem.W.Frag) (r : List V → Hp → VK → Prop) (op : D → Option Sl) : Prop := Prim1 K (fun v H Q => r [v] H Q) op
theorem me_b1 (hc : CallR X (.builtin id) r) (pr : PrimC X.K r op) (hg : Gl X x) (hm : X.mg x = none) (hv : bootBuiltins x = some (.builtin id)) (ha : ME X W a fa) (hn : x ≠ "__name__" := by decide) (hdb : (x == ("__debug__" : Str)) = false := by decide)
    (he : starEach [a] X.env = (false, eval a X.env) :: starEach [] X.env := by rfl) (hpl : (backTo pos (starEach [] X.env)).any (·.1) = false := by rfl) : ME X W (.Call (.Name x p) [a] [] pos) (e1 op fa) :=
  PE.imp (pe_callB hc hg hm hv (pa_cons ha pa_nil he) hn hdb he hpl) fun _ _ _ h => e1_ok pr h
theorem me_b1N (hc : CallR X (.builtin id) r) (pr : PrimC X.K r op) (hg : Gl X x) (hm : X.mg x = none) (hv : bootBuiltins x = some (.builtin id)) (ha : PE X a (tVar i)) (hn : x ≠ "__name__" := by decide) (hdb : (x == ("__debug__" : Str)) = false := by decide)
    (he : starEach [a] X.env = (false, eval a X.env) :: starEach [] X.env := by rfl) (hpl : (backTo pos (starEach [] X.env)).any (·.1) = false := by rfl) : ME X W (.Call (.Name x p) [a] [] pos) (e1n op i) :=
  PE.imp (pe_callB hc hg hm hv (pa_cons ha pa_nil he) hn hdb he hpl) fun _ _ _ h => e1n_ok pr h
theorem me_t1 (hc : CallR X (.type id) r) (pr : PrimC X.K r op) (hg : Gl X x) (hm : X.mg x = none) (hv : bootBuiltins x = some (.type id)) (ha : ME X W a fa) (hn : x ≠ "__name__" := by decide) (hdb : (x == ("__debug__" : Str)) = false := by decide)
    (he : starEach [a] X.env = (false, eval a X.env) :: starEach [] X.env := by rfl) (hpl : (backTo pos (starEach [] X.env)).any (·.1) = false := by rfl) : ME X W (.Call (.Name x p) [a] [] pos) (e1 op fa) :=
  PE.imp (pe_callTy hc hg hm hv (pa_cons ha pa_nil he) hn hdb he hpl) fun _ _ _ h => e1_ok pr h
end
def oLen : D → Option Sl
  | .lst ds => some (.fz (.int ds.length))
  | .rol ds => some (.fz (.int ds.length))
  | .tup ds => some (.fz (.int ds.length))
  | .str x => if x.length ≤ sizeLine then some (.fz (.int x.length)) else none
  | _ => none
def oAbs : D → Option Sl
  | .int i => some (.fz (.int (if i < 0 then -i else i)))
  | _ => none
def oToInt : D → Option Sl
  | .int i => some (.fz (.int i))
  | .bl k => some (.fz (.int (if k then 1 else 0)))
  | _ => none
def oToList : D → Option Sl
  | .lst ds => some (.ow (.lst ds))
  | .rol ds => some (.ow (.lst ds))
  | .tup ds => some (.ow (.lst ds))
  | _ => none
def oToTup : D → Option Sl
  | .lst ds => some (.fz (.tup ds))
  | .rol ds => some (.fz (.tup ds))
  | .tup ds => some (.fz (.tup ds))
  | _ => none
def bools : List D → Option (List Bool)
  | [] => some []
  | .bl b :: ds => (bools ds).map (b :: ·)
  | _ => none
def oAll : D → Option Sl
  | .lst ds => (bools ds).map fun bs => .fz (.bl (bs.all id))
  | _ => none
def oAny : D → Option Sl
  | .lst ds => (bools ds).map fun bs => .fz (.bl (bs.any id))
  | _ => none
theorem bools_ok {K : PySem.W.Frag} {F : Hp} : ∀ {vs : List V} {ds : List D} {bs : List Bool}, RepL K F vs ds → bools ds = some bs → vs = bs.map V.bl
  | _, _, _, .nil, h => by cases h; rfl
  | _, _, _, .cons (d := d) (ds := ds) r rr, h => by
    cases d with
    | bl b =>
      simp only [bools, Option.map_eq_some_iff] at h
      obtain ⟨bs, h1, rfl⟩ := h
      cases r
      rw [bools_ok rr h1]
      rfl
    | _ => cases h
section
variable {K : PySem.W.Frag}
theorem p_len : PrimC K (fun xs H Q => ∃ x n, xs = [x] ∧ LenV K x H n ∧ Q (.int n) H) oLen := by
  intro F H v d s Q sm rx e g
  cases d with
  | lst ds =>
    cases e
    obtain ⟨p, vs, rfl, h1, rl⟩ := rx.lst sm
    exact ⟨_, ds.length, rfl, .inl ⟨vs, SqL.of h1, rl.len.symm⟩, g.same sm (.int _)⟩
  | rol ds =>
    cases e
    obtain ⟨p, vs, rfl, h1, rl⟩ := rx.rol sm
    exact ⟨_, ds.length, rfl, .inl ⟨vs, h1, rl.len.symm⟩, g.same sm (.int _)⟩
  | tup ds =>
    cases e
    obtain ⟨p, vs, rfl, h1, rl⟩ := rx.tup sm
    exact ⟨_, ds.length, rfl, .inr ⟨vs, h1, rl.len.symm⟩, g.same sm (.int _)⟩
  | str x =>
    simp only [oLen] at e
    split at e
    · rename_i hz
      cases e
      cases rx.str
      exact ⟨_, x.length, rfl, ⟨hz, rfl⟩, g.same sm (.int _)⟩
    · cases e
  | _ => cases e
theorem p_abs : PrimC K (fun xs H Q => ∃ i, xs = [.int i] ∧ Q (.int (if i < 0 then -i else i)) H) oAbs := by
  intro F H v d s Q sm rx e g
  cases d with
  | int i => cases e; cases rx.int; exact ⟨i, rfl, g.same sm (.int _)⟩
  | _ => cases e
theorem p_toInt : PrimC K (fun xs H Q => (∃ i, xs = [.int i] ∧ Q (.int i) H) ∨ ∃ k, xs = [.bl k] ∧ Q (.int (if k then 1 else 0)) H) oToInt := by
  intro F H v d s Q sm rx e g
  cases d with
  | int i => cases e; cases rx.int; exact .inl ⟨i, rfl, g.same sm (.int _)⟩
  | bl i => cases e; cases rx.bl; exact .inr ⟨i, rfl, g.same sm (.int _)⟩
  | _ => cases e
theorem p_toList : PrimC K (fun xs H Q => ∃ p ys, xs = [.ref p] ∧ (SqL K H p ys ∨ SqT K H p ys) ∧ ∀ l, H l = none → Q (.ref l) (upd H l (.lst ys))) oToList := by
  intro F H v d s Q sm rx e g
  cases d with
  | lst ds =>
    cases e
    obtain ⟨p, vs, rfl, h1, rl⟩ := rx.lst sm
    exact ⟨p, vs, rfl, .inl (SqL.of h1), fun l hl => g.newO sm hl ⟨vs, rfl, rl⟩⟩
  | rol ds =>
    cases e
    obtain ⟨p, vs, rfl, h1, rl⟩ := rx.rol sm
    exact ⟨p, vs, rfl, .inl h1, fun l hl => g.newO sm hl ⟨vs, rfl, rl⟩⟩
  | tup ds =>
    cases e
    obtain ⟨p, vs, rfl, h1, rl⟩ := rx.tup sm
    exact ⟨p, vs, rfl, .inr h1, fun l hl => g.newO sm hl ⟨vs, rfl, rl⟩⟩
  | _ => cases e
theorem p_toTup : PrimC K (fun xs H Q => ∃ p ys, xs = [.ref p] ∧ ((SqL K H p ys ∧ ∀ l, H l = none → Q (.ref l) (upd H l (.tup ys))) ∨ (SqT K H p ys ∧ Q (.ref p) H))) oToTup := by
  intro F H v d s Q sm rx e g
  cases d with
  | lst ds =>
    cases e
    obtain ⟨p, vs, rfl, h1, rl⟩ := rx.lst sm
    exact ⟨p, vs, rfl, .inl ⟨SqL.of h1, fun l hl => g.new sm hl fun F' s' h' => .tup (SqT.of h') (rl.up s')⟩⟩
  | rol ds =>
    cases e
    obtain ⟨p, vs, rfl, h1, rl⟩ := rx.rol sm
    exact ⟨p, vs, rfl, .inl ⟨h1, fun l hl => g.new sm hl fun F' s' h' => .tup (SqT.of h') (rl.up s')⟩⟩
  | tup ds =>
    cases e
    rcases rx with rx | ⟨_, _, _, _, _, t⟩
    · cases rx with
      | tup h1 rl => exact ⟨_, _, rfl, .inr ⟨sqT_up sm h1, g.same sm (.tup h1 rl)⟩⟩
    · exact t.elim
  | _ => cases e
theorem p_all : PrimC K (rAll K) oAll := by
  intro F H v d s Q sm rx e g
  cases d with
  | lst ds =>
    simp only [oAll, Option.map_eq_some_iff] at e
    obtain ⟨bs, h, rfl⟩ := e
    obtain ⟨p, vs, rfl, h1, rl⟩ := rx.lst sm
    have := bools_ok rl h
    subst this
    exact ⟨p, bs, rfl, SqL.of h1, g.same sm (.bl _)⟩
  | _ => cases e
theorem p_any : PrimC K (rAny K) oAny := by
  intro F H v d s Q sm rx e g
  cases d with
  | lst ds =>
    simp only [oAny, Option.map_eq_some_iff] at e
    obtain ⟨bs, h, rfl⟩ := e
    obtain ⟨p, vs, rfl, h1, rl⟩ := rx.lst sm
    have := bools_ok rl h
    subst this
    exact ⟨p, bs, rfl, SqL.of h1, g.same sm (.bl _)⟩
  | _ => cases e
end

/-! ### built-ins of two values -/
section
variable {X : Cx} {W : WX} {a b : Expr} {fa fb : FE} {p pos : Pos} {x : Str} {id : String} {r : List V → Hp → VK → Prop} {op : D → D → Option Sl}
abbrev PrimC2 (K : PySem.W.Frag) (r : List V → Hp → VK → Prop) (op : D → D → Option Sl) : Prop := Prim2 K (fun v u H Q => r [v, u] H Q) op
theorem me_b2 (hc : CallR X (.builtin id) r) (pr : PrimC2 X.K r op) (hg : Gl X x) (hm : X.mg x = none) (hv : bootBuiltins x = some (.builtin id)) (ha : ME X W a fa) (hb : ME X W b fb) (hn : x ≠ "__name__" := by decide) (hdb : (x == ("__debug__" : Str)) = false := by decide)
    (he : starEach [a, b] X.env = (false, eval a X.env) :: starEach [b] X.env := by rfl) (he2 : starEach [b] X.env = (false, eval b X.env) :: starEach [] X.env := by rfl) (hpl : (backTo pos (starEach [b] X.env)).any (·.1) = false := by rfl) : ME X W (.Call (.Name x p) [a, b] [] pos) (e2 op fa fb) :=
  PE.imp (pe_callB hc hg hm hv (pa_cons ha (pa_cons hb pa_nil he2) he) hn hdb he hpl) fun _ _ _ h => e2_ok pr h
end
def oMax : D → D → Option Sl
  | .int i, .int j => some (.fz (.int (if j > i then j else i)))
  | _, _ => none
def oMin : D → D → Option Sl
  | .int i, .int j => some (.fz (.int (if j < i then j else i)))
  | _, _ => none
def oDivmod : D → D → Option Sl
  | .int i, .int j => if 0 < j ∧ j < 1073741824 then some (.fz (.tup [.int (i / j), .int (i % j)])) else none
  | _, _ => none
section
variable {K : PySem.W.Frag}
theorem p_max : PrimC2 K (fun xs H Q => ∃ i j, xs = [.int i, .int j] ∧ Q (.int (if j > i then j else i)) H) oMax := by
  intro F H vx vy x y s Q sm rx ry e g
  cases x with
  | int i =>
    cases y with
    | int j => cases e; cases rx.int; cases ry.int; exact ⟨i, j, rfl, g.same sm (.int _)⟩
    | _ => cases e
  | _ => cases e
theorem p_min : PrimC2 K (fun xs H Q => ∃ i j, xs = [.int i, .int j] ∧ Q (.int (if j < i then j else i)) H) oMin := by
  intro F H vx vy x y s Q sm rx ry e g
  cases x with
  | int i =>
    cases y with
    | int j => cases e; cases rx.int; cases ry.int; exact ⟨i, j, rfl, g.same sm (.int _)⟩
    | _ => cases e
  | _ => cases e
theorem p_divmod : PrimC2 K (fun xs H Q => ∃ i j, xs = [.int i, .int j] ∧ CDiv i j ∧ ∀ p, H p = none → Q (.ref p) (upd H p (.tup [.int (i / j), .int (i % j)]))) oDivmod := by
  intro F H vx vy x y s Q sm rx ry e g
  cases x with
  | int i =>
    cases y with
    | int j =>
      simp only [oDivmod] at e
      split at e
      · rename_i hz
        cases e
        cases rx.int
        cases ry.int
        exact ⟨i, j, rfl, hz, fun p hp => g.new sm hp fun F' s' h' => .tup (SqT.of h') (.cons (.int _) (.cons (.int _) .nil))⟩
      · cases e
    | _ => cases e
  | _ => cases e
end

/-! ### ranges -/
def iRng1 (f : FE) : FI := fun ε => bf (f ε) fun d ε1 => match d with
  | .int j => if -(2 ^ 62) ≤ j ∧ j < 2 ^ 62 then some (.v ((List.range j.toNat).map fun i => D.int (0 + (i : Nat))) ε1) else none
  | _ => none
def iRng2 (f g : FE) : FI := fun ε => bf (f ε) fun d ε1 => bf (g ε1) fun d2 ε2 => match d, d2 with
  | .int i, .int j => if (-(2 ^ 62) ≤ i ∧ i < 2 ^ 62) ∧ -(2 ^ 62) ≤ j ∧ j < 2 ^ 62 then some (.v ((List.range (j - i).toNat).map fun k => D.int (i + (k : Nat))) ε2) else none
  | _, _ => none
section
variable {X : Cx} {W : WX} {tg a b : Expr} {fa fb : FE} {p pos : Pos}
theorem mi_rng1 (hg : Gl X "range") (hm : X.mg "range" = none) (ha : ME X W a fa) (hs : starEach [a] X.env = [(false, eval a X.env)] := by rfl) : MI X W tg (.Call (.Name "range" p) [a] [] pos) (iRng1 fa) := by
  refine PI.imp (pi_range1 hg hm (pa_cons ha pa_nil hs) hs) fun σ H Q ⟨F, ε, E0, h⟩ => ⟨F, ε, E0, DoI.bindF h fun d ε1 v H1 F1 a1 h1 => ?_⟩
  cases d with
  | int j =>
    cases a1.rp
    simp only at h1
    split at h1
    · rename_i hz
      exact ⟨j, rfl, hz.1, hz.2, h1 _ H1 F1 ⟨.refl _, a1.eo, walkD_range rfl, .refl⟩⟩
    · exact h1.elim
  | _ => exact h1.elim
theorem mi_rng2 (hg : Gl X "range") (hm : X.mg "range" = none) (ha : ME X W a fa) (hb : ME X W b fb) (hs : starEach [a, b] X.env = [(false, eval a X.env), (false, eval b X.env)] := by rfl) (hs2 : starEach [b] X.env = [(false, eval b X.env)] := by rfl) : MI X W tg (.Call (.Name "range" p) [a, b] [] pos) (iRng2 fa fb) := by
  refine PI.imp (pi_range2 hg hm (pa_cons ha (pa_cons hb pa_nil hs2) (by rw [hs, hs2])) hs hs2) fun σ H Q ⟨F, ε, E0, h⟩ => ⟨F, ε, E0, DoI.bindF h fun d ε1 v H1 F1 a1 h1 => ⟨F1, ε1, a1.eo, DoI.bindF h1 fun d2 ε2 v2 H2 F2 a2 h2 => ?_⟩⟩
  cases d with
  | int i =>
    cases d2 with
    | int j =>
      cases a1.rp
      cases a2.rp
      simp only at h2
      split at h2
      · rename_i hz
        exact ⟨i, j, rfl, ⟨hz.1.1, hz.1.2, hz.2.1, hz.2.2⟩, h2 _ H2 F2 ⟨.refl _, a2.eo, walkD_range rfl, .refl⟩⟩
      · exact h2.elim
    | _ => exact h2.elim
  | _ => exact h2.elim
end
end Mi

namespace Mi
open PySem PySem.Spec PyProof.Rows L2

/-! ### an owned thing is changed -/
theorem EOk.write {K : PySem.W.Frag} {F H : Hp} {σ : St} {ε : En} {i : Nat} {d d' : D} {a : Addr} {o : HO} (e : EOk K F H σ ε) (h : ε[i]? = some (.ow d)) (hv : σ[i]? = some (some (.ref a))) (t : Top K F o d') :
    EOk K F (upd H a o) σ (ε.set i (.ow d')) ∧ Frm σ ε F H σ (ε.set i (.ow d')) F (upd H a o) := by
  obtain ⟨w, hw, b, u, rfl, h1, h2, _⟩ := e.val i _ h (by simp)
  rw [hv] at hw
  cases hw
  have il : i < ε.length := (List.getElem?_eq_some_iff.mp h).1
  have cse : ∀ (j : Nat) (s : Sl), (ε.set i (.ow d'))[j]? = some s → (j = i ∧ s = .ow d') ∨ (j ≠ i ∧ ε[j]? = some s) := fun j s q => by
    by_cases hj : j = i
    · subst hj
      rw [List.getElem?_set_self il] at q
      cases q
      exact .inl ⟨rfl, rfl⟩
    · rw [List.getElem?_set_ne (Ne.symm hj)] at q
      exact .inr ⟨hj, q⟩
  have old : ∀ (j : Nat) (x : D), (ε.set i (.ow d'))[j]? = some (.ow x) → ∃ y, ε[j]? = some (.ow y) := fun j x q => by
    rcases cse j _ q with ⟨rfl, _⟩ | ⟨_, q⟩
    · exact ⟨d, h⟩
    · exact ⟨x, q⟩
  refine ⟨⟨fun c z q => ?_, by rw [e.len]; simp, fun j s q n => ?_, fun j k x y v q1 q2 q3 q4 => ?_⟩, fun c z ob => ?_⟩
  · rw [upd_ne (fun q' => by rw [q', h1] at q; cases q)]
    exact e.sub c z q
  · rcases cse j s q with ⟨rfl, rfl⟩ | ⟨hj, q⟩
    · exact ⟨_, hv, a, o, rfl, h1, upd_same, t⟩
    · obtain ⟨v, hv2, r⟩ := e.val j s q n
      refine ⟨v, hv2, ?_⟩
      cases s with
      | un => exact r
      | fz x => exact r
      | ow x =>
        obtain ⟨c, z, rfl, k1, k2, t2⟩ := r
        have nc : c ≠ a := fun q' => hj (e.inj j i x d _ q h hv2 (by rw [q']; exact hv))
        exact ⟨c, z, rfl, k1, by rw [upd_ne nc]; exact k2, t2⟩
  · obtain ⟨x', q1'⟩ := old j x q1
    obtain ⟨y', q2'⟩ := old k y q2
    exact e.inj j k x' y' v q1' q2' q3 q4
  · have nc : c ≠ a := fun q => ob.no i d h (by rw [hv, q])
    refine ⟨ob.nf, by rw [upd_ne nc]; exact ob.at_, fun j x q => ?_⟩
    obtain ⟨y, q⟩ := old j x q
    exact ob.no j y q

/-- a method of an owned list, with data: what it gives, what the list becomes -/
def eMut (op : List D → List D → Option (D × List D)) (i : Nat) (fa : FAr) : FE := fun ε => match ε[i]? with
  | some (.ow (.lst _)) => bnd (fa ε) fun ss ε1 => (match ε1[i]?, asD ss with
    | some (.ow (.lst xs)), some ds => (match op xs ds with
      | some r => some (.v (.fz r.1) (ε1.set i (.ow (.lst r.2))))
      | none => none)
    | _, _ => none)
  | _ => none
/-- what such a method's rule is of data -/
def PrimM (K : PySem.W.Frag) (r : V → List V → Hp → VK → Prop) (op : List D → List D → Option (D × List D)) : Prop := ∀ F H a vs us xs ds d ys Q, Same F H → H a = some (.lst vs) → RepL K F vs xs → RepL K F us ds → op xs ds = some (d, ys) →
  (∀ v ws, Rep K F v d → RepL K F ws ys → Q v (upd H a (.lst ws))) → r (.ref a) us H Q
section
variable {X : Cx} {W : WX} {o e : Expr} {es : List Expr} {i : Nat} {fa : FAr} {name : Str} {apos cpos : Pos} {id : String} {r : V → List V → Hp → VK → Prop} {op : List D → List D → Option (D × List D)}
theorem mut_core {σ : St} {H : Hp} {Q : VK} (p : PrimM X.K r op) (h : tM X.K W (eMut op i fa) σ H Q) : ∃ v, σ[i]? = some (some v) ∧ tyV X.K "list" v H ∧ tMA X.K W fa σ H fun vs H2 => r v vs H2 Q := by
  obtain ⟨F, ε, E0, h⟩ := h
  unfold eMut at h
  split at h
  · rename_i xs0 q0
    obtain ⟨v, hv, a, o, rfl, k1, k2, us, rfl, _⟩ := E0.val i _ q0 (by simp)
    refine ⟨_, hv, .inl ⟨rfl, us, SqL.of k2⟩, F, ε, E0, DoA.bindE h fun ss ε1 vs H1 F1 b h1 => ?_⟩
    split at h1
    · rename_i xs ds q1 q2
      obtain ⟨w, hw, a', o', rfl, l1, l2, us', rfl, rl⟩ := b.eo.val i _ q1 (by simp)
      rw [hv] at hw
      cases hw
      cases qo : op xs ds with
      | none => rw [qo] at h1; exact h1.elim
      | some rr =>
        obtain ⟨d, ys⟩ := rr
        rw [qo] at h1
        refine p F1 H1 a us' vs xs ds d ys Q b.eo.sub l2 rl (b.ok.rep q2) qo fun v ws rv rw' => ?_
        obtain ⟨e2, f2⟩ := b.eo.write (o := .lst ws) (d' := .lst ys) q1 hv ⟨ws, rfl, rw'⟩
        exact h1 v _ F1 ⟨.refl _, e2, rv, trivial, f2, trivial⟩
    · exact h1.elim
  · exact h.elim
theorem me_mut (slot : Slot "list" name id) (hty : typeOf (.builtin id) = pure (.type "method_descriptor")) (hm : MtM X id r) (p : PrimM X.K r op) (ho : PE X o (tVar i)) (ha : MA X W (e :: es) fa)
    (hbase : attributeBase o name X.env (eval o X.env) = eval o X.env := by rfl)
    (hfew : ((backTo cpos (starEach (e :: es) X.env)).all (fun x => !x.1) && (backToKw cpos (keywordEach [] X.env)).all (fun x => x.1.isSome) && decide ((e :: es).length + ([] : List Keyword).length + (if ([] : List Keyword).isEmpty then 0 else 1) < 30)) = true := by rfl)
    (hline : (apos.endLine == cpos.line) = true := by rfl) (hs : starEach (e :: es) X.env = (false, eval e X.env) :: starEach es X.env := by rfl) (hplain : (backTo cpos (starEach es X.env)).any (·.1) = false := by rfl) :
    ME X W (.Call (.Attribute o name apos) (e :: es) [] cpos) (eMut op i fa) :=
  PE.imp (pe_bm PySem.F.plainAttrs_list slot hty hm ho ha hbase hfew hline hs hplain) fun _ _ _ h => by
    obtain ⟨v, h1, h2, h3⟩ := mut_core p h
    exact ⟨v, h1, h2, h3⟩
theorem me_mut0 (slot : Slot "list" name id) (hty : typeOf (.builtin id) = pure (.type "method_descriptor")) (hm : MtM X id r) (p : PrimM X.K r op) (ho : PE X o (tVar i))
    (hbase : attributeBase o name X.env (eval o X.env) = eval o X.env := by rfl) (hline : (apos.endLine == cpos.line) = true := by rfl) :
    ME X W (.Call (.Attribute o name apos) [] [] cpos) (eMut op i aNil) :=
  PE.imp (pe_bm0 PySem.F.plainAttrs_list slot hty hm ho hbase hline) fun _ _ _ h => by
    obtain ⟨v, h1, h2, F, ε, E0, h3⟩ := mut_core p h
    exact ⟨v, h1, h2, h3 [] _ F ⟨.refl _, E0, .nil, .refl, fun p v d z _ => by simp at z⟩⟩
end
def mAppend : List D → List D → Option (D × List D)
  | xs, [d] => if xs.length < sizeLine then some (.non, xs ++ [d]) else none
  | _, _ => none
def mPop0 : List D → List D → Option (D × List D)
  | xs, [] => (xs[xs.length - 1]?).map fun d => (d, xs.dropLast)
  | _, _ => none
def mPop : List D → List D → Option (D × List D)
  | xs, [.int i] => if -(2 ^ 63) ≤ i ∧ i < 2 ^ 63 then (seqIndex? i xs.length).bind fun k => (xs[k]?).map fun d => (d, xs.eraseIdx k) else none
  | _, _ => none
def mReverse : List D → List D → Option (D × List D)
  | xs, [] => some (.non, xs.reverse)
  | _, _ => none
def mClear : List D → List D → Option (D × List D)
  | _, [] => some (.non, [])
  | _, _ => none
theorem RepL.rev {K : PySem.W.Frag} {F : Hp} : ∀ {vs : List V} {ds : List D}, RepL K F vs ds → RepL K F vs.reverse ds.reverse
  | _, _, .nil => .nil
  | _, _, .cons h r => by
    rw [List.reverse_cons, List.reverse_cons]
    exact (RepL.rev r).app (.cons h .nil)
theorem RepL.erase {K : PySem.W.Frag} {F : Hp} : ∀ {vs : List V} {ds : List D} (k : Nat), RepL K F vs ds → RepL K F (vs.eraseIdx k) (ds.eraseIdx k)
  | _, _, _, .nil => .nil
  | _, _, 0, .cons _ r => r
  | _, _, k + 1, .cons h r => .cons h (RepL.erase k r)
theorem RepL.dlast {K : PySem.W.Frag} {F : Hp} {vs : List V} {ds : List D} (r : RepL K F vs ds) : RepL K F vs.dropLast ds.dropLast := by
  rw [List.dropLast_eq_take, List.dropLast_eq_take, r.len]
  exact r.taken _
section
variable {K : PySem.W.Frag}
theorem p_append : PrimM K rAppend mAppend := by
  intro F H a vs us xs ds d ys Q sm h1 rl ru e k
  cases ru with
  | nil => cases e
  | @cons u us' d0 ds' r0 rr =>
    cases rr with
    | cons => cases e
    | nil =>
      simp only [mAppend] at e
      split at e
      · rename_i hz
        cases e
        exact ⟨a, vs, u, rfl, rfl, h1, by rw [rl.len]; exact hz, k _ _ .non (rl.app (.cons r0 .nil))⟩
      · cases e
theorem p_pop0 : PrimM K rPop mPop0 := by
  intro F H a vs us xs ds d ys Q sm h1 rl ru e k
  cases ru with
  | nil =>
    simp only [mPop0, Option.map_eq_some_iff] at e
    obtain ⟨d0, e1, e2⟩ := e
    cases e2
    rw [← rl.len] at e1
    obtain ⟨v, hv, rv⟩ := rl.at e1
    exact ⟨a, vs, v, rfl, rfl, h1, hv, k _ _ rv rl.dlast⟩
  | cons => cases e
theorem p_pop : PrimM K rPopAt mPop := by
  intro F H a vs us xs ds d ys Q sm h1 rl ru e k
  cases ru with
  | nil => cases e
  | @cons u us' d0 ds' r0 rr =>
    cases rr with
    | cons => cases d0 <;> cases e
    | nil =>
      cases d0 with
      | int i =>
        simp only [mPop] at e
        split at e
        · rename_i hz
          simp only [Option.bind_eq_some_iff, Option.map_eq_some_iff] at e
          obtain ⟨j, e1, d1, e2, e3⟩ := e
          cases e3
          cases r0
          obtain ⟨v, hv, rv⟩ := rl.at e2
          exact ⟨a, vs, i, j, v, rfl, rfl, h1, hz.1, hz.2, by rw [rl.len]; exact e1, hv, k _ _ rv (rl.erase j)⟩
        · cases e
      | _ => cases e
theorem p_reverse : PrimM K rReverse mReverse := by
  intro F H a vs us xs ds d ys Q sm h1 rl ru e k
  cases ru with
  | nil => cases e; exact ⟨a, vs, rfl, rfl, h1, k _ _ .non rl.rev⟩
  | cons => cases e
theorem p_clear : PrimM K rClear mClear := by
  intro F H a vs us xs ds d ys Q sm h1 rl ru e k
  cases ru with
  | nil => cases e; exact ⟨a, vs, rfl, rfl, h1, k _ _ .non .nil⟩
  | cons => cases e
end

/-! ### x[k] = v, x an owned list -/
def gIx (i : Nat) (fk : FE) : FG := fun d ε => match ε[i]? with
  | some (.ow (.lst _)) => (match fk ε with
    | some (.v (.fz (.int k)) ε1) => (match ε1[i]? with
      | some (.ow (.lst xs)) => (match ixN xs.length k with
        | some j => some (ε1.set i (.ow (.lst (xs.set j d))))
        | none => none)
      | _ => none)
    | _ => none)
  | _ => none
theorem mg_ix {X : Cx} {o k : Expr} {i : Nat} {fk : FE} {pos : Pos} (ho : PE X o (tVar i)) (hk : ME X W0 k fk)
    (ha : ∀ v, assign (.Subscript o k pos) X.env v = (do
      let ov ← holding [v] (eval o X.env)
      let iv ← holding [v, ov] (eval k X.env)
      standAt pos
      holding [v, ov, iv] (setItem ov iv v)
      release [v, ov, iv] []) := by intro _; rfl) : MG X [] (.Subscript o k pos) (gIx i fk) := by
  refine PG.imp (pg_sub ho hk set_list ha) fun v σ H Q ⟨F, ε, d, ε', E0, r, e, kk⟩ => ?_
  unfold gIx at e
  split at e
  · rename_i xs0 q0
    obtain ⟨w, hw, _⟩ := E0.val i _ q0 (by simp)
    refine ⟨w, hw, F, ε, E0, ?_⟩
    split at e
    · rename_i n ε1 qf
      rw [qf]
      intro vi H1 F1 a1
      split at e
      · rename_i xs q1
        split at e
        · rename_i j hj
          cases e
          obtain ⟨w', hw', a, o, rfl, l1, l2, us, rfl, rl⟩ := a1.eo.val i _ q1 (by simp)
          cases a1.rs
          rw [hw'] at hw
          cases hw
          obtain ⟨e2, f2⟩ := a1.eo.write (o := .lst (us.set j v)) (d' := .lst (xs.set j d)) q1 hw' ⟨_, rfl, rl.put (r.up a1.fs) j⟩
          exact ⟨a, us, n, j, rfl, rfl, l2, by rw [rl.len]; exact hj, kk σ _ F1 a1.fs e2 .refl (a1.fr.trans f2)⟩
        · cases e
      · cases e
    · cases e
  · cases e

/-! ### target = value, any target -/
def sAsg (g : FG) (f : FE) : FS := fun ε => match f ε with
  | some (.v (.fz d) ε1) => (match g d ε1 with
    | some ε2 => some (.nx ε2)
    | none => none)
  | some (.v (.ow d) ε1) => (match g d ε1 with
    | some ε2 => some (.nx ε2)
    | none => none)
  | some (.x c gs ε1) => some (.ex c gs ε1)
  | _ => none
theorem ms_asg {X : Cx} {W : WX} {np : Nat} {ts : List Nat} {tg e : Expr} {g : FG} {f : FE} {pos : Pos} (h : ME X W e f) (hg : MG X ts tg g) (hts : ts.all (fun i => decide (np ≤ i)) = true := by rfl) (hs : swapsWithSole [tg] e pos.line X.env = pure false := by rfl) (hw : swappedStores [tg] e X.env = pure none := by rfl)
    (h1 : (assignEach [tg] X.env).map (·.2) = [assign tg X.env] := by rfl) : MS X W np (.Assign [tg] e pos) (sAsg g f) := by
  refine PS.imp (ps_asg h hg hs hw h1) fun Z σ H ⟨F, ε, E0, h⟩ => ⟨F, ε, E0, ?_⟩
  unfold sAsg at h
  cases q : f ε with
  | none => rw [q] at h; exact h.elim
  | some r =>
    rw [q] at h
    cases r with
    | x c gs ε1 => exact DoS.exx h
    | v s ε1 =>
      intro v H1 F1 a
      have fin : ∀ d, (s = .fz d ∨ s = .ow d) → DoS X.K W np σ ε F H (match g d ε1 with
        | some ε2 => some (.nx ε2)
        | none => none) Z → tMG X.K ts g v σ H1 Z.nx := fun d hd h => by
        obtain ⟨F2, a2⟩ := a.data hd
        cases qg : g d ε1 with
        | none => rw [qg] at h; exact h.elim
        | some ε2 =>
          rw [qg] at h
          exact ⟨F2, ε1, d, ε2, a2.eo, a2.rp, qg, fun σ3 H3 F3 s3 e3 k3 f3 => h σ3 H3 F3 (a2.fs.trans s3) e3 (k3.p hts) (a2.fr.trans f3)⟩
      cases s with
      | un => exact h.elim
      | fz d => exact fin d (.inl rfl) h
      | ow d => exact fin d (.inr rfl) h

/-! ### a, b, .. = e1, e2, .. : values that keep what they own -/
abbrev FK := En → Option (R (List Sl))
/-- values that no slot owns, and no two the same -/
inductive Tmps (K : PySem.W.Frag) (σ : St) (ε : En) (F H : Hp) : List V → List Sl → Prop
  | nil : Tmps K σ ε F H [] []
  | cons {v : V} {s : Sl} {vs : List V} {ss : List Sl} : RepS K F H v s → Apart σ ε v s → (∀ (d d' : D) (p : Nat), s = .ow d → vs[p]? = some v → ss[p]? ≠ some (.ow d')) → Tmps K σ ε F H vs ss → Tmps K σ ε F H (v :: vs) (s :: ss)
structure AftK (K : PySem.W.Frag) (σ : St) (ε : En) (F H F' H' : Hp) (ε' : En) (vs : List V) (ss : List Sl) : Prop where
  fs : Same F F'
  eo : EOk K F' H' σ ε'
  tm : Tmps K σ ε' F' H' vs ss
  fr : Frm σ ε F H σ ε' F' H'
  mi : ∀ (p : Nat) (v : V) (s : Sl), vs[p]? = some v → ss[p]? = some s → Mine σ ε F H v s
def DoK (K : PySem.W.Frag) (W : WX) (σ : St) (ε : En) (F H : Hp) (r : Option (R (List Sl))) (Q : List V → Hp → Prop) : Prop := match r with
  | none => False
  | some (.v ss ε') => ∀ vs H' F', AftK K σ ε F H F' H' ε' vs ss → Q vs H'
  | some (.x c gs ε') => ∀ d H' F', AftX K σ ε F H F' H' ε' d gs → W (.ref (He.ga K c)) (some d) σ H'
def tMK (K : PySem.W.Frag) (W : WX) (f : FK) : TA := fun σ H Q => ∃ F ε, EOk K F H σ ε ∧ DoK K W σ ε F H (f ε) Q
abbrev MK (X : Cx) (W : WX) (es : List Expr) (f : FK) : Prop := PA X es (tMK X.K W f)
def kNil : FK := fun ε => some (.v [] ε)
def kCons (f : FE) (g : FK) : FK := fun ε => bnd (f ε) fun s ε1 => bnd (g ε1) fun ss ε2 => some (.v (s :: ss) ε2)
theorem DoK.sub {K : PySem.W.Frag} {W : WX} {σ : St} {ε ε1 : En} {F H F1 H1 : Hp} {r : Option (R (List Sl))} {Q : List V → Hp → Prop} (h : DoK K W σ ε F H r Q) (s : Same F F1) (fr : Frm σ ε F H σ ε1 F1 H1) : DoK K W σ ε1 F1 H1 r Q := by
  cases r with
  | none => exact h
  | some q =>
    cases q with
    | v ss ε2 => exact fun vs H2 F2 a => h vs H2 F2 ⟨s.trans a.fs, a.eo, a.tm, fr.trans a.fr, fun p v d h1 h2 => (a.mi p v d h1 h2).pre fr⟩
    | x c gs ε2 => exact fun d H2 F2 a2 => h d H2 F2 (a2.then s fr)
section
variable {X : Cx} {W : WX} {es : List Expr} {e : Expr}
theorem mk_nil : MK X W [] kNil := PA.imp pa_nil fun σ H Q ⟨F, ε, E0, h⟩ => h [] H F ⟨.refl _, E0, .nil, .refl, fun p v d h1 _ => by simp at h1⟩
theorem DoK.bindS {K : PySem.W.Frag} {σ : St} {ε : En} {F H : Hp} {r : Option (R Sl)} {k : Sl → En → Option (R (List Sl))} {Q : List V → Hp → Prop} {G : VK} (h : DoK K W σ ε F H (bnd r k) Q)
    (g : ∀ s ε1 v H1 F1, Aft K σ ε F H F1 H1 ε1 v s → DoK K W σ ε F H (k s ε1) Q → G v H1) : Do K W σ ε F H r G := by
  cases r with
  | none => exact h
  | some r =>
    cases r with
    | x c fs ε1 => exact h
    | v s ε1 => exact fun v H1 F1 a => g s ε1 v H1 F1 a h
theorem DoK.bind {K : PySem.W.Frag} {σ : St} {ε ε1 : En} {F H F1 H1 : Hp} {r : Option (R (List Sl))} {k : List Sl → En → Option (R (List Sl))} {Q G : List V → Hp → Prop} (h : DoK K W σ ε F H (bnd r k) Q) (s : Same F F1) (fr : Frm σ ε F H σ ε1 F1 H1)
    (g : ∀ ss ε2 vs H2 F2, AftK K σ ε1 F1 H1 F2 H2 ε2 vs ss → DoK K W σ ε F H (k ss ε2) Q → G vs H2) : DoK K W σ ε1 F1 H1 r G := by
  cases r with
  | none => exact h
  | some r =>
    cases r with
    | x c fs ε1 => exact fun d H2 F2 a => h d H2 F2 (a.then s fr)
    | v b ε1 => exact fun vs H1 F1 a => g b ε1 vs H1 F1 a h
/-- an owned value behind another reckoning -/
theorem Aft.oth {K : PySem.W.Frag} {σ : St} {ε : En} {F H F' H' : Hp} {ε' : En} {v : V} {d : D} (a : Aft K σ ε F H F' H' ε' v (.ow d)) : ∃ b o, v = .ref b ∧ Oth σ ε' F' H' b o ∧ Top K F' o d := by
  obtain ⟨b, o, rfl, h1, h2, t⟩ := a.rs
  exact ⟨b, o, rfl, ⟨h1, h2, fun i x q => a.ap i x q⟩, t⟩
theorem mk_cons {f : FE} {g : FK} (h : ME X W e f) (h2 : MK X W es g) (hs : starEach (e :: es) X.env = (false, eval e X.env) :: starEach es X.env := by rfl) : MK X W (e :: es) (kCons f g) := by
  refine PA.imp (pa_cons h h2 hs) fun σ H Q ⟨F, ε, E0, h⟩ => ⟨F, ε, E0, DoK.bindS h fun s ε1 v H1 F1 a h1 => ⟨F1, ε1, a.eo, DoK.bind h1 a.fs a.fr fun ss ε2 vs H2 F2 b h2 => ?_⟩⟩
  have key : RepS X.K F2 H2 v s ∧ Apart σ ε2 v s ∧ ∀ (d d' : D) (p : Nat), s = .ow d → vs[p]? = some v → ss[p]? ≠ some (.ow d') := by
    cases s with
    | un => exact a.rs.elim
    | fz d => exact ⟨Rep.up b.fs a.rs, trivial, fun _ _ _ z => by cases z⟩
    | ow d =>
      obtain ⟨c, o, rfl, oc, t⟩ := a.oth
      have z := b.fr c o oc
      exact ⟨⟨c, o, rfl, z.nf, z.at_, t.up b.fs⟩, fun i x q => z.no i x q, fun _ d' p _ q1 q2 => b.mi p _ _ q1 q2 c o oc rfl⟩
  refine h2 (v :: vs) H2 F2 ⟨a.fs.trans b.fs, b.eo, .cons key.1 key.2.1 key.2.2 b.tm, a.fr.trans b.fr, fun p u s' q1 q2 => ?_⟩
  cases p with
  | zero => simp at q1 q2; subst q1; subst q2; exact a.mi
  | succ p => exact (b.mi p u s' (by simpa using q1) (by simpa using q2)).pre a.fr
end
def setE : En → List Nat → List Sl → En
  | ε, i :: is, s :: ss => setE (ε.set i s) is ss
  | ε, _, _ => ε
def setS : St → List Nat → List V → St
  | σ, i :: is, v :: vs => setS (σ.set i (some v)) is vs
  | σ, _, _ => σ
/-- all are stored -/
theorem Tmps.put {K : PySem.W.Frag} {F H : Hp} : ∀ {is : List Nat} {vs : List V} {ss : List Sl} {σ : St} {ε : En}, EOk K F H σ ε → Tmps K σ ε F H vs ss → EOk K F H (setS σ is vs) (setE ε is ss)
  | [], _, _, _, _, e, _ => by cases ‹Tmps ..› <;> exact e
  | _ :: _, _, _, _, _, e, .nil => e
  | i :: is, _, _, σ, ε, e, .cons (v := v) (s := s) r ap df t => by
    have e2 := e.put (i := i) r ap
    refine Tmps.put (is := is) e2 ?_
    clear r
    have step : ∀ {ws : List V} {ts : List Sl}, Tmps K σ ε F H ws ts → (∀ (d d' : D) (p : Nat), s = .ow d → ws[p]? = some v → ts[p]? ≠ some (.ow d')) → Tmps K (σ.set i (some v)) (ε.set i s) F H ws ts := by
      intro ws ts tt
      induction tt with
      | nil => exact fun _ => .nil
      | @cons w u ws ts r' ap' df' tt ih =>
        intro dd
        refine .cons r' ?_ df' (ih fun d d' p e1 e2 => by simpa using dd d d' (p + 1) e1 (by simpa using e2))
        cases u with
        | ow x =>
          intro j y hj hv
          by_cases hji : j = i
          · subst hji
            have l := (List.getElem?_eq_some_iff.mp hj).1
            rw [List.length_set] at l
            rw [List.getElem?_set_self l] at hj
            rw [List.getElem?_set_self (by rw [e.len]; exact l)] at hv
            have hv := Option.some.inj (Option.some.inj hv)
            subst hv
            exact dd y x 0 (Option.some.inj hj) rfl rfl
          · rw [List.getElem?_set_ne (Ne.symm hji)] at hj hv
            exact ap' j y hj hv
        | _ => exact trivial
    exact step t df
theorem setS_keep {np : Nat} : ∀ {is : List Nat} {vs : List V} {σ : St}, is.all (fun i => decide (np ≤ i)) = true → KeepP np σ (setS σ is vs)
  | [], _, _, _ => .refl
  | _ :: _, [], _, _ => .refl
  | i :: is, v :: vs, σ, h => by
    simp only [List.all_cons, Bool.and_eq_true, decide_eq_true_eq] at h
    exact (keep_set h.1).trans (setS_keep (is := is) (by simpa using h.2))
theorem Tmps.len {K : PySem.W.Frag} {σ : St} {ε : En} {F H : Hp} : ∀ {vs : List V} {ss : List Sl}, Tmps K σ ε F H vs ss → vs.length = ss.length
  | _, _, .nil => rfl
  | _, _, .cons _ _ _ t => by simp [t.len]
theorem frm_put {F0 H0 F H : Hp} {σ0 : St} {ε0 : En} : ∀ {is : List Nat} {vs : List V} {ss : List Sl} {σ : St} {ε : En}, vs.length = ss.length → σ.length = ε.length → (∀ (p : Nat) (v : V) (s : Sl), vs[p]? = some v → ss[p]? = some s → Mine σ0 ε0 F0 H0 v s) → Frm σ0 ε0 F0 H0 σ ε F H → Frm σ0 ε0 F0 H0 (setS σ is vs) (setE ε is ss) F H
  | [], _, [], _, _, _, _, _, f => f
  | [], _, _ :: _, _, _, _, _, _, f => f
  | _ :: _, [], [], _, _, _, _, _, f => f
  | i :: is, v :: vs, s :: ss, σ, ε, ll, hl, mi, f => by
    refine frm_put (is := is) (by simpa using ll) (by simp [hl]) (fun p u s' h1 h2 => mi (p + 1) u s' (by simpa using h1) (by simpa using h2)) fun c o oc => ?_
    have z := f c o oc
    refine ⟨z.nf, z.at_, fun j d hj hv => ?_⟩
    by_cases hji : j = i
    · subst hji
      have l := (List.getElem?_eq_some_iff.mp hj).1
      rw [List.length_set] at l
      rw [List.getElem?_set_self l] at hj
      cases hj
      rw [List.getElem?_set_self (by rw [hl]; exact l)] at hv
      exact mi 0 v _ rfl rfl c o oc (Option.some.inj (Option.some.inj hv))
    · rw [List.getElem?_set_ne (Ne.symm hji)] at hj hv
      exact z.no j d hj hv
def sPar (is : List Nat) (f : FK) : FS := fun ε => match f ε with
  | some (.v ss ε1) => if ss.length = is.length then some (.nx (setE ε1 is ss)) else none
  | some (.x c gs ε1) => some (.ex c gs ε1)
  | none => none
/-- behind the values: the slots hold them, whatever loose thing was laid -/
theorem par_core {K : PySem.W.Frag} {W : WX} {np : Nat} {is : List Nat} {f : FK} {Z : Ends} {σ : St} {H : Hp} (hn : is.all (fun i => decide (np ≤ i)) = true) (h : sM K W np (sPar is f) Z σ H) :
    tMK K W f σ H fun vs H1 => vs.length = is.length ∧ Z.nx (setS σ is vs) H1 ∧ ∀ p o, H1 p = none → Z.nx (setS σ is vs) (upd H1 p o) := by
  obtain ⟨F, ε, E0, h⟩ := h
  refine ⟨F, ε, E0, ?_⟩
  unfold sPar at h
  cases q : f ε with
  | none => rw [q] at h; exact h
  | some r =>
    rw [q] at h
    cases r with
    | x c gs ε1 => exact DoS.exx h
    | v ss ε1 =>
      intro vs H1 F1 a
      have h : DoS K W np σ ε F H (if ss.length = is.length then some (.nx (setE ε1 is ss)) else none) Z := h
      split at h
      · rename_i hl
        refine ⟨by rw [a.tm.len]; exact hl, h _ H1 F1 a.fs (a.tm.put a.eo) (setS_keep hn) (frm_put a.tm.len a.eo.len a.mi a.fr), fun p o hp => ?_⟩
        have g : Gr F1 H1 F1 (upd H1 p o) := Gr.loose a.eo.sub hp
        exact h _ _ F1 a.fs ((a.tm.put a.eo).grow g) (setS_keep hn) ((frm_put a.tm.len a.eo.len a.mi a.fr).trans g.frm)
      · exact h.elim
section
variable {X : Cx} {W : WX} {np : Nat} {i j l : Nat} {x y z : Str} {a b c : Expr} {f : FK} {px py pz pt pos : Pos} {kt k2 : Nat} {pt2 : Pos}
theorem ms_par (hc : X.calm = true) (hN : X.N.Nodup) (hi : X.N[i]? = some x) (hj : X.N[j]? = some y) (hij : i ≠ j) (hx : X.env.scope.names.lookup x = some .local) (hy : X.env.scope.names.lookup y = some .local) (ha : MK X W [a, b] f)
    (hw : swappedStores [.Tuple [.Name x px, .Name y py] kt pt] (.Tuple [a, b] k2 pt2) X.env = pure (some [x, y])) (hnp : [i, j].all (fun i => decide (np ≤ i)) = true := by rfl)
    (hs : swapsWithSole [.Tuple [.Name x px, .Name y py] kt pt] (.Tuple [a, b] k2 pt2) pos.line X.env = pure false := by rfl) :
    MS X W np (.Assign [.Tuple [.Name x px, .Name y py] kt pt] (.Tuple [a, b] k2 pt2) pos) (sPar [i, j] f) := by
  refine PS.imp (ps_par hc hN hi hj hij hx hy ha hw hs) fun Z σ H h => ?_
  obtain ⟨F, ε, E0, h⟩ := par_core hnp h
  refine ⟨F, ε, E0, ?_⟩
  revert h
  cases f ε with
  | none => exact fun h => h
  | some r =>
    cases r with
    | x c gs ε1 => exact fun h => h
    | v ss ε1 =>
      intro h vs H1 F1 a
      obtain ⟨h1, h2, _⟩ := h vs H1 F1 a
      match vs, h1, h2 with
      | [v, w], _, h2 => exact ⟨v, w, rfl, h2⟩
theorem ms_par3 (hc : X.calm = true) (hN : X.N.Nodup) (hi : X.N[i]? = some x) (hj : X.N[j]? = some y) (hl : X.N[l]? = some z) (hij : i ≠ j) (hil : i ≠ l) (hjl : j ≠ l) (hx : X.env.scope.names.lookup x = some .local) (hy : X.env.scope.names.lookup y = some .local) (hz : X.env.scope.names.lookup z = some .local)
    (ha : MK X W [a, b, c] f) (hw : swappedStores [.Tuple [.Name x px, .Name y py, .Name z pz] kt pt] (.Tuple [a, b, c] k2 pt2) X.env = pure (some [x, y, z])) (hnp : [i, j, l].all (fun i => decide (np ≤ i)) = true := by rfl)
    (hs : swapsWithSole [.Tuple [.Name x px, .Name y py, .Name z pz] kt pt] (.Tuple [a, b, c] k2 pt2) pos.line X.env = pure false := by rfl) :
    MS X W np (.Assign [.Tuple [.Name x px, .Name y py, .Name z pz] kt pt] (.Tuple [a, b, c] k2 pt2) pos) (sPar [i, j, l] f) := by
  refine PS.imp (ps_par3 hc hN hi hj hl hij hil hjl hx hy hz ha hw hs) fun Z σ H h => ?_
  obtain ⟨F, ε, E0, h⟩ := par_core hnp h
  refine ⟨F, ε, E0, ?_⟩
  revert h
  cases f ε with
  | none => exact fun h => h
  | some r =>
    cases r with
    | x c gs ε1 => exact fun h => h
    | v ss ε1 =>
      intro h vs H1 F1 a
      obtain ⟨h1, h2, _⟩ := h vs H1 F1 a
      match vs, h1, h2 with
      | [u, v, w], _, h2 => exact ⟨u, v, w, rfl, h2⟩
/-- names, each where it stands -/
inductive Nms (X : Cx) : List Expr → List Nat → Prop
  | nil : Nms X [] []
  | cons {e : Expr} {es : List Expr} {i : Nat} {is : List Nat} : PG X e (L2.gName i) → (assignEach (e :: es) X.env).map (·.2) = assign e X.env :: (assignEach es X.env).map (·.2) → Nms X es is → Nms X (e :: es) (i :: is)
def gNms (is : List Nat) : TGs := fun vs σ H Q => vs.length = is.length ∧ Q (setS σ is vs) H
theorem Nms.pgs : ∀ {es : List Expr} {is : List Nat}, Nms X es is → PGs X es (gNms is)
  | _, _, .nil => PGs.imp pgs_nil fun vs σ H Q h => by
    obtain ⟨h1, h2⟩ := h
    match vs, h1, h2 with
    | [], _, h2 => exact ⟨rfl, h2⟩
  | _, _, .cons hp hz r => PGs.imp (pgs_cons hp r.pgs hz) fun vs σ H Q h => by
    obtain ⟨h1, h2⟩ := h
    match vs, h1, h2 with
    | v :: vs, h1, h2 => exact ⟨v, vs, rfl, by simpa using h1, h2⟩
/-- through a tuple (some name is a cell) -/
theorem ms_parT {es fs : List Expr} {is : List Nat} (hc : X.calm = true) (ha : MK X W fs f) (hg : Nms X es is) (hn : (assignEach es X.env).length = is.length := by rfl) (hst : (assignEach es X.env).findIdx? (·.1) = none := by rfl) (hz : is.length ≤ sizeLine := by decide)
    (hnp : is.all (fun i => decide (np ≤ i)) = true := by rfl) (hs : swapsWithSole [.Tuple es kt pt] (.Tuple fs k2 pt2) pos.line X.env = pure false := by rfl) (hw : swappedStores [.Tuple es kt pt] (.Tuple fs k2 pt2) X.env = pure none := by rfl)
    (h1 : (assignEach [.Tuple es kt pt] X.env).map (·.2) = [assign (.Tuple es kt pt) X.env] := by rfl) : MS X W np (.Assign [.Tuple es kt pt] (.Tuple fs k2 pt2) pos) (sPar is f) := by
  refine PS.imp (ps_asg (pe_tup ha) (pg_tup hc hg.pgs hn hst) hs hw h1) fun Z σ H h => ?_
  obtain ⟨F, ε, E0, h⟩ := par_core hnp h
  refine ⟨F, ε, E0, ?_⟩
  revert h
  cases f ε with
  | none => exact fun h => h
  | some r =>
    cases r with
    | x c gs ε1 => exact fun h => h
    | v ss ε1 =>
      intro h vs H1 F1 a
      obtain ⟨h1, _, h3⟩ := h vs H1 F1 a
      exact ⟨by rw [h1]; exact hz, fun p hp => ⟨p, vs, rfl, SqT.of upd_same, h1, h1, h3 p _ hp⟩⟩
end
end Mi

namespace Mi
open PySem PySem.Spec PyProof.Rows L2

/-! ### slices -/
def cutD {α : Type} (xs : List α) (lo hi : Option Int) : List α := (xs.drop (HT.sIx xs.length 0 lo)).take (HT.sIx xs.length xs.length hi - HT.sIx xs.length 0 lo)
theorem RepL.cut {K : PySem.W.Frag} {F : Hp} {vs : List V} {ds : List D} (r : RepL K F vs ds) (lo hi : Option Int) : RepL K F (cutV vs lo hi) (cutD ds lo hi) := by
  unfold cutV cutD
  rw [r.len]
  exact (r.dropped _).taken _
theorem cutD_whole {α : Type} {xs : List α} {lo hi : Option Int} (h : HT.sIx xs.length 0 lo = 0 ∧ HT.sIx xs.length xs.length hi = xs.length) : cutD xs lo hi = xs := by
  unfold cutD
  rw [h.1, h.2]
  simp
def oSl (x : D) (lo hi : Option Int) : Option Sl := match x with
  | .lst ds => some (.ow (.lst (cutD ds lo hi)))
  | .tup ds => some (.fz (.tup (cutD ds lo hi)))
  | .str z => if z.length ≤ sizeLine then some (.fz (.str (cutS z lo hi))) else none
  | _ => none
/-- a part that is left out, or an int -/
abbrev FO := En → Option (R (Option Int))
def fNo : FO := fun ε => some (.v none ε)
def fPart (f : FE) : FO := fun ε => bf (f ε) fun d ε1 => match d with
  | .int i => some (.v (some i) ε1)
  | _ => none
def DoO (K : PySem.W.Frag) (W : WX) (σ : St) (ε : En) (F H : Hp) (r : Option (R (Option Int))) (Q : Option Int → Hp → Prop) : Prop := match r with
  | none => False
  | some (.v o ε') => ∀ H' F', Same F F' → EOk K F' H' σ ε' → Frm σ ε F H σ ε' F' H' → Q o H'
  | some (.x c gs ε') => ∀ d H' F', AftX K σ ε F H F' H' ε' d gs → W (.ref (He.ga K c)) (some d) σ H'
def tMO (K : PySem.W.Frag) (W : WX) (f : FO) : TO := fun σ H Q => ∃ F ε, EOk K F H σ ε ∧ DoO K W σ ε F H (f ε) Q
theorem DoO.sub {K : PySem.W.Frag} {W : WX} {σ : St} {ε ε1 : En} {F H F1 H1 : Hp} {r : Option (R (Option Int))} {Q : Option Int → Hp → Prop} (h : DoO K W σ ε F H r Q) (s : Same F F1) (fr : Frm σ ε F H σ ε1 F1 H1) : DoO K W σ ε1 F1 H1 r Q := by
  cases r with
  | none => exact h
  | some q =>
    cases q with
    | v b ε2 => exact fun H2 F2 a2 e2 c => h H2 F2 (s.trans a2) e2 (fr.trans c)
    | x c gs ε2 => exact fun d H2 F2 a2 => h d H2 F2 (a2.then s fr)
theorem PO.imp {X : Cx} {e : Option Expr} {t t' : TO} (h : PO X e t) (i : ∀ σ H Q, t' σ H Q → t σ H Q) : PO X e t' := ⟨fun pins s σ H Q I q => h.run pins s σ H Q I (i σ H Q q)⟩
section
variable {X : Cx} {W : WX} {e : Expr}
theorem mo_no : PO X none (tMO X.K W fNo) := PO.imp po_none fun σ H Q ⟨F, ε, E0, h⟩ => h H F (.refl _) E0 .refl
theorem DoO.bindF {K : PySem.W.Frag} {σ : St} {ε : En} {F H : Hp} {r : Option (R Sl)} {k : D → En → Option (R (Option Int))} {Q : Option Int → Hp → Prop} {G : VK} (h : DoO K W σ ε F H (bf r k) Q)
    (g : ∀ d ε1 v H1 F1, AftD K σ ε F H F1 H1 ε1 v d → DoO K W σ ε1 F1 H1 (k d ε1) Q → G v H1) : Do K W σ ε F H r G := by
  cases r with
  | none => exact h
  | some r =>
    cases r with
    | x c fs ε1 => exact h
    | v s ε1 =>
      intro v H1 F1 a
      cases s with
      | un => exact a.rs.elim
      | fz d =>
        obtain ⟨F2, a2⟩ := a.data (.inl rfl)
        exact g d ε1 v H1 F2 a2 (DoO.sub (show DoO K W σ ε F H (k d ε1) Q from h) a2.fs a2.fr)
      | ow d =>
        obtain ⟨F2, a2⟩ := a.data (.inr rfl)
        exact g d ε1 v H1 F2 a2 (DoO.sub (show DoO K W σ ε F H (k d ε1) Q from h) a2.fs a2.fr)
theorem mo_part {f : FE} (h : ME X W e f) : PO X (some e) (tMO X.K W (fPart f)) := by
  refine PO.imp (po_some h) fun σ H Q ⟨F, ε, E0, h⟩ => ⟨F, ε, E0, DoO.bindF h fun d ε1 v H1 F1 a h1 => ?_⟩
  cases d with
  | int i => cases a.rp; exact ⟨i, rfl, h1 H1 F1 (.refl _) a.eo .refl⟩
  | _ => exact h1.elim
end
def eSl (fa : FE) (fl fh : FO) : FE := fun ε => bf (fa ε) fun x ε1 => bnd (fl ε1) fun lo ε2 => bnd (fh ε2) fun hi ε3 => ret (oSl x lo hi) ε3
theorem DoO.bindE {K : PySem.W.Frag} {W : WX} {σ : St} {ε : En} {F H : Hp} {r : Option (R (Option Int))} {k : Option Int → En → Option (R Sl)} {Q : VK} {G : Option Int → Hp → Prop} (h : Do K W σ ε F H (bnd r k) Q)
    (g : ∀ o ε1 H1 F1, Same F F1 → EOk K F1 H1 σ ε1 → Do K W σ ε1 F1 H1 (k o ε1) Q → G o H1) : DoO K W σ ε F H r G := by
  cases r with
  | none => exact h
  | some r =>
    cases r with
    | x c fs ε1 => exact h
    | v b ε1 => exact fun H1 F1 s e fr => g b ε1 H1 F1 s e (Do.sub (show Do K W σ ε F H (k b ε1) Q from h) s fr)
def rSlAll (K : PySem.W.Frag) : V → Option Int → Option Int → Hp → VK → Prop := fun x lo hi H Q => rSlL K x lo hi H Q ∨ rSlA K x lo hi H Q ∨ rSlS x lo hi H Q
theorem me_sl {X : Cx} {W : WX} {e : Expr} {lo hi : Option Expr} {fa : FE} {fl fh : FO} {p2 pos : Pos} (he : ME X W e fa) (hl : PO X lo (tMO X.K W fl)) (hu : PO X hi (tMO X.K W fh)) : ME X W (.Subscript e (.Slice lo hi none p2) pos) (eSl fa fl fh) := by
  refine PE.imp (pe_slice (r := rSlAll X.K) (sl_list.or (sl_tupA.or sl_str)) he hl hu) fun σ H Q ⟨F, ε, E0, h⟩ => ⟨F, ε, E0, Do.bindF h fun x ε1 v H1 F1 a h1 => ⟨F1, ε1, a.eo, DoO.bindE h1 fun lo ε2 H2 F2 s2 e2 h2 => ⟨F2, ε2, e2, DoO.bindE h2 fun hi ε3 H3 F3 s3 e3 h3 => ?_⟩⟩⟩
  obtain ⟨s, e, h4⟩ := ret_do h3
  have g := h4.gives e3
  have rp := (a.rp.up s2).up s3
  cases x with
  | lst ds =>
    cases e
    cases rp with
    | lst k1 rl => exact .inl ⟨_, _, rfl, SqL.of (e3.sub _ _ k1), fun p hp => g.newO e3.sub hp ⟨_, rfl, rl.cut lo hi⟩⟩
  | tup ds =>
    cases e
    cases rp with
    | tup k1 rl =>
      refine .inr (.inl ⟨_, _, rfl, sqT_up e3.sub k1, fun hw => ?_, fun hw p hp => g.new e3.sub hp fun F' s' h' => .tup (SqT.of h') ((rl.cut lo hi).up s')⟩)
      rw [rl.len] at hw
      rw [cutD_whole hw] at g
      exact g.same e3.sub (.tup k1 rl)
  | str z =>
    simp only [oSl] at e
    split at e
    · rename_i hz
      cases e
      cases rp
      exact .inr (.inr ⟨z, rfl, hz, g.same e3.sub (.str _)⟩)
    · cases e
  | _ => cases e

/-! ### sep.join(xs) -/
def txts : List D → Option (List Str)
  | [] => some []
  | .str x :: ds => (txts ds).map (x :: ·)
  | _ => none
theorem txts_ok {K : PySem.W.Frag} {F : Hp} : ∀ {vs : List V} {ds : List D} {xs : List Str}, RepL K F vs ds → txts ds = some xs → vs = xs.map V.str
  | _, _, _, .nil, h => by cases h; rfl
  | _, _, _, .cons (d := d) (ds := ds) r rr, h => by
    cases d with
    | str b =>
      simp only [txts, Option.map_eq_some_iff] at h
      obtain ⟨bs, h1, rfl⟩ := h
      cases r
      rw [txts_ok rr h1]
      rfl
    | _ => cases h
def joinD (a : Str) (ds : List D) : Option Sl := (txts ds).bind fun ys => if (ys.map (·.length)).sum + ys.length * a.length ≤ 16777216 then some (.fz (.str (Txt.join a ys))) else none
def oJoin : D → D → Option Sl
  | .str a, .lst ds => joinD a ds
  | .str a, .tup ds => joinD a ds
  | _, _ => none
def eStr1 (op : D → D → Option Sl) (fa fb : FE) : FE := fun ε => bf (fa ε) fun x ε1 => match x with
  | .str a => bf (fb ε1) fun y ε2 => ret (op (.str a) y) ε2
  | _ => none
theorem me_join {X : Cx} {W : WX} {o e : Expr} {fo fe : FE} {apos pos : Pos} (ho : ME X W o fo) (he : ME X W e fe) (hs : starEach [e] X.env = [(false, eval e X.env)] := by rfl) (hbase : attributeBase o "join" X.env (eval o X.env) = eval o X.env := by rfl) (hline : (apos.endLine == pos.line) = true := by rfl) :
    ME X W (.Call (.Attribute o "join" apos) [e] [] pos) (eStr1 oJoin fo fe) := by
  refine PE.imp (pe_join ho he hs hbase hline) fun σ H Q ⟨F, ε, E0, h⟩ => ⟨F, ε, E0, Do.bindF h fun x ε1 v H1 F1 a h1 => ?_⟩
  cases x with
  | str a0 =>
    cases a.rp
    refine ⟨⟨a0, rfl⟩, F1, ε1, a.eo, Do.bindF h1 fun y ε2 u H2 F2 b h2 => ?_⟩
    obtain ⟨s, e, h3⟩ := ret_do h2
    have g := h3.gives b.eo
    have fin : ∀ (ds : List D) (p : Addr) (vs : List V), u = .ref p → (SqL X.K H2 p vs ∨ SqT X.K H2 p vs) → RepL X.K F2 vs ds → joinD a0 ds = some s → ∃ a p, ∃ ys : List Str, V.str a0 = .str a ∧ [u] = [.ref p] ∧ (SqL X.K H2 p (ys.map V.str) ∨ SqT X.K H2 p (ys.map V.str)) ∧ (ys.map (·.length)).sum + ys.length * a.length ≤ 16777216 ∧ Q (.str (Txt.join a ys)) H2 := by
      intro ds p vs e1 hq rl hj
      simp only [joinD, Option.bind_eq_some_iff] at hj
      obtain ⟨ys, hy, hj⟩ := hj
      split at hj
      · rename_i hz
        cases hj
        have := txts_ok rl hy
        subst this
        exact ⟨a0, p, ys, rfl, by rw [e1], hq, hz, g.same b.eo.sub (.str _)⟩
      · cases hj
    cases y with
    | lst ds =>
      cases b.rp with
      | lst k1 rl => exact fin ds _ _ rfl (.inl (SqL.of (b.eo.sub _ _ k1))) rl e
    | tup ds =>
      cases b.rp with
      | tup k1 rl => exact fin ds _ _ rfl (.inr (sqT_up b.eo.sub k1)) rl e
    | _ => cases e
  | _ => exact h1.elim

/-! ### {k: v, ..} -/
abbrev FP := En → Option (R (List (D × D)))
def pNil : FP := fun ε => some (.v [] ε)
def pCons (f g : FE) (r : FP) : FP := fun ε => bf (f ε) fun k ε1 => bf (g ε1) fun v ε2 => bnd (r ε2) fun ps ε3 => some (.v ((k, v) :: ps) ε3)
inductive RepP (K : PySem.W.Frag) (F : Hp) : List (V × V) → List (D × D) → Prop
  | nil : RepP K F [] []
  | cons {x y : V} {k d : D} {ps : List (V × V)} {ds : List (D × D)} : Rep K F x k → Rep K F y d → RepP K F ps ds → RepP K F ((x, y) :: ps) ((k, d) :: ds)
structure AftP (K : PySem.W.Frag) (σ : St) (ε : En) (F H F' H' : Hp) (ε' : En) (ps : List (V × V)) (ds : List (D × D)) : Prop where
  fs : Same F F'
  eo : EOk K F' H' σ ε'
  rp : RepP K F' ps ds
  fr : Frm σ ε F H σ ε' F' H'
def DoP (K : PySem.W.Frag) (W : WX) (σ : St) (ε : En) (F H : Hp) (r : Option (R (List (D × D)))) (Q : List (V × V) → Hp → Prop) : Prop := match r with
  | none => False
  | some (.v ds ε') => ∀ ps H' F', AftP K σ ε F H F' H' ε' ps ds → Q ps H'
  | some (.x c gs ε') => ∀ d H' F', AftX K σ ε F H F' H' ε' d gs → W (.ref (He.ga K c)) (some d) σ H'
def tMP (K : PySem.W.Frag) (W : WX) (f : FP) : St → Hp → (List (V × V) → Hp → Prop) → Prop := fun σ H Q => ∃ F ε, EOk K F H σ ε ∧ DoP K W σ ε F H (f ε) Q
structure MP (X : Cx) (W : WX) (pos : Pos) (ks : List (Option Expr)) (vs : List Expr) (f : FP) : Prop where
  ex : ∃ trs, PPs X pos ks vs trs ∧ ∀ σ H Q, tMP X.K W f σ H Q → tPairs trs σ H Q
theorem DoP.sub {K : PySem.W.Frag} {W : WX} {σ : St} {ε ε1 : En} {F H F1 H1 : Hp} {r : Option (R (List (D × D)))} {Q : List (V × V) → Hp → Prop} (h : DoP K W σ ε F H r Q) (s : Same F F1) (fr : Frm σ ε F H σ ε1 F1 H1) : DoP K W σ ε1 F1 H1 r Q := by
  cases r with
  | none => exact h
  | some q =>
    cases q with
    | v b ε2 => exact fun ps H2 F2 a => h ps H2 F2 ⟨s.trans a.fs, a.eo, a.rp, fr.trans a.fr⟩
    | x c gs ε2 => exact fun d H2 F2 a2 => h d H2 F2 (a2.then s fr)
theorem DoP.bindF {K : PySem.W.Frag} {W : WX} {σ : St} {ε : En} {F H : Hp} {r : Option (R Sl)} {k : D → En → Option (R (List (D × D)))} {Q : List (V × V) → Hp → Prop} {G : VK} (h : DoP K W σ ε F H (bf r k) Q)
    (g : ∀ d ε1 v H1 F1, AftD K σ ε F H F1 H1 ε1 v d → DoP K W σ ε1 F1 H1 (k d ε1) Q → G v H1) : Do K W σ ε F H r G := by
  cases r with
  | none => exact h
  | some r =>
    cases r with
    | x c fs ε1 => exact h
    | v s ε1 =>
      intro v H1 F1 a
      cases s with
      | un => exact a.rs.elim
      | fz d =>
        obtain ⟨F2, a2⟩ := a.data (.inl rfl)
        exact g d ε1 v H1 F2 a2 (DoP.sub (show DoP K W σ ε F H (k d ε1) Q from h) a2.fs a2.fr)
      | ow d =>
        obtain ⟨F2, a2⟩ := a.data (.inr rfl)
        exact g d ε1 v H1 F2 a2 (DoP.sub (show DoP K W σ ε F H (k d ε1) Q from h) a2.fs a2.fr)
section
variable {X : Cx} {W : WX} {pos : Pos} {k v : Expr} {ks : List (Option Expr)} {vs : List Expr} {fk fv : FE} {r : FP}
theorem mp_nil : MP X W pos [] [] pNil := ⟨[], pps_nil, fun σ H Q ⟨F, ε, E0, h⟩ => h [] H F ⟨.refl _, E0, .nil, .refl⟩⟩
theorem mp_cons (hk : ME X W k fk) (hv : ME X W v fv) (hr : MP X W pos ks vs r) : MP X W pos (some k :: ks) (v :: vs) (pCons fk fv r) := by
  obtain ⟨trs, h1, h2⟩ := hr.ex
  refine ⟨_, pps_cons hk hv h1, fun σ H Q ⟨F, ε, E0, h⟩ => ⟨F, ε, E0, DoP.bindF h fun d ε1 v H1 F1 a q1 => ⟨F1, ε1, a.eo, DoP.bindF q1 fun d2 ε2 v2 H2 F2 b q2 => h2 σ H2 _ ⟨F2, ε2, b.eo, ?_⟩⟩⟩⟩
  revert q2
  cases r ε2 with
  | none => exact fun q => q
  | some rr =>
    cases rr with
    | x c gs ε3 => exact fun q => q
    | v ds ε3 => exact fun q ps H3 F3 c => q ((v, v2) :: ps) H3 F3 ⟨c.fs, c.eo, .cons ((a.rp.up b.fs).up c.fs) (b.rp.up c.fs) c.rp, c.fr⟩
end
def keysD : List (D × D) → Option (List (Key × D))
  | [] => some []
  | (k, d) :: r => (keyD k).bind fun k' => (keysD r).map ((k', d) :: ·)
def mergeD (kds more : List (Key × D)) : List (Key × D) := more.foldl (fun acc kv => putD acc kv.1 kv.2) kds
def eDict (f : FP) : FE := fun ε => bnd (f ε) fun ps ε1 => match keysD ps with
  | some kds => if kds.length ≤ 15 then some (.v (.ow (.dct (mergeD [] kds))) ε1) else none
  | none => none
theorem RepK.anyK {K : PySem.W.Frag} {F : Hp} (k : Key) : ∀ {kvs : List (Key × V)} {kds : List (Key × D)}, RepK K F kvs kds → (kvs.any fun kv => decide (kv.1 = k)) = (kds.any fun kv => decide (kv.1 = k))
  | _, _, .nil => rfl
  | _, _, .cons _ r => by simp only [List.any_cons, RepK.anyK k r]
theorem RepK.mapK {K : PySem.W.Frag} {F : Hp} {k : Key} {v : V} {d : D} (x : Rep K F v d) : ∀ {kvs : List (Key × V)} {kds : List (Key × D)}, RepK K F kvs kds → RepK K F (kvs.map fun kv => if kv.1 = k then (kv.1, v) else kv) (kds.map fun kv => if kv.1 = k then (kv.1, d) else kv)
  | _, _, .nil => .nil
  | _, _, .cons (k := k') h r => by
    simp only [List.map_cons]
    by_cases e : k' = k
    · rw [if_pos e, if_pos e]; exact .cons x (RepK.mapK x r)
    · rw [if_neg e, if_neg e]; exact .cons h (RepK.mapK x r)
theorem RepK.snoc {K : PySem.W.Frag} {F : Hp} {k : Key} {v : V} {d : D} (x : Rep K F v d) : ∀ {kvs : List (Key × V)} {kds : List (Key × D)}, RepK K F kvs kds → RepK K F (kvs ++ [(k, v)]) (kds ++ [(k, d)])
  | _, _, .nil => .cons x .nil
  | _, _, .cons h r => .cons h (RepK.snoc x r)
theorem RepK.put {K : PySem.W.Frag} {F : Hp} {k : Key} {v : V} {d : D} (x : Rep K F v d) {kvs : List (Key × V)} {kds : List (Key × D)} (r : RepK K F kvs kds) : RepK K F (putK kvs k v) (putD kds k d) := by
  unfold putK putD
  rw [r.anyK]
  split
  · exact r.mapK x
  · exact r.snoc x
theorem RepK.merge {K : PySem.W.Frag} {F : Hp} : ∀ {more : List (Key × V)} {moreD : List (Key × D)} {kvs : List (Key × V)} {kds : List (Key × D)}, RepK K F more moreD → RepK K F kvs kds → RepK K F (mergeK kvs more) (mergeD kds moreD)
  | _, _, _, _, .nil, r => r
  | _, _, kvs, kds, .cons (k := k) (v := v) (vs := vs) (d := d) (ds := ds) x m, r => show RepK K F (mergeK (putK kvs k v) vs) (mergeD (putD kds k d) ds) from RepK.merge m (r.put x)
theorem RepP.keys {K : PySem.W.Frag} {F H : Hp} (s : Same F H) : ∀ {ps : List (V × V)} {ds : List (D × D)} {kds : List (Key × D)}, RepP K F ps ds → keysD ds = some kds → ∃ kvs, ps = kvs.map (fun kv => (kV kv.1, kv.2)) ∧ RepK K F kvs kds
  | _, _, _, .nil, h => by cases h; exact ⟨[], rfl, .nil⟩
  | _, _, _, .cons (y := y) (d := d) (ds := ds) r1 r2 r, h => by
    simp only [keysD, Option.bind_eq_some_iff, Option.map_eq_some_iff] at h
    obtain ⟨k, h1, kds, h2, rfl⟩ := h
    obtain ⟨kvs, rfl, rk⟩ := r.keys s h2
    have e := keyD_ok (H := H) (.inl r1) h1
    exact ⟨(k, y) :: kvs, by rw [e]; rfl, .cons r2 rk⟩
theorem me_dict {X : Cx} {W : WX} {pos : Pos} {ks : List (Option Expr)} {vs : List Expr} {f : FP} (h : MP X W pos ks vs f) (hall : ks.all (·.isSome) = true := by rfl) (hl : ks.length = vs.length := by rfl) (h0 : ks ≠ [] := by (intro z; cases z)) (h15 : ks.length ≤ 15 := by decide) : ME X W (.Dict ks vs pos) (eDict f) := by
  obtain ⟨trs, h1, h2⟩ := h.ex
  refine PE.imp (pe_disp h1 hall hl h0 h15) fun σ H Q ⟨F, ε, E0, h⟩ p hp => ?_
  have gl : Gr F H F (upd H p (.dK [])) := Gr.loose E0.sub hp
  have ob : Oth σ ε F (upd H p (.dK [])) p (.dK []) := ⟨E0.sub.free hp, upd_same, fun i d q z => by
    obtain ⟨v, hv, b, o, rfl, k1, k2, _⟩ := E0.val i _ q (by simp)
    rw [hv] at z
    have z : b = p := by simpa using z
    rw [z, hp] at k2
    cases k2⟩
  refine h2 σ _ _ ⟨F, ε, E0.grow gl, ?_⟩
  unfold eDict at h
  cases qf : f ε with
  | none => rw [qf] at h; exact h
  | some r =>
    rw [qf] at h
    cases r with
    | x c gs ε1 => exact fun d H' F' a => h d H' F' ⟨a.fs, a.eo, a.xd, gl.frm.trans a.fr⟩
    | v ds ε1 =>
      intro ps H1 F1 a
      have o1 := a.fr p _ ob
      have h : Do X.K W σ ε F H (match keysD ds with
        | some kds => if kds.length ≤ 15 then some (.v (.ow (.dct (mergeD [] kds))) ε1) else none
        | none => none) Q := h
      refine ⟨o1.at_, ?_⟩
      cases qk : keysD ds with
      | none => rw [qk] at h; exact h.elim
      | some kds =>
        rw [qk] at h
        obtain ⟨kvs, e1, rk⟩ := a.rp.keys a.eo.sub qk
        simp only at h
        split at h
        · rename_i hz
          refine ⟨kvs, e1, by rw [rk.len]; exact hz, ?_⟩
          have sm : Same F1 (upd H1 p (.dK (mergeK [] kvs))) := fun b o hb => by
            rw [upd_ne (fun z => by rw [z, o1.nf] at hb; cases hb)]
            exact a.eo.sub b o hb
          have eo2 : EOk X.K F1 (upd H1 p (.dK (mergeK [] kvs))) σ ε1 := by
            refine ⟨sm, a.eo.len, fun j s' hj n => ?_, a.eo.inj⟩
            obtain ⟨w', hw', r'⟩ := a.eo.val j s' hj n
            refine ⟨w', hw', ?_⟩
            cases s' with
            | un => exact r'
            | fz d' => exact r'
            | ow d' =>
              obtain ⟨b, o, rfl, k1, k2, t'⟩ := r'
              have nb : b ≠ p := fun z => o1.no j d' hj (by rw [hw', z])
              exact ⟨b, o, rfl, k1, by rw [upd_ne nb]; exact k2, t'⟩
          refine h (.ref p) _ F1 ⟨a.fs, eo2, ⟨p, _, rfl, o1.nf, upd_same, _, rfl, rk.merge .nil⟩, fun i d q => o1.no i d q, fun c o oc => ?_, fun c o oc z => ?_⟩
          · have z := a.fr c o (gl.frm c o oc)
            have nc : c ≠ p := fun q => by
              have := oc.at_
              rw [q, hp] at this
              cases this
            exact ⟨z.nf, by rw [upd_ne nc]; exact z.at_, z.no⟩
          · cases z
            have := oc.at_
            rw [hp] at this
            cases this
        · exact h.elim
end Mi

namespace Mi
open PySem PySem.Spec PyProof.Rows L2
/-! ### defs by name -/
structure Fnn (P : Program) (w : World) (K : PySem.W.Frag) (mg : Str → Option Value) (base : Heap) (u : Bool) (n : Nat) (x : Str) (np : Nat) (Fd : FD) : Prop where
  ex : ∃ f fd ps, mg x = some (.ref f) ∧ PySem.W.keepIn K (.ref f) = true ∧ Binds K fd ps [] ∧ FnG P w K mg base u n f fd ps (spM K np Fd)
theorem me_fn {X : Cx} {W : WX} {u : Bool} {n m np : Nat} {x : Str} {Fd : FD} {p pos : Pos} {e : Expr} {es : List Expr} {fa : FAr} (G : Fnn X.prog X.w X.K X.mg X.base u n x np Fd) (rm : Room m X.A) (gd : u = true → X.A.guards = some []) (tk : Takes X W) (hg : Gl X x) (ha : MA X W (e :: es) fa) (hnm : n ≤ m := by decide)
    (hdb : (x == ("__debug__" : Str)) = false := by decide) (he : starEach (e :: es) X.env = (false, eval e X.env) :: starEach es X.env := by rfl) (hpl : (backTo pos (starEach es X.env)).any (·.1) = false := by rfl) :
    ME X W (.Call (.Name x p) (e :: es) [] pos) (eCall np Fd fa) := by
  obtain ⟨f, fd, ps, h1, h2, h3, h4⟩ := G.ex
  exact me_call h4 (rm.mono hnm) gd hg h1 h2 h3 tk ha hdb he hpl
theorem takesD {P : Program} {w : World} {K : PySem.W.Frag} {mg : Str → Option Value} {base : Heap} {N : List Str} {q : Str} {sc : Scope} {f : Addr} {cv : Value} {A : Around} {out : List Env} {st : Shared} {H : Hp} {E : XK} :
    Takes (cxOf (L2.CX P w) P w K mg base N q sc f cv A out st H E) (WE0 E) := takes_of rfl rfl rfl rfl
theorem passD {P : Program} {w : World} {K : PySem.W.Frag} {mg : Str → Option Value} {base : Heap} {N : List Str} {q : Str} {sc : Scope} {f : Addr} {cv : Value} {A : Around} {out : List Env} {st : Shared} {H : Hp} {E : XK} :
    PassesOwn (model P w) (cxOf (L2.CX P w) P w K mg base N q sc f cv A out st H E).A (cxOf (L2.CX P w) P w K mg base N q sc f cv A out st H E).env (cxOf (L2.CX P w) P w K mg base N q sc f cv A out st H E).xe := passes_of rfl
/-- a def keeps its promise -/
theorem fnn_of {P : Program} {w : World} {K : PySem.W.Frag} {mg : Str → Option Value} {base : Heap} {u : Bool} {n : Nat} {f : Addr} {x q : Str} {pr : Arguments} {body : List Stmt} {sc : Scope} {fd : FuncData} {N ps : List Str} {b : FS}
    (D : FunD K x q pr body sc [] [] f fd) (hm : mg x = some (.ref f)) (S : FnScope N ps sc) (bd : Binds K fd ps []) (hl : ps.length ≤ N.length)
    (hb : ∀ (cv : Value) (A : Around) (out : List Env) (st : Shared) (H : Hp) (E : XK), Room n (A.deeper (envOfC q sc st.heap.objs.size f cv)) → (u = true → A.guards = some []) → MSs (cxOf (L2.CX P w) P w K mg base N q sc f cv A out st H E) (WE0 E) ps.length body b) :
    Fnn P w K mg base u (n + 1) x ps.length (runD N.length b) :=
  ⟨f, fd, ps, hm, D.kp, bd, fnG_of D S (fun _ _ _ _ h => h.1) fun cv A out st H vs Q E rm gd h => ⟨_, hb cv A out st H E rm gd, runD_ok hl h⟩⟩
end Mi

namespace Mi
open PySem PySem.Spec PyProof.Rows L2
/-! ### comparisons as tests -/
section
variable {X : Cx} {W : WX} {a b c : Expr} {fa fb fc : FE} {pos : Pos} {j : Nat}
theorem mt_cmp {co : CmpOp} {r : R2} {op : D → D → Option Sl} (ho : OpR X (compareOp co) r) (p : Prim2 X.K r op) (ha : ME X W a fa) (hb : ME X W b fb) (hm : behindInMarks co b = false) : MT X W (.Compare a [co] [b] pos) (bB (e2 op fa fb)) :=
  PT.imp (pt_cmpR ho ha hb hm) fun _ _ _ h => e2_ok p (bB_ok h)
theorem mt_cmpN {co : CmpOp} {r : R2} {op : D → D → Option Sl} (ho : OpR X (compareOp co) r) (p : Prim2 X.K r op) (ha : ME X W a fa) (hb : PE X b (tVar j)) (hm : behindInMarks co b = false) : MT X W (.Compare a [co] [b] pos) (bB (e2m op fa j)) :=
  PT.imp (pt_cmpR ho ha hb hm) fun _ _ _ h => e2m_ok p (bB_ok h)
theorem mt_lt (ha : ME X W a fa) (hb : ME X W b fb) : MT X W (.Compare a [.Lt] [b] pos) (bB (e2 oLt fa fb)) := mt_cmp op_lt (p_int _) ha hb (nomark _)
theorem mt_le (ha : ME X W a fa) (hb : ME X W b fb) : MT X W (.Compare a [.LtE] [b] pos) (bB (e2 oLe fa fb)) := mt_cmp op_le (p_int _) ha hb (nomark _)
theorem mt_gt (ha : ME X W a fa) (hb : ME X W b fb) : MT X W (.Compare a [.Gt] [b] pos) (bB (e2 oGt fa fb)) := mt_cmp op_gt (p_int _) ha hb (nomark _)
theorem mt_ge (ha : ME X W a fa) (hb : ME X W b fb) : MT X W (.Compare a [.GtE] [b] pos) (bB (e2 oGe fa fb)) := mt_cmp op_ge (p_int _) ha hb (nomark _)
theorem mt_eq (hu : X.A.units + 64 < cLine) (ha : ME X W a fa) (hb : ME X W b fb) : MT X W (.Compare a [.Eq] [b] pos) (bB (e2 oEq fa fb)) := mt_cmp (OpR.or (op_eqD hu) op_eq) p_eq ha hb (nomark _)
theorem mt_ne (hu : X.A.units + 64 < cLine) (ha : ME X W a fa) (hb : ME X W b fb) : MT X W (.Compare a [.NotEq] [b] pos) (bB (e2 oNe fa fb)) := mt_cmp (OpR.or (op_neD hu) op_ne) p_ne ha hb (nomark _)
theorem mt_in (hu : X.A.units + 1 < cLine) (ha : ME X W a fa) (hb : ME X W b fb) (hm : behindInMarks .In b = false := by rfl) : MT X W (.Compare a [.In] [b] pos) (bB (e2 oIn fa fb)) := mt_cmp (op_inA hu) (p_inA false) ha hb hm
theorem mt_nin (hu : X.A.units + 1 < cLine) (ha : ME X W a fa) (hb : ME X W b fb) (hm : behindInMarks .NotIn b = false := by rfl) : MT X W (.Compare a [.NotIn] [b] pos) (bB (e2 oNin fa fb)) := mt_cmp (op_ninA hu) (p_inA true) ha hb hm
theorem mt_inN (hu : X.A.units + 1 < cLine) (ha : ME X W a fa) (hb : PE X b (tVar j)) (hm : behindInMarks .In b = false := by rfl) : MT X W (.Compare a [.In] [b] pos) (bB (e2m oIn fa j)) := mt_cmpN (op_inA hu) (p_inA false) ha hb hm
theorem mt_ninN (hu : X.A.units + 1 < cLine) (ha : ME X W a fa) (hb : PE X b (tVar j)) (hm : behindInMarks .NotIn b = false := by rfl) : MT X W (.Compare a [.NotIn] [b] pos) (bB (e2m oNin fa j)) := mt_cmpN (op_ninA hu) (p_inA true) ha hb hm
end
end Mi

/-! own exceptions made by a call, keywords too: over the heap -/
namespace MiX
open PySem PySem.HandSPX PySem.W
section
variable {M : Model} {A : Around} {E : Value → Shared → Prop} {h : Heap} {g : Array GenState} {d : Drawn} {t : Nat} {os : OsState}
variable {nm q : Str} {C N : Addr} {bs bm bmB : List Value} {hdct : Bool} {sn : List Str} {sub : List Value} {ab : Bool} {col : Option Bool} {dd : Option Addr} {k0 k1 k2 k3 k5 : Option Value} {B newId initId : String} {kw : List (Str × Value)} {rest : List Value}
theorem chk_new (F : ExcBaseFacts B newId initId bmB) (hT : ∀ Y : String, bm.contains (.type Y) = bmB.contains (.type Y)) {Q : Unit → Shared → Prop}
    (hC : h.get? C = some (excClassObj nm q C N bs bm hdct sn sub ab col dd k0 k1 k2 k3 k5 newId)) (z : Q () ⟨h, g, d, t, os⟩) : wpAny M A (checkBuiltinCall newId ⟨.ref C :: rest, kw⟩) Q E ⟨h, g, d, t, os⟩ := by
  have c1 : (Value.ref C :: bm).contains (.type B) = true := by
    simp only [List.contains_cons, hT, F.hasB, Bool.or_true]
  have c2 := F.noStar
  simp only [checkBuiltinCall, F.newKind, F.newSplit, F.newRow]
  repeat (first
    | refine wpAny_loadPart_at hC ?_
    | (refine wpAny_isSubtype_exc hC ?_; rw [c1])
    | refine wpAny_staticBase_exc hC ?_
    | refine wpAny_madeBy_exc hC ?_
    | simp only [bne_self_eq_false, Bool.false_eq_true, if_false]
    | wp_step)
  exact z
end
section
variable {prog : Program} {w : World} {A : Around} {E : Value → Shared → Prop} {R : Result → Shared → Prop} {h : Heap} {g : Array GenState} {d : Drawn} {t : Nat} {os : OsState}
variable {nm q : Str} {C N : Addr} {bs bm bmB : List Value} {hdct : Bool} {sn : List Str} {sub : List Value} {ab : Bool} {col : Option Bool} {dd : Option Addr} {k0 k1 k2 k3 k5 : Option Value} {B newId initId : String} {kw : List (Str × Value)} {rest : List Value}
theorem new_kw (F : ExcBaseFacts B newId initId bmB) (hT : ∀ Y : String, bm.contains (.type Y) = bmB.contains (.type Y))
    (hC : h.get? C = some (excClassObj nm q C N bs bm hdct sn sub ab col dd k0 k1 k2 k3 k5 newId)) (hl : rest.length ≤ sizeLine)
    (z : R (.ok (.ret (.ref (h.objs.size + 1)))) ⟨(h.push (kdv_tup rest)).push (excO C h.objs.size), g, d, t, os⟩) :
    codeAny (model prog w) A (.builtin newId ⟨.ref C :: rest, kw⟩) R ⟨h, g, d, t, os⟩ := by
  have e0 := F.ends
  have c1 : (Value.ref C :: bm).contains (.type B) = true := by simp only [List.contains_cons, hT, F.hasB, Bool.or_true]
  have c2 : (Value.ref C :: bm).contains (.type "AttributeError") = false := by simp only [List.contains_cons, hT, F.noAttr]; rfl
  have c3 : (Value.ref C :: bm).contains (.type "NameError") = false := by simp only [List.contains_cons, hT, F.noName]; rfl
  refine codeAny_builtinAt F.entry ?_
  unfold Builtin.«BaseException.__new__»
  refine wpAt_bind ?_
  show wpAt _ _ _ (stack >>= _) _ _ _
  refine wpAt_bind (wpAt_stack fun p below => wpAt_of_wpAny ?_)
  wp_walk
  refine wpAt_of_wpAny ?_
  rw [F.owner]
  repeat (first
    | with_reducible refine wpAny_madeHere_exc F.canon hC ?_
    | with_reducible refine wpAny_loadPart_at hC ?_
    | (with_reducible refine wpAny_isSubtype_exc hC ?_; first | rw [c1] | rw [c2] | rw [c3])
    | wp_step)
  show R _ _
  rw [Heap.size_push]
  exact z
theorem chk_call {Q : Unit → Shared → Prop} (hC : h.get? C = some (excClassObj nm q C N bs bm hdct sn sub ab col dd k0 k1 k2 k3 k5 newId))
    (z : Q () ⟨h, g, d, t, os⟩) : wpAny (model prog w) A (checkBuiltinCall "type.__call__" ⟨.ref C :: rest, kw⟩) Q E ⟨h, g, d, t, os⟩ := by
  have f3 := tc_sub
  have ty : (⟨h, g, d, t, os⟩ : Shared).TypeIs (.ref C) "type" := ⟨_, hC, rfl⟩
  simp only [checkBuiltinCall, tc_kind, tc_split]
  repeat (any_goals (first
    | assumption
    | with_reducible refine wpAny_loadPart_at hC ?_
    | with_reducible refine wpAny_onRaise ?_
    | with_reducible refine wpAny_map ?_
    | wp_step))
theorem tc_kw (F : ExcBaseFacts B newId initId bmB) (hT : ∀ Y : String, bm.contains (.type Y) = bmB.contains (.type Y)) {fI : Addr} {Q : Fin → Shared → Prop}
    (hC : h.get? C = some (excClassObj nm q C N bs bm hdct sn sub ab col dd k0 k1 k2 k3 k5 newId))
    (hi : Looks (model prog w) h (typeLookup (.ref C) "__init__") (some (.ref fI))) (hb : ∀ self, Looks (model prog w) h (bindSpecial (.ref fI) self) (.ref fI, [self])) (hl : rest.length ≤ sizeLine)
    (z : codeAny (model prog w) A (.call (.ref fI) ⟨.ref (h.objs.size + 1) :: rest, kw⟩)
      (fun r s' => match r with | .ok (.ret v) => v = .none ∧ Q (.done (.ret (.ref (h.objs.size + 1)))) s' | .ok _ => False | .error e => E e s')
      ⟨(h.push (kdv_tup rest)).push (excO C h.objs.size), g, d, t, os⟩) :
    wpAny (model prog w) A (Builtin.«type.__call__» ⟨.ref C :: rest, kw⟩) Q E ⟨h, g, d, t, os⟩ := by
  repeat (first
    | with_reducible refine wpAny_loadPart_at hC ?_
    | with_reducible refine wpAny_madeBy_exc hC ?_
    | wp_step)
  refine codeAny_call_builtin_code (Code.quiet_builtin _ F.quiet) (chk_new F hT hC ?_)
  refine new_kw F hT hC hl ?_
  show wpAny _ _ _ _ _ _
  have kp : ∀ b o, h.get? b = some o → ((h.push (kdv_tup rest)).push (excO C h.objs.size)).get? b = some o := fun b o e =>
    Heap.get?_push_of_some _ (Heap.get?_push_of_some _ e)
  have hC2 := kp _ _ hC
  have hx : ((h.push (kdv_tup rest)).push (excO C h.objs.size)).get? (h.objs.size + 1) = some (excO C h.objs.size) := by heap_get
  have cc : (Value.ref C :: bm).contains (.ref C) = true := by simp
  have i1 := hi.keeps kp
  have b1 := (hb (.ref (h.objs.size + 1))).keeps kp
  unfold isInstance
  repeat (first
    | with_reducible refine wpAny_loadPart_at hx ?_
    | (with_reducible refine wpAny_isSubtype_exc hC2 ?_; rw [cc])
    | wp_step)
  show wpAny _ _ (typeLookup (.ref C) _) _ _ _
  refine i1.at (wpAny_holding (wpAny_bind (b1.at (wpAny_bind (wpAny_call (codeAny_mono z fun r s' y => ?_))))))
  rcases r with e | (v | _ | _ | _) <;> first | exact y | exact y.elim | skip
  obtain ⟨rfl, y⟩ := y
  first
    | exact wpAny_pure (wpAny_pure y)
    | (wp_walk; exact y)
theorem call_kw (F : ExcBaseFacts B newId initId bmB) (hT : ∀ Y : String, bm.contains (.type Y) = bmB.contains (.type Y)) {fI : Addr}
    (hC : h.get? C = some (excClassObj nm q C N bs bm hdct sn sub ab col dd k0 k1 k2 k3 k5 newId))
    (hi : Looks (model prog w) h (typeLookup (.ref C) "__init__") (some (.ref fI))) (hb : ∀ self, Looks (model prog w) h (bindSpecial (.ref fI) self) (.ref fI, [self])) (hl : rest.length ≤ sizeLine)
    (z : codeAny (model prog w) (A.under (.builtin "type.__call__" ⟨.ref C :: rest, kw⟩)) (.call (.ref fI) ⟨.ref (h.objs.size + 1) :: rest, kw⟩) (InitBack (h.objs.size + 1) R)
      ⟨(h.push (kdv_tup rest)).push (excO C h.objs.size), g, d, t, os⟩) :
    codeAny (model prog w) A (.call (.ref C) ⟨rest, kw⟩) R ⟨h, g, d, t, os⟩ := by
  have f1 := tc_lookup
  have f2 := tc_bind (.ref C)
  have ty : (⟨h, g, d, t, os⟩ : Shared).TypeIs (.ref C) "type" := ⟨_, hC, rfl⟩
  refine codeAny_of_tree ?_
  show wpAny _ _ (callAny (.ref C) _) _ _ _
  repeat (any_goals (first
    | assumption
    | with_reducible refine wpAny_loadPart_at hC ?_
    | wp_step))
  refine ⟨rfl, ?_⟩
  refine codeAny_call_builtin_at (Code.quiet_builtin _ (by decide +kernel)) entry_typeCall (chk_call hC (tc_kw F hT hC hi hb hl ?_))
  refine codeAny_mono z fun r s' y => ?_
  rcases r with e | (v | _ | _ | _) <;> exact y
end
end MiX

namespace Mi
open PySem PySem.Spec PyProof.Rows L2 Builtin Builtin.ObjectAttr

/-- a built-in class of errors: made, stored into -/
structure XBase (B newId initId : String) (bmB : List Value) : Prop where
  F : ExcBaseFacts B newId initId bmB
  S : StoreFacts B bmB "object.__setattr__" "object"
theorem xb_VE : XBase "ValueError" "ValueError.__new__" "ValueError.__init__" (tlOf "ValueError") := ⟨F.excBase_ValueError, F.store_ValueError⟩
theorem xb_LE : XBase "LookupError" "LookupError.__new__" "LookupError.__init__" (tlOf "LookupError") := ⟨F.excBase_LookupError, F.store_LookupError⟩
theorem xb_RE : XBase "RuntimeError" "RuntimeError.__new__" "RuntimeError.__init__" (tlOf "RuntimeError") := ⟨F.excBase_RuntimeError, F.store_RuntimeError⟩
theorem xb_AE : XBase "ArithmeticError" "ArithmeticError.__new__" "ArithmeticError.__init__" (tlOf "ArithmeticError") := ⟨F.excBase_ArithmeticError, F.store_ArithmeticError⟩

/-- what the written part says of an own class of errors -/
structure XC (K : PySem.W.Frag) (C : Addr) (newId : String) (bmB : List Value) : Prop where
  ini : PySem.W.excInitIn K C bmB newId = true
  ov : PySem.W.excOver K C bmB = true
  hd : PySem.W.hasDictIn K C = true
  kC : PySem.W.keepIn K (.ref C) = true
  sa : PySem.W.findIn K (.ref C) "__setattr__" = some (some (.builtin "object.__setattr__"))
  exC : PySem.W.subIn K (.ref C) (.type "BaseException") = some true
  tyC : PySem.W.typeIn K (.ref C) = some (.type "type")
  ga : PySem.W.findIn K (.ref C) "__getattribute__" = some (some (.builtin "BaseException.__getattribute__"))
  gg : PySem.W.findIn K (.ref C) "__getattr__" = some none
  cl : (PySem.W.clsIn K C).isSome = true
  cc : PySem.W.findIn K (.ref C) "__class__" = some (some (.builtin "object.__class__"))
  ob : PySem.W.mroIn K C (.type "object") = some true
theorem xcB_ok {K : PySem.W.Frag} {C : Addr} {newId : String} {bmB : List Value} (h : xcB K C newId bmB = true) : XC K C newId bmB := by
  unfold xcB at h
  simp only [Bool.and_eq_true, decide_eq_true_eq] at h
  obtain ⟨h1, h2, h3, h4, h5, h6, h7, h8, h9, h10, h11, h12⟩ := h
  exact ⟨h1, h2, h3, h4, h5, h6, h7, h8, h9, h10, h11, h12⟩

/-- facts that every written part has: class of an object is asked for -/
structure ObC (K : PySem.W.Frag) : Prop where
  sp : PySem.W.specialIn K (.builtin "object.__class__") "__get__" = some (some (.builtin "getset_descriptor.__get__"))
  tk : PySem.W.takesIn K (.builtin "object.__class__") = some true

section
variable {X : Cx} {pins : List (Addr × Obj)} {σ : St} {H : Hp} {s : Shared} {a C dx : Addr} {f : Str} {y : V} {u : Value} {fs : List (Str × V)} {E : Value → Shared → Prop} {A : Around} {B newId initId : String} {bmB : List Value}
theorem xst_new {Q : Unit → Shared → Prop} (XB : XBase B newId initId bmB) (T : XC X.K C newId bmB) (I : Inv X pins σ H s) (e : H a = some (exo a C none)) (hno : PySem.W.findIn X.K (.ref C) f = some none) (ry : RelV y u)
    (h : ∀ dx s', H dx = none → dx ≠ a → Inv X pins σ (upd (upd H dx (exd dx [(f, y)])) a (exo a C (some dx))) s' → Q () s') : wpAny (model X.prog X.w) A (setAttr (.ref a) f u) Q E s := by
  obtain ⟨t1, ho⟩ := exo_at I.hok e
  obtain ⟨hp, g, d, t, os⟩ := s
  refine PySem.W.set_plain I.kIn (ox := { cls := .ref C, dict := none, data := .fields #[.ref t1, .none, .none, .none, .bool false, .none] }) (od := none) ⟨ho, rfl, rfl, trivial⟩ T.sa ?_
  obtain ⟨cd, hc, hd'⟩ := PySem.W.any_some T.hd
  refine PySem.W.osa_openX (od := none) (r := none) XB.S I.kIn ⟨ho, rfl, rfl, trivial⟩ T.ov (by unfold PySem.W.takerIn; rw [hno]; rfl) fun b => ?_
  have hxs : a ≠ hp.objs.size := Nat.ne_of_lt (Heap.lt_size ho)
  have hcls : PySem.W.Looks (model X.prog X.w) hp (classData C) cd := PySem.W.looks_clsIn I.kIn hc
  have fin : ∀ h' tk' dx, (∀ b o, b ≠ a → hp.get? b = some o → h'.get? b = some o) → hp.objs.size ≤ dx → dx ≠ a → h'.get? a = some { cls := .ref C, dict := some dx, data := .fields #[.ref t1, .none, .none, .none, .bool false, .none] } →
      h'.Ns1 dx (fun z => if z = f then some u else none) → Q () ⟨h', g, d, tk', os⟩ := fun h' tk' dx k dn dne hx hn => by
    have hnd : H dx = none := I.hok.fresh dn
    have nd : ∀ {b : Addr} {o : Obj}, hp.get? b = some o → b ≠ dx := fun {b o} q => Nat.ne_of_lt (Nat.lt_of_lt_of_le (Heap.lt_size q) dn)
    have na : ∀ {b : Addr}, H b = none → b ≠ a := fun {b} n z => by
      rw [z, e] at n
      cases n
    have U1 : Un X.fs [] H (upd (upd H dx (exd dx [(f, y)])) a (exo a C (some dx))) hp h' :=
      ⟨fun b o q n _ _ => k b o (na n) q, fun b o q n _ _ => ⟨o.slots, k b o (na n) q⟩, fun b o q n _ => by rw [upd_ne (na n), upd_ne (nd q)]; exact n,
       fun b o q _ => by
        by_cases hb : b = a
        · exact ⟨_, by rw [hb]; exact hx⟩
        · exact ⟨o, k b o hb q⟩,
       fun b xs q => by rw [upd_ne (at_ne e q exo_tup), upd_ne (ne_of_none q hnd)]; exact q,
       fun b o v q => by rw [upd_ne (at_ne e q exo_frz), upd_ne (ne_of_none q hnd)]; exact q,
       fun b ps q => ⟨#[], by rw [upd_ne (at_ne e q exo_tbl), upd_ne (ne_of_none q hnd), q]; simp⟩⟩
    refine h dx _ hnd dne (I.un (t' := tk') U1 fun b o q => ?_)
    by_cases hb : b = a
    · subst hb
      rw [upd_same] at q
      cases q
      exact exo_ok hx
    · rw [upd_ne hb] at q
      by_cases hd : b = dx
      · subst hd
        rw [upd_same] at q
        cases q
        exact exd_ok hn (relO_put (fs := []) ry fun g => True.intro)
      · rw [upd_ne hd] at q
        refine (I.hok b o q).stay (fun c v hc z => k c v ?_ z) (fun c hc => ?_) (fun c xs hc => ?_)
        · rcases hc with hc | hc
          · rw [hc]; exact hb
          · exact at_ne e hc exo_own
        · rw [upd_ne (at_ne e hc exo_own), upd_ne (ne_of_none hc hnd)]; exact hc
        · rw [upd_ne (at_ne e hc exo_tup), upd_ne (ne_of_none hc hnd)]; exact hc
  show wpAny _ _ (storeInOwnDict (.ref a) (.ref C) (.str f _) f u b) _ _ _
  obtain ⟨nm, bs, mro, ns, qn, hd2, sn, sb, ab, col, del⟩ := cd
  dsimp only at hd'
  subst hd'
  unfold storeInOwnDict ownDictForStores
  repeat (first | with_reducible refine HandSPX.store_in_new ?_ ?_ | with_reducible refine wpAny_loadPart_at ho ?_ | with_reducible refine hcls.at ?_ | wp_step)
  · exact ⟨_, #[], _, (Heap.get?_update_ne _ _ _ _ hxs.symm).trans (Heap.get?_push_at rfl rfl), rfl, fun e he => absurd he (by simp), fun _ => rfl⟩
  · intro h' tk' hn' hs
    have hx1 := Heap.get?_push_of_some { cls := .type "dict", data := .dict #[] } ho
    refine fin h' tk' hp.objs.size (fun b o hb ho => ?_) (Nat.le_refl _) hxs.symm ?_ hn'
    · exact (hs.2 b (Nat.ne_of_lt (Heap.lt_size ho))).trans ((Heap.get?_update_ne _ _ _ _ hb).trans (Heap.get?_push_of_some _ ho))
    · exact (hs.2 a hxs).trans (Heap.get?_update_self _ hx1 rfl)
theorem xst_old {Q : Unit → Shared → Prop} (XB : XBase B newId initId bmB) (T : XC X.K C newId bmB) (I : Inv X pins σ H s) (e : H a = some (exo a C (some dx))) (ed : H dx = some (exd dx fs)) (hl : fs.length ≤ 900) (hno : PySem.W.findIn X.K (.ref C) f = some none) (ry : RelV y u)
    (h : ∀ s', Inv X pins σ (upd H dx (exd dx ((f, y) :: fs))) s' → Q () s') : wpAny (model X.prog X.w) A (setAttr (.ref a) f u) Q E s := by
  obtain ⟨t1, ho⟩ := exo_at I.hok e
  obtain ⟨mA, hns, rel⟩ := exd_at I.hok ed
  have hw := within_of rel
  obtain ⟨hp, g, d, t, os⟩ := s
  obtain ⟨oD, _, _, hoD, _, _⟩ := hns.count hw
  refine PySem.W.set_plain I.kIn (ox := { cls := .ref C, dict := some dx, data := .fields #[.ref t1, .none, .none, .none, .bool false, .none] }) (od := some oD) ⟨ho, rfl, rfl, hoD⟩ T.sa ?_
  obtain ⟨cd, hc, hd'⟩ := PySem.W.any_some T.hd
  refine PySem.W.osa_openX (od := some oD) (r := none) XB.S I.kIn ⟨ho, rfl, rfl, hoD⟩ T.ov (by unfold PySem.W.takerIn; rw [hno]; rfl) fun b => ?_
  have hcls : PySem.W.Looks (model X.prog X.w) hp (classData C) cd := PySem.W.looks_clsIn I.kIn hc
  show wpAny _ _ (storeInOwnDict (.ref a) (.ref C) (.str f _) f u b) _ _ _
  obtain ⟨nm, bs, mro, ns, qn, hd2, sn, sb, ab, col, del⟩ := cd
  dsimp only at hd'
  subst hd'
  unfold storeInOwnDict ownDictForStores
  repeat (first | with_reducible refine PySem.OEX.store_in_old hns hw (by rw [List.length_map]; omega) ?_ | with_reducible refine wpAny_loadPart_at ho ?_ | with_reducible refine hcls.at ?_ | wp_step)
  intro h' tk' hn' hs
  have hd : ∃ o, h'.get? dx = some o := by
    obtain ⟨o, _, _, e', _⟩ := hn'
    exact ⟨o, e'⟩
  exact h _ (I.write (t' := tk') (x := dx) (e := dx) (o := exd dx ((f, y) :: fs)) (by rw [ed]; exact True.intro) (.inl rfl) (fun b o hb ho => (hs.2 b hb).trans ho) hd (exd_ok hn' (relO_put ry rel)))
/-- B.__init__(self, ..): nothing of it is told -/
theorem xinit_ok {us : List Value} {Q : Value → Shared → Prop} (XB : XBase B newId initId bmB) (T : XC X.K C newId bmB) (I : Inv X pins σ H s) (e : H a = some (exo a C none)) (hl : us.length ≤ sizeLine) (h : ∀ s', Inv X pins σ H s' → Q .none s') :
    wpAny (model X.prog X.w) A (call (.builtin initId) (.ref a :: us)) Q E s := by
  obtain ⟨nm, N, q, bs, bm, hd, sn, sub, ab, col, dd, k0, k1, k2, k3, k5, hC, hT⟩ := PySem.W.excInit_of I.kIn T.ini
  obtain ⟨t1, ho⟩ := exo_at I.hok e
  obtain ⟨hp, g, d, t, os⟩ := s
  refine wpAny_call (PySem.HandSPX.init_base XB.F hT hC ho hl fun h' t2 k hx => ?_)
  have J := I.write (t' := t) (x := a) (e := a) (o := exo a C none) (by rw [e]; exact True.intro) (.inl rfl) k ⟨_, hx⟩ (exo_ok hx)
  have eu : upd H a (exo a C none) = H := funext fun b => by
    by_cases hb : b = a
    · rw [hb, upd_same, e]
    · rw [upd_ne hb]
  rw [eu] at J
  exact h _ J
end

/-! ### the body of an __init__ -/
/-- the class bs (own, its __init__ that of the built-in one) -/
structure XIn (K : PySem.W.Frag) (bs : Addr) (initId : String) : Prop where
  rd : PySem.W.readsIn K bs (.type "type") = true
  ga : PySem.W.specialIn K (.ref bs) "__getattribute__" = some (some (.builtin "type.__getattribute__"))
  at_ : PySem.W.findCls K (.ref bs) (.type "type") "__init__" = some (.val (.builtin initId))
theorem xinB_ok {K : PySem.W.Frag} {bs : Addr} {initId : String} (h : xinB K bs initId = true) : XIn K bs initId := by
  unfold xinB at h
  simp only [Bool.and_eq_true, decide_eq_true_eq] at h
  obtain ⟨h1, h2, h3⟩ := h
  refine ⟨h1, h2, ?_⟩
  split at h3
  · rename_i v e
    rw [e, beq_iff_eq.mp h3]
  · cases h3
/-- B.__init__(self, ..) -/
def tBI (C : Addr) (ta : TA) : TE := fun σ H Q => ta σ H fun vs H1 => ∃ (a : Addr) (ws : List V), vs = .ref a :: ws ∧ ws.length ≤ 1000 ∧ H1 a = some (exo a C none) ∧ Q .non H1
/-- self.f = e -/
def tXs (C : Addr) (f : Str) (to te : TE) : TS := fun D σ H => te σ H fun y H1 => to σ H1 fun x H2 => ∃ a : Addr, x = .ref a ∧
  ((H2 a = some (exo a C none) ∧ ∀ dx, H2 dx = none → dx ≠ a → D.nx σ (upd (upd H2 dx (exd dx [(f, y)])) a (exo a C (some dx)))) ∨
    ∃ (dx : Addr) (fs : List (Str × V)), H2 a = some (exo a C (some dx)) ∧ H2 dx = some (exd dx fs) ∧ fs.length ≤ 900 ∧ D.nx σ (upd H2 dx (exd dx ((f, y) :: fs))))
section
variable {X : Cx} {o e : Expr} {es : List Expr} {to te : TE} {ta : TA} {f bn : Str} {p p' p1 p2 pos : Pos} {C bs : Addr} {B newId initId : String} {bmB : List Value}
theorem pe_binit {pl : Sem Bool} (XB : XBase B newId initId bmB) (T : XC X.K C newId bmB) (J : XIn X.K bs initId) (hg : Gl X bn) (hm : X.mg bn = some (.ref bs)) (hh : PySem.W.handedIn (.builtin initId) = true) (ha : PA X (e :: es) ta) (hdb : (bn == ("__debug__" : Str)) = false := by decide)
    (hc : eval (.Call (.Attribute (.Name bn p1) "__init__" p2) (e :: es) [] pos) X.env = (do
      let ov ← eval (.Name bn p1) X.env
      standAt p2.atName
      let (f, first) ← holding [ov] (getMethod ov "__init__" pl)
      callWith pos f first (backTo pos (starEach (e :: es) X.env)) (backToKw pos (keywordEach [] X.env))) := by rfl)
    (he : starEach (e :: es) X.env = (false, eval e X.env) :: starEach es X.env := by rfl) (hpl : (backTo pos (starEach es X.env)).any (·.1) = false := by rfl) :
    PE X (.Call (.Attribute (.Name bn p1) "__init__" p2) (e :: es) [] pos) (tBI C ta) := by
  refine ⟨fun pins s σ H Q I h => ?_⟩
  refine PySem.W.methodCall_KW (ld_glob I hg hm ?_ hdb) hc
  refine PySem.W.method_cls I.kIn J.ga (PySem.W.cls_value I.kIn J.rd J.at_ hh ?_)
  show wpAny _ _ (callWith pos (Value.builtin initId) [] (backTo pos (starEach (e :: es) X.env)) []) _ _ _
  refine PyProof.Rows.callWith_method1 (thn (ha.run pos pins _ σ H _ (I.tok _) h) fun us s1 ⟨vs, H1, I1, r1, a, ws, ev, hl, ea, q⟩ => ?_) he hpl
  subst ev
  cases r1 with
  | @cons _ u0 _ ur ra rw' =>
    obtain rfl : u0 = Value.ref a := ra
    refine xinit_ok XB T I1 ea ?_ fun s' J => ⟨.non, H1, J, rfl, q⟩
    rw [← Paired.length rw', sizeLine_eq]
    omega
theorem ps_xst (XB : XBase B newId initId bmB) (T : XC X.K C newId bmB) (hno : PySem.W.findIn X.K (.ref C) f = some none) (ho : PE X o to) (he : PE X e te) (hs : swapsWith e (some (.Attribute o f p')) pos.line X.env = pure false := by rfl) : PS X (.Assign [.Attribute o f p'] e pos) (tXs C f to te) := by
  refine ⟨fun pins s σ H D I h => ?_⟩
  refine plainObj_wpAny_Assign_Attribute (thn (he.run pins s σ H _ I h) fun v s1 ⟨y, H1, I1, r1, q1⟩ => thn (ho.run pins s1 σ H1 _ I1 q1) fun u s2 ⟨x, H2, I2, r2, a, ex, q⟩ => ?_) hs
  subst ex
  obtain rfl : u = Value.ref a := r2
  rcases q with ⟨ea, q⟩ | ⟨dx, fs, ea, ed, hl, q⟩
  · exact xst_new XB T I2 ea hno r1 fun dx s' n ne J => ⟨σ, _, J, q dx n ne⟩
  · exact xst_old XB T I2 ea ed hl hno r1 fun s' J => ⟨σ, _, J, q⟩
end

/-! ### what an __init__ promises -/
/-- the exception at a, with these fields, is laid in the heap -/
def Made (C : Addr) (H : Hp) (a : Addr) (fs : List (Str × V)) (Q : Hp → Prop) : Prop :=
  (fs = [] ∧ Q (upd H a (exo a C none))) ∨ (fs ≠ [] ∧ ∀ dx, H dx = none → dx ≠ a → Q (upd (upd H dx (exd dx fs)) a (exo a C (some dx))))
/-- self, then the fields' values -/
def spI (C : Addr) (ks : List Str) : Sp := fun vs H Q _ => ∃ (a : Addr) (xs : List V), vs = .ref a :: xs ∧ xs.length = ks.length ∧ ∃ H0, H0 a = none ∧ H = upd H0 a (exo a C none) ∧ Made C H0 a (ks.zip xs).reverse (Q .non)
theorem spI_len {C : Addr} {ks : List Str} {n : Nat} (h : n = ks.length + 1) : ∀ vs H Q E, spI C ks vs H Q E → vs.length = n := by
  rintro vs H Q E ⟨a, xs, rfl, hl, _⟩
  rw [List.length_cons, hl, h]
theorem upd_twice {H : Hp} {a : Addr} {o o' : HO} : upd (upd H a o) a o' = upd H a o' := funext fun b => by
  by_cases hb : b = a
  · rw [hb, upd_same, upd_same]
  · rw [upd_ne hb, upd_ne hb, upd_ne hb]
theorem upd_swap {H : Hp} {a b : Addr} {o o' : HO} (n : a ≠ b) : upd (upd H a o) b o' = upd (upd H b o') a o := funext fun c => by
  by_cases h1 : c = a
  · rw [h1, upd_same, upd_ne n, upd_same]
  · by_cases h2 : c = b
    · rw [h2, upd_same, upd_ne (Ne.symm n), upd_same]
    · rw [upd_ne h1, upd_ne h2, upd_ne h2, upd_ne h1]
end Mi

namespace Mi
open PySem PySem.Spec PyProof.Rows L2

abbrev tI0 (C : Addr) (txt : Str) : TS := tDrop (tBI C (tCons (tVar 0) (tCons (tC (.str txt)) tNil)))
section
variable {C : Addr} {txt f f' : Str} {vs : List V} {H : Hp} {Q : VK} {E : XK} {N : List Str}
theorem init_pf0 (h : spI C [] vs H Q E) : tI0 C txt { nx := fun _ H' => Q .non H', rt := Q } (start N vs) H := by
  obtain ⟨a, xs, rfl, hl, H0, h0, rfl, m⟩ := h
  refine ⟨.ref a, by simp [L2.start], a, [.str txt], rfl, (Nat.le_of_ble_eq_true rfl), upd_same, ?_⟩
  rcases m with ⟨_, m⟩ | ⟨n, _⟩
  · exact m
  · exact absurd (by simp) n
theorem init_pf1 (h : spI C [f] vs H Q E) : tSeq (tI0 C txt) (tXs C f (tVar 0) (tVar 1)) { nx := fun _ H' => Q .non H', rt := Q } (start N vs) H := by
  obtain ⟨a, xs, rfl, hl, H0, h0, rfl, m⟩ := h
  match xs, hl with
  | [x], _ =>
    refine ⟨.ref a, by simp [L2.start], a, [.str txt], rfl, (Nat.le_of_ble_eq_true rfl), upd_same, ?_⟩
    refine ⟨x, by simp [L2.start], .ref a, by simp [L2.start], a, rfl, .inl ⟨upd_same, fun dx hd hn => ?_⟩⟩
    rw [upd_ne hn] at hd
    rcases m with ⟨n, _⟩ | ⟨_, m⟩
    · exact absurd n (by simp)
    · have e : upd (upd (upd H0 a (exo a C none)) dx (exd dx [(f, x)])) a (exo a C (some dx)) = upd (upd H0 dx (exd dx [(f, x)])) a (exo a C (some dx)) := by
        rw [upd_swap (Ne.symm hn), upd_twice]
      show Q .non _
      rw [e]
      exact m dx hd hn
theorem init_pf2 (h : spI C [f, f'] vs H Q E) : tSeq (tI0 C txt) (tSeq (tXs C f (tVar 0) (tVar 1)) (tXs C f' (tVar 0) (tVar 2))) { nx := fun _ H' => Q .non H', rt := Q } (start N vs) H := by
  obtain ⟨a, xs, rfl, hl, H0, h0, rfl, m⟩ := h
  match xs, hl with
  | [x, y], _ =>
    refine ⟨.ref a, by simp [L2.start], a, [.str txt], rfl, (Nat.le_of_ble_eq_true rfl), upd_same, ?_⟩
    refine ⟨x, by simp [L2.start], .ref a, by simp [L2.start], a, rfl, .inl ⟨upd_same, fun dx hd hn => ?_⟩⟩
    rw [upd_ne hn] at hd
    rcases m with ⟨n, _⟩ | ⟨_, m⟩
    · exact absurd n (by simp)
    · refine ⟨y, by simp [L2.start], .ref a, by simp [L2.start], a, rfl, .inr ⟨dx, [(f, x)], upd_same, by rw [upd_ne hn, upd_same], (Nat.le_of_ble_eq_true rfl), ?_⟩⟩
      have e : upd (upd (upd (upd H0 a (exo a C none)) dx (exd dx [(f, x)])) a (exo a C (some dx))) dx (exd dx [(f', y), (f, x)]) = upd (upd H0 dx (exd dx [(f', y), (f, x)])) a (exo a C (some dx)) := by
        rw [upd_swap (H := H0) (Ne.symm hn), upd_twice, upd_swap (H := upd H0 dx _) (Ne.symm hn), upd_twice]
      show Q .non _
      rw [e]
      exact m dx hd hn
end

/-! ### the exception is made -/
section
variable {X : Cx} {W : WX} {n : Nat} {C fI : Addr} {fd : FuncData} {ps ks : List Str} {B newId initId : String} {bmB : List Value}
theorem run_mkx {pins : List (Addr × Obj)} {σ : St} {H : Hp} {s : Shared} {Q : VK} {us zs : List Value} {kz : List (Str × Value)} {xs : List V} {E : XK} (XB : XBase B newId initId bmB) (T : XC X.K C newId bmB) (iC : PySem.W.findIn X.K (.ref C) "__init__" = some (some (.ref fI)))
    (tI : PySem.W.typeIn X.K (.ref fI) = some (.type "function")) (G : FnG X.prog X.w X.K X.mg X.base false n fI fd ps (spI C ks)) (rm : Room (n + 1) X.A) (hx : PassesAt (L2.CX X.prog X.w) X σ E) (I : Inv X pins σ H s) (r : Vals xs zs) (hl : xs.length = ks.length) (hus : us.length ≤ 1000)
    (bd : ∀ (a : Addr) (s : Shared), X.K.In s.heap → BindsTo s fd ⟨.ref a :: us, kz⟩ (ps.zip (.ref a :: zs)))
    (h : ∀ a, H a = none → Made C H a (ks.zip xs).reverse fun H' => Q (.ref a) H') :
    wpAny (model X.prog X.w) X.A (call (.ref C) us kz) (EP X pins σ Q) X.xe s := by
  obtain ⟨nm, N, q, bs, bm, hd, sn, sub, ab, col, dd, k0, k1, k2, k3, k5, hC, hT⟩ := PySem.W.excInit_of I.kIn T.ini
  obtain ⟨hp, g, dr, tk, os⟩ := s
  have hsz : hp.objs.size ≤ hp.objs.size + 1 := Nat.le_succ _
  have hn : H (hp.objs.size + 1) = none := I.hok.fresh hsz
  have kk : ∀ b o, hp.get? b = some o → ((hp.push (PySem.W.kdv_tup us)).push (PySem.HandSPX.excO C hp.objs.size)).get? b = some o := fun b o e => Heap.get?_push_of_some _ (Heap.get?_push_of_some _ e)
  have hget : ((hp.push (PySem.W.kdv_tup us)).push (PySem.HandSPX.excO C hp.objs.size)).get? (hp.objs.size + 1) = some (PySem.HandSPX.excO C hp.objs.size) := by heap_get
  have I2 := I.laid (t' := tk) (a := hp.objs.size + 1) (o := exo (hp.objs.size + 1) C none) (h' := (hp.push (PySem.W.kdv_tup us)).push (PySem.HandSPX.excO C hp.objs.size)) kk hsz (exo_ok hget)
  have hq : spI C ks (V.ref (hp.objs.size + 1) :: xs) (upd H (hp.objs.size + 1) (exo (hp.objs.size + 1) C none)) (fun v H2 => v = .non ∧ Q (.ref (hp.objs.size + 1)) H2) E := by
    refine ⟨_, xs, rfl, hl, H, hn, rfl, ?_⟩
    rcases h _ hn with ⟨e, m⟩ | ⟨e, m⟩
    · exact .inl ⟨e, rfl, m⟩
    · exact .inr ⟨e, fun dx h1 h2 => ⟨rfl, m dx h1 h2⟩⟩
  have r2 : Vals (V.ref (hp.objs.size + 1) :: xs) (Value.ref (hp.objs.size + 1) :: zs) := .cons rfl r
  refine wpAny_call (MiX.call_kw XB.F hT hC (PySem.W.looks_findIn I.kIn iC) (fun self => PySem.W.bind_fn I.kIn self tI) (by rw [sizeLine_eq]; omega)
    (codeAny_mono (G.run _ X.stack _ _ ⟨Value.ref (hp.objs.size + 1) :: us, kz⟩ (Value.ref (hp.objs.size + 1) :: zs) _ _ E (rm.make C us kz) (fun z => Bool.noConfusion z) (I2.env0.make C us kz) (bd _ _ I2.kIn) r2 hq) fun r s' hq' => ?_))
  cases r with
  | error er => exact hx pins _ _ er s' I2 hq'
  | ok fl =>
    cases fl with
    | ret u =>
      obtain ⟨v, H', I3, rv, ev, q3⟩ := I2.after hq'
      subst ev
      exact ⟨rv, ⟨V.ref (hp.objs.size + 1), H', I3, rfl, q3⟩⟩
    | next => exact False.elim hq'
    | brk => exact False.elim hq'
    | cont => exact False.elim hq'
end

theorem vals_back : ∀ {vs : List V} {us : List Value}, Vals vs us → Vals vs.reverse us.reverse
  | _, _, .nil => .nil
  | _, _, .cons h r => by
    rw [List.reverse_cons, List.reverse_cons]
    exact (vals_back r).append (.cons h .nil)
/-! ### as a value -/
def eMk (c : Str) (ks : List Str) (rv : Bool) (fa : FAr) : FE := fun ε => bnd (fa ε) fun ss ε1 => match asD ss with
  | some ds => if ds.length = ks.length then some (.v (.fz (.exc c (ks.zip (if rv then ds.reverse else ds)).reverse)) ε1) else none
  | none => none
theorem RepL.back {K : PySem.W.Frag} {F : Hp} : ∀ {vs : List V} {ds : List D}, RepL K F vs ds → RepL K F vs.reverse ds.reverse
  | _, _, .nil => .nil
  | _, _, .cons h r => by
    rw [List.reverse_cons, List.reverse_cons]
    exact (RepL.back r).app (.cons h .nil)
theorem RepF.app {K : PySem.W.Frag} {F : Hp} : ∀ {vs us : List (Str × V)} {ds es : List (Str × D)}, RepF K F vs ds → RepF K F us es → RepF K F (vs ++ us) (ds ++ es)
  | _, _, _, _, .nil, q => q
  | _, _, _, _, .cons h r, q => .cons h (RepF.app r q)
theorem RepF.back {K : PySem.W.Frag} {F : Hp} : ∀ {vs : List (Str × V)} {ds : List (Str × D)}, RepF K F vs ds → RepF K F vs.reverse ds.reverse
  | _, _, .nil => .nil
  | _, _, .cons h r => by
    rw [List.reverse_cons, List.reverse_cons]
    exact (RepF.back r).app (.cons h .nil)
theorem RepL.zip {K : PySem.W.Frag} {F : Hp} : ∀ {ks : List Str} {vs : List V} {ds : List D}, RepL K F vs ds → RepF K F (ks.zip vs) (ks.zip ds)
  | [], _, _, _ => .nil
  | _ :: _, _, _, .nil => .nil
  | _ :: _, _, _, .cons h r => .cons h (RepL.zip r)
theorem Gives.exc {K : PySem.W.Frag} {F H : Hp} {c : Str} {a : Addr} {fs : List (Str × V)} {gs : List (Str × D)} {Q : VK} (g : Gives K F H (.fz (.exc c gs)) Q) (sm : Same F H) (hp : H a = none) (r : RepF K F fs gs) : Made (He.ga K c) H a fs fun H' => Q (.ref a) H' := by
  have fa := sm.free hp
  cases fs with
  | nil =>
    cases r
    exact .inl ⟨rfl, g (.ref a) _ _ (Gr.new sm hp) (.exn upd_same) trivial⟩
  | cons p fs =>
    refine .inr ⟨by simp, fun dx hd hn => ?_⟩
    have fd := sm.free hd
    have g1 : Gr F H (upd F dx (exd dx (p :: fs))) (upd H dx (exd dx (p :: fs))) := Gr.new sm hd
    have g2 : Gr F H (upd (upd F dx (exd dx (p :: fs))) a (exo a (He.ga K c) (some dx))) (upd (upd H dx (exd dx (p :: fs))) a (exo a (He.ga K c) (some dx))) :=
      g1.trans (Gr.new g1.sub (by rw [upd_ne (Ne.symm hn)]; exact hp))
    refine g (.ref a) _ _ g2 (.exc upd_same (by rw [upd_ne hn, upd_same]) (r.up g2.fs)) trivial
section
variable {X : Cx} {W : WX} {n : Nat} {c : Str} {fI : Addr} {fd : FuncData} {ps ks : List Str} {B newId initId : String} {bmB : List Value} {p pos : Pos} {e : Expr} {es : List Expr} {kws : List Keyword} {fa : FAr}
theorem mkx_do {σ : St} {H : Hp} {Q : VK} {rv : Bool} (h : tM X.K W (eMk c ks rv fa) σ H Q) :
    tMA X.K W fa σ H fun vs H1 => vs.length = ks.length ∧ ∀ a, H1 a = none → Made (He.ga X.K c) H1 a (ks.zip (if rv then vs.reverse else vs)).reverse fun H' => Q (.ref a) H' := by
  obtain ⟨F, ε, E0, h⟩ := h
  refine ⟨F, ε, E0, DoA.bindE h fun ss ε1 vs H1 F1 a h1 => ?_⟩
  cases q : asD ss with
  | none => rw [q] at h1; exact h1.elim
  | some ds =>
    rw [q] at h1
    simp only at h1
    split at h1
    · rename_i hz
      have rl := a.ok.rep q
      refine ⟨by rw [rl.len]; exact hz, fun b hb => Gives.exc (h1.gives a.eo) a.eo.sub hb ?_⟩
      cases rv
      · exact rl.zip.back
      · exact rl.back.zip.back
    · exact h1.elim
/-- the class and its __init__, as the written part has them -/
structure XM (P : Program) (w : World) (K : PySem.W.Frag) (mg : Str → Option Value) (base : Heap) (n : Nat) (c : Str) (ks : List Str) : Prop where
  ex : ∃ (B newId initId : String) (bmB : List Value) (fI : Addr) (fd : FuncData) (ps : List Str), XBase B newId initId bmB ∧ XC K (He.ga K c) newId bmB ∧ mg c = some (.ref (He.ga K c)) ∧ PySem.W.findIn K (.ref (He.ga K c)) "__init__" = some (some (.ref fI)) ∧
    PySem.W.typeIn K (.ref fI) = some (.type "function") ∧ FnG P w K mg base false n fI fd ps (spI (He.ga K c) ks) ∧
    (∀ (a : Addr) (s : Shared) (us : List Value), us.length = ks.length → K.In s.heap → BindsTo s fd ⟨.ref a :: us, []⟩ (ps.zip (.ref a :: us))) ∧
    (∀ (a : Addr) (s : Shared) (us : List Value), us.length = ks.length → K.In s.heap → BindsTo s fd ⟨[.ref a], ks.zip us⟩ (ps.zip (.ref a :: us))) ∧
    (∀ (a : Addr) (s : Shared) (us : List Value), us.length = ks.length → K.In s.heap → BindsTo s fd ⟨[.ref a], ks.reverse.zip us⟩ (ps.zip (.ref a :: us.reverse)))
/-- C(e, ..) -/
theorem me_mkx (M : XM X.prog X.w X.K X.mg X.base n c ks) (rm : Room (n + 1) X.A) (tk : Takes X W) (hg : Gl X c) (hk : ks.length ≤ 1000) (ha : MA X W (e :: es) fa) (hdb : (c == ("__debug__" : Str)) = false := by decide)
    (he : starEach (e :: es) X.env = (false, eval e X.env) :: starEach es X.env := by rfl) (hpl : (backTo pos (starEach es X.env)).any (·.1) = false := by rfl) :
    ME X W (.Call (.Name c p) (e :: es) [] pos) (eMk c ks false fa) := by
  obtain ⟨B, newId, initId, bmB, fI, fd, ps, XB, T, hm, iC, tI, G, b1, b2, b3⟩ := M.ex
  refine ⟨fun pins st σ H Q I h => ?_⟩
  refine wpAny_Call_Name_kw (ld_glob I hg hm ?_ hdb)
  refine PySem.W.callWith_K (h₀ := X.base) I.ok.mod.kin T.kC (thn (ha.run pos pins st σ H _ I (mkx_do h)) fun us st1 ⟨vs, H1, I1, r, hl, q⟩ => ⟨I1.kIn, ?_⟩) he hpl
  have lu : us.length = ks.length := by rw [← r.length]; exact hl
  exact run_mkx XB T iC tI G rm (passAt tk σ) I1 r hl (by simpa using (by omega : us.length ≤ 1000)) (fun a s k => b1 a s us lu k) q
/-- C() -/
theorem me_mkx0 (M : XM X.prog X.w X.K X.mg X.base n c []) (rm : Room (n + 1) X.A) (tk : Takes X W) (hg : Gl X c) (hdb : (c == ("__debug__" : Str)) = false := by decide) :
    ME X W (.Call (.Name c p) [] [] pos) (eMk c [] false aNil) := by
  obtain ⟨B, newId, initId, bmB, fI, fd, ps, XB, T, hm, iC, tI, G, b1, b2, b3⟩ := M.ex
  refine ⟨fun pins st σ H Q I h => ?_⟩
  refine wpAny_Call_Name_kw (ld_glob I hg hm ?_ hdb)
  obtain ⟨F, ε, E0, h⟩ := mkx_do h
  have z := h [] H F ⟨.refl _, E0, .nil, .refl, fun p v d h1 _ => by simp at h1⟩
  exact PySem.W.callWith_K0 I.kIn T.kC <| run_mkx (us := []) XB T iC tI G rm (passAt tk σ) I .nil z.1 (by simp) (fun a s k => b1 a s [] rfl k) z.2
/-- C(k = v, ..), the parameters in their sequence, or in the contrary one -/
theorem me_mkxK {rv : Bool} (M : XM X.prog X.w X.K X.mg X.base n c ks) (rm : Room (n + 1) X.A) (tk : Takes X W) (hg : Gl X c) (hkw : PK X kws (tMA X.K W fa)) (hall : (backToKw pos (keywordEach kws X.env)).all (·.1.isSome) = true := by rfl)
    (hks : (backToKw pos (keywordEach kws X.env)).filterMap (·.1) = (if rv then ks.reverse else ks) := by rfl) (hdb : (c == ("__debug__" : Str)) = false := by decide)
    (hpl : ((backTo pos (starEach [] X.env)).any (·.1) || (backToKw pos (keywordEach kws X.env)).any (·.1.isNone)) = false := by rfl) :
    ME X W (.Call (.Name c p) [] kws pos) (eMk c ks rv fa) := by
  obtain ⟨B, newId, initId, bmB, fI, fd, ps, XB, T, hm, iC, tI, G, b1, b2, b3⟩ := M.ex
  refine ⟨fun pins st σ H Q I h => ?_⟩
  refine wpAny_Call_Name_kw (ld_glob I hg hm ?_ hdb)
  refine PySem.W.callWith_KW0 (h₀ := X.base) I.ok.mod.kin T.kC hall ?_ hpl
  refine thn (hkw.run pos pins st σ H _ I (mkx_do h)) fun us st1 ⟨vs, H1, I1, r, hl, q⟩ => ⟨I1.kIn, ?_⟩
  have lu : us.length = ks.length := by rw [← r.length]; exact hl
  rw [hks]
  cases rv with
  | false => exact run_mkx (us := []) XB T iC tI G rm (passAt tk σ) I1 r hl (by simp) (fun a s k => b2 a s us lu k) q
  | true =>
    have rr : Vals vs.reverse us.reverse := vals_back r
    exact run_mkx (us := []) XB T iC tI G rm (passAt tk σ) I1 rr (by simpa using hl) (by simp) (fun a s k => b3 a s us lu k) q
def kCons1 (f : FE) (g : FAr) : FAr := aCons f g
theorem pk_one {nm : Option Str} {kpos : Pos} {f : FE} {g : FAr} (h : ME X W e f) (h2 : PK X kws (tMA X.K W g)) : PK X (⟨nm, e, kpos⟩ :: kws) (tMA X.K W (aCons f g)) := by
  have z := pk_cons (nm := nm) (kpos := kpos) h h2
  refine ⟨fun ps pins s σ H Q I q => z.run ps pins s σ H Q I ?_⟩
  obtain ⟨F, ε, E0, h⟩ := q
  refine ⟨F, ε, E0, DoA.bindF h fun d ε1 v H1 F1 a h1 => ⟨F1, ε1, a.eo, DoA.bind h1 fun ss ε2 vs H2 F2 b h2 => ?_⟩⟩
  refine h2 (v :: vs) H2 F2 ⟨b.fs, b.eo, .val (a.rp.up b.fs) b.ok, b.fr, fun p u d' q1 q2 => ?_⟩
  cases p with
  | zero => simp at q2
  | succ p => exact b.mi p u d' (by simpa using q1) (by simpa using q2)
theorem pk_none : PK X [] (tMA X.K W aNil) := ⟨fun ps pins s σ H Q I q => pk_nil.run ps pins s σ H Q I (by
  obtain ⟨F, ε, E0, h⟩ := q
  exact h [] H F ⟨.refl _, E0, .nil, .refl, fun p v d h1 _ => by simp at h1⟩)⟩
end
end Mi

namespace Mi
open PySem PySem.Spec PyProof.Rows L2

/-! ### texts of data -/
def keyP : Key → PyData
  | .inl i => .int i
  | .inr x => .str x
mutual
def toTx : D → Option PyData
  | .non => some .none
  | .bl b => some (.bool b)
  | .int i => some (.int i)
  | .str x => some (.str x)
  | .lst xs => (toTxL xs).map .list
  | .rol xs => (toTxL xs).map .list
  | .tup xs => (toTxL xs).map .tuple
  | .dct kvs => (toTxK kvs).map .dict
  | .ins _ _ => none
  | .exc _ _ => none
def toTxL : List D → Option (List PyData)
  | [] => some []
  | d :: ds => (toTx d).bind fun p => (toTxL ds).map (p :: ·)
def toTxK : List (Key × D) → Option (List (PyData × PyData))
  | [] => some []
  | (k, d) :: ds => (toTx d).bind fun p => (toTxK ds).map ((keyP k, p) :: ·)
end
/-- the written part has the dict of modules -/
def SysIn (K : PySem.W.Frag) : Prop := ∃ o, K.lookup sysModules = some o ∧ o.cls = .type "dict"
theorem reads_key {h : Heap} {k : Key} {u : Value} (e : keyIs k u = true) : Reads h u (keyP k) [] := by
  rcases keyIs_shape e with ⟨i, t, rfl, rfl⟩ | ⟨x, t, rfl, rfl⟩
  · exact .int i t
  · exact .str x t
section
variable {X : Cx} {pins : List (Addr × Obj)} {σ : St} {H : Hp} {s : Shared}
theorem sys_ne (sy : SysIn X.K) (I : Inv X pins σ H s) {a : Addr} {o : Obj} (h : s.heap.get? a = some o) (c : o.cls ≠ .type "dict") : sysModules ≠ a := fun z => by
  obtain ⟨o', h1, h2⟩ := sy
  have h3 := I.kIn _ _ h1
  rw [z, h] at h3
  cases h3
  exact c h2
mutual
theorem Rep.rd (sy : SysIn X.K) (I : Inv X pins σ H s) : ∀ {v : V} {d : D} {p : PyData} {u : Value}, Rep X.K H v d → toTx d = some p → RelV v u → ∃ as, Reads s.heap u p as ∧ sysModules ∉ as
  | _, _, _, _, .non, h, r => by cases h; cases r; exact ⟨_, .none, by simp⟩
  | _, _, _, _, .bl b, h, r => by cases h; cases r; exact ⟨_, .bool b, by simp⟩
  | _, _, _, _, .int i, h, r => by cases h; obtain ⟨t, rfl⟩ := r; exact ⟨_, .int i t, by simp⟩
  | _, _, _, _, .str x, h, r => by cases h; obtain ⟨t, rfl⟩ := r; exact ⟨_, .str x t, by simp⟩
  | _, _, _, _, .lst e rr, h, r => by
    simp only [toTx, Option.map_eq_some_iff] at h
    obtain ⟨ps, h1, rfl⟩ := h
    cases r
    obtain ⟨its, rv, ⟨o, n, ho, hc, _, hd⟩, _⟩ := I.list (SqL.of e)
    obtain ⟨as, hr, hn⟩ := RepL.rd sy I rr h1 rv
    exact ⟨_, .list ho hc hd hr, by simp [hn]; exact sys_ne sy I ho (by rw [hc]; decide)⟩
  | _, _, _, _, .rol e rr, h, r => by
    simp only [toTx, Option.map_eq_some_iff] at h
    obtain ⟨ps, h1, rfl⟩ := h
    cases r
    obtain ⟨its, rv, ⟨o, n, ho, hc, _, hd⟩, _⟩ := I.list e
    obtain ⟨as, hr, hn⟩ := RepL.rd sy I rr h1 rv
    exact ⟨_, .list ho hc hd hr, by simp [hn]; exact sys_ne sy I ho (by rw [hc]; decide)⟩
  | _, _, _, _, .tup e rr, h, r => by
    simp only [toTx, Option.map_eq_some_iff] at h
    obtain ⟨ps, h1, rfl⟩ := h
    cases r
    obtain ⟨its, rv, ⟨o, ho, hc, n, hd⟩, _⟩ := I.tuple e
    obtain ⟨as, hr, hn⟩ := RepL.rd sy I rr h1 rv
    exact ⟨_, .tuple ho hc hd hr, hn⟩
  | _, _, _, _, .dct (a := a) e rr, h, r => by
    simp only [toTx, Option.map_eq_some_iff] at h
    obtain ⟨ps, h1, rfl⟩ := h
    cases r
    obtain ⟨_, hs, vs, kv, o, es, ep, ho, hx, hd, _, pr, _⟩ := dk_of I.hok e
    obtain ⟨as, bs, h2, h3, n1, n2⟩ := RepK.rd sy I rr h1 kv pr
    refine ⟨_, .dict ho hx.1 hd h2 h3, ?_⟩
    simp [n1, n2]
    exact fun z => by rw [← z] at hs; simp at hs
  | _, _, _, _, .ins e r, h, _ => by cases h
  | _, _, _, _, .exc e1 e2 r, h, _ => by cases h
  | _, _, _, _, .exn e, h, _ => by cases h
theorem RepL.rd (sy : SysIn X.K) (I : Inv X pins σ H s) : ∀ {vs : List V} {ds : List D} {ps : List PyData} {us : List Value}, RepL X.K H vs ds → toTxL ds = some ps → Vals vs us → ∃ as, ReadsAll s.heap us ps as ∧ sysModules ∉ as
  | _, _, _, _, .nil, h, r => by cases h; cases r; exact ⟨_, .nil, by simp⟩
  | _, _, _, _, .cons h1 rr, h, r => by
    simp only [toTxL, Option.bind_eq_some_iff, Option.map_eq_some_iff] at h
    obtain ⟨p, e1, ps, e2, rfl⟩ := h
    cases r with
    | cons r1 r2 =>
      obtain ⟨as, q1, n1⟩ := Rep.rd sy I h1 e1 r1
      obtain ⟨bs, q2, n2⟩ := RepL.rd sy I rr e2 r2
      exact ⟨_, .cons q1 q2, by simp [n1, n2]⟩
theorem RepK.rd (sy : SysIn X.K) (I : Inv X pins σ H s) : ∀ {vs : List (Key × V)} {ds : List (Key × D)} {ps : List (PyData × PyData)} {us : List (Key × Value)} {es : List DictEntry}, RepK X.K H vs ds → toTxK ds = some ps → KV vs us → Pairs (mixKind X.prog X.w) es us →
    ∃ as bs, ReadsAll s.heap (es.map (·.key)) (ps.map (·.1)) as ∧ ReadsAll s.heap (es.map (·.val)) (ps.map (·.2)) bs ∧ sysModules ∉ as ∧ sysModules ∉ bs
  | _, _, _, _, _, .nil, h, r, pr => by cases h; cases r; cases pr; exact ⟨_, _, .nil, .nil, by simp, by simp⟩
  | _, _, _, _, _, .cons h1 rr, h, r, pr => by
    simp only [toTxK, Option.bind_eq_some_iff, Option.map_eq_some_iff] at h
    obtain ⟨p, e1, ps, e2, rfl⟩ := h
    cases r with
    | cons r1 r2 =>
      cases pr with
      | cons k1 k2 k3 =>
        obtain ⟨rk, rv⟩ := r1
        dsimp only at rk rv
        subst rk
        obtain ⟨as, q1, n1⟩ := Rep.rd sy I h1 e1 rv
        obtain ⟨bs, cs, q2, q3, n2, n3⟩ := RepK.rd sy I rr e2 r2 k3
        refine ⟨_, _, .cons (reads_key k1) q2, .cons (k2 ▸ q1) q3, by simp [n2], by simp [n1, n3]⟩
end
end
def oRepr (d : D) : Option Sl := (toTx d).bind fun p => if p.showable = true ∧ p.shown.length ≤ sizeLine ∧ p.depth ≤ 60 then some (.fz (.str p.shown)) else none
def rRepr (K : PySem.W.Frag) : List V → Hp → VK → Prop := fun xs H Q => ∃ v d p, xs = [v] ∧ Rep K H v d ∧ toTx d = some p ∧ p.showable = true ∧ p.shown.length ≤ sizeLine ∧ p.depth ≤ 60 ∧ Q (.str p.shown) H
theorem cr_repr {X : Cx} (sy : SysIn X.K) (gd : X.A.guards = some []) (hu : X.A.units + 64 < cLine) : CallR X (.builtin "repr") (rRepr X.K) := by
  intro pins s σ H xs us Q I r h
  obtain ⟨v, d, p, rfl, rp, e, h1, h2, h3, q⟩ := h
  cases r with
  | cons r0 rr =>
    cases rr
    obtain ⟨as, rd, nm⟩ := rp.rd sy I e r0
    cases rd with
    | none => exact PySem.P.repr_of_none ⟨.str "None", H, I.tok _, ⟨_, rfl⟩, q⟩
    | bool b => exact PySem.P.repr_of_bool ⟨.str _, H, I.tok _, ⟨_, rfl⟩, q⟩
    | int i t => exact PySem.P.repr_of_int (by simpa [PyData.showable] using h1) ⟨.str _, H, I.tok _, ⟨_, rfl⟩, q⟩
    | str x t => exact PySem.P.repr_of_str ⟨.str _, H, I.tok _, ⟨_, rfl⟩, q⟩ h2
    | list a1 a2 a3 a4 => exact repr_of_reads' (.list a1 a2 a3 a4) h1 (fun _ => nm) gd (by omega) (fun _ _ e => e) (fun h' u tk hk => ⟨.str _, H, I.kept (t' := tk) hk, ⟨_, rfl⟩, q⟩) h2
    | tuple a1 a2 a3 a4 => exact repr_of_reads' (.tuple a1 a2 a3 a4) h1 (fun _ => nm) gd (by omega) (fun _ _ e => e) (fun h' u tk hk => ⟨.str _, H, I.kept (t' := tk) hk, ⟨_, rfl⟩, q⟩) h2
    | dict a1 a2 a3 a4 a5 => exact repr_of_reads' (.dict a1 a2 a3 a4 a5) h1 (fun _ => nm) gd (by omega) (fun _ _ e => e) (fun h' u tk hk => ⟨.str _, H, I.kept (t' := tk) hk, ⟨_, rfl⟩, q⟩) h2
theorem RepA.full {K : PySem.W.Frag} {F H : Hp} {v : V} {d : D} (s : Same F H) (r : RepA K F H v d) : Rep K H v d := by
  rcases r with r | ⟨a, o, rfl, h1, h2, t⟩
  · exact r.up s
  · exact (t.up s).rep h2
theorem p_repr {K : PySem.W.Frag} : PrimC K (rRepr K) oRepr := by
  intro F H vx x s Q sm rx e g
  unfold oRepr at e
  simp only [Option.bind_eq_some_iff] at e
  obtain ⟨p, e1, e2⟩ := e
  split at e2
  · rename_i z
    cases e2
    exact ⟨vx, x, p, rfl, rx.full sm, e1, z.1, z.2.1, z.2.2, g.same sm (.str _)⟩
  · cases e2
end Mi

namespace Mi
open PySem PySem.Spec PyProof.Rows L2

/-! ### enumerate -/
def enumD : Nat → List D → List D
  | _, [] => []
  | n, d :: ds => .tup [.int (n : Nat), d] :: enumD (n + 1) ds
theorem enumD_len : ∀ (n : Nat) (ds : List D), (enumD n ds).length = ds.length
  | _, [] => rfl
  | n, _ :: ds => by simp [enumD, enumD_len (n + 1) ds]
theorem enumD_at : ∀ (n : Nat) (ds : List D) (i : Nat) (d : D), ds[i]? = some d → (enumD n ds)[i]? = some (.tup [.int ((n + i : Nat)), d])
  | _, [], _, _, h => by simp at h
  | n, _ :: ds, 0, d, h => by simp at h; subst h; rfl
  | n, _ :: ds, i + 1, d, h => by
    have z := enumD_at (n + 1) ds i d (by simpa using h)
    simp only [enumD, List.getElem?_cons_succ, z]
    congr 4
    omega
def itemsL : D → Option (List D)
  | .lst ds => some ds
  | .rol ds => some ds
  | _ => none
def iEnumF (f : FE) : FI := fun ε => bf (f ε) fun d ε1 => (itemsL d).bind fun ds => some (.v (enumD 0 ds) ε1)
theorem walkD_enum {K : PySem.W.Frag} {F : Hp} {a : Addr} {vs : List V} {ds : List D} (h : SqL K F a vs) (r : RepL K F vs ds) : WalkD K F (Ite K a) (enumD 0 ds) := by
  refine ⟨fun H => SqL K H a vs, fun i H v H' => ∃ T x, v = .ref T ∧ H T = none ∧ H' = upd H T (.tup [.int (i : Nat), x]) ∧ vs[i]? = some x, ?_, fun H' s => sqL_up s h, fun i H1 x H2 F1 hi y s1 s2 => ?_⟩
  · rw [enumD_len, ← r.len]
    refine ⟨fun i H hi g => ⟨vs, vs[i], g, List.getElem?_eq_getElem hi⟩, fun H g => ⟨vs, g, Nat.le_refl _⟩, fun i H x H' hi g y => ?_⟩
    obtain ⟨T, z, e1, e2, e3, e4⟩ := y
    exact ⟨T, z, e1, e2, e3, e4 vs g⟩
  · obtain ⟨T, z, rfl, e2, rfl, e4⟩ := y
    obtain ⟨d, hd, rd⟩ := r.of e4
    refine ⟨upd F1 T (.tup [.int (i : Nat), z]), _, enumD_at 0 ds i d hd, Gr.new s2 e2, ?_⟩
    rw [Nat.zero_add]
    exact .tup (SqT.of upd_same) (.cons (.int _) (.cons ((rd.up s1).up (same_new (s2.free e2))) .nil))
theorem mi_enum {X : Cx} {W : WX} {e : Expr} {f : FE} {p pos tpos : Pos} {elts : List Expr} {kk : Nat} (hg : Gl X "enumerate") (hm : X.mg "enumerate" = none) (h : ME X W e f) (hs : starEach [e] X.env = [(false, eval e X.env)] := by rfl) :
    MI X W (.Tuple elts kk tpos) (.Call (.Name "enumerate" p) [e] [] pos) (iEnumF f) := by
  refine PI.imp (pi_enum hg hm (pa_cons h pa_nil hs) hs) fun σ H Q ⟨F, ε, E0, hq⟩ => ⟨F, ε, E0, DoI.bindF hq fun d ε1 v H1 F1 a h1 => ?_⟩
  cases hi : itemsL d with
  | none => rw [hi] at h1; exact h1.elim
  | some ds =>
    rw [hi] at h1
    have rp := a.rp
    cases rp with
    | lst e1 rl =>
      cases hi
      exact ⟨_, _, rfl, SqL.of (a.eo.sub _ _ e1), h1 _ H1 F1 ⟨.refl _, a.eo, walkD_enum (SqL.of e1) rl, .refl⟩⟩
    | rol e1 rl =>
      cases hi
      exact ⟨_, _, rfl, sqL_up a.eo.sub e1, h1 _ H1 F1 ⟨.refl _, a.eo, walkD_enum e1 rl, .refl⟩⟩
    | _ => cases hi

/-! ### exceptions: what is asked of them -/
/-- the classes cs are own classes of errors -/
def XAll (K : PySem.W.Frag) (cs : List Str) : Prop := ∀ c ∈ cs, ∃ newId bmB, XC K (He.ga K c) newId bmB
def oXf (cs : List Str) (f : Str) : D → Option Sl
  | .exc c gs => if c ∈ cs then (gs.lookup f).map .fz else none
  | _ => none
def rXf (K : PySem.W.Frag) (cs : List Str) (f : Str) : V → Hp → VK → Prop := fun x H Q => ∃ (a : Addr) (c : Str) (dx : Addr) (fs : List (Str × V)) (v : V), x = .ref a ∧ c ∈ cs ∧ H a = some (exo a (He.ga K c) (some dx)) ∧ H dx = some (exd dx fs) ∧ fs.lookup f = some v ∧ Q v H
theorem p_xf {K : PySem.W.Frag} {cs : List Str} {f : Str} : Prim1 K (rXf K cs f) (oXf cs f) := by
  intro F H vx x s Q sm rx e g
  have r := rx
  rcases r with r | ⟨a, o, rfl, h1, h2, t⟩
  · cases r with
    | exc e1 e2 rf =>
      simp only [oXf] at e
      split at e
      · rename_i hc
        simp only [Option.map_eq_some_iff] at e
        obtain ⟨d, e3, rfl⟩ := e
        obtain ⟨v, hv, rv⟩ := rf.look e3
        exact ⟨_, _, _, _, v, rfl, hc, sm _ _ e1, sm _ _ e2, hv, g.same sm rv⟩
      · cases e
    | exn e1 =>
      simp only [oXf] at e
      split at e
      · simp at e
      · cases e
    | _ => cases e
  · cases x with
    | exc c gs => exact t.elim
    | _ => cases e
theorem me_xf {X : Cx} {W : WX} {cs : List Str} {f : Str} {e : Expr} {fe : FE} {pos : Pos} (T : XAll X.K cs) (hno : ∀ c ∈ cs, PySem.W.findIn X.K (.ref (He.ga X.K c)) f = some none) (he : ME X W e fe) (hb : attributeBase e f X.env (eval e X.env) = eval e X.env := by rfl) :
    ME X W (.Attribute e f pos) (e1 (oXf cs f) fe) := by
  refine ⟨fun pins s σ H Q I h => ?_⟩
  refine attr_of hb (thn (he.run pins s σ H _ I (e1_ok p_xf h)) fun u s1 hh => ?_)
  obtain ⟨x, H1, I1, rx, a, c, dx, fs, v, ex, hc, ea, ed, l, q⟩ := hh
  subst ex
  obtain rfl : u = Value.ref a := rx
  obtain ⟨newId, bmB, C⟩ := T c hc
  obtain ⟨t1, ho⟩ := exo_at I1.hok ea
  obtain ⟨mA, hns, hr⟩ := exd_at I1.hok ed
  obtain ⟨od, hod, hl⟩ := lookIn_ns hns
  obtain ⟨u, hu, ru⟩ := RelO.some_of (v := v) (o := mA f) (by rw [← l]; exact hr f)
  have J : PySem.W.InstAt s1.heap a _ (He.ga X.K c) (some od) := ⟨ho, rfl, rfl, hod⟩
  exact HandSPX.exc_get I1.kIn J C.ga C.gg C.exC (PySem.W.findObj_own C.hd (hno c hc) rfl (by rw [hl, hu])) (handed_of ru) ⟨v, H1, I1.tok _, ru, q⟩
/-- isinstance(e, c), e an exception -/
def oIsx (tb : List (Str × Bool)) : D → Option Sl
  | .exc c _ => (tb.lookup c).map fun b => .fz (.bl b)
  | _ => none
def rIsx (K : PySem.W.Frag) (tb : List (Str × Bool)) (k : V) : List V → Hp → VK → Prop := fun xs H Q => ∃ (a : Addr) (c : Str) (b : Bool), xs = [.ref a, k] ∧ tb.lookup c = some b ∧ (H a = some (exo a (He.ga K c) none) ∨ ∃ dx fs, H a = some (exo a (He.ga K c) (some dx)) ∧ H dx = some (exd dx fs)) ∧ Q (.bl b) H
theorem cr_isx {X : Cx} {tb : List (Str × Bool)} {k : V} {kv : Value} (hk : ClsV k kv) (O : ObC X.K) (T : ∀ c b, tb.lookup c = some b → (∃ newId bmB, XC X.K (He.ga X.K c) newId bmB) ∧ PySem.W.kitOne X.K (.ref (He.ga X.K c)) kv = some b) :
    CallR X (.builtin "isinstance") (rIsx X.K tb k) := by
  intro pins s σ H xs us Q I r h
  obtain ⟨a, c, b, rfl, hb, ho, q⟩ := h
  obtain ⟨⟨newId, bmB, C⟩, kt⟩ := T c b hb
  obtain ⟨u1, u2, rfl, r1, r2⟩ := vals2 r
  have e2 := hk.eq r2
  subst e2
  cases r1
  obtain ⟨ox, od, J⟩ : ∃ ox od, PySem.W.InstAt s.heap a ox (He.ga X.K c) od := by
    rcases ho with ho | ⟨dx, fs, ho, hd⟩
    · obtain ⟨t1, z⟩ := exo_at I.hok ho
      exact ⟨_, none, z, rfl, rfl, trivial⟩
    · obtain ⟨t1, z⟩ := exo_at I.hok ho
      obtain ⟨mA, hns, hr⟩ := exd_at I.hok hd
      obtain ⟨oD, hoD, hl⟩ := lookIn_ns hns
      exact ⟨_, some oD, z, rfl, rfl, hoD⟩
  exact PySem.W.kia_one (PySem.W.kitx_exc (ox := ox) (od := od) C.cl C.ga C.gg C.exC C.cc O.sp O.tk C.ob) I.kIn J kt (fun z => nomatch z) fun tk => ⟨.bl b, H, I.kept (t' := tk) fun _ _ z => z, rfl, q⟩
theorem p_isx {K : PySem.W.Frag} {tb : List (Str × Bool)} {k : V} : Prim1 K (fun x H Q => rIsx K tb k [x, k] H Q) (oIsx tb) := by
  intro F H vx x s Q sm rx e g
  have r := rx
  rcases r with r | ⟨a, o, rfl, h1, h2, t⟩
  · cases r with
    | exc e1 e2 rf =>
      simp only [oIsx, Option.map_eq_some_iff] at e
      obtain ⟨b, hb, rfl⟩ := e
      exact ⟨_, _, b, rfl, hb, .inr ⟨_, _, sm _ _ e1, sm _ _ e2⟩, g.same sm (.bl b)⟩
    | exn e1 =>
      simp only [oIsx, Option.map_eq_some_iff] at e
      obtain ⟨b, hb, rfl⟩ := e
      exact ⟨_, _, b, rfl, hb, .inl (sm _ _ e1), g.same sm (.bl b)⟩
    | _ => cases e
  · cases x with
    | exc c gs => exact t.elim
    | _ => cases e
theorem me_isx {X : Cx} {W : WX} {tb : List (Str × Bool)} {k : V} {kv : Value} {e ce : Expr} {fe : FE} {p pos : Pos} (hk : ClsV k kv) (O : ObC X.K) (T : ∀ c b, tb.lookup c = some b → (∃ newId bmB, XC X.K (He.ga X.K c) newId bmB) ∧ PySem.W.kitOne X.K (.ref (He.ga X.K c)) kv = some b)
    (hg : Gl X "isinstance") (hm : X.mg "isinstance" = none) (he : ME X W e fe) (hc : PE X ce (tC k)) (hs : starEach [e, ce] X.env = (false, eval e X.env) :: starEach [ce] X.env := by rfl) (hs2 : starEach [ce] X.env = (false, eval ce X.env) :: starEach [] X.env := by rfl)
    (hpl : (backTo pos (starEach [ce] X.env)).any (·.1) = false := by rfl) : ME X W (.Call (.Name "isinstance" p) [e, ce] [] pos) (e1 (oIsx tb) fe) :=
  PE.imp (pe_callB (cr_isx hk O T) hg hm (by decide +kernel) (pa_cons he (pa_cons hc pa_nil hs2) hs) (by decide) (by decide) hs hpl) fun _ _ _ h => e1_ok p_isx h
end Mi

namespace Mi
open PySem PySem.Spec PyProof.Rows L2
/-! ### a Hook with a further test of the written part, the dict of modules among it -/
theorem sysB_ok {K : PySem.W.Frag} (h : sysB K = true) : SysIn K := by
  unfold sysB at h
  split at h
  · rename_i o e
    exact ⟨o, e, beq_iff_eq.mp h⟩
  · cases h
theorem obcB_ok {K : PySem.W.Frag} (h : obcB K = true) : ObC K := by
  unfold obcB at h
  simp only [Bool.and_eq_true, decide_eq_true_eq] at h
  exact ⟨h.1, h.2⟩
/-- the classes with their built-in bases -/
theorem xallB_at {K : PySem.W.Frag} {cs : List (Str × String)} (h : xallB K cs = true) {p : Str × String} (m : p ∈ cs) : XC K (He.ga K p.1) (p.2 ++ ".__new__") (tlOf p.2) := xcB_ok (List.all_eq_true.mp h p m)
theorem xallB_ok {K : PySem.W.Frag} {cs : List (Str × String)} (h : xallB K cs = true) : XAll K (cs.map (·.1)) := fun c hc => by
  obtain ⟨p, m, rfl⟩ := List.mem_map.mp hc
  exact ⟨_, _, xallB_at h m⟩
theorem nofB_ok {K : PySem.W.Frag} {cs : List Str} {f : Str} (h : nofB K cs f = true) : ∀ c ∈ cs, PySem.W.findIn K (.ref (He.ga K c)) f = some none := fun c hc => He.eqO_ok (List.all_eq_true.mp h c hc)
/-- which of the classes are under the class that a name, or a built-in type, tells -/
theorem lookup_mem {tb : List (Str × Bool)} {c : Str} {b : Bool} (h : tb.lookup c = some b) : (c, b) ∈ tb := by
  induction tb with
  | nil => simp at h
  | cons p tb ih =>
    obtain ⟨k, v⟩ := p
    rw [List.lookup_cons] at h
    cases q : (c == k) with
    | true =>
      rw [q] at h
      cases h
      rw [beq_iff_eq.mp q]
      exact List.mem_cons_self ..
    | false =>
      rw [q] at h
      exact List.mem_cons_of_mem _ (ih h)
theorem isB_ok {K : PySem.W.Frag} {t : Str ⊕ String} {tb : List (Str × Bool)} {cs : List (Str × String)} (h : isB K t tb = true) (x : xallB K cs = true) (s : (tb.all fun p => (cs.map (·.1)).contains p.1) = true) :
    ∀ c b, tb.lookup c = some b → (∃ newId bmB, XC K (He.ga K c) newId bmB) ∧ PySem.W.kitOne K (.ref (He.ga K c)) (kvOf K t) = some b := fun c b e => by
  have m := lookup_mem e
  refine ⟨xallB_ok x c (by simpa using List.all_eq_true.mp s _ m), of_decide_eq_true (List.all_eq_true.mp h _ m)⟩
/-- an __init__ of such a class -/
theorem inB_ok {K : PySem.W.Frag} {cs : List Str} (h : inB K cs = true) {c : Str} (m : c ∈ cs) : PySem.W.findIn K (.ref (He.ga K c)) "__init__" = some (some (.ref (He.fAd K (c, some "__init__")))) ∧ PySem.W.typeIn K (.ref (He.fAd K (c, some "__init__"))) = some (.type "function") := by
  have z := List.all_eq_true.mp h c m
  simp only [Bool.and_eq_true, decide_eq_true_eq] at z
  exact ⟨He.eqO_ok z.1, z.2⟩
theorem FunD.kb {K : PySem.W.Frag} {x qual : Str} {params : Arguments} {body : List Stmt} {scope : Scope} {kws : List (Str × V)} {f : Addr} {fd : FuncData} (F : FunD K x qual params body scope [] kws f fd) {ar : Args} {bs : List (Str × Value)}
    (h : ∀ (kV doc pm : Value) (an : Option Addr) (cdv ct : Value), bindArgs (PySem.W.fnOf x qual params body scope .none kV doc pm an cdv ct) ar = pure bs) (s : Shared) : BindsTo s fd ar bs := by
  obtain ⟨oc, od, dV, kV, doc, pm, an, cdv, ct, osl, rfl, lk, hcd, hD, hK⟩ := F.ex
  rcases hD with ⟨_, rfl⟩ | ⟨e, _⟩
  · exact .of_eq (h kV doc pm an cdv ct)
  · exact absurd rfl e
end Mi

namespace Mi
open PySem PySem.Spec PyProof.Rows L2
section
variable {P : Program} {w : World} {K : PySem.W.Frag} {mg mb : Str → Option Value} {u : Bool} {k : Nat} {fa a : Addr} {fd : FuncData} {x : Str} {sp : Sp} {st : Shared} {vs : List Value} {ns : List Int}
/-- what the law's def promises, at its caller, where nothing but the script is tracked -/
theorem call_from {H : Hp} (KX : K.In st.heap) (n1 : st.heap.Ns mainGlobals mg) (n2 : st.heap.Ns builtinsNs mb) (n3 : ∀ y : Str, y ≠ "__name__" → mb y = bootBuiltins y) (n4 : st.heap.NoLimit) (n5 : st.gens = #[])
    (ha : st.heap.get? a = some { cls := .type "list", data := .seq vs.toArray }) (hr : Room k callerA) (F : ∀ base : Heap, K.In base → base.Ns mainGlobals mg → FnG P w K mg base u k fa fd [x] sp)
    (bd : ∀ (s : Shared) (v : Value), BindsTo s fd ⟨[v], []⟩ [(x, v)]) (only : Only H) (hok : HOk P w H st.heap) (hA : ∀ b, H b ≠ none → b = a) (hK : H a ≠ none → K.lookup a = none)
    (wish : sp [.ref a] H (fun v _ => v = .bl true) fun _ _ _ => False) :
    codeAny (model P w) callerA (.call (.ref fa) ⟨[.ref a], []⟩) (fun r s' => r = .ok (.ret (.bool true)) ∧ OldK st.heap s'.heap ∧ s'.os = st.os ∧ AllBare s'.gens) st := by
  have seen : ∀ {b : Addr} {o : Obj}, st.heap.get? b = some o → H b = none → (hidT st.heap H).get? b = some o := fun e n => hidT_get e n
  have at_ : ∀ {b : Addr} {v : HO}, H b = some v → b = a := fun {b v} q => hA b (by rw [q]; simp)
  have dicts : ∀ {b : Addr} {o : Obj} {es : Array DictEntry} {ep : Nat}, st.heap.get? b = some o → o.data = .dict es ep → H b = none := fun {b o es ep} e d => by
    cases q : H b with
    | none => rfl
    | some v =>
      have z := at_ q
      subst z
      rw [ha] at e
      cases e
      have z : Data.seq vs.toArray _ = Data.dict es ep := d
      cases z
  have spaces : ∀ {b : Addr} {m : Str → Option Value}, st.heap.Ns b m → (hidT st.heap H).Ns b m := fun {b m} ⟨o, es, ep, e, d, r⟩ => ⟨o, es, ep, seen e (dicts e d), d, r⟩
  have inB : K.In (hidT st.heap H) := fun b o e => seen (KX b o e) (by
    cases q : H b with
    | none => rfl
    | some v =>
      have z := at_ q
      subst z
      rw [hK (by rw [q]; simp)] at e
      cases e)
  have md : Mod K mg (hidT st.heap H) := ⟨inB, spaces n1, ⟨mb, spaces n2, n3⟩, let ⟨mc, h1, h2⟩ := n4; ⟨mc, spaces h1, h2⟩⟩
  have ev : Env0 P w K mg (hidT st.heap H) callerA [] st H :=
    ⟨rfl, md, fun b o e => of_hidT e, Nat.le_of_eq (hidT_size _ _), trivial, fun b hb => absurd (show b ∈ ([] : List Addr) from hb) (by simp), hok, .of_eq n5⟩
  refine codeAny_mono ((F _ inB (spaces n1)).run callerA [] st H ⟨[.ref a], []⟩ [.ref a] [.ref a] _ _ hr (fun _ => rfl) ev (bd st (.ref a)) (.cons rfl .nil) wish) fun r s' h => ?_
  cases r with
  | error e =>
    have z : L2.CX P w [] H st (fun _ _ _ => False) e s' := h
    obtain ⟨_, _, _, _, _, _, _, _, _, _, _, _, y⟩ := z
    first | exact y.elim | simp at y
  | ok fl =>
    cases fl with
    | ret v' =>
      obtain ⟨v, H', os, bare, un, hok', rv, q⟩ := h
      have q : v = .bl true := q
      subst q
      have rv : v' = Value.bool true := rv
      subst rv
      refine ⟨rfl, OldK.of_keep fun b o e => ?_, os, bare⟩
      cases q : H b with
      | none => exact un.keep b o e q (fun z => absurd (show b ∈ ([] : List Addr) from z) (by simp)) (by simp)
      | some t =>
        rcases only b with z | ⟨ob, xs, z⟩
        · rw [q] at z
          cases z
        · obtain ⟨e1, _⟩ := hok b _ z
          obtain ⟨e2, _⟩ := hok' b _ (un.frzs b ob _ z)
          rw [e] at e1
          cases e1
          exact e2
    | next => exact h.elim
    | brk => exact h.elim
    | cont => exact h.elim
theorem call_law (KX : K.In st.heap) (n1 : st.heap.Ns mainGlobals mg) (n2 : st.heap.Ns builtinsNs mb) (n3 : ∀ y : Str, y ≠ "__name__" → mb y = bootBuiltins y) (n4 : st.heap.NoLimit) (n5 : st.gens = #[])
    (ha : st.heap.get? a = some { cls := .type "list", data := .seq vs.toArray }) (hi : IntsAre vs ns) (hl : ns.length ≤ sizeLine) (hr : Room k callerA) (F : ∀ base : Heap, K.In base → base.Ns mainGlobals mg → FnG P w K mg base u k fa fd [x] sp)
    (bd : ∀ (s : Shared) (v : Value), BindsTo s fd ⟨[v], []⟩ [(x, v)]) (wish : ∀ H : Hp, Only H → SqL K H a (ns.map V.int) → sp [.ref a] H (fun v _ => v = .bl true) fun _ _ _ => False) :
    codeAny (model P w) callerA (.call (.ref fa) ⟨[.ref a], []⟩) (fun r s' => r = .ok (.ret (.bool true)) ∧ OldK st.heap s'.heap ∧ s'.os = st.os ∧ AllBare s'.gens) st := by
  have rv := vals_ints hi
  have lv := hi.length
  cases hk : K.lookup a with
  | some o =>
    have e := KX a o hk
    rw [ha] at e
    cases e
    have o0 : Only (fun _ => none) := fun _ => .inl rfl
    refine call_from (H := fun _ => none) KX n1 n2 n3 n4 n5 ha hr F bd o0 (fun b v z => by have z : (none : Option HO) = some v := z; cases z) (fun b z => absurd rfl z) (fun z => absurd rfl z) (wish _ o0 ?_)
    exact .inr ⟨_, vs.toArray, _, hk, rfl, rfl, rfl, by rw [List.size_toArray, lv]; exact hl, by simpa using rv⟩
  | none =>
    have o0 : Only (fun b => if b = a then some (.frz { cls := .type "list", data := .seq vs.toArray } (.lst (ns.map V.int))) else none) := fun b => by
      by_cases hb : b = a
      · exact .inr ⟨_, _, if_pos hb⟩
      · exact .inl (if_neg hb)
    refine call_from KX n1 n2 n3 n4 n5 ha hr F bd o0 (fun b v z => ?_) (fun b z => ?_) (fun _ => hk) (wish _ o0 (.inl (.inr ⟨{ cls := .type "list", data := .seq vs.toArray }, if_pos rfl⟩)))
    · by_cases hb : b = a
      · have y := (if_pos hb).symm.trans z
        cases y
        subst hb
        exact ⟨ha, by rw [List.length_map]; exact hl, vs, _, rv, ha⟩
      · have y := (if_neg hb).symm.trans z
        cases y
    · by_cases hb : b = a
      · exact hb
      · exact absurd (if_neg hb) z
end
/-- the goal behind the head, by the promise of the law's def -/
theorem walk_law {l : PySem.W.OpenLaw} {n k : Nat} {q : Program} {loose : List Str} {XP : (Str → Option Value) → Heap → Prop} {YP : World → Heap → Prop} {d : DefRec} {u : Bool} {x : Str} (hn : l.most = some n) (hn2 : n ≤ sizeLine) (hdf : d.params.defaults = []) (hr : Room k callerA)
    (F : ∀ (w : World) (mg : Str → Option Value) (fa : Addr) (h : Heap), YP w h → h.Ns mainGlobals mg → mg d.name = some (.ref fa) →
      ∃ (K : PySem.W.Frag) (fd : FuncData) (sp : Sp), K.In h ∧ (∀ (s : Shared) (v : Value), BindsTo s fd ⟨[v], []⟩ [(x, v)]) ∧
        (∀ (H : Hp) (a : Addr) (ns : List Int), ns.length ≤ n → Only H → SqL K H a (ns.map V.int) → sp [.ref a] H (fun v _ => v = .bl true) fun _ _ _ => False) ∧
        ∀ base : Heap, K.In base → base.Ns mainGlobals mg → FnG l.prog w K mg base u k fa fd [x] sp) : PySem.W.WalkO q loose XP YP l.row.toRowW d [] (fun f vs => PySem.call f vs) := by
  refine Att.attach_call hn hdf fun w s0 s1 mg mb fa o pm cd doc a vs ns G Y ho hd hcd hmg hobj hints hlen hg => ?_
  obtain ⟨K, fd, sp, KX, hb, hsp, hF⟩ := F w mg fa _ Y G.T.g hmg
  exact call_law KX G.T.g G.T.b G.T.builtins G.T.nolimit hg hobj hints (Nat.le_trans hlen hn2) hr hF hb fun H hO hS => hsp H a ns hlen hO hS
end Mi

/-! a law that makes a list of pots, then walks it and changes each -/
namespace Mi
open PySem PySem.Spec PyProof.Rows L2
abbrev potV (x y : Int) : HO := .lst [.int x, .int y]
abbrev potD (x y : Int) : D := .lst [.int x, .int y]
theorem rep_ints {K : PySem.W.Frag} {F : Hp} : ∀ ns : List Int, RepL K F (ns.map V.int) (ns.map D.int)
  | [] => .nil
  | n :: ns => .cons (.int n) (rep_ints ns)
/-- the pots at bs, apart from F and from Da -/
structure Pots (Po : Int → Int → Prop) (F H : Hp) (Da : Addr) (bs : List Addr) : Prop where
  nd : bs.Nodup
  na : Da ∉ bs
  at_ : ∀ b ∈ bs, F b = none ∧ ∃ x y, H b = some (potV x y) ∧ Po x y
theorem rep_pot {K : PySem.W.Frag} {F : Hp} {vs : List V} {x y : Int} (h : RepL K F vs [.int x, .int y]) : vs = [.int x, .int y] := by
  cases h with
  | cons h1 r =>
    cases r with
    | cons h2 r => cases r; cases h1; cases h2; rfl
section
variable {K : PySem.W.Frag} {W : WX} {Po : Int → Int → Prop} {ds is : List D} {fi : FI} {fP fE : FE} {a : Addr} {H : Hp} {Q : VK}
abbrev s0 (a : Addr) : St := [some (.ref a), none, none, none]
abbrev e0 (ds : List D) : En := [.fz (.rol ds), .un, .un, .un]
theorem no_ow {ε : En} (h : ε.all (fun s => match s with | .ow _ => false | _ => true) = true) {σ : St} {F H : Hp} {b : Addr} {o : HO} (h1 : F b = none) (h2 : H b = some o) : Oth σ ε F H b o := ⟨h1, h2, fun i d e => by
  have z := List.all_eq_true.mp h _ (List.mem_of_getElem? e)
  simp at z⟩
theorem eok0 {F H : Hp} (s : Same F H) (r : Rep K F (.ref a) (.rol ds)) : EOk K F H (s0 a) (e0 ds) := by
  refine ⟨s, rfl, fun i t h n => ?_, fun i j d d' v h1 _ _ _ => ?_⟩
  · match i, h with
    | 0, h => cases h; exact ⟨_, rfl, r⟩
    | 1, h => cases h; exact absurd rfl n
    | 2, h => cases h; exact absurd rfl n
    | 3, h => cases h; exact absurd rfl n
    | i + 4, h => simp at h
  · match i, h1 with
    | 0, h => cases h
    | 1, h => cases h
    | 2, h => cases h
    | 3, h => cases h
    | i + 4, h => simp at h
/-- the list of pots is made -/
theorem pots_made {vs0 : List V} (r : SqL K H a vs0) (rl : RepL K H vs0 ds) (hfi : fi (e0 ds) = some (.v is (e0 ds))) (hl : is.length ≤ 1000)
    (hP : ∀ i ∈ is, ∃ x y, fP [.fz (.rol ds), .un, .fz i, .un] = some (.v (.ow (potD x y)) [.fz (.rol ds), .un, .fz i, .un]) ∧ Po x y)
    (h : ∀ Da bs H', H' Da = some (.lst (bs.map V.ref)) → bs.length ≤ 1000 → Pots Po (fun _ => none) H' Da bs → Q (.ref Da) H') :
    tLc (tMI K W fi) (tMG K [2] (gN 2)) (tMT K W0 bTrue) (tM K W0 fP) [2] (s0 a) H Q := by
  have E0 : EOk K H H (s0 a) (e0 ds) := eok0 (.refl _) (.rol r rl)
  refine ⟨H, e0 ds, E0, ?_⟩
  rw [hfi]
  intro J H1 F1 aI Da hDa
  obtain ⟨G, Y, w, hG, hY⟩ := aI.wk
  have fDa : F1 Da = none := aI.eo.sub.free hDa
  refine lc_it w (Pv := fun i H' => ∃ bs : List Addr, Same F1 H' ∧ H' Da = some (.lst (bs.map V.ref)) ∧ bs.length = i ∧ Pots Po F1 H' Da bs) ?_ ?_ ?_ ?_
  · exact ⟨[], aI.eo.sub.trans (same_new hDa), upd_same, rfl, List.nodup_nil, by simp, fun b hb => by simp at hb⟩
  · rintro i H' _ ⟨bs, sm, _⟩
    exact hG H' sm
  · rintro i x H' H2 hi ⟨bs, sm, hD, hb, pt⟩ y
    obtain ⟨F2, d, hd, gr, rp⟩ := hY i H' x H2 F1 hi y (.refl _) sm
    have md : d ∈ is := List.mem_of_getElem? hd
    obtain ⟨px, py, hp, po⟩ := hP d md
    have r2 : Rep K F2 (.ref a) (.rol ds) := Rep.up (aI.fs.trans gr.fs) (.rol r rl)
    refine ⟨F2, e0 ds, d, [.fz (.rol ds), .un, .fz d, .un], eok0 gr.sub r2, rp, rfl, fun σ3 H3 F3 s3 e3 k3 f3 => ⟨k3.wipe rfl, F3, _, e3, fun H4 F4 s4 e4 f4 => iteT ⟨F4, _, e4, ?_⟩⟩⟩
    rw [hp]
    intro v H5 F5 a5
    have keep : ∀ {b : Addr} {o : HO}, F1 b = none → H' b = some o → Oth σ3 [.fz (.rol ds), .un, .fz d, .un] F4 H4 b o := fun {b o} h1 h2 =>
      f4 _ _ (f3 _ _ (no_ow rfl (gr.own b o h1 h2).1 (gr.own b o h1 h2).2))
    have s15 : Same F1 F5 := ((gr.fs.trans s3).trans s4).trans a5.fs
    have oD := keep fDa hD
    obtain ⟨b, o, rfl, k1, k2, us, rfl, ru⟩ := a5.rs
    have eu := rep_pot ru
    subst eu
    have nD : b ≠ Da := fun z => a5.mi Da _ oD (by rw [z])
    have nB : b ∉ bs := fun z => by
      obtain ⟨z1, x', y', z2, _⟩ := pt.at_ b z
      exact a5.mi b _ (keep z1 z2) rfl
    refine ⟨bs.map V.ref, (a5.fr _ _ oD).at_, by rw [List.length_map, sizeLine_eq, hb]; omega, bs ++ [b], fun c u hc => ?_, by rw [upd_same]; simp, by simp [hb], ?_, ?_, fun c hc => ?_⟩
    · rw [upd_ne (fun z => by rw [z, fDa] at hc; cases hc)]
      exact a5.eo.sub _ _ (s15 _ _ hc)
    · rw [List.nodup_append]
      exact ⟨pt.nd, by simp, fun c hc e he => by simp at he; subst he; exact fun z => nB (z ▸ hc)⟩
    · simp only [List.mem_append, List.mem_singleton, not_or]
      exact ⟨pt.na, fun z => nD z.symm⟩
    · rcases List.mem_append.mp hc with hc | hc
      · obtain ⟨z1, x', y', z2, z3⟩ := pt.at_ c hc
        refine ⟨z1, x', y', ?_, z3⟩
        rw [upd_ne (show c ≠ Da from fun z => pt.na (z ▸ hc))]
        exact (a5.fr _ _ (keep z1 z2)).at_
      · simp at hc
        subst hc
        refine ⟨?_, px, py, ?_, po⟩
        · cases q : F1 c with
          | none => rfl
          | some u => rw [s15 _ _ q] at k1; cases k1
        · rw [upd_ne nD]; exact k2
  · rintro H' ⟨bs, sm, hD, hb, pt⟩
    exact h Da bs H' hD (by rw [hb]; exact hl) ⟨pt.nd, pt.na, fun b hb => ⟨rfl, (pt.at_ b hb).2⟩⟩
abbrev s1 (a Da : Addr) : St := [some (.ref a), some (.ref Da), none, none]
theorem eok1 {H : Hp} {Da b : Addr} {x y : Int} (h : H b = some (potV x y)) : EOk K (fun _ => none) H [some (.ref a), some (.ref Da), none, some (.ref b)] [.un, .un, .un, .ow (potD x y)] := by
  refine ⟨(fun _ _ z => nomatch z), rfl, fun i t hh n => ?_, fun i j d d' v h1 h2 _ _ => ?_⟩
  · match i, hh with
    | 0, hh => cases hh; exact absurd rfl n
    | 1, hh => cases hh; exact absurd rfl n
    | 2, hh => cases hh; exact absurd rfl n
    | 3, hh => cases hh; exact ⟨_, rfl, b, _, rfl, rfl, h, _, rfl, .cons (.int x) (.cons (.int y) .nil)⟩
    | i + 4, hh => simp at hh
  · match i, j, h1, h2 with
    | 0, _, hh, _ => cases hh
    | 1, _, hh, _ => cases hh
    | 2, _, hh, _ => cases hh
    | 3, 0, _, hh => cases hh
    | 3, 1, _, hh => cases hh
    | 3, 2, _, hh => cases hh
    | 3, 3, _, _ => rfl
    | 3, j + 4, _, hh => simp at hh
    | i + 4, _, hh, _ => simp at hh
/-- each pot is asked, and all say yes -/
theorem pots_walked {Da : Addr} {bs : List Addr} (hD : H Da = some (.lst (bs.map V.ref))) (hl : bs.length ≤ 1000) (pt : Pots Po (fun _ => none) H Da bs)
    (hE : ∀ x y, Po x y → ∃ x' y', fE [.un, .un, .un, .ow (potD x y)] = some (.v (.fz (.bl true)) [.un, .un, .un, .ow (potD x' y')]) ∧ Po x' y')
    (h : ∀ L H', H' L = some (.lst (List.replicate bs.length (V.bl true))) → Q (.ref L) H') :
    tLc (iList K (tVar 1)) (gName 3) (tMT K W0 bTrue) (tM K W0 fE) [3] (s1 a Da) H Q := by
  refine ⟨.ref Da, rfl, Da, rfl, ⟨_, SqL.of hD⟩, fun L hL => ?_⟩
  have nL : L ≠ Da := fun z => by rw [z, hD] at hL; cases hL
  have nB : L ∉ bs := fun z => by
    obtain ⟨_, x, y, e, _⟩ := pt.at_ L z
    rw [hL] at e
    cases e
  refine lc_it (J := Itl K Da) (n := (bs.map V.ref).length) walk_list (Pv := fun i H' => H' Da = some (.lst (bs.map V.ref)) ∧ H' L = some (.lst (List.replicate i (V.bl true))) ∧ Pots Po (fun _ => none) H' Da bs) ?_ ?_ ?_ ?_
  · refine ⟨by rw [upd_ne (Ne.symm nL)]; exact hD, upd_same, pt.nd, pt.na, fun b hb => ⟨rfl, ?_⟩⟩
    rw [upd_ne (show b ≠ L from fun z => nB (z ▸ hb))]
    exact (pt.at_ b hb).2
  · rintro i H' _ ⟨z, _⟩
    exact SqL.of z
  · rintro i x H' H2 hi ⟨z1, z2, z3⟩ ⟨rfl, hx⟩
    rw [List.getElem?_map] at hx
    cases q : bs[i]? with
    | none => rw [q] at hx; cases hx
    | some b =>
      rw [q] at hx
      cases hx
      have mb : b ∈ bs := List.mem_of_getElem? q
      obtain ⟨_, px, py, hb, po⟩ := z3.at_ b mb
      obtain ⟨x', y', e, po'⟩ := hE px py po
      refine ⟨rfl, fun _ => none, _, eok1 hb, fun H4 F4 s4 e4 f4 => iteT ⟨F4, _, e4, ?_⟩⟩
      rw [e]
      intro v H5 F5 a5
      have hv : v = .bl true := by
        have z := a5.rs
        cases z
        rfl
      subst hv
      have keep : ∀ {c : Addr} {o : HO}, c ≠ b → H2 c = some o → H5 c = some o := fun {c o} hn hc => (a5.fr c o (f4 c o ⟨rfl, hc, fun j d hj z => by
        match j, hj with
        | 0, hj => cases hj
        | 1, hj => cases hj
        | 2, hj => cases hj
        | 3, hj => exact hn (V.ref.inj (Option.some.inj (Option.some.inj (show some (some (V.ref b)) = some (some (V.ref c)) from z)))).symm
        | j + 4, hj => simp at hj⟩)).at_
      have nDb : Da ≠ b := fun z => z3.na (z ▸ mb)
      have nLb : L ≠ b := fun z => nB (z ▸ mb)
      have own : ∃ vs, H5 b = some (.lst vs) ∧ vs = [.int x', .int y'] := by
        obtain ⟨u, hu, c, o, rfl, k1, k2, us, rfl, ru⟩ := a5.eo.val 3 (.ow (potD x' y')) rfl (by simp)
        have hu : some (some (V.ref b)) = some (some (V.ref c)) := hu
        cases hu
        exact ⟨us, k2, rep_pot ru⟩
      obtain ⟨us, k2, rfl⟩ := own
      refine ⟨List.replicate i (V.bl true), keep nLb z2, ?_, ?_, ?_, z3.nd, z3.na, fun c hc => ⟨rfl, ?_⟩⟩
      · rw [List.length_replicate, sizeLine_eq]
        rw [List.length_map] at hi
        omega
      · rw [upd_ne (Ne.symm nL)]
        exact keep nDb z1
      · rw [upd_same, List.replicate_succ']
      · rw [upd_ne (show c ≠ L from fun z => nB (z ▸ hc))]
        by_cases hcb : c = b
        · subst hcb
          exact ⟨x', y', k2, po'⟩
        · obtain ⟨_, x2, y2, w1, w2⟩ := z3.at_ c hc
          exact ⟨x2, y2, keep hcb w1, w2⟩
  · rintro H' ⟨_, z2, _⟩
    rw [List.length_map] at z2
    exact h L H' z2
end
end Mi

namespace Law
open PySem PySem.Spec PyProof.Rows L2 Mi
structure Bl (mg : Str → Option Value) : Prop where
  ArithmeticError : mg "ArithmeticError" = none
  LookupError : mg "LookupError" = none
  RuntimeError : mg "RuntimeError" = none
  ValueError : mg "ValueError" = none
  abs : mg "abs" = none
  divmod : mg "divmod" = none
  enumerate : mg "enumerate" = none
  int : mg "int" = none
  isinstance : mg "isinstance" = none
  len : mg "len" = none
  max : mg "max" = none
  range : mg "range" = none
  repr : mg "repr" = none
structure Kx (P : Program) (w : World) (K : PySem.W.Frag) (mg : Str → Option Value) (base : Heap) : Prop where
  sy : SysIn K
  ob : ObC K
  xa : XAll K cs
  nf_hand : ∀ c ∈ cs, PySem.W.findIn K (.ref (He.ga K c)) "hand" = some none
  nf_limit : ∀ c ∈ cs, PySem.W.findIn K (.ref (He.ga K c)) "limit" = some none
  nf_line : ∀ c ∈ cs, PySem.W.findIn K (.ref (He.ga K c)) "line" = some none
  nf_position : ∀ c ∈ cs, PySem.W.findIn K (.ref (He.ga K c)) "position" = some none
  nf_value : ∀ c ∈ cs, PySem.W.findIn K (.ref (He.ga K c)) "value" = some none
  nf_what : ∀ c ∈ cs, PySem.W.findIn K (.ref (He.ga K c)) "what" = some none
  is_SettleError : ∀ c b, tb_SettleError.lookup c = some b → (∃ newId bmB, XC K (He.ga K c) newId bmB) ∧ PySem.W.kitOne K (.ref (He.ga K c)) (.ref (He.ga K "SettleError")) = some b
  g_SettleError : mg "SettleError" = some (.ref (He.ga K "SettleError"))
  is_InvalidDeeds : ∀ c b, tb_InvalidDeeds.lookup c = some b → (∃ newId bmB, XC K (He.ga K c) newId bmB) ∧ PySem.W.kitOne K (.ref (He.ga K c)) (.ref (He.ga K "InvalidDeeds")) = some b
  g_InvalidDeeds : mg "InvalidDeeds" = some (.ref (He.ga K "InvalidDeeds"))
  is_InvalidRows : ∀ c b, tb_InvalidRows.lookup c = some b → (∃ newId bmB, XC K (He.ga K c) newId bmB) ∧ PySem.W.kitOne K (.ref (He.ga K c)) (.ref (He.ga K "InvalidRows")) = some b
  g_InvalidRows : mg "InvalidRows" = some (.ref (He.ga K "InvalidRows"))
  is_InvalidState : ∀ c b, tb_InvalidState.lookup c = some b → (∃ newId bmB, XC K (He.ga K c) newId bmB) ∧ PySem.W.kitOne K (.ref (He.ga K c)) (.ref (He.ga K "InvalidState")) = some b
  g_InvalidState : mg "InvalidState" = some (.ref (He.ga K "InvalidState"))
  is_InvalidDeed : ∀ c b, tb_InvalidDeed.lookup c = some b → (∃ newId bmB, XC K (He.ga K c) newId bmB) ∧ PySem.W.kitOne K (.ref (He.ga K c)) (.ref (He.ga K "InvalidDeed")) = some b
  g_InvalidDeed : mg "InvalidDeed" = some (.ref (He.ga K "InvalidDeed"))
  is_InvalidWord : ∀ c b, tb_InvalidWord.lookup c = some b → (∃ newId bmB, XC K (He.ga K c) newId bmB) ∧ PySem.W.kitOne K (.ref (He.ga K c)) (.ref (He.ga K "InvalidWord")) = some b
  g_InvalidWord : mg "InvalidWord" = some (.ref (He.ga K "InvalidWord"))
  is_InvalidStates : ∀ c b, tb_InvalidStates.lookup c = some b → (∃ newId bmB, XC K (He.ga K c) newId bmB) ∧ PySem.W.kitOne K (.ref (He.ga K c)) (.ref (He.ga K "InvalidStates")) = some b
  g_InvalidStates : mg "InvalidStates" = some (.ref (He.ga K "InvalidStates"))
  is_InvalidNames : ∀ c b, tb_InvalidNames.lookup c = some b → (∃ newId bmB, XC K (He.ga K c) newId bmB) ∧ PySem.W.kitOne K (.ref (He.ga K c)) (.ref (He.ga K "InvalidNames")) = some b
  g_InvalidNames : mg "InvalidNames" = some (.ref (He.ga K "InvalidNames"))
  is_InvalidEntry : ∀ c b, tb_InvalidEntry.lookup c = some b → (∃ newId bmB, XC K (He.ga K c) newId bmB) ∧ PySem.W.kitOne K (.ref (He.ga K c)) (.ref (He.ga K "InvalidEntry")) = some b
  g_InvalidEntry : mg "InvalidEntry" = some (.ref (He.ga K "InvalidEntry"))
  is_InvalidAnswers : ∀ c b, tb_InvalidAnswers.lookup c = some b → (∃ newId bmB, XC K (He.ga K c) newId bmB) ∧ PySem.W.kitOne K (.ref (He.ga K c)) (.ref (He.ga K "InvalidAnswers")) = some b
  g_InvalidAnswers : mg "InvalidAnswers" = some (.ref (He.ga K "InvalidAnswers"))
  is_InvalidNumber : ∀ c b, tb_InvalidNumber.lookup c = some b → (∃ newId bmB, XC K (He.ga K c) newId bmB) ∧ PySem.W.kitOne K (.ref (He.ga K c)) (.ref (He.ga K "InvalidNumber")) = some b
  g_InvalidNumber : mg "InvalidNumber" = some (.ref (He.ga K "InvalidNumber"))
  is_InvalidTeam : ∀ c b, tb_InvalidTeam.lookup c = some b → (∃ newId bmB, XC K (He.ga K c) newId bmB) ∧ PySem.W.kitOne K (.ref (He.ga K c)) (.ref (He.ga K "InvalidTeam")) = some b
  g_InvalidTeam : mg "InvalidTeam" = some (.ref (He.ga K "InvalidTeam"))
  is_InvalidHand : ∀ c b, tb_InvalidHand.lookup c = some b → (∃ newId bmB, XC K (He.ga K c) newId bmB) ∧ PySem.W.kitOne K (.ref (He.ga K c)) (.ref (He.ga K "InvalidHand")) = some b
  g_InvalidHand : mg "InvalidHand" = some (.ref (He.ga K "InvalidHand"))
  is_InvalidOrder : ∀ c b, tb_InvalidOrder.lookup c = some b → (∃ newId bmB, XC K (He.ga K c) newId bmB) ∧ PySem.W.kitOne K (.ref (He.ga K c)) (.ref (He.ga K "InvalidOrder")) = some b
  g_InvalidOrder : mg "InvalidOrder" = some (.ref (He.ga K "InvalidOrder"))
  is_InvalidLayout : ∀ c b, tb_InvalidLayout.lookup c = some b → (∃ newId bmB, XC K (He.ga K c) newId bmB) ∧ PySem.W.kitOne K (.ref (He.ga K c)) (.ref (He.ga K "InvalidLayout")) = some b
  g_InvalidLayout : mg "InvalidLayout" = some (.ref (He.ga K "InvalidLayout"))
  is_InvalidThings : ∀ c b, tb_InvalidThings.lookup c = some b → (∃ newId bmB, XC K (He.ga K c) newId bmB) ∧ PySem.W.kitOne K (.ref (He.ga K c)) (.ref (He.ga K "InvalidThings")) = some b
  g_InvalidThings : mg "InvalidThings" = some (.ref (He.ga K "InvalidThings"))
  is_InvalidScripts : ∀ c b, tb_InvalidScripts.lookup c = some b → (∃ newId bmB, XC K (He.ga K c) newId bmB) ∧ PySem.W.kitOne K (.ref (He.ga K c)) (.ref (He.ga K "InvalidScripts")) = some b
  g_InvalidScripts : mg "InvalidScripts" = some (.ref (He.ga K "InvalidScripts"))
  is_InvalidWeaving : ∀ c b, tb_InvalidWeaving.lookup c = some b → (∃ newId bmB, XC K (He.ga K c) newId bmB) ∧ PySem.W.kitOne K (.ref (He.ga K c)) (.ref (He.ga K "InvalidWeaving")) = some b
  g_InvalidWeaving : mg "InvalidWeaving" = some (.ref (He.ga K "InvalidWeaving"))
  is_InvalidPlace : ∀ c b, tb_InvalidPlace.lookup c = some b → (∃ newId bmB, XC K (He.ga K c) newId bmB) ∧ PySem.W.kitOne K (.ref (He.ga K c)) (.ref (He.ga K "InvalidPlace")) = some b
  g_InvalidPlace : mg "InvalidPlace" = some (.ref (He.ga K "InvalidPlace"))
  is_InvalidText : ∀ c b, tb_InvalidText.lookup c = some b → (∃ newId bmB, XC K (He.ga K c) newId bmB) ∧ PySem.W.kitOne K (.ref (He.ga K c)) (.ref (He.ga K "InvalidText")) = some b
  g_InvalidText : mg "InvalidText" = some (.ref (He.ga K "InvalidText"))
  is_InvalidClaim : ∀ c b, tb_InvalidClaim.lookup c = some b → (∃ newId bmB, XC K (He.ga K c) newId bmB) ∧ PySem.W.kitOne K (.ref (He.ga K c)) (.ref (He.ga K "InvalidClaim")) = some b
  g_InvalidClaim : mg "InvalidClaim" = some (.ref (He.ga K "InvalidClaim"))
  is_InvalidCommand : ∀ c b, tb_InvalidCommand.lookup c = some b → (∃ newId bmB, XC K (He.ga K c) newId bmB) ∧ PySem.W.kitOne K (.ref (He.ga K c)) (.ref (He.ga K "InvalidCommand")) = some b
  g_InvalidCommand : mg "InvalidCommand" = some (.ref (He.ga K "InvalidCommand"))
  is_MissingError : ∀ c b, tb_MissingError.lookup c = some b → (∃ newId bmB, XC K (He.ga K c) newId bmB) ∧ PySem.W.kitOne K (.ref (He.ga K c)) (.ref (He.ga K "MissingError")) = some b
  g_MissingError : mg "MissingError" = some (.ref (He.ga K "MissingError"))
  is_NoSuch : ∀ c b, tb_NoSuch.lookup c = some b → (∃ newId bmB, XC K (He.ga K c) newId bmB) ∧ PySem.W.kitOne K (.ref (He.ga K c)) (.ref (He.ga K "NoSuch")) = some b
  g_NoSuch : mg "NoSuch" = some (.ref (He.ga K "NoSuch"))
  is_StateError : ∀ c b, tb_StateError.lookup c = some b → (∃ newId bmB, XC K (He.ga K c) newId bmB) ∧ PySem.W.kitOne K (.ref (He.ga K c)) (.ref (He.ga K "StateError")) = some b
  g_StateError : mg "StateError" = some (.ref (He.ga K "StateError"))
  is_SharedDeed : ∀ c b, tb_SharedDeed.lookup c = some b → (∃ newId bmB, XC K (He.ga K c) newId bmB) ∧ PySem.W.kitOne K (.ref (He.ga K c)) (.ref (He.ga K "SharedDeed")) = some b
  g_SharedDeed : mg "SharedDeed" = some (.ref (He.ga K "SharedDeed"))
  is_OtherThing : ∀ c b, tb_OtherThing.lookup c = some b → (∃ newId bmB, XC K (He.ga K c) newId bmB) ∧ PySem.W.kitOne K (.ref (He.ga K c)) (.ref (He.ga K "OtherThing")) = some b
  g_OtherThing : mg "OtherThing" = some (.ref (He.ga K "OtherThing"))
  is_LastOne : ∀ c b, tb_LastOne.lookup c = some b → (∃ newId bmB, XC K (He.ga K c) newId bmB) ∧ PySem.W.kitOne K (.ref (He.ga K c)) (.ref (He.ga K "LastOne")) = some b
  g_LastOne : mg "LastOne" = some (.ref (He.ga K "LastOne"))
  is_NotInIt : ∀ c b, tb_NotInIt.lookup c = some b → (∃ newId bmB, XC K (He.ga K c) newId bmB) ∧ PySem.W.kitOne K (.ref (He.ga K c)) (.ref (He.ga K "NotInIt")) = some b
  g_NotInIt : mg "NotInIt" = some (.ref (He.ga K "NotInIt"))
  is_NotTelling : ∀ c b, tb_NotTelling.lookup c = some b → (∃ newId bmB, XC K (He.ga K c) newId bmB) ∧ PySem.W.kitOne K (.ref (He.ga K c)) (.ref (He.ga K "NotTelling")) = some b
  g_NotTelling : mg "NotTelling" = some (.ref (He.ga K "NotTelling"))
  is_NotRecording : ∀ c b, tb_NotRecording.lookup c = some b → (∃ newId bmB, XC K (He.ga K c) newId bmB) ∧ PySem.W.kitOne K (.ref (He.ga K c)) (.ref (He.ga K "NotRecording")) = some b
  g_NotRecording : mg "NotRecording" = some (.ref (He.ga K "NotRecording"))
  is_NotRight : ∀ c b, tb_NotRight.lookup c = some b → (∃ newId bmB, XC K (He.ga K c) newId bmB) ∧ PySem.W.kitOne K (.ref (He.ga K c)) (.ref (He.ga K "NotRight")) = some b
  g_NotRight : mg "NotRight" = some (.ref (He.ga K "NotRight"))
  is_NotCritical : ∀ c b, tb_NotCritical.lookup c = some b → (∃ newId bmB, XC K (He.ga K c) newId bmB) ∧ PySem.W.kitOne K (.ref (He.ga K c)) (.ref (He.ga K "NotCritical")) = some b
  g_NotCritical : mg "NotCritical" = some (.ref (He.ga K "NotCritical"))
  is_NothingToUndo : ∀ c b, tb_NothingToUndo.lookup c = some b → (∃ newId bmB, XC K (He.ga K c) newId bmB) ∧ PySem.W.kitOne K (.ref (He.ga K c)) (.ref (He.ga K "NothingToUndo")) = some b
  g_NothingToUndo : mg "NothingToUndo" = some (.ref (He.ga K "NothingToUndo"))
  is_CommandFailed : ∀ c b, tb_CommandFailed.lookup c = some b → (∃ newId bmB, XC K (He.ga K c) newId bmB) ∧ PySem.W.kitOne K (.ref (He.ga K c)) (.ref (He.ga K "CommandFailed")) = some b
  g_CommandFailed : mg "CommandFailed" = some (.ref (He.ga K "CommandFailed"))
  is_LimitError : ∀ c b, tb_LimitError.lookup c = some b → (∃ newId bmB, XC K (He.ga K c) newId bmB) ∧ PySem.W.kitOne K (.ref (He.ga K c)) (.ref (He.ga K "LimitError")) = some b
  g_LimitError : mg "LimitError" = some (.ref (He.ga K "LimitError"))
  is_TooMany : ∀ c b, tb_TooMany.lookup c = some b → (∃ newId bmB, XC K (He.ga K c) newId bmB) ∧ PySem.W.kitOne K (.ref (He.ga K c)) (.ref (He.ga K "TooMany")) = some b
  g_TooMany : mg "TooMany" = some (.ref (He.ga K "TooMany"))
  is_ArithmeticError : ∀ c b, tb_ArithmeticError.lookup c = some b → (∃ newId bmB, XC K (He.ga K c) newId bmB) ∧ PySem.W.kitOne K (.ref (He.ga K c)) (.type "ArithmeticError") = some b
  is_LookupError : ∀ c b, tb_LookupError.lookup c = some b → (∃ newId bmB, XC K (He.ga K c) newId bmB) ∧ PySem.W.kitOne K (.ref (He.ga K c)) (.type "LookupError") = some b
  is_RuntimeError : ∀ c b, tb_RuntimeError.lookup c = some b → (∃ newId bmB, XC K (He.ga K c) newId bmB) ∧ PySem.W.kitOne K (.ref (He.ga K c)) (.type "RuntimeError") = some b
  is_ValueError : ∀ c b, tb_ValueError.lookup c = some b → (∃ newId bmB, XC K (He.ga K c) newId bmB) ∧ PySem.W.kitOne K (.ref (He.ga K c)) (.type "ValueError") = some b
  m_InvalidDeeds : XM P w K mg base 1 "InvalidDeeds" ["position"]
  m_InvalidRows : XM P w K mg base 1 "InvalidRows" ["position"]
  m_InvalidState : XM P w K mg base 1 "InvalidState" ["value"]
  m_InvalidDeed : XM P w K mg base 1 "InvalidDeed" ["value"]
  m_InvalidWord : XM P w K mg base 1 "InvalidWord" ["position"]
  m_InvalidStates : XM P w K mg base 1 "InvalidStates" ["value"]
  m_InvalidNames : XM P w K mg base 1 "InvalidNames" ["value"]
  m_InvalidEntry : XM P w K mg base 1 "InvalidEntry" ["value"]
  m_InvalidAnswers : XM P w K mg base 1 "InvalidAnswers" ["value"]
  m_InvalidNumber : XM P w K mg base 1 "InvalidNumber" ["value"]
  m_InvalidTeam : XM P w K mg base 1 "InvalidTeam" ["value"]
  m_InvalidHand : XM P w K mg base 1 "InvalidHand" ["value"]
  m_InvalidOrder : XM P w K mg base 1 "InvalidOrder" ["position"]
  m_InvalidLayout : XM P w K mg base 1 "InvalidLayout" ["value"]
  m_InvalidThings : XM P w K mg base 1 "InvalidThings" ["position"]
  m_InvalidScripts : XM P w K mg base 1 "InvalidScripts" ["position"]
  m_InvalidWeaving : XM P w K mg base 1 "InvalidWeaving" ["position"]
  m_InvalidPlace : XM P w K mg base 1 "InvalidPlace" ["value"]
  m_InvalidText : XM P w K mg base 1 "InvalidText" ["line"]
  m_InvalidClaim : XM P w K mg base 1 "InvalidClaim" ["value"]
  m_InvalidCommand : XM P w K mg base 1 "InvalidCommand" ["value"]
  m_NoSuch : XM P w K mg base 1 "NoSuch" ["value"]
  m_SharedDeed : XM P w K mg base 1 "SharedDeed" ["value"]
  m_OtherThing : XM P w K mg base 1 "OtherThing" ["value"]
  m_LastOne : XM P w K mg base 1 "LastOne" ["value"]
  m_NotInIt : XM P w K mg base 1 "NotInIt" ["hand"]
  m_NotTelling : XM P w K mg base 1 "NotTelling" []
  m_NotRecording : XM P w K mg base 1 "NotRecording" []
  m_NotRight : XM P w K mg base 1 "NotRight" []
  m_NotCritical : XM P w K mg base 1 "NotCritical" ["value"]
  m_NothingToUndo : XM P w K mg base 1 "NothingToUndo" []
  m_CommandFailed : XM P w K mg base 1 "CommandFailed" ["position"]
  m_TooMany : XM P w K mg base 1 "TooMany" ["what", "limit"]
section
variable {P : Program} {w : World} {K : PySem.W.Frag} {mg : Str → Option Value} {base : Heap} {f fI : Addr} {fd : FuncData}
theorem xs_InvalidDeeds : FnScope ["self", "position"] ["self", "position"] (defScope (inClass (top 2) 0)) := ⟨rfl, rfl, rfl, by decide +kernel, rfl, by decide +kernel, by decide +kernel⟩
theorem m_InvalidDeeds (D : FunD K "__init__" "InvalidDeeds.__init__" (defArgs (inClass (top 2) 0)) (defBody (inClass (top 2) 0)) (defScope (inClass (top 2) 0)) [] [] fI fd) (T : XC K (He.ga K "InvalidDeeds") "ValueError.__new__" (tlOf "ValueError")) (J : XIn K (He.ga K "SettleError") "ValueError.__init__") (hb : mg "SettleError" = some (.ref (He.ga K "SettleError"))) (hm : mg "InvalidDeeds" = some (.ref (He.ga K "InvalidDeeds")))
    (iC : PySem.W.findIn K (.ref (He.ga K "InvalidDeeds")) "__init__" = some (some (.ref fI))) (tI : PySem.W.typeIn K (.ref fI) = some (.type "function")) (n_position : PySem.W.findIn K (.ref (He.ga K "InvalidDeeds")) "position" = some none) : XM P w K mg base 1 "InvalidDeeds" ["position"] := by
  have S := xs_InvalidDeeds
  have G : FnG P w K mg base false 1 fI fd ["self", "position"] (spI (He.ga K "InvalidDeeds") ["position"]) := fnG_of D S (spI_len rfl) fun cv A out st H vs Q E rm gd h =>
    ⟨_, (pss_cons (ps_expr (pe_binit xb_VE T J (by rfl) hb (by decide +kernel) (pa_cons (pe_var (i := 0) rfl (.inl rfl)) (pa_cons pe_str pa_nil)))) (pss_one (ps_xst xb_VE T n_position (pe_var (i := 0) rfl (.inl rfl)) (pe_var (i := 1) rfl (.inl rfl))))), init_pf1 h⟩
  exact ⟨_, _, _, _, fI, fd, _, xb_VE, T, hm, iC, tI, G, fun a s us hl _ => match us, hl with | [u0], _ => FunD.kb D (fun _ _ _ _ _ _ => rfl) s,
    fun a s us hl _ => match us, hl with | [u0], _ => FunD.kb D (fun _ _ _ _ _ _ => rfl) s, fun a s us hl _ => match us, hl with | [u0], _ => FunD.kb D (fun _ _ _ _ _ _ => rfl) s⟩
theorem xs_InvalidRows : FnScope ["self", "position"] ["self", "position"] (defScope (inClass (top 3) 0)) := ⟨rfl, rfl, rfl, by decide +kernel, rfl, by decide +kernel, by decide +kernel⟩
theorem m_InvalidRows (D : FunD K "__init__" "InvalidRows.__init__" (defArgs (inClass (top 3) 0)) (defBody (inClass (top 3) 0)) (defScope (inClass (top 3) 0)) [] [] fI fd) (T : XC K (He.ga K "InvalidRows") "ValueError.__new__" (tlOf "ValueError")) (J : XIn K (He.ga K "SettleError") "ValueError.__init__") (hb : mg "SettleError" = some (.ref (He.ga K "SettleError"))) (hm : mg "InvalidRows" = some (.ref (He.ga K "InvalidRows")))
    (iC : PySem.W.findIn K (.ref (He.ga K "InvalidRows")) "__init__" = some (some (.ref fI))) (tI : PySem.W.typeIn K (.ref fI) = some (.type "function")) (n_position : PySem.W.findIn K (.ref (He.ga K "InvalidRows")) "position" = some none) : XM P w K mg base 1 "InvalidRows" ["position"] := by
  have S := xs_InvalidRows
  have G : FnG P w K mg base false 1 fI fd ["self", "position"] (spI (He.ga K "InvalidRows") ["position"]) := fnG_of D S (spI_len rfl) fun cv A out st H vs Q E rm gd h =>
    ⟨_, (pss_cons (ps_expr (pe_binit xb_VE T J (by rfl) hb (by decide +kernel) (pa_cons (pe_var (i := 0) rfl (.inl rfl)) (pa_cons pe_str pa_nil)))) (pss_one (ps_xst xb_VE T n_position (pe_var (i := 0) rfl (.inl rfl)) (pe_var (i := 1) rfl (.inl rfl))))), init_pf1 h⟩
  exact ⟨_, _, _, _, fI, fd, _, xb_VE, T, hm, iC, tI, G, fun a s us hl _ => match us, hl with | [u0], _ => FunD.kb D (fun _ _ _ _ _ _ => rfl) s,
    fun a s us hl _ => match us, hl with | [u0], _ => FunD.kb D (fun _ _ _ _ _ _ => rfl) s, fun a s us hl _ => match us, hl with | [u0], _ => FunD.kb D (fun _ _ _ _ _ _ => rfl) s⟩
theorem xs_InvalidState : FnScope ["self", "value"] ["self", "value"] (defScope (inClass (top 4) 0)) := ⟨rfl, rfl, rfl, by decide +kernel, rfl, by decide +kernel, by decide +kernel⟩
theorem m_InvalidState (D : FunD K "__init__" "InvalidState.__init__" (defArgs (inClass (top 4) 0)) (defBody (inClass (top 4) 0)) (defScope (inClass (top 4) 0)) [] [] fI fd) (T : XC K (He.ga K "InvalidState") "ValueError.__new__" (tlOf "ValueError")) (J : XIn K (He.ga K "SettleError") "ValueError.__init__") (hb : mg "SettleError" = some (.ref (He.ga K "SettleError"))) (hm : mg "InvalidState" = some (.ref (He.ga K "InvalidState")))
    (iC : PySem.W.findIn K (.ref (He.ga K "InvalidState")) "__init__" = some (some (.ref fI))) (tI : PySem.W.typeIn K (.ref fI) = some (.type "function")) (n_value : PySem.W.findIn K (.ref (He.ga K "InvalidState")) "value" = some none) : XM P w K mg base 1 "InvalidState" ["value"] := by
  have S := xs_InvalidState
  have G : FnG P w K mg base false 1 fI fd ["self", "value"] (spI (He.ga K "InvalidState") ["value"]) := fnG_of D S (spI_len rfl) fun cv A out st H vs Q E rm gd h =>
    ⟨_, (pss_cons (ps_expr (pe_binit xb_VE T J (by rfl) hb (by decide +kernel) (pa_cons (pe_var (i := 0) rfl (.inl rfl)) (pa_cons pe_str pa_nil)))) (pss_one (ps_xst xb_VE T n_value (pe_var (i := 0) rfl (.inl rfl)) (pe_var (i := 1) rfl (.inl rfl))))), init_pf1 h⟩
  exact ⟨_, _, _, _, fI, fd, _, xb_VE, T, hm, iC, tI, G, fun a s us hl _ => match us, hl with | [u0], _ => FunD.kb D (fun _ _ _ _ _ _ => rfl) s,
    fun a s us hl _ => match us, hl with | [u0], _ => FunD.kb D (fun _ _ _ _ _ _ => rfl) s, fun a s us hl _ => match us, hl with | [u0], _ => FunD.kb D (fun _ _ _ _ _ _ => rfl) s⟩
theorem xs_InvalidDeed : FnScope ["self", "value"] ["self", "value"] (defScope (inClass (top 5) 0)) := ⟨rfl, rfl, rfl, by decide +kernel, rfl, by decide +kernel, by decide +kernel⟩
theorem m_InvalidDeed (D : FunD K "__init__" "InvalidDeed.__init__" (defArgs (inClass (top 5) 0)) (defBody (inClass (top 5) 0)) (defScope (inClass (top 5) 0)) [] [] fI fd) (T : XC K (He.ga K "InvalidDeed") "ValueError.__new__" (tlOf "ValueError")) (J : XIn K (He.ga K "SettleError") "ValueError.__init__") (hb : mg "SettleError" = some (.ref (He.ga K "SettleError"))) (hm : mg "InvalidDeed" = some (.ref (He.ga K "InvalidDeed")))
    (iC : PySem.W.findIn K (.ref (He.ga K "InvalidDeed")) "__init__" = some (some (.ref fI))) (tI : PySem.W.typeIn K (.ref fI) = some (.type "function")) (n_value : PySem.W.findIn K (.ref (He.ga K "InvalidDeed")) "value" = some none) : XM P w K mg base 1 "InvalidDeed" ["value"] := by
  have S := xs_InvalidDeed
  have G : FnG P w K mg base false 1 fI fd ["self", "value"] (spI (He.ga K "InvalidDeed") ["value"]) := fnG_of D S (spI_len rfl) fun cv A out st H vs Q E rm gd h =>
    ⟨_, (pss_cons (ps_expr (pe_binit xb_VE T J (by rfl) hb (by decide +kernel) (pa_cons (pe_var (i := 0) rfl (.inl rfl)) (pa_cons pe_str pa_nil)))) (pss_one (ps_xst xb_VE T n_value (pe_var (i := 0) rfl (.inl rfl)) (pe_var (i := 1) rfl (.inl rfl))))), init_pf1 h⟩
  exact ⟨_, _, _, _, fI, fd, _, xb_VE, T, hm, iC, tI, G, fun a s us hl _ => match us, hl with | [u0], _ => FunD.kb D (fun _ _ _ _ _ _ => rfl) s,
    fun a s us hl _ => match us, hl with | [u0], _ => FunD.kb D (fun _ _ _ _ _ _ => rfl) s, fun a s us hl _ => match us, hl with | [u0], _ => FunD.kb D (fun _ _ _ _ _ _ => rfl) s⟩
theorem xs_InvalidWord : FnScope ["self", "position"] ["self", "position"] (defScope (inClass (top 6) 0)) := ⟨rfl, rfl, rfl, by decide +kernel, rfl, by decide +kernel, by decide +kernel⟩
theorem m_InvalidWord (D : FunD K "__init__" "InvalidWord.__init__" (defArgs (inClass (top 6) 0)) (defBody (inClass (top 6) 0)) (defScope (inClass (top 6) 0)) [] [] fI fd) (T : XC K (He.ga K "InvalidWord") "ValueError.__new__" (tlOf "ValueError")) (J : XIn K (He.ga K "SettleError") "ValueError.__init__") (hb : mg "SettleError" = some (.ref (He.ga K "SettleError"))) (hm : mg "InvalidWord" = some (.ref (He.ga K "InvalidWord")))
    (iC : PySem.W.findIn K (.ref (He.ga K "InvalidWord")) "__init__" = some (some (.ref fI))) (tI : PySem.W.typeIn K (.ref fI) = some (.type "function")) (n_position : PySem.W.findIn K (.ref (He.ga K "InvalidWord")) "position" = some none) : XM P w K mg base 1 "InvalidWord" ["position"] := by
  have S := xs_InvalidWord
  have G : FnG P w K mg base false 1 fI fd ["self", "position"] (spI (He.ga K "InvalidWord") ["position"]) := fnG_of D S (spI_len rfl) fun cv A out st H vs Q E rm gd h =>
    ⟨_, (pss_cons (ps_expr (pe_binit xb_VE T J (by rfl) hb (by decide +kernel) (pa_cons (pe_var (i := 0) rfl (.inl rfl)) (pa_cons pe_str pa_nil)))) (pss_one (ps_xst xb_VE T n_position (pe_var (i := 0) rfl (.inl rfl)) (pe_var (i := 1) rfl (.inl rfl))))), init_pf1 h⟩
  exact ⟨_, _, _, _, fI, fd, _, xb_VE, T, hm, iC, tI, G, fun a s us hl _ => match us, hl with | [u0], _ => FunD.kb D (fun _ _ _ _ _ _ => rfl) s,
    fun a s us hl _ => match us, hl with | [u0], _ => FunD.kb D (fun _ _ _ _ _ _ => rfl) s, fun a s us hl _ => match us, hl with | [u0], _ => FunD.kb D (fun _ _ _ _ _ _ => rfl) s⟩
theorem xs_InvalidStates : FnScope ["self", "value"] ["self", "value"] (defScope (inClass (top 7) 0)) := ⟨rfl, rfl, rfl, by decide +kernel, rfl, by decide +kernel, by decide +kernel⟩
theorem m_InvalidStates (D : FunD K "__init__" "InvalidStates.__init__" (defArgs (inClass (top 7) 0)) (defBody (inClass (top 7) 0)) (defScope (inClass (top 7) 0)) [] [] fI fd) (T : XC K (He.ga K "InvalidStates") "ValueError.__new__" (tlOf "ValueError")) (J : XIn K (He.ga K "SettleError") "ValueError.__init__") (hb : mg "SettleError" = some (.ref (He.ga K "SettleError"))) (hm : mg "InvalidStates" = some (.ref (He.ga K "InvalidStates")))
    (iC : PySem.W.findIn K (.ref (He.ga K "InvalidStates")) "__init__" = some (some (.ref fI))) (tI : PySem.W.typeIn K (.ref fI) = some (.type "function")) (n_value : PySem.W.findIn K (.ref (He.ga K "InvalidStates")) "value" = some none) : XM P w K mg base 1 "InvalidStates" ["value"] := by
  have S := xs_InvalidStates
  have G : FnG P w K mg base false 1 fI fd ["self", "value"] (spI (He.ga K "InvalidStates") ["value"]) := fnG_of D S (spI_len rfl) fun cv A out st H vs Q E rm gd h =>
    ⟨_, (pss_cons (ps_expr (pe_binit xb_VE T J (by rfl) hb (by decide +kernel) (pa_cons (pe_var (i := 0) rfl (.inl rfl)) (pa_cons pe_str pa_nil)))) (pss_one (ps_xst xb_VE T n_value (pe_var (i := 0) rfl (.inl rfl)) (pe_var (i := 1) rfl (.inl rfl))))), init_pf1 h⟩
  exact ⟨_, _, _, _, fI, fd, _, xb_VE, T, hm, iC, tI, G, fun a s us hl _ => match us, hl with | [u0], _ => FunD.kb D (fun _ _ _ _ _ _ => rfl) s,
    fun a s us hl _ => match us, hl with | [u0], _ => FunD.kb D (fun _ _ _ _ _ _ => rfl) s, fun a s us hl _ => match us, hl with | [u0], _ => FunD.kb D (fun _ _ _ _ _ _ => rfl) s⟩
theorem xs_InvalidNames : FnScope ["self", "value"] ["self", "value"] (defScope (inClass (top 8) 0)) := ⟨rfl, rfl, rfl, by decide +kernel, rfl, by decide +kernel, by decide +kernel⟩
theorem m_InvalidNames (D : FunD K "__init__" "InvalidNames.__init__" (defArgs (inClass (top 8) 0)) (defBody (inClass (top 8) 0)) (defScope (inClass (top 8) 0)) [] [] fI fd) (T : XC K (He.ga K "InvalidNames") "ValueError.__new__" (tlOf "ValueError")) (J : XIn K (He.ga K "SettleError") "ValueError.__init__") (hb : mg "SettleError" = some (.ref (He.ga K "SettleError"))) (hm : mg "InvalidNames" = some (.ref (He.ga K "InvalidNames")))
    (iC : PySem.W.findIn K (.ref (He.ga K "InvalidNames")) "__init__" = some (some (.ref fI))) (tI : PySem.W.typeIn K (.ref fI) = some (.type "function")) (n_value : PySem.W.findIn K (.ref (He.ga K "InvalidNames")) "value" = some none) : XM P w K mg base 1 "InvalidNames" ["value"] := by
  have S := xs_InvalidNames
  have G : FnG P w K mg base false 1 fI fd ["self", "value"] (spI (He.ga K "InvalidNames") ["value"]) := fnG_of D S (spI_len rfl) fun cv A out st H vs Q E rm gd h =>
    ⟨_, (pss_cons (ps_expr (pe_binit xb_VE T J (by rfl) hb (by decide +kernel) (pa_cons (pe_var (i := 0) rfl (.inl rfl)) (pa_cons pe_str pa_nil)))) (pss_one (ps_xst xb_VE T n_value (pe_var (i := 0) rfl (.inl rfl)) (pe_var (i := 1) rfl (.inl rfl))))), init_pf1 h⟩
  exact ⟨_, _, _, _, fI, fd, _, xb_VE, T, hm, iC, tI, G, fun a s us hl _ => match us, hl with | [u0], _ => FunD.kb D (fun _ _ _ _ _ _ => rfl) s,
    fun a s us hl _ => match us, hl with | [u0], _ => FunD.kb D (fun _ _ _ _ _ _ => rfl) s, fun a s us hl _ => match us, hl with | [u0], _ => FunD.kb D (fun _ _ _ _ _ _ => rfl) s⟩
theorem xs_InvalidEntry : FnScope ["self", "value"] ["self", "value"] (defScope (inClass (top 9) 0)) := ⟨rfl, rfl, rfl, by decide +kernel, rfl, by decide +kernel, by decide +kernel⟩
theorem m_InvalidEntry (D : FunD K "__init__" "InvalidEntry.__init__" (defArgs (inClass (top 9) 0)) (defBody (inClass (top 9) 0)) (defScope (inClass (top 9) 0)) [] [] fI fd) (T : XC K (He.ga K "InvalidEntry") "ValueError.__new__" (tlOf "ValueError")) (J : XIn K (He.ga K "SettleError") "ValueError.__init__") (hb : mg "SettleError" = some (.ref (He.ga K "SettleError"))) (hm : mg "InvalidEntry" = some (.ref (He.ga K "InvalidEntry")))
    (iC : PySem.W.findIn K (.ref (He.ga K "InvalidEntry")) "__init__" = some (some (.ref fI))) (tI : PySem.W.typeIn K (.ref fI) = some (.type "function")) (n_value : PySem.W.findIn K (.ref (He.ga K "InvalidEntry")) "value" = some none) : XM P w K mg base 1 "InvalidEntry" ["value"] := by
  have S := xs_InvalidEntry
  have G : FnG P w K mg base false 1 fI fd ["self", "value"] (spI (He.ga K "InvalidEntry") ["value"]) := fnG_of D S (spI_len rfl) fun cv A out st H vs Q E rm gd h =>
    ⟨_, (pss_cons (ps_expr (pe_binit xb_VE T J (by rfl) hb (by decide +kernel) (pa_cons (pe_var (i := 0) rfl (.inl rfl)) (pa_cons pe_str pa_nil)))) (pss_one (ps_xst xb_VE T n_value (pe_var (i := 0) rfl (.inl rfl)) (pe_var (i := 1) rfl (.inl rfl))))), init_pf1 h⟩
  exact ⟨_, _, _, _, fI, fd, _, xb_VE, T, hm, iC, tI, G, fun a s us hl _ => match us, hl with | [u0], _ => FunD.kb D (fun _ _ _ _ _ _ => rfl) s,
    fun a s us hl _ => match us, hl with | [u0], _ => FunD.kb D (fun _ _ _ _ _ _ => rfl) s, fun a s us hl _ => match us, hl with | [u0], _ => FunD.kb D (fun _ _ _ _ _ _ => rfl) s⟩
theorem xs_InvalidAnswers : FnScope ["self", "value"] ["self", "value"] (defScope (inClass (top 10) 0)) := ⟨rfl, rfl, rfl, by decide +kernel, rfl, by decide +kernel, by decide +kernel⟩
theorem m_InvalidAnswers (D : FunD K "__init__" "InvalidAnswers.__init__" (defArgs (inClass (top 10) 0)) (defBody (inClass (top 10) 0)) (defScope (inClass (top 10) 0)) [] [] fI fd) (T : XC K (He.ga K "InvalidAnswers") "ValueError.__new__" (tlOf "ValueError")) (J : XIn K (He.ga K "SettleError") "ValueError.__init__") (hb : mg "SettleError" = some (.ref (He.ga K "SettleError"))) (hm : mg "InvalidAnswers" = some (.ref (He.ga K "InvalidAnswers")))
    (iC : PySem.W.findIn K (.ref (He.ga K "InvalidAnswers")) "__init__" = some (some (.ref fI))) (tI : PySem.W.typeIn K (.ref fI) = some (.type "function")) (n_value : PySem.W.findIn K (.ref (He.ga K "InvalidAnswers")) "value" = some none) : XM P w K mg base 1 "InvalidAnswers" ["value"] := by
  have S := xs_InvalidAnswers
  have G : FnG P w K mg base false 1 fI fd ["self", "value"] (spI (He.ga K "InvalidAnswers") ["value"]) := fnG_of D S (spI_len rfl) fun cv A out st H vs Q E rm gd h =>
    ⟨_, (pss_cons (ps_expr (pe_binit xb_VE T J (by rfl) hb (by decide +kernel) (pa_cons (pe_var (i := 0) rfl (.inl rfl)) (pa_cons pe_str pa_nil)))) (pss_one (ps_xst xb_VE T n_value (pe_var (i := 0) rfl (.inl rfl)) (pe_var (i := 1) rfl (.inl rfl))))), init_pf1 h⟩
  exact ⟨_, _, _, _, fI, fd, _, xb_VE, T, hm, iC, tI, G, fun a s us hl _ => match us, hl with | [u0], _ => FunD.kb D (fun _ _ _ _ _ _ => rfl) s,
    fun a s us hl _ => match us, hl with | [u0], _ => FunD.kb D (fun _ _ _ _ _ _ => rfl) s, fun a s us hl _ => match us, hl with | [u0], _ => FunD.kb D (fun _ _ _ _ _ _ => rfl) s⟩
theorem xs_InvalidNumber : FnScope ["self", "value"] ["self", "value"] (defScope (inClass (top 11) 0)) := ⟨rfl, rfl, rfl, by decide +kernel, rfl, by decide +kernel, by decide +kernel⟩
theorem m_InvalidNumber (D : FunD K "__init__" "InvalidNumber.__init__" (defArgs (inClass (top 11) 0)) (defBody (inClass (top 11) 0)) (defScope (inClass (top 11) 0)) [] [] fI fd) (T : XC K (He.ga K "InvalidNumber") "ValueError.__new__" (tlOf "ValueError")) (J : XIn K (He.ga K "SettleError") "ValueError.__init__") (hb : mg "SettleError" = some (.ref (He.ga K "SettleError"))) (hm : mg "InvalidNumber" = some (.ref (He.ga K "InvalidNumber")))
    (iC : PySem.W.findIn K (.ref (He.ga K "InvalidNumber")) "__init__" = some (some (.ref fI))) (tI : PySem.W.typeIn K (.ref fI) = some (.type "function")) (n_value : PySem.W.findIn K (.ref (He.ga K "InvalidNumber")) "value" = some none) : XM P w K mg base 1 "InvalidNumber" ["value"] := by
  have S := xs_InvalidNumber
  have G : FnG P w K mg base false 1 fI fd ["self", "value"] (spI (He.ga K "InvalidNumber") ["value"]) := fnG_of D S (spI_len rfl) fun cv A out st H vs Q E rm gd h =>
    ⟨_, (pss_cons (ps_expr (pe_binit xb_VE T J (by rfl) hb (by decide +kernel) (pa_cons (pe_var (i := 0) rfl (.inl rfl)) (pa_cons pe_str pa_nil)))) (pss_one (ps_xst xb_VE T n_value (pe_var (i := 0) rfl (.inl rfl)) (pe_var (i := 1) rfl (.inl rfl))))), init_pf1 h⟩
  exact ⟨_, _, _, _, fI, fd, _, xb_VE, T, hm, iC, tI, G, fun a s us hl _ => match us, hl with | [u0], _ => FunD.kb D (fun _ _ _ _ _ _ => rfl) s,
    fun a s us hl _ => match us, hl with | [u0], _ => FunD.kb D (fun _ _ _ _ _ _ => rfl) s, fun a s us hl _ => match us, hl with | [u0], _ => FunD.kb D (fun _ _ _ _ _ _ => rfl) s⟩
theorem xs_InvalidTeam : FnScope ["self", "value"] ["self", "value"] (defScope (inClass (top 12) 0)) := ⟨rfl, rfl, rfl, by decide +kernel, rfl, by decide +kernel, by decide +kernel⟩
theorem m_InvalidTeam (D : FunD K "__init__" "InvalidTeam.__init__" (defArgs (inClass (top 12) 0)) (defBody (inClass (top 12) 0)) (defScope (inClass (top 12) 0)) [] [] fI fd) (T : XC K (He.ga K "InvalidTeam") "ValueError.__new__" (tlOf "ValueError")) (J : XIn K (He.ga K "SettleError") "ValueError.__init__") (hb : mg "SettleError" = some (.ref (He.ga K "SettleError"))) (hm : mg "InvalidTeam" = some (.ref (He.ga K "InvalidTeam")))
    (iC : PySem.W.findIn K (.ref (He.ga K "InvalidTeam")) "__init__" = some (some (.ref fI))) (tI : PySem.W.typeIn K (.ref fI) = some (.type "function")) (n_value : PySem.W.findIn K (.ref (He.ga K "InvalidTeam")) "value" = some none) : XM P w K mg base 1 "InvalidTeam" ["value"] := by
  have S := xs_InvalidTeam
  have G : FnG P w K mg base false 1 fI fd ["self", "value"] (spI (He.ga K "InvalidTeam") ["value"]) := fnG_of D S (spI_len rfl) fun cv A out st H vs Q E rm gd h =>
    ⟨_, (pss_cons (ps_expr (pe_binit xb_VE T J (by rfl) hb (by decide +kernel) (pa_cons (pe_var (i := 0) rfl (.inl rfl)) (pa_cons pe_str pa_nil)))) (pss_one (ps_xst xb_VE T n_value (pe_var (i := 0) rfl (.inl rfl)) (pe_var (i := 1) rfl (.inl rfl))))), init_pf1 h⟩
  exact ⟨_, _, _, _, fI, fd, _, xb_VE, T, hm, iC, tI, G, fun a s us hl _ => match us, hl with | [u0], _ => FunD.kb D (fun _ _ _ _ _ _ => rfl) s,
    fun a s us hl _ => match us, hl with | [u0], _ => FunD.kb D (fun _ _ _ _ _ _ => rfl) s, fun a s us hl _ => match us, hl with | [u0], _ => FunD.kb D (fun _ _ _ _ _ _ => rfl) s⟩
theorem xs_InvalidHand : FnScope ["self", "value"] ["self", "value"] (defScope (inClass (top 13) 0)) := ⟨rfl, rfl, rfl, by decide +kernel, rfl, by decide +kernel, by decide +kernel⟩
theorem m_InvalidHand (D : FunD K "__init__" "InvalidHand.__init__" (defArgs (inClass (top 13) 0)) (defBody (inClass (top 13) 0)) (defScope (inClass (top 13) 0)) [] [] fI fd) (T : XC K (He.ga K "InvalidHand") "ValueError.__new__" (tlOf "ValueError")) (J : XIn K (He.ga K "SettleError") "ValueError.__init__") (hb : mg "SettleError" = some (.ref (He.ga K "SettleError"))) (hm : mg "InvalidHand" = some (.ref (He.ga K "InvalidHand")))
    (iC : PySem.W.findIn K (.ref (He.ga K "InvalidHand")) "__init__" = some (some (.ref fI))) (tI : PySem.W.typeIn K (.ref fI) = some (.type "function")) (n_value : PySem.W.findIn K (.ref (He.ga K "InvalidHand")) "value" = some none) : XM P w K mg base 1 "InvalidHand" ["value"] := by
  have S := xs_InvalidHand
  have G : FnG P w K mg base false 1 fI fd ["self", "value"] (spI (He.ga K "InvalidHand") ["value"]) := fnG_of D S (spI_len rfl) fun cv A out st H vs Q E rm gd h =>
    ⟨_, (pss_cons (ps_expr (pe_binit xb_VE T J (by rfl) hb (by decide +kernel) (pa_cons (pe_var (i := 0) rfl (.inl rfl)) (pa_cons pe_str pa_nil)))) (pss_one (ps_xst xb_VE T n_value (pe_var (i := 0) rfl (.inl rfl)) (pe_var (i := 1) rfl (.inl rfl))))), init_pf1 h⟩
  exact ⟨_, _, _, _, fI, fd, _, xb_VE, T, hm, iC, tI, G, fun a s us hl _ => match us, hl with | [u0], _ => FunD.kb D (fun _ _ _ _ _ _ => rfl) s,
    fun a s us hl _ => match us, hl with | [u0], _ => FunD.kb D (fun _ _ _ _ _ _ => rfl) s, fun a s us hl _ => match us, hl with | [u0], _ => FunD.kb D (fun _ _ _ _ _ _ => rfl) s⟩
theorem xs_InvalidOrder : FnScope ["self", "position"] ["self", "position"] (defScope (inClass (top 14) 0)) := ⟨rfl, rfl, rfl, by decide +kernel, rfl, by decide +kernel, by decide +kernel⟩
theorem m_InvalidOrder (D : FunD K "__init__" "InvalidOrder.__init__" (defArgs (inClass (top 14) 0)) (defBody (inClass (top 14) 0)) (defScope (inClass (top 14) 0)) [] [] fI fd) (T : XC K (He.ga K "InvalidOrder") "ValueError.__new__" (tlOf "ValueError")) (J : XIn K (He.ga K "SettleError") "ValueError.__init__") (hb : mg "SettleError" = some (.ref (He.ga K "SettleError"))) (hm : mg "InvalidOrder" = some (.ref (He.ga K "InvalidOrder")))
    (iC : PySem.W.findIn K (.ref (He.ga K "InvalidOrder")) "__init__" = some (some (.ref fI))) (tI : PySem.W.typeIn K (.ref fI) = some (.type "function")) (n_position : PySem.W.findIn K (.ref (He.ga K "InvalidOrder")) "position" = some none) : XM P w K mg base 1 "InvalidOrder" ["position"] := by
  have S := xs_InvalidOrder
  have G : FnG P w K mg base false 1 fI fd ["self", "position"] (spI (He.ga K "InvalidOrder") ["position"]) := fnG_of D S (spI_len rfl) fun cv A out st H vs Q E rm gd h =>
    ⟨_, (pss_cons (ps_expr (pe_binit xb_VE T J (by rfl) hb (by decide +kernel) (pa_cons (pe_var (i := 0) rfl (.inl rfl)) (pa_cons pe_str pa_nil)))) (pss_one (ps_xst xb_VE T n_position (pe_var (i := 0) rfl (.inl rfl)) (pe_var (i := 1) rfl (.inl rfl))))), init_pf1 h⟩
  exact ⟨_, _, _, _, fI, fd, _, xb_VE, T, hm, iC, tI, G, fun a s us hl _ => match us, hl with | [u0], _ => FunD.kb D (fun _ _ _ _ _ _ => rfl) s,
    fun a s us hl _ => match us, hl with | [u0], _ => FunD.kb D (fun _ _ _ _ _ _ => rfl) s, fun a s us hl _ => match us, hl with | [u0], _ => FunD.kb D (fun _ _ _ _ _ _ => rfl) s⟩
theorem xs_InvalidLayout : FnScope ["self", "value"] ["self", "value"] (defScope (inClass (top 15) 0)) := ⟨rfl, rfl, rfl, by decide +kernel, rfl, by decide +kernel, by decide +kernel⟩
theorem m_InvalidLayout (D : FunD K "__init__" "InvalidLayout.__init__" (defArgs (inClass (top 15) 0)) (defBody (inClass (top 15) 0)) (defScope (inClass (top 15) 0)) [] [] fI fd) (T : XC K (He.ga K "InvalidLayout") "ValueError.__new__" (tlOf "ValueError")) (J : XIn K (He.ga K "SettleError") "ValueError.__init__") (hb : mg "SettleError" = some (.ref (He.ga K "SettleError"))) (hm : mg "InvalidLayout" = some (.ref (He.ga K "InvalidLayout")))
    (iC : PySem.W.findIn K (.ref (He.ga K "InvalidLayout")) "__init__" = some (some (.ref fI))) (tI : PySem.W.typeIn K (.ref fI) = some (.type "function")) (n_value : PySem.W.findIn K (.ref (He.ga K "InvalidLayout")) "value" = some none) : XM P w K mg base 1 "InvalidLayout" ["value"] := by
  have S := xs_InvalidLayout
  have G : FnG P w K mg base false 1 fI fd ["self", "value"] (spI (He.ga K "InvalidLayout") ["value"]) := fnG_of D S (spI_len rfl) fun cv A out st H vs Q E rm gd h =>
    ⟨_, (pss_cons (ps_expr (pe_binit xb_VE T J (by rfl) hb (by decide +kernel) (pa_cons (pe_var (i := 0) rfl (.inl rfl)) (pa_cons pe_str pa_nil)))) (pss_one (ps_xst xb_VE T n_value (pe_var (i := 0) rfl (.inl rfl)) (pe_var (i := 1) rfl (.inl rfl))))), init_pf1 h⟩
  exact ⟨_, _, _, _, fI, fd, _, xb_VE, T, hm, iC, tI, G, fun a s us hl _ => match us, hl with | [u0], _ => FunD.kb D (fun _ _ _ _ _ _ => rfl) s,
    fun a s us hl _ => match us, hl with | [u0], _ => FunD.kb D (fun _ _ _ _ _ _ => rfl) s, fun a s us hl _ => match us, hl with | [u0], _ => FunD.kb D (fun _ _ _ _ _ _ => rfl) s⟩
theorem xs_InvalidThings : FnScope ["self", "position"] ["self", "position"] (defScope (inClass (top 16) 0)) := ⟨rfl, rfl, rfl, by decide +kernel, rfl, by decide +kernel, by decide +kernel⟩
theorem m_InvalidThings (D : FunD K "__init__" "InvalidThings.__init__" (defArgs (inClass (top 16) 0)) (defBody (inClass (top 16) 0)) (defScope (inClass (top 16) 0)) [] [] fI fd) (T : XC K (He.ga K "InvalidThings") "ValueError.__new__" (tlOf "ValueError")) (J : XIn K (He.ga K "SettleError") "ValueError.__init__") (hb : mg "SettleError" = some (.ref (He.ga K "SettleError"))) (hm : mg "InvalidThings" = some (.ref (He.ga K "InvalidThings")))
    (iC : PySem.W.findIn K (.ref (He.ga K "InvalidThings")) "__init__" = some (some (.ref fI))) (tI : PySem.W.typeIn K (.ref fI) = some (.type "function")) (n_position : PySem.W.findIn K (.ref (He.ga K "InvalidThings")) "position" = some none) : XM P w K mg base 1 "InvalidThings" ["position"] := by
  have S := xs_InvalidThings
  have G : FnG P w K mg base false 1 fI fd ["self", "position"] (spI (He.ga K "InvalidThings") ["position"]) := fnG_of D S (spI_len rfl) fun cv A out st H vs Q E rm gd h =>
    ⟨_, (pss_cons (ps_expr (pe_binit xb_VE T J (by rfl) hb (by decide +kernel) (pa_cons (pe_var (i := 0) rfl (.inl rfl)) (pa_cons pe_str pa_nil)))) (pss_one (ps_xst xb_VE T n_position (pe_var (i := 0) rfl (.inl rfl)) (pe_var (i := 1) rfl (.inl rfl))))), init_pf1 h⟩
  exact ⟨_, _, _, _, fI, fd, _, xb_VE, T, hm, iC, tI, G, fun a s us hl _ => match us, hl with | [u0], _ => FunD.kb D (fun _ _ _ _ _ _ => rfl) s,
    fun a s us hl _ => match us, hl with | [u0], _ => FunD.kb D (fun _ _ _ _ _ _ => rfl) s, fun a s us hl _ => match us, hl with | [u0], _ => FunD.kb D (fun _ _ _ _ _ _ => rfl) s⟩
theorem xs_InvalidScripts : FnScope ["self", "position"] ["self", "position"] (defScope (inClass (top 17) 0)) := ⟨rfl, rfl, rfl, by decide +kernel, rfl, by decide +kernel, by decide +kernel⟩
theorem m_InvalidScripts (D : FunD K "__init__" "InvalidScripts.__init__" (defArgs (inClass (top 17) 0)) (defBody (inClass (top 17) 0)) (defScope (inClass (top 17) 0)) [] [] fI fd) (T : XC K (He.ga K "InvalidScripts") "ValueError.__new__" (tlOf "ValueError")) (J : XIn K (He.ga K "SettleError") "ValueError.__init__") (hb : mg "SettleError" = some (.ref (He.ga K "SettleError"))) (hm : mg "InvalidScripts" = some (.ref (He.ga K "InvalidScripts")))
    (iC : PySem.W.findIn K (.ref (He.ga K "InvalidScripts")) "__init__" = some (some (.ref fI))) (tI : PySem.W.typeIn K (.ref fI) = some (.type "function")) (n_position : PySem.W.findIn K (.ref (He.ga K "InvalidScripts")) "position" = some none) : XM P w K mg base 1 "InvalidScripts" ["position"] := by
  have S := xs_InvalidScripts
  have G : FnG P w K mg base false 1 fI fd ["self", "position"] (spI (He.ga K "InvalidScripts") ["position"]) := fnG_of D S (spI_len rfl) fun cv A out st H vs Q E rm gd h =>
    ⟨_, (pss_cons (ps_expr (pe_binit xb_VE T J (by rfl) hb (by decide +kernel) (pa_cons (pe_var (i := 0) rfl (.inl rfl)) (pa_cons pe_str pa_nil)))) (pss_one (ps_xst xb_VE T n_position (pe_var (i := 0) rfl (.inl rfl)) (pe_var (i := 1) rfl (.inl rfl))))), init_pf1 h⟩
  exact ⟨_, _, _, _, fI, fd, _, xb_VE, T, hm, iC, tI, G, fun a s us hl _ => match us, hl with | [u0], _ => FunD.kb D (fun _ _ _ _ _ _ => rfl) s,
    fun a s us hl _ => match us, hl with | [u0], _ => FunD.kb D (fun _ _ _ _ _ _ => rfl) s, fun a s us hl _ => match us, hl with | [u0], _ => FunD.kb D (fun _ _ _ _ _ _ => rfl) s⟩
theorem xs_InvalidWeaving : FnScope ["self", "position"] ["self", "position"] (defScope (inClass (top 18) 0)) := ⟨rfl, rfl, rfl, by decide +kernel, rfl, by decide +kernel, by decide +kernel⟩
theorem m_InvalidWeaving (D : FunD K "__init__" "InvalidWeaving.__init__" (defArgs (inClass (top 18) 0)) (defBody (inClass (top 18) 0)) (defScope (inClass (top 18) 0)) [] [] fI fd) (T : XC K (He.ga K "InvalidWeaving") "ValueError.__new__" (tlOf "ValueError")) (J : XIn K (He.ga K "SettleError") "ValueError.__init__") (hb : mg "SettleError" = some (.ref (He.ga K "SettleError"))) (hm : mg "InvalidWeaving" = some (.ref (He.ga K "InvalidWeaving")))
    (iC : PySem.W.findIn K (.ref (He.ga K "InvalidWeaving")) "__init__" = some (some (.ref fI))) (tI : PySem.W.typeIn K (.ref fI) = some (.type "function")) (n_position : PySem.W.findIn K (.ref (He.ga K "InvalidWeaving")) "position" = some none) : XM P w K mg base 1 "InvalidWeaving" ["position"] := by
  have S := xs_InvalidWeaving
  have G : FnG P w K mg base false 1 fI fd ["self", "position"] (spI (He.ga K "InvalidWeaving") ["position"]) := fnG_of D S (spI_len rfl) fun cv A out st H vs Q E rm gd h =>
    ⟨_, (pss_cons (ps_expr (pe_binit xb_VE T J (by rfl) hb (by decide +kernel) (pa_cons (pe_var (i := 0) rfl (.inl rfl)) (pa_cons pe_str pa_nil)))) (pss_one (ps_xst xb_VE T n_position (pe_var (i := 0) rfl (.inl rfl)) (pe_var (i := 1) rfl (.inl rfl))))), init_pf1 h⟩
  exact ⟨_, _, _, _, fI, fd, _, xb_VE, T, hm, iC, tI, G, fun a s us hl _ => match us, hl with | [u0], _ => FunD.kb D (fun _ _ _ _ _ _ => rfl) s,
    fun a s us hl _ => match us, hl with | [u0], _ => FunD.kb D (fun _ _ _ _ _ _ => rfl) s, fun a s us hl _ => match us, hl with | [u0], _ => FunD.kb D (fun _ _ _ _ _ _ => rfl) s⟩
theorem xs_InvalidPlace : FnScope ["self", "value"] ["self", "value"] (defScope (inClass (top 19) 0)) := ⟨rfl, rfl, rfl, by decide +kernel, rfl, by decide +kernel, by decide +kernel⟩
theorem m_InvalidPlace (D : FunD K "__init__" "InvalidPlace.__init__" (defArgs (inClass (top 19) 0)) (defBody (inClass (top 19) 0)) (defScope (inClass (top 19) 0)) [] [] fI fd) (T : XC K (He.ga K "InvalidPlace") "ValueError.__new__" (tlOf "ValueError")) (J : XIn K (He.ga K "SettleError") "ValueError.__init__") (hb : mg "SettleError" = some (.ref (He.ga K "SettleError"))) (hm : mg "InvalidPlace" = some (.ref (He.ga K "InvalidPlace")))
    (iC : PySem.W.findIn K (.ref (He.ga K "InvalidPlace")) "__init__" = some (some (.ref fI))) (tI : PySem.W.typeIn K (.ref fI) = some (.type "function")) (n_value : PySem.W.findIn K (.ref (He.ga K "InvalidPlace")) "value" = some none) : XM P w K mg base 1 "InvalidPlace" ["value"] := by
  have S := xs_InvalidPlace
  have G : FnG P w K mg base false 1 fI fd ["self", "value"] (spI (He.ga K "InvalidPlace") ["value"]) := fnG_of D S (spI_len rfl) fun cv A out st H vs Q E rm gd h =>
    ⟨_, (pss_cons (ps_expr (pe_binit xb_VE T J (by rfl) hb (by decide +kernel) (pa_cons (pe_var (i := 0) rfl (.inl rfl)) (pa_cons pe_str pa_nil)))) (pss_one (ps_xst xb_VE T n_value (pe_var (i := 0) rfl (.inl rfl)) (pe_var (i := 1) rfl (.inl rfl))))), init_pf1 h⟩
  exact ⟨_, _, _, _, fI, fd, _, xb_VE, T, hm, iC, tI, G, fun a s us hl _ => match us, hl with | [u0], _ => FunD.kb D (fun _ _ _ _ _ _ => rfl) s,
    fun a s us hl _ => match us, hl with | [u0], _ => FunD.kb D (fun _ _ _ _ _ _ => rfl) s, fun a s us hl _ => match us, hl with | [u0], _ => FunD.kb D (fun _ _ _ _ _ _ => rfl) s⟩
theorem xs_InvalidText : FnScope ["self", "line"] ["self", "line"] (defScope (inClass (top 20) 0)) := ⟨rfl, rfl, rfl, by decide +kernel, rfl, by decide +kernel, by decide +kernel⟩
theorem m_InvalidText (D : FunD K "__init__" "InvalidText.__init__" (defArgs (inClass (top 20) 0)) (defBody (inClass (top 20) 0)) (defScope (inClass (top 20) 0)) [] [] fI fd) (T : XC K (He.ga K "InvalidText") "ValueError.__new__" (tlOf "ValueError")) (J : XIn K (He.ga K "SettleError") "ValueError.__init__") (hb : mg "SettleError" = some (.ref (He.ga K "SettleError"))) (hm : mg "InvalidText" = some (.ref (He.ga K "InvalidText")))
    (iC : PySem.W.findIn K (.ref (He.ga K "InvalidText")) "__init__" = some (some (.ref fI))) (tI : PySem.W.typeIn K (.ref fI) = some (.type "function")) (n_line : PySem.W.findIn K (.ref (He.ga K "InvalidText")) "line" = some none) : XM P w K mg base 1 "InvalidText" ["line"] := by
  have S := xs_InvalidText
  have G : FnG P w K mg base false 1 fI fd ["self", "line"] (spI (He.ga K "InvalidText") ["line"]) := fnG_of D S (spI_len rfl) fun cv A out st H vs Q E rm gd h =>
    ⟨_, (pss_cons (ps_expr (pe_binit xb_VE T J (by rfl) hb (by decide +kernel) (pa_cons (pe_var (i := 0) rfl (.inl rfl)) (pa_cons pe_str pa_nil)))) (pss_one (ps_xst xb_VE T n_line (pe_var (i := 0) rfl (.inl rfl)) (pe_var (i := 1) rfl (.inl rfl))))), init_pf1 h⟩
  exact ⟨_, _, _, _, fI, fd, _, xb_VE, T, hm, iC, tI, G, fun a s us hl _ => match us, hl with | [u0], _ => FunD.kb D (fun _ _ _ _ _ _ => rfl) s,
    fun a s us hl _ => match us, hl with | [u0], _ => FunD.kb D (fun _ _ _ _ _ _ => rfl) s, fun a s us hl _ => match us, hl with | [u0], _ => FunD.kb D (fun _ _ _ _ _ _ => rfl) s⟩
theorem xs_InvalidClaim : FnScope ["self", "value"] ["self", "value"] (defScope (inClass (top 21) 0)) := ⟨rfl, rfl, rfl, by decide +kernel, rfl, by decide +kernel, by decide +kernel⟩
theorem m_InvalidClaim (D : FunD K "__init__" "InvalidClaim.__init__" (defArgs (inClass (top 21) 0)) (defBody (inClass (top 21) 0)) (defScope (inClass (top 21) 0)) [] [] fI fd) (T : XC K (He.ga K "InvalidClaim") "ValueError.__new__" (tlOf "ValueError")) (J : XIn K (He.ga K "SettleError") "ValueError.__init__") (hb : mg "SettleError" = some (.ref (He.ga K "SettleError"))) (hm : mg "InvalidClaim" = some (.ref (He.ga K "InvalidClaim")))
    (iC : PySem.W.findIn K (.ref (He.ga K "InvalidClaim")) "__init__" = some (some (.ref fI))) (tI : PySem.W.typeIn K (.ref fI) = some (.type "function")) (n_value : PySem.W.findIn K (.ref (He.ga K "InvalidClaim")) "value" = some none) : XM P w K mg base 1 "InvalidClaim" ["value"] := by
  have S := xs_InvalidClaim
  have G : FnG P w K mg base false 1 fI fd ["self", "value"] (spI (He.ga K "InvalidClaim") ["value"]) := fnG_of D S (spI_len rfl) fun cv A out st H vs Q E rm gd h =>
    ⟨_, (pss_cons (ps_expr (pe_binit xb_VE T J (by rfl) hb (by decide +kernel) (pa_cons (pe_var (i := 0) rfl (.inl rfl)) (pa_cons pe_str pa_nil)))) (pss_one (ps_xst xb_VE T n_value (pe_var (i := 0) rfl (.inl rfl)) (pe_var (i := 1) rfl (.inl rfl))))), init_pf1 h⟩
  exact ⟨_, _, _, _, fI, fd, _, xb_VE, T, hm, iC, tI, G, fun a s us hl _ => match us, hl with | [u0], _ => FunD.kb D (fun _ _ _ _ _ _ => rfl) s,
    fun a s us hl _ => match us, hl with | [u0], _ => FunD.kb D (fun _ _ _ _ _ _ => rfl) s, fun a s us hl _ => match us, hl with | [u0], _ => FunD.kb D (fun _ _ _ _ _ _ => rfl) s⟩
theorem xs_InvalidCommand : FnScope ["self", "value"] ["self", "value"] (defScope (inClass (top 22) 0)) := ⟨rfl, rfl, rfl, by decide +kernel, rfl, by decide +kernel, by decide +kernel⟩
theorem m_InvalidCommand (D : FunD K "__init__" "InvalidCommand.__init__" (defArgs (inClass (top 22) 0)) (defBody (inClass (top 22) 0)) (defScope (inClass (top 22) 0)) [] [] fI fd) (T : XC K (He.ga K "InvalidCommand") "ValueError.__new__" (tlOf "ValueError")) (J : XIn K (He.ga K "SettleError") "ValueError.__init__") (hb : mg "SettleError" = some (.ref (He.ga K "SettleError"))) (hm : mg "InvalidCommand" = some (.ref (He.ga K "InvalidCommand")))
    (iC : PySem.W.findIn K (.ref (He.ga K "InvalidCommand")) "__init__" = some (some (.ref fI))) (tI : PySem.W.typeIn K (.ref fI) = some (.type "function")) (n_value : PySem.W.findIn K (.ref (He.ga K "InvalidCommand")) "value" = some none) : XM P w K mg base 1 "InvalidCommand" ["value"] := by
  have S := xs_InvalidCommand
  have G : FnG P w K mg base false 1 fI fd ["self", "value"] (spI (He.ga K "InvalidCommand") ["value"]) := fnG_of D S (spI_len rfl) fun cv A out st H vs Q E rm gd h =>
    ⟨_, (pss_cons (ps_expr (pe_binit xb_VE T J (by rfl) hb (by decide +kernel) (pa_cons (pe_var (i := 0) rfl (.inl rfl)) (pa_cons pe_str pa_nil)))) (pss_one (ps_xst xb_VE T n_value (pe_var (i := 0) rfl (.inl rfl)) (pe_var (i := 1) rfl (.inl rfl))))), init_pf1 h⟩
  exact ⟨_, _, _, _, fI, fd, _, xb_VE, T, hm, iC, tI, G, fun a s us hl _ => match us, hl with | [u0], _ => FunD.kb D (fun _ _ _ _ _ _ => rfl) s,
    fun a s us hl _ => match us, hl with | [u0], _ => FunD.kb D (fun _ _ _ _ _ _ => rfl) s, fun a s us hl _ => match us, hl with | [u0], _ => FunD.kb D (fun _ _ _ _ _ _ => rfl) s⟩
theorem xs_NoSuch : FnScope ["self", "value"] ["self", "value"] (defScope (inClass (top 24) 0)) := ⟨rfl, rfl, rfl, by decide +kernel, rfl, by decide +kernel, by decide +kernel⟩
theorem m_NoSuch (D : FunD K "__init__" "NoSuch.__init__" (defArgs (inClass (top 24) 0)) (defBody (inClass (top 24) 0)) (defScope (inClass (top 24) 0)) [] [] fI fd) (T : XC K (He.ga K "NoSuch") "LookupError.__new__" (tlOf "LookupError")) (J : XIn K (He.ga K "MissingError") "LookupError.__init__") (hb : mg "MissingError" = some (.ref (He.ga K "MissingError"))) (hm : mg "NoSuch" = some (.ref (He.ga K "NoSuch")))
    (iC : PySem.W.findIn K (.ref (He.ga K "NoSuch")) "__init__" = some (some (.ref fI))) (tI : PySem.W.typeIn K (.ref fI) = some (.type "function")) (n_value : PySem.W.findIn K (.ref (He.ga K "NoSuch")) "value" = some none) : XM P w K mg base 1 "NoSuch" ["value"] := by
  have S := xs_NoSuch
  have G : FnG P w K mg base false 1 fI fd ["self", "value"] (spI (He.ga K "NoSuch") ["value"]) := fnG_of D S (spI_len rfl) fun cv A out st H vs Q E rm gd h =>
    ⟨_, (pss_cons (ps_expr (pe_binit xb_LE T J (by rfl) hb (by decide +kernel) (pa_cons (pe_var (i := 0) rfl (.inl rfl)) (pa_cons pe_str pa_nil)))) (pss_one (ps_xst xb_LE T n_value (pe_var (i := 0) rfl (.inl rfl)) (pe_var (i := 1) rfl (.inl rfl))))), init_pf1 h⟩
  exact ⟨_, _, _, _, fI, fd, _, xb_LE, T, hm, iC, tI, G, fun a s us hl _ => match us, hl with | [u0], _ => FunD.kb D (fun _ _ _ _ _ _ => rfl) s,
    fun a s us hl _ => match us, hl with | [u0], _ => FunD.kb D (fun _ _ _ _ _ _ => rfl) s, fun a s us hl _ => match us, hl with | [u0], _ => FunD.kb D (fun _ _ _ _ _ _ => rfl) s⟩
theorem xs_SharedDeed : FnScope ["self", "value"] ["self", "value"] (defScope (inClass (top 26) 0)) := ⟨rfl, rfl, rfl, by decide +kernel, rfl, by decide +kernel, by decide +kernel⟩
theorem m_SharedDeed (D : FunD K "__init__" "SharedDeed.__init__" (defArgs (inClass (top 26) 0)) (defBody (inClass (top 26) 0)) (defScope (inClass (top 26) 0)) [] [] fI fd) (T : XC K (He.ga K "SharedDeed") "RuntimeError.__new__" (tlOf "RuntimeError")) (J : XIn K (He.ga K "StateError") "RuntimeError.__init__") (hb : mg "StateError" = some (.ref (He.ga K "StateError"))) (hm : mg "SharedDeed" = some (.ref (He.ga K "SharedDeed")))
    (iC : PySem.W.findIn K (.ref (He.ga K "SharedDeed")) "__init__" = some (some (.ref fI))) (tI : PySem.W.typeIn K (.ref fI) = some (.type "function")) (n_value : PySem.W.findIn K (.ref (He.ga K "SharedDeed")) "value" = some none) : XM P w K mg base 1 "SharedDeed" ["value"] := by
  have S := xs_SharedDeed
  have G : FnG P w K mg base false 1 fI fd ["self", "value"] (spI (He.ga K "SharedDeed") ["value"]) := fnG_of D S (spI_len rfl) fun cv A out st H vs Q E rm gd h =>
    ⟨_, (pss_cons (ps_expr (pe_binit xb_RE T J (by rfl) hb (by decide +kernel) (pa_cons (pe_var (i := 0) rfl (.inl rfl)) (pa_cons pe_str pa_nil)))) (pss_one (ps_xst xb_RE T n_value (pe_var (i := 0) rfl (.inl rfl)) (pe_var (i := 1) rfl (.inl rfl))))), init_pf1 h⟩
  exact ⟨_, _, _, _, fI, fd, _, xb_RE, T, hm, iC, tI, G, fun a s us hl _ => match us, hl with | [u0], _ => FunD.kb D (fun _ _ _ _ _ _ => rfl) s,
    fun a s us hl _ => match us, hl with | [u0], _ => FunD.kb D (fun _ _ _ _ _ _ => rfl) s, fun a s us hl _ => match us, hl with | [u0], _ => FunD.kb D (fun _ _ _ _ _ _ => rfl) s⟩
theorem xs_OtherThing : FnScope ["self", "value"] ["self", "value"] (defScope (inClass (top 27) 0)) := ⟨rfl, rfl, rfl, by decide +kernel, rfl, by decide +kernel, by decide +kernel⟩
theorem m_OtherThing (D : FunD K "__init__" "OtherThing.__init__" (defArgs (inClass (top 27) 0)) (defBody (inClass (top 27) 0)) (defScope (inClass (top 27) 0)) [] [] fI fd) (T : XC K (He.ga K "OtherThing") "RuntimeError.__new__" (tlOf "RuntimeError")) (J : XIn K (He.ga K "StateError") "RuntimeError.__init__") (hb : mg "StateError" = some (.ref (He.ga K "StateError"))) (hm : mg "OtherThing" = some (.ref (He.ga K "OtherThing")))
    (iC : PySem.W.findIn K (.ref (He.ga K "OtherThing")) "__init__" = some (some (.ref fI))) (tI : PySem.W.typeIn K (.ref fI) = some (.type "function")) (n_value : PySem.W.findIn K (.ref (He.ga K "OtherThing")) "value" = some none) : XM P w K mg base 1 "OtherThing" ["value"] := by
  have S := xs_OtherThing
  have G : FnG P w K mg base false 1 fI fd ["self", "value"] (spI (He.ga K "OtherThing") ["value"]) := fnG_of D S (spI_len rfl) fun cv A out st H vs Q E rm gd h =>
    ⟨_, (pss_cons (ps_expr (pe_binit xb_RE T J (by rfl) hb (by decide +kernel) (pa_cons (pe_var (i := 0) rfl (.inl rfl)) (pa_cons pe_str pa_nil)))) (pss_one (ps_xst xb_RE T n_value (pe_var (i := 0) rfl (.inl rfl)) (pe_var (i := 1) rfl (.inl rfl))))), init_pf1 h⟩
  exact ⟨_, _, _, _, fI, fd, _, xb_RE, T, hm, iC, tI, G, fun a s us hl _ => match us, hl with | [u0], _ => FunD.kb D (fun _ _ _ _ _ _ => rfl) s,
    fun a s us hl _ => match us, hl with | [u0], _ => FunD.kb D (fun _ _ _ _ _ _ => rfl) s, fun a s us hl _ => match us, hl with | [u0], _ => FunD.kb D (fun _ _ _ _ _ _ => rfl) s⟩
theorem xs_LastOne : FnScope ["self", "value"] ["self", "value"] (defScope (inClass (top 28) 0)) := ⟨rfl, rfl, rfl, by decide +kernel, rfl, by decide +kernel, by decide +kernel⟩
theorem m_LastOne (D : FunD K "__init__" "LastOne.__init__" (defArgs (inClass (top 28) 0)) (defBody (inClass (top 28) 0)) (defScope (inClass (top 28) 0)) [] [] fI fd) (T : XC K (He.ga K "LastOne") "RuntimeError.__new__" (tlOf "RuntimeError")) (J : XIn K (He.ga K "StateError") "RuntimeError.__init__") (hb : mg "StateError" = some (.ref (He.ga K "StateError"))) (hm : mg "LastOne" = some (.ref (He.ga K "LastOne")))
    (iC : PySem.W.findIn K (.ref (He.ga K "LastOne")) "__init__" = some (some (.ref fI))) (tI : PySem.W.typeIn K (.ref fI) = some (.type "function")) (n_value : PySem.W.findIn K (.ref (He.ga K "LastOne")) "value" = some none) : XM P w K mg base 1 "LastOne" ["value"] := by
  have S := xs_LastOne
  have G : FnG P w K mg base false 1 fI fd ["self", "value"] (spI (He.ga K "LastOne") ["value"]) := fnG_of D S (spI_len rfl) fun cv A out st H vs Q E rm gd h =>
    ⟨_, (pss_cons (ps_expr (pe_binit xb_RE T J (by rfl) hb (by decide +kernel) (pa_cons (pe_var (i := 0) rfl (.inl rfl)) (pa_cons pe_str pa_nil)))) (pss_one (ps_xst xb_RE T n_value (pe_var (i := 0) rfl (.inl rfl)) (pe_var (i := 1) rfl (.inl rfl))))), init_pf1 h⟩
  exact ⟨_, _, _, _, fI, fd, _, xb_RE, T, hm, iC, tI, G, fun a s us hl _ => match us, hl with | [u0], _ => FunD.kb D (fun _ _ _ _ _ _ => rfl) s,
    fun a s us hl _ => match us, hl with | [u0], _ => FunD.kb D (fun _ _ _ _ _ _ => rfl) s, fun a s us hl _ => match us, hl with | [u0], _ => FunD.kb D (fun _ _ _ _ _ _ => rfl) s⟩
theorem xs_NotInIt : FnScope ["self", "hand"] ["self", "hand"] (defScope (inClass (top 29) 0)) := ⟨rfl, rfl, rfl, by decide +kernel, rfl, by decide +kernel, by decide +kernel⟩
theorem m_NotInIt (D : FunD K "__init__" "NotInIt.__init__" (defArgs (inClass (top 29) 0)) (defBody (inClass (top 29) 0)) (defScope (inClass (top 29) 0)) [] [] fI fd) (T : XC K (He.ga K "NotInIt") "RuntimeError.__new__" (tlOf "RuntimeError")) (J : XIn K (He.ga K "StateError") "RuntimeError.__init__") (hb : mg "StateError" = some (.ref (He.ga K "StateError"))) (hm : mg "NotInIt" = some (.ref (He.ga K "NotInIt")))
    (iC : PySem.W.findIn K (.ref (He.ga K "NotInIt")) "__init__" = some (some (.ref fI))) (tI : PySem.W.typeIn K (.ref fI) = some (.type "function")) (n_hand : PySem.W.findIn K (.ref (He.ga K "NotInIt")) "hand" = some none) : XM P w K mg base 1 "NotInIt" ["hand"] := by
  have S := xs_NotInIt
  have G : FnG P w K mg base false 1 fI fd ["self", "hand"] (spI (He.ga K "NotInIt") ["hand"]) := fnG_of D S (spI_len rfl) fun cv A out st H vs Q E rm gd h =>
    ⟨_, (pss_cons (ps_expr (pe_binit xb_RE T J (by rfl) hb (by decide +kernel) (pa_cons (pe_var (i := 0) rfl (.inl rfl)) (pa_cons pe_str pa_nil)))) (pss_one (ps_xst xb_RE T n_hand (pe_var (i := 0) rfl (.inl rfl)) (pe_var (i := 1) rfl (.inl rfl))))), init_pf1 h⟩
  exact ⟨_, _, _, _, fI, fd, _, xb_RE, T, hm, iC, tI, G, fun a s us hl _ => match us, hl with | [u0], _ => FunD.kb D (fun _ _ _ _ _ _ => rfl) s,
    fun a s us hl _ => match us, hl with | [u0], _ => FunD.kb D (fun _ _ _ _ _ _ => rfl) s, fun a s us hl _ => match us, hl with | [u0], _ => FunD.kb D (fun _ _ _ _ _ _ => rfl) s⟩
theorem xs_NotTelling : FnScope ["self"] ["self"] (defScope (inClass (top 30) 0)) := ⟨rfl, rfl, rfl, by decide +kernel, rfl, by decide +kernel, by decide +kernel⟩
theorem m_NotTelling (D : FunD K "__init__" "NotTelling.__init__" (defArgs (inClass (top 30) 0)) (defBody (inClass (top 30) 0)) (defScope (inClass (top 30) 0)) [] [] fI fd) (T : XC K (He.ga K "NotTelling") "RuntimeError.__new__" (tlOf "RuntimeError")) (J : XIn K (He.ga K "StateError") "RuntimeError.__init__") (hb : mg "StateError" = some (.ref (He.ga K "StateError"))) (hm : mg "NotTelling" = some (.ref (He.ga K "NotTelling")))
    (iC : PySem.W.findIn K (.ref (He.ga K "NotTelling")) "__init__" = some (some (.ref fI))) (tI : PySem.W.typeIn K (.ref fI) = some (.type "function"))  : XM P w K mg base 1 "NotTelling" [] := by
  have S := xs_NotTelling
  have G : FnG P w K mg base false 1 fI fd ["self"] (spI (He.ga K "NotTelling") []) := fnG_of D S (spI_len rfl) fun cv A out st H vs Q E rm gd h =>
    ⟨_, (pss_one (ps_expr (pe_binit xb_RE T J (by rfl) hb (by decide +kernel) (pa_cons (pe_var (i := 0) rfl (.inl rfl)) (pa_cons pe_str pa_nil))))), init_pf0 h⟩
  exact ⟨_, _, _, _, fI, fd, _, xb_RE, T, hm, iC, tI, G, fun a s us hl _ => match us, hl with | [], _ => FunD.kb D (fun _ _ _ _ _ _ => rfl) s,
    fun a s us hl _ => match us, hl with | [], _ => FunD.kb D (fun _ _ _ _ _ _ => rfl) s, fun a s us hl _ => match us, hl with | [], _ => FunD.kb D (fun _ _ _ _ _ _ => rfl) s⟩
theorem xs_NotRecording : FnScope ["self"] ["self"] (defScope (inClass (top 31) 0)) := ⟨rfl, rfl, rfl, by decide +kernel, rfl, by decide +kernel, by decide +kernel⟩
theorem m_NotRecording (D : FunD K "__init__" "NotRecording.__init__" (defArgs (inClass (top 31) 0)) (defBody (inClass (top 31) 0)) (defScope (inClass (top 31) 0)) [] [] fI fd) (T : XC K (He.ga K "NotRecording") "RuntimeError.__new__" (tlOf "RuntimeError")) (J : XIn K (He.ga K "StateError") "RuntimeError.__init__") (hb : mg "StateError" = some (.ref (He.ga K "StateError"))) (hm : mg "NotRecording" = some (.ref (He.ga K "NotRecording")))
    (iC : PySem.W.findIn K (.ref (He.ga K "NotRecording")) "__init__" = some (some (.ref fI))) (tI : PySem.W.typeIn K (.ref fI) = some (.type "function"))  : XM P w K mg base 1 "NotRecording" [] := by
  have S := xs_NotRecording
  have G : FnG P w K mg base false 1 fI fd ["self"] (spI (He.ga K "NotRecording") []) := fnG_of D S (spI_len rfl) fun cv A out st H vs Q E rm gd h =>
    ⟨_, (pss_one (ps_expr (pe_binit xb_RE T J (by rfl) hb (by decide +kernel) (pa_cons (pe_var (i := 0) rfl (.inl rfl)) (pa_cons pe_str pa_nil))))), init_pf0 h⟩
  exact ⟨_, _, _, _, fI, fd, _, xb_RE, T, hm, iC, tI, G, fun a s us hl _ => match us, hl with | [], _ => FunD.kb D (fun _ _ _ _ _ _ => rfl) s,
    fun a s us hl _ => match us, hl with | [], _ => FunD.kb D (fun _ _ _ _ _ _ => rfl) s, fun a s us hl _ => match us, hl with | [], _ => FunD.kb D (fun _ _ _ _ _ _ => rfl) s⟩
theorem xs_NotRight : FnScope ["self"] ["self"] (defScope (inClass (top 32) 0)) := ⟨rfl, rfl, rfl, by decide +kernel, rfl, by decide +kernel, by decide +kernel⟩
theorem m_NotRight (D : FunD K "__init__" "NotRight.__init__" (defArgs (inClass (top 32) 0)) (defBody (inClass (top 32) 0)) (defScope (inClass (top 32) 0)) [] [] fI fd) (T : XC K (He.ga K "NotRight") "RuntimeError.__new__" (tlOf "RuntimeError")) (J : XIn K (He.ga K "StateError") "RuntimeError.__init__") (hb : mg "StateError" = some (.ref (He.ga K "StateError"))) (hm : mg "NotRight" = some (.ref (He.ga K "NotRight")))
    (iC : PySem.W.findIn K (.ref (He.ga K "NotRight")) "__init__" = some (some (.ref fI))) (tI : PySem.W.typeIn K (.ref fI) = some (.type "function"))  : XM P w K mg base 1 "NotRight" [] := by
  have S := xs_NotRight
  have G : FnG P w K mg base false 1 fI fd ["self"] (spI (He.ga K "NotRight") []) := fnG_of D S (spI_len rfl) fun cv A out st H vs Q E rm gd h =>
    ⟨_, (pss_one (ps_expr (pe_binit xb_RE T J (by rfl) hb (by decide +kernel) (pa_cons (pe_var (i := 0) rfl (.inl rfl)) (pa_cons pe_str pa_nil))))), init_pf0 h⟩
  exact ⟨_, _, _, _, fI, fd, _, xb_RE, T, hm, iC, tI, G, fun a s us hl _ => match us, hl with | [], _ => FunD.kb D (fun _ _ _ _ _ _ => rfl) s,
    fun a s us hl _ => match us, hl with | [], _ => FunD.kb D (fun _ _ _ _ _ _ => rfl) s, fun a s us hl _ => match us, hl with | [], _ => FunD.kb D (fun _ _ _ _ _ _ => rfl) s⟩
theorem xs_NotCritical : FnScope ["self", "value"] ["self", "value"] (defScope (inClass (top 33) 0)) := ⟨rfl, rfl, rfl, by decide +kernel, rfl, by decide +kernel, by decide +kernel⟩
theorem m_NotCritical (D : FunD K "__init__" "NotCritical.__init__" (defArgs (inClass (top 33) 0)) (defBody (inClass (top 33) 0)) (defScope (inClass (top 33) 0)) [] [] fI fd) (T : XC K (He.ga K "NotCritical") "RuntimeError.__new__" (tlOf "RuntimeError")) (J : XIn K (He.ga K "StateError") "RuntimeError.__init__") (hb : mg "StateError" = some (.ref (He.ga K "StateError"))) (hm : mg "NotCritical" = some (.ref (He.ga K "NotCritical")))
    (iC : PySem.W.findIn K (.ref (He.ga K "NotCritical")) "__init__" = some (some (.ref fI))) (tI : PySem.W.typeIn K (.ref fI) = some (.type "function")) (n_value : PySem.W.findIn K (.ref (He.ga K "NotCritical")) "value" = some none) : XM P w K mg base 1 "NotCritical" ["value"] := by
  have S := xs_NotCritical
  have G : FnG P w K mg base false 1 fI fd ["self", "value"] (spI (He.ga K "NotCritical") ["value"]) := fnG_of D S (spI_len rfl) fun cv A out st H vs Q E rm gd h =>
    ⟨_, (pss_cons (ps_expr (pe_binit xb_RE T J (by rfl) hb (by decide +kernel) (pa_cons (pe_var (i := 0) rfl (.inl rfl)) (pa_cons pe_str pa_nil)))) (pss_one (ps_xst xb_RE T n_value (pe_var (i := 0) rfl (.inl rfl)) (pe_var (i := 1) rfl (.inl rfl))))), init_pf1 h⟩
  exact ⟨_, _, _, _, fI, fd, _, xb_RE, T, hm, iC, tI, G, fun a s us hl _ => match us, hl with | [u0], _ => FunD.kb D (fun _ _ _ _ _ _ => rfl) s,
    fun a s us hl _ => match us, hl with | [u0], _ => FunD.kb D (fun _ _ _ _ _ _ => rfl) s, fun a s us hl _ => match us, hl with | [u0], _ => FunD.kb D (fun _ _ _ _ _ _ => rfl) s⟩
theorem xs_NothingToUndo : FnScope ["self"] ["self"] (defScope (inClass (top 34) 0)) := ⟨rfl, rfl, rfl, by decide +kernel, rfl, by decide +kernel, by decide +kernel⟩
theorem m_NothingToUndo (D : FunD K "__init__" "NothingToUndo.__init__" (defArgs (inClass (top 34) 0)) (defBody (inClass (top 34) 0)) (defScope (inClass (top 34) 0)) [] [] fI fd) (T : XC K (He.ga K "NothingToUndo") "RuntimeError.__new__" (tlOf "RuntimeError")) (J : XIn K (He.ga K "StateError") "RuntimeError.__init__") (hb : mg "StateError" = some (.ref (He.ga K "StateError"))) (hm : mg "NothingToUndo" = some (.ref (He.ga K "NothingToUndo")))
    (iC : PySem.W.findIn K (.ref (He.ga K "NothingToUndo")) "__init__" = some (some (.ref fI))) (tI : PySem.W.typeIn K (.ref fI) = some (.type "function"))  : XM P w K mg base 1 "NothingToUndo" [] := by
  have S := xs_NothingToUndo
  have G : FnG P w K mg base false 1 fI fd ["self"] (spI (He.ga K "NothingToUndo") []) := fnG_of D S (spI_len rfl) fun cv A out st H vs Q E rm gd h =>
    ⟨_, (pss_one (ps_expr (pe_binit xb_RE T J (by rfl) hb (by decide +kernel) (pa_cons (pe_var (i := 0) rfl (.inl rfl)) (pa_cons pe_str pa_nil))))), init_pf0 h⟩
  exact ⟨_, _, _, _, fI, fd, _, xb_RE, T, hm, iC, tI, G, fun a s us hl _ => match us, hl with | [], _ => FunD.kb D (fun _ _ _ _ _ _ => rfl) s,
    fun a s us hl _ => match us, hl with | [], _ => FunD.kb D (fun _ _ _ _ _ _ => rfl) s, fun a s us hl _ => match us, hl with | [], _ => FunD.kb D (fun _ _ _ _ _ _ => rfl) s⟩
theorem xs_CommandFailed : FnScope ["self", "position"] ["self", "position"] (defScope (inClass (top 35) 0)) := ⟨rfl, rfl, rfl, by decide +kernel, rfl, by decide +kernel, by decide +kernel⟩
theorem m_CommandFailed (D : FunD K "__init__" "CommandFailed.__init__" (defArgs (inClass (top 35) 0)) (defBody (inClass (top 35) 0)) (defScope (inClass (top 35) 0)) [] [] fI fd) (T : XC K (He.ga K "CommandFailed") "RuntimeError.__new__" (tlOf "RuntimeError")) (J : XIn K (He.ga K "StateError") "RuntimeError.__init__") (hb : mg "StateError" = some (.ref (He.ga K "StateError"))) (hm : mg "CommandFailed" = some (.ref (He.ga K "CommandFailed")))
    (iC : PySem.W.findIn K (.ref (He.ga K "CommandFailed")) "__init__" = some (some (.ref fI))) (tI : PySem.W.typeIn K (.ref fI) = some (.type "function")) (n_position : PySem.W.findIn K (.ref (He.ga K "CommandFailed")) "position" = some none) : XM P w K mg base 1 "CommandFailed" ["position"] := by
  have S := xs_CommandFailed
  have G : FnG P w K mg base false 1 fI fd ["self", "position"] (spI (He.ga K "CommandFailed") ["position"]) := fnG_of D S (spI_len rfl) fun cv A out st H vs Q E rm gd h =>
    ⟨_, (pss_cons (ps_expr (pe_binit xb_RE T J (by rfl) hb (by decide +kernel) (pa_cons (pe_var (i := 0) rfl (.inl rfl)) (pa_cons pe_str pa_nil)))) (pss_one (ps_xst xb_RE T n_position (pe_var (i := 0) rfl (.inl rfl)) (pe_var (i := 1) rfl (.inl rfl))))), init_pf1 h⟩
  exact ⟨_, _, _, _, fI, fd, _, xb_RE, T, hm, iC, tI, G, fun a s us hl _ => match us, hl with | [u0], _ => FunD.kb D (fun _ _ _ _ _ _ => rfl) s,
    fun a s us hl _ => match us, hl with | [u0], _ => FunD.kb D (fun _ _ _ _ _ _ => rfl) s, fun a s us hl _ => match us, hl with | [u0], _ => FunD.kb D (fun _ _ _ _ _ _ => rfl) s⟩
theorem xs_TooMany : FnScope ["self", "what", "limit"] ["self", "what", "limit"] (defScope (inClass (top 37) 0)) := ⟨rfl, rfl, rfl, by decide +kernel, rfl, by decide +kernel, by decide +kernel⟩
theorem m_TooMany (D : FunD K "__init__" "TooMany.__init__" (defArgs (inClass (top 37) 0)) (defBody (inClass (top 37) 0)) (defScope (inClass (top 37) 0)) [] [] fI fd) (T : XC K (He.ga K "TooMany") "ArithmeticError.__new__" (tlOf "ArithmeticError")) (J : XIn K (He.ga K "LimitError") "ArithmeticError.__init__") (hb : mg "LimitError" = some (.ref (He.ga K "LimitError"))) (hm : mg "TooMany" = some (.ref (He.ga K "TooMany")))
    (iC : PySem.W.findIn K (.ref (He.ga K "TooMany")) "__init__" = some (some (.ref fI))) (tI : PySem.W.typeIn K (.ref fI) = some (.type "function")) (n_what : PySem.W.findIn K (.ref (He.ga K "TooMany")) "what" = some none) (n_limit : PySem.W.findIn K (.ref (He.ga K "TooMany")) "limit" = some none) : XM P w K mg base 1 "TooMany" ["what", "limit"] := by
  have S := xs_TooMany
  have G : FnG P w K mg base false 1 fI fd ["self", "what", "limit"] (spI (He.ga K "TooMany") ["what", "limit"]) := fnG_of D S (spI_len rfl) fun cv A out st H vs Q E rm gd h =>
    ⟨_, (pss_cons (ps_expr (pe_binit xb_AE T J (by rfl) hb (by decide +kernel) (pa_cons (pe_var (i := 0) rfl (.inl rfl)) (pa_cons pe_str pa_nil)))) (pss_cons (ps_xst xb_AE T n_what (pe_var (i := 0) rfl (.inl rfl)) (pe_var (i := 1) rfl (.inl rfl))) (pss_one (ps_xst xb_AE T n_limit (pe_var (i := 0) rfl (.inl rfl)) (pe_var (i := 2) rfl (.inl rfl)))))), init_pf2 h⟩
  exact ⟨_, _, _, _, fI, fd, _, xb_AE, T, hm, iC, tI, G, fun a s us hl _ => match us, hl with | [u0, u1], _ => FunD.kb D (fun _ _ _ _ _ _ => rfl) s,
    fun a s us hl _ => match us, hl with | [u0, u1], _ => FunD.kb D (fun _ _ _ _ _ _ => rfl) s, fun a s us hl _ => match us, hl with | [u0, u1], _ => FunD.kb D (fun _ _ _ _ _ _ => rfl) s⟩
def c__law_pot_2 : FS := sRet (eLst (aCons (e2 oMax (eC (.int 0)) (e2 oSub (eV 2) (e2 oPow (eC (.int 10)) (eC (.int 18))))) (aCons (e2 oAdd (e2 oMod (e1 oToInt (e2 oAdd (e2 oAdd (e2 oMul (e2 oMod (e1 oToInt (eV 2)) (eC (.int 2147483563))) (eC (.int 48271))) (e2 oMul (eC (.int 4027)) (eV 1))) (eC (.int 31)))) (eC (.int 2147483543))) (eC (.int 1))) (aNil))))
def b__law_pot_2 : FS := c__law_pot_2
def c__law_pot_1 : FS := sIf (bB (e2 oLt (eV 1) (e1n oLen 0))) (sSet 2 (e1 oAbs (e2n oIx 0 (eV 1)))) (sNext)
def b__law_pot_1 : FS := sSeq c__law_pot_1 b__law_pot_2
def c__law_pot_0 : FS := sSet 2 (e2 oAdd (e2 oMul (eC (.int 43)) (eV 1)) (eC (.int 17)))
def b__law_pot_0 : FS := sSeq c__law_pot_0 b__law_pot_1
abbrev b__law_pot : FS := b__law_pot_0
def F__law_pot : FD := runD 3 b__law_pot
theorem sc__law_pot : FnScope ["_law_script", "_law_k", "_law_cell"] ["_law_script", "_law_k"] (defScope (top 39)) := ⟨rfl, rfl, rfl, by decide +kernel, rfl, by decide +kernel, by decide +kernel⟩
theorem ok__law_pot (B : Bl mg)  (D : FunD K "_law_pot" "_law_pot" (defArgs (top 39)) (defBody (top 39)) (defScope (top 39)) [] [] f fd) (hm : mg "_law_pot" = some (.ref f)) : Fnn P w K mg base false 1 "_law_pot" 2 F__law_pot := by
  have bd : Binds K fd ["_law_script", "_law_k"] [] := D.bindsN fun _ _ _ _ _ _ us hl => match us, hl with | [_, _], _ => rfl
  have S := sc__law_pot
  exact fnn_of D hm S bd (by decide) (fun cv A out st H E rm gd =>
    (mss_cons (ms_set (i := 2) S.nd rfl (.inl rfl) (me_add (me_mul me_int (me_V (pe_var (i := 1) rfl (.inl rfl)))) me_int))
    (mss_cons (ms_if (mt_lt (me_V (pe_var (i := 1) rfl (.inl rfl))) (me_b1N call_len p_len (by rfl) B.len (by decide +kernel) (pe_var (i := 0) rfl (.inl rfl)))) (mss_one (ms_set (i := 2) S.nd rfl (.inl rfl) (me_b1 call_abs p_abs (by rfl) B.abs (by decide +kernel) (me_ixN (hu_of rm) (pe_var (i := 0) rfl (.inl rfl)) (me_V (pe_var (i := 1) rfl (.inl rfl))))))) mss_nil)
    (mss_one (ms_ret (me_lst (ma_cons (me_b2 (call_max2 rfl) p_max (by rfl) B.max (by decide +kernel) me_int (me_sub (me_V (pe_var (i := 2) rfl (.inl rfl))) (me_pow me_int me_int))) (ma_cons (me_add (me_mod (me_t1 call_int1 p_toInt (by rfl) B.int (by decide +kernel) (me_add (me_add (me_mul (me_mod (me_t1 call_int1 p_toInt (by rfl) B.int (by decide +kernel) (me_V (pe_var (i := 2) rfl (.inl rfl)))) me_int) me_int) (me_mul me_int (me_V (pe_var (i := 1) rfl (.inl rfl))))) me_int)) me_int) me_int) ma_nil))))))))

def c__law_draw_2 : FS := sRet (e2 oMod (e1 oToInt (e2 oDiv (e2 oMod (e1 oToInt (e2 oMul (e2n oIx 0 (eC (.int 1))) (e2n oIx 0 (eC (.int 1))))) (eC (.int 2147483563))) (eC (.int 19)))) (eV 1))
def b__law_draw_2 : FS := c__law_draw_2
def c__law_draw_1 : FS := sAsg (gIx 0 (eC (.int 1))) (e2 oMod (e1 oToInt (e2 oAdd (e2 oMul (e2n oIx 0 (eC (.int 1))) (eC (.int 48271))) (eC (.int 22397)))) (eC (.int 2147483543)))
def b__law_draw_1 : FS := sSeq c__law_draw_1 b__law_draw_2
def c__law_draw_0 : FS := sIf (bB (e2 oGt (e2n oIx 0 (eC (.int 0))) (eC (.int 0)))) (sSeq (sAsg (gT 2 (gCons (gIx 0 (eC (.int 0))) (gCons (gN 2) (gNil)))) (e2 oDivmod (e2n oIx 0 (eC (.int 0))) (eV 1))) (sRet (eG 2))) (sNext)
def b__law_draw_0 : FS := sSeq c__law_draw_0 b__law_draw_1
abbrev b__law_draw : FS := b__law_draw_0
def F__law_draw : FD := runD 3 b__law_draw
theorem sc__law_draw : FnScope ["_law_pot_here", "_law_many", "_law_digit"] ["_law_pot_here", "_law_many"] (defScope (top 40)) := ⟨rfl, rfl, rfl, by decide +kernel, rfl, by decide +kernel, by decide +kernel⟩
theorem ok__law_draw (B : Bl mg)  (D : FunD K "_law_draw" "_law_draw" (defArgs (top 40)) (defBody (top 40)) (defScope (top 40)) [] [] f fd) (hm : mg "_law_draw" = some (.ref f)) : Fnn P w K mg base false 1 "_law_draw" 2 F__law_draw := by
  have bd : Binds K fd ["_law_pot_here", "_law_many"] [] := D.bindsN fun _ _ _ _ _ _ us hl => match us, hl with | [_, _], _ => rfl
  have S := sc__law_draw
  exact fnn_of D hm S bd (by decide) (fun cv A out st H E rm gd =>
    (mss_cons (ms_if (mt_gt (me_ixN (hu_of rm) (pe_var (i := 0) rfl (.inl rfl)) me_int) me_int) (mss_cons (ms_asg (me_b2 call_divmod p_divmod (by rfl) B.divmod (by decide +kernel) (me_ixN (hu_of rm) (pe_var (i := 0) rfl (.inl rfl)) me_int) (me_V (pe_var (i := 1) rfl (.inl rfl)))) (mg_tup rfl (mgs_cons (mg_ix (pe_var (i := 0) rfl (.inl rfl)) me_int) (mgs_cons (mg_name (i := 2) S.nd rfl (.inl rfl)) mgs_nil))))
    (mss_one (ms_ret (me_G (pe_var (i := 2) rfl (.inl rfl)))))) mss_nil)
    (mss_cons (ms_asg (me_mod (me_t1 call_int1 p_toInt (by rfl) B.int (by decide +kernel) (me_add (me_mul (me_ixN (hu_of rm) (pe_var (i := 0) rfl (.inl rfl)) me_int) me_int) me_int)) me_int) (mg_ix (pe_var (i := 0) rfl (.inl rfl)) me_int))
    (mss_one (ms_ret (me_mod (me_t1 call_int1 p_toInt (by rfl) B.int (by decide +kernel) (me_div (me_mod (me_t1 call_int1 p_toInt (by rfl) B.int (by decide +kernel) (me_mul (me_ixN (hu_of rm) (pe_var (i := 0) rfl (.inl rfl)) me_int) (me_ixN (hu_of rm) (pe_var (i := 0) rfl (.inl rfl)) me_int))) me_int) me_int)) (me_V (pe_var (i := 1) rfl (.inl rfl)))))))))

def c__law_pick_0 : FS := sRet (e2n oIx 1 (eCall 2 F__law_draw (aMu 0 (aCons (e1n oLen 1) (aNil)))))
def b__law_pick_0 : FS := c__law_pick_0
abbrev b__law_pick : FS := b__law_pick_0
def F__law_pick : FD := runD 2 b__law_pick
theorem sc__law_pick : FnScope ["_law_pot_here", "_law_some"] ["_law_pot_here", "_law_some"] (defScope (top 41)) := ⟨rfl, rfl, rfl, by decide +kernel, rfl, by decide +kernel, by decide +kernel⟩
theorem ok__law_pick (B : Bl mg) (H__law_draw : Fnn P w K mg base false 1 "_law_draw" 2 F__law_draw) (D : FunD K "_law_pick" "_law_pick" (defArgs (top 41)) (defBody (top 41)) (defScope (top 41)) [] [] f fd) (hm : mg "_law_pick" = some (.ref f)) : Fnn P w K mg base false 2 "_law_pick" 2 F__law_pick := by
  have bd : Binds K fd ["_law_pot_here", "_law_some"] [] := D.bindsN fun _ _ _ _ _ _ us hl => match us, hl with | [_, _], _ => rfl
  have S := sc__law_pick
  exact fnn_of D hm S bd (by decide) (fun cv A out st H E rm gd =>
    (mss_one (ms_ret (me_ixN (hu_of rm) (pe_var (i := 1) rfl (.inl rfl)) (me_fn H__law_draw rm (fun z => Bool.noConfusion z) takesD (by rfl) (ma_mu (pe_var (i := 0) rfl (.inl rfl)) (ma_cons (me_b1N call_len p_len (by rfl) B.len (by decide +kernel) (pe_var (i := 1) rfl (.inl rfl))) ma_nil)))))))

def c__law_thing_0 : FS := sRet (eCall 2 F__law_pick (aMu 0 (aCons (eLst (aCons (eC .non) (aCons (eC (.int 0)) (aCons (eC (.int 7)) (aCons (eC (.bl true)) (aCons (e1 oNeg (e2 oPow (eC (.int 10)) (eC (.int 29)))) (aCons (eC (.str "")) (aCons (eC (.str "a b")) (aCons (eTup (aCons (eC (.int 1)) (aCons (eC (.str "x")) (aNil)))) (aCons (eLst (aCons (eC (.int 1)) (aCons (eLst (aCons (eC (.int 2)) (aNil))) (aNil)))) (aCons (eDict (pCons (eC (.str "a")) (eC (.int 1)) (pNil))) (aCons (eTup (aNil)) (aCons (eLst (aNil)) (aNil)))))))))))))) (aNil))))
def b__law_thing_0 : FS := c__law_thing_0
abbrev b__law_thing : FS := b__law_thing_0
def F__law_thing : FD := runD 1 b__law_thing
theorem sc__law_thing : FnScope ["_law_pot_here"] ["_law_pot_here"] (defScope (top 42)) := ⟨rfl, rfl, rfl, by decide +kernel, rfl, by decide +kernel, by decide +kernel⟩
theorem ok__law_thing (B : Bl mg) (H__law_pick : Fnn P w K mg base false 2 "_law_pick" 2 F__law_pick) (D : FunD K "_law_thing" "_law_thing" (defArgs (top 42)) (defBody (top 42)) (defScope (top 42)) [] [] f fd) (hm : mg "_law_thing" = some (.ref f)) : Fnn P w K mg base false 3 "_law_thing" 1 F__law_thing := by
  have bd : Binds K fd ["_law_pot_here"] [] := D.bindsN fun _ _ _ _ _ _ us hl => match us, hl with | [_], _ => rfl
  have S := sc__law_thing
  exact fnn_of D hm S bd (by decide) (fun cv A out st H E rm gd =>
    (mss_one (ms_ret (me_fn H__law_pick rm (fun z => Bool.noConfusion z) takesD (by rfl) (ma_mu (pe_var (i := 0) rfl (.inl rfl)) (ma_cons (me_lst (ma_cons me_non (ma_cons me_int (ma_cons me_int (ma_cons me_bl (ma_cons (me_neg (me_pow me_int me_int)) (ma_cons me_str (ma_cons me_str (ma_cons (me_tup (ma_cons me_int (ma_cons me_str ma_nil))) (ma_cons (me_lst (ma_cons me_int (ma_cons (me_lst (ma_cons me_int ma_nil)) ma_nil))) (ma_cons (me_dict (mp_cons me_str me_int mp_nil)) (ma_cons (me_tup ma_nil) (ma_cons (me_lst ma_nil) ma_nil))))))))))))) ma_nil))))))

def c__law_placed_1 : FS := sRet (e2 oAdd (eV 1) (eLst (aCons (eMk "InvalidThings" ["position"] false (aCons (eV 0) (aNil))) (aCons (eMk "InvalidScripts" ["position"] false (aCons (eV 0) (aNil))) (aCons (eMk "InvalidWeaving" ["position"] false (aCons (eV 0) (aNil))) (aNil))))))
def b__law_placed_1 : FS := c__law_placed_1
def c__law_placed_0 : FS := sSet 1 (eLst (aCons (eMk "InvalidDeeds" ["position"] false (aCons (eV 0) (aNil))) (aCons (eMk "InvalidRows" ["position"] false (aCons (eV 0) (aNil))) (aCons (eMk "InvalidWord" ["position"] false (aCons (eV 0) (aNil))) (aCons (eMk "InvalidOrder" ["position"] false (aCons (eV 0) (aNil))) (aNil))))))
def b__law_placed_0 : FS := sSeq c__law_placed_0 b__law_placed_1
abbrev b__law_placed : FS := b__law_placed_0
def F__law_placed : FD := runD 2 b__law_placed
theorem sc__law_placed : FnScope ["_law_thing_now", "_law_found"] ["_law_thing_now"] (defScope (top 43)) := ⟨rfl, rfl, rfl, by decide +kernel, rfl, by decide +kernel, by decide +kernel⟩
theorem ok__law_placed (B : Bl mg) (Kx : Kx P w K mg base)  (D : FunD K "_law_placed" "_law_placed" (defArgs (top 43)) (defBody (top 43)) (defScope (top 43)) [] [] f fd) (hm : mg "_law_placed" = some (.ref f)) : Fnn P w K mg base false 3 "_law_placed" 1 F__law_placed := by
  have bd : Binds K fd ["_law_thing_now"] [] := D.bindsN fun _ _ _ _ _ _ us hl => match us, hl with | [_], _ => rfl
  have S := sc__law_placed
  exact fnn_of D hm S bd (by decide) (fun cv A out st H E rm gd =>
    (mss_cons (ms_set (i := 1) S.nd rfl (.inl rfl) (me_lst (ma_cons (me_mkx Kx.m_InvalidDeeds (rm.mono (by decide)) takesD (by rfl) (by decide) (ma_cons (me_V (pe_var (i := 0) rfl (.inl rfl))) ma_nil)) (ma_cons (me_mkx Kx.m_InvalidRows (rm.mono (by decide)) takesD (by rfl) (by decide) (ma_cons (me_V (pe_var (i := 0) rfl (.inl rfl))) ma_nil)) (ma_cons (me_mkx Kx.m_InvalidWord (rm.mono (by decide)) takesD (by rfl) (by decide) (ma_cons (me_V (pe_var (i := 0) rfl (.inl rfl))) ma_nil)) (ma_cons (me_mkx Kx.m_InvalidOrder (rm.mono (by decide)) takesD (by rfl) (by decide) (ma_cons (me_V (pe_var (i := 0) rfl (.inl rfl))) ma_nil)) ma_nil))))))
    (mss_one (ms_ret (me_add (me_V (pe_var (i := 1) rfl (.inl rfl))) (me_lst (ma_cons (me_mkx Kx.m_InvalidThings (rm.mono (by decide)) takesD (by rfl) (by decide) (ma_cons (me_V (pe_var (i := 0) rfl (.inl rfl))) ma_nil)) (ma_cons (me_mkx Kx.m_InvalidScripts (rm.mono (by decide)) takesD (by rfl) (by decide) (ma_cons (me_V (pe_var (i := 0) rfl (.inl rfl))) ma_nil)) (ma_cons (me_mkx Kx.m_InvalidWeaving (rm.mono (by decide)) takesD (by rfl) (by decide) (ma_cons (me_V (pe_var (i := 0) rfl (.inl rfl))) ma_nil)) ma_nil)))))))))

def c__law_placed_by_name_2 : FS := sRet (e2 oAdd (eV 1) (eLst (aCons (eMk "InvalidWeaving" ["position"] false (aCons (eV 0) (aNil))) (aCons (eMk "CommandFailed" ["position"] false (aCons (eV 0) (aNil))) (aNil)))))
def b__law_placed_by_name_2 : FS := c__law_placed_by_name_2
def c__law_placed_by_name_1 : FS := sSet 1 (e2 oAdd (eV 1) (eLst (aCons (eMk "InvalidOrder" ["position"] false (aCons (eV 0) (aNil))) (aCons (eMk "InvalidThings" ["position"] false (aCons (eV 0) (aNil))) (aCons (eMk "InvalidScripts" ["position"] false (aCons (eV 0) (aNil))) (aNil))))))
def b__law_placed_by_name_1 : FS := sSeq c__law_placed_by_name_1 b__law_placed_by_name_2
def c__law_placed_by_name_0 : FS := sSet 1 (eLst (aCons (eMk "InvalidDeeds" ["position"] false (aCons (eV 0) (aNil))) (aCons (eMk "InvalidRows" ["position"] false (aCons (eV 0) (aNil))) (aCons (eMk "InvalidWord" ["position"] false (aCons (eV 0) (aNil))) (aNil)))))
def b__law_placed_by_name_0 : FS := sSeq c__law_placed_by_name_0 b__law_placed_by_name_1
abbrev b__law_placed_by_name : FS := b__law_placed_by_name_0
def F__law_placed_by_name : FD := runD 2 b__law_placed_by_name
theorem sc__law_placed_by_name : FnScope ["_law_near", "_law_found"] ["_law_near"] (defScope (top 44)) := ⟨rfl, rfl, rfl, by decide +kernel, rfl, by decide +kernel, by decide +kernel⟩
theorem ok__law_placed_by_name (B : Bl mg) (Kx : Kx P w K mg base)  (D : FunD K "_law_placed_by_name" "_law_placed_by_name" (defArgs (top 44)) (defBody (top 44)) (defScope (top 44)) [] [] f fd) (hm : mg "_law_placed_by_name" = some (.ref f)) : Fnn P w K mg base false 3 "_law_placed_by_name" 1 F__law_placed_by_name := by
  have bd : Binds K fd ["_law_near"] [] := D.bindsN fun _ _ _ _ _ _ us hl => match us, hl with | [_], _ => rfl
  have S := sc__law_placed_by_name
  exact fnn_of D hm S bd (by decide) (fun cv A out st H E rm gd =>
    (mss_cons (ms_set (i := 1) S.nd rfl (.inl rfl) (me_lst (ma_cons (me_mkxK (rv := false) Kx.m_InvalidDeeds (rm.mono (by decide)) takesD (by rfl) (pk_one (me_V (pe_var (i := 0) rfl (.inl rfl))) pk_none)) (ma_cons (me_mkxK (rv := false) Kx.m_InvalidRows (rm.mono (by decide)) takesD (by rfl) (pk_one (me_V (pe_var (i := 0) rfl (.inl rfl))) pk_none)) (ma_cons (me_mkxK (rv := false) Kx.m_InvalidWord (rm.mono (by decide)) takesD (by rfl) (pk_one (me_V (pe_var (i := 0) rfl (.inl rfl))) pk_none)) ma_nil)))))
    (mss_cons (ms_set (i := 1) S.nd rfl (.inl rfl) (me_add (me_V (pe_var (i := 1) rfl (.inl rfl))) (me_lst (ma_cons (me_mkxK (rv := false) Kx.m_InvalidOrder (rm.mono (by decide)) takesD (by rfl) (pk_one (me_V (pe_var (i := 0) rfl (.inl rfl))) pk_none)) (ma_cons (me_mkxK (rv := false) Kx.m_InvalidThings (rm.mono (by decide)) takesD (by rfl) (pk_one (me_V (pe_var (i := 0) rfl (.inl rfl))) pk_none)) (ma_cons (me_mkxK (rv := false) Kx.m_InvalidScripts (rm.mono (by decide)) takesD (by rfl) (pk_one (me_V (pe_var (i := 0) rfl (.inl rfl))) pk_none)) ma_nil))))))
    (mss_one (ms_ret (me_add (me_V (pe_var (i := 1) rfl (.inl rfl))) (me_lst (ma_cons (me_mkxK (rv := false) Kx.m_InvalidWeaving (rm.mono (by decide)) takesD (by rfl) (pk_one (me_V (pe_var (i := 0) rfl (.inl rfl))) pk_none)) (ma_cons (me_mkxK (rv := false) Kx.m_CommandFailed (rm.mono (by decide)) takesD (by rfl) (pk_one (me_V (pe_var (i := 0) rfl (.inl rfl))) pk_none)) ma_nil)))))))))

def c__law_valued_2 : FS := sRet (e2 oAdd (eV 1) (eLst (aCons (eMk "InvalidLayout" ["value"] false (aCons (eV 0) (aNil))) (aCons (eMk "InvalidPlace" ["value"] false (aCons (eV 0) (aNil))) (aCons (eMk "InvalidClaim" ["value"] false (aCons (eV 0) (aNil))) (aCons (eMk "InvalidCommand" ["value"] false (aCons (eV 0) (aNil))) (aNil)))))))
def b__law_valued_2 : FS := c__law_valued_2
def c__law_valued_1 : FS := sSet 1 (e2 oAdd (eV 1) (eLst (aCons (eMk "InvalidAnswers" ["value"] false (aCons (eV 0) (aNil))) (aCons (eMk "InvalidNumber" ["value"] false (aCons (eV 0) (aNil))) (aCons (eMk "InvalidTeam" ["value"] false (aCons (eV 0) (aNil))) (aCons (eMk "InvalidHand" ["value"] false (aCons (eV 0) (aNil))) (aNil)))))))
def b__law_valued_1 : FS := sSeq c__law_valued_1 b__law_valued_2
def c__law_valued_0 : FS := sSet 1 (eLst (aCons (eMk "InvalidState" ["value"] false (aCons (eV 0) (aNil))) (aCons (eMk "InvalidDeed" ["value"] false (aCons (eV 0) (aNil))) (aCons (eMk "InvalidStates" ["value"] false (aCons (eV 0) (aNil))) (aCons (eMk "InvalidNames" ["value"] false (aCons (eV 0) (aNil))) (aCons (eMk "InvalidEntry" ["value"] false (aCons (eV 0) (aNil))) (aNil)))))))
def b__law_valued_0 : FS := sSeq c__law_valued_0 b__law_valued_1
abbrev b__law_valued : FS := b__law_valued_0
def F__law_valued : FD := runD 2 b__law_valued
theorem sc__law_valued : FnScope ["_law_near", "_law_found"] ["_law_near"] (defScope (top 45)) := ⟨rfl, rfl, rfl, by decide +kernel, rfl, by decide +kernel, by decide +kernel⟩
theorem ok__law_valued (B : Bl mg) (Kx : Kx P w K mg base)  (D : FunD K "_law_valued" "_law_valued" (defArgs (top 45)) (defBody (top 45)) (defScope (top 45)) [] [] f fd) (hm : mg "_law_valued" = some (.ref f)) : Fnn P w K mg base false 3 "_law_valued" 1 F__law_valued := by
  have bd : Binds K fd ["_law_near"] [] := D.bindsN fun _ _ _ _ _ _ us hl => match us, hl with | [_], _ => rfl
  have S := sc__law_valued
  exact fnn_of D hm S bd (by decide) (fun cv A out st H E rm gd =>
    (mss_cons (ms_set (i := 1) S.nd rfl (.inl rfl) (me_lst (ma_cons (me_mkx Kx.m_InvalidState (rm.mono (by decide)) takesD (by rfl) (by decide) (ma_cons (me_V (pe_var (i := 0) rfl (.inl rfl))) ma_nil)) (ma_cons (me_mkx Kx.m_InvalidDeed (rm.mono (by decide)) takesD (by rfl) (by decide) (ma_cons (me_V (pe_var (i := 0) rfl (.inl rfl))) ma_nil)) (ma_cons (me_mkx Kx.m_InvalidStates (rm.mono (by decide)) takesD (by rfl) (by decide) (ma_cons (me_V (pe_var (i := 0) rfl (.inl rfl))) ma_nil)) (ma_cons (me_mkx Kx.m_InvalidNames (rm.mono (by decide)) takesD (by rfl) (by decide) (ma_cons (me_V (pe_var (i := 0) rfl (.inl rfl))) ma_nil)) (ma_cons (me_mkx Kx.m_InvalidEntry (rm.mono (by decide)) takesD (by rfl) (by decide) (ma_cons (me_V (pe_var (i := 0) rfl (.inl rfl))) ma_nil)) ma_nil)))))))
    (mss_cons (ms_set (i := 1) S.nd rfl (.inl rfl) (me_add (me_V (pe_var (i := 1) rfl (.inl rfl))) (me_lst (ma_cons (me_mkx Kx.m_InvalidAnswers (rm.mono (by decide)) takesD (by rfl) (by decide) (ma_cons (me_V (pe_var (i := 0) rfl (.inl rfl))) ma_nil)) (ma_cons (me_mkx Kx.m_InvalidNumber (rm.mono (by decide)) takesD (by rfl) (by decide) (ma_cons (me_V (pe_var (i := 0) rfl (.inl rfl))) ma_nil)) (ma_cons (me_mkx Kx.m_InvalidTeam (rm.mono (by decide)) takesD (by rfl) (by decide) (ma_cons (me_V (pe_var (i := 0) rfl (.inl rfl))) ma_nil)) (ma_cons (me_mkx Kx.m_InvalidHand (rm.mono (by decide)) takesD (by rfl) (by decide) (ma_cons (me_V (pe_var (i := 0) rfl (.inl rfl))) ma_nil)) ma_nil)))))))
    (mss_one (ms_ret (me_add (me_V (pe_var (i := 1) rfl (.inl rfl))) (me_lst (ma_cons (me_mkx Kx.m_InvalidLayout (rm.mono (by decide)) takesD (by rfl) (by decide) (ma_cons (me_V (pe_var (i := 0) rfl (.inl rfl))) ma_nil)) (ma_cons (me_mkx Kx.m_InvalidPlace (rm.mono (by decide)) takesD (by rfl) (by decide) (ma_cons (me_V (pe_var (i := 0) rfl (.inl rfl))) ma_nil)) (ma_cons (me_mkx Kx.m_InvalidClaim (rm.mono (by decide)) takesD (by rfl) (by decide) (ma_cons (me_V (pe_var (i := 0) rfl (.inl rfl))) ma_nil)) (ma_cons (me_mkx Kx.m_InvalidCommand (rm.mono (by decide)) takesD (by rfl) (by decide) (ma_cons (me_V (pe_var (i := 0) rfl (.inl rfl))) ma_nil)) ma_nil)))))))))))

def c__law_valued_by_name_5 : FS := sRet (e2 oAdd (eV 1) (eLst (aCons (eMk "NotCritical" ["value"] false (aCons (eV 0) (aNil))) (aNil))))
def b__law_valued_by_name_5 : FS := c__law_valued_by_name_5
def c__law_valued_by_name_4 : FS := sSet 1 (e2 oAdd (eV 1) (eLst (aCons (eMk "NoSuch" ["value"] false (aCons (eV 0) (aNil))) (aCons (eMk "SharedDeed" ["value"] false (aCons (eV 0) (aNil))) (aCons (eMk "OtherThing" ["value"] false (aCons (eV 0) (aNil))) (aCons (eMk "LastOne" ["value"] false (aCons (eV 0) (aNil))) (aNil)))))))
def b__law_valued_by_name_4 : FS := sSeq c__law_valued_by_name_4 b__law_valued_by_name_5
def c__law_valued_by_name_3 : FS := sSet 1 (e2 oAdd (eV 1) (eLst (aCons (eMk "InvalidPlace" ["value"] false (aCons (eV 0) (aNil))) (aCons (eMk "InvalidClaim" ["value"] false (aCons (eV 0) (aNil))) (aCons (eMk "InvalidCommand" ["value"] false (aCons (eV 0) (aNil))) (aNil))))))
def b__law_valued_by_name_3 : FS := sSeq c__law_valued_by_name_3 b__law_valued_by_name_4
def c__law_valued_by_name_2 : FS := sSet 1 (e2 oAdd (eV 1) (eLst (aCons (eMk "InvalidTeam" ["value"] false (aCons (eV 0) (aNil))) (aCons (eMk "InvalidHand" ["value"] false (aCons (eV 0) (aNil))) (aCons (eMk "InvalidLayout" ["value"] false (aCons (eV 0) (aNil))) (aNil))))))
def b__law_valued_by_name_2 : FS := sSeq c__law_valued_by_name_2 b__law_valued_by_name_3
def c__law_valued_by_name_1 : FS := sSet 1 (e2 oAdd (eV 1) (eLst (aCons (eMk "InvalidEntry" ["value"] false (aCons (eV 0) (aNil))) (aCons (eMk "InvalidAnswers" ["value"] false (aCons (eV 0) (aNil))) (aCons (eMk "InvalidNumber" ["value"] false (aCons (eV 0) (aNil))) (aNil))))))
def b__law_valued_by_name_1 : FS := sSeq c__law_valued_by_name_1 b__law_valued_by_name_2
def c__law_valued_by_name_0 : FS := sSet 1 (eLst (aCons (eMk "InvalidState" ["value"] false (aCons (eV 0) (aNil))) (aCons (eMk "InvalidDeed" ["value"] false (aCons (eV 0) (aNil))) (aCons (eMk "InvalidStates" ["value"] false (aCons (eV 0) (aNil))) (aCons (eMk "InvalidNames" ["value"] false (aCons (eV 0) (aNil))) (aNil))))))
def b__law_valued_by_name_0 : FS := sSeq c__law_valued_by_name_0 b__law_valued_by_name_1
abbrev b__law_valued_by_name : FS := b__law_valued_by_name_0
def F__law_valued_by_name : FD := runD 2 b__law_valued_by_name
theorem sc__law_valued_by_name : FnScope ["_law_near", "_law_found"] ["_law_near"] (defScope (top 46)) := ⟨rfl, rfl, rfl, by decide +kernel, rfl, by decide +kernel, by decide +kernel⟩
theorem ok__law_valued_by_name (B : Bl mg) (Kx : Kx P w K mg base)  (D : FunD K "_law_valued_by_name" "_law_valued_by_name" (defArgs (top 46)) (defBody (top 46)) (defScope (top 46)) [] [] f fd) (hm : mg "_law_valued_by_name" = some (.ref f)) : Fnn P w K mg base false 3 "_law_valued_by_name" 1 F__law_valued_by_name := by
  have bd : Binds K fd ["_law_near"] [] := D.bindsN fun _ _ _ _ _ _ us hl => match us, hl with | [_], _ => rfl
  have S := sc__law_valued_by_name
  exact fnn_of D hm S bd (by decide) (fun cv A out st H E rm gd =>
    (mss_cons (ms_set (i := 1) S.nd rfl (.inl rfl) (me_lst (ma_cons (me_mkxK (rv := false) Kx.m_InvalidState (rm.mono (by decide)) takesD (by rfl) (pk_one (me_V (pe_var (i := 0) rfl (.inl rfl))) pk_none)) (ma_cons (me_mkxK (rv := false) Kx.m_InvalidDeed (rm.mono (by decide)) takesD (by rfl) (pk_one (me_V (pe_var (i := 0) rfl (.inl rfl))) pk_none)) (ma_cons (me_mkxK (rv := false) Kx.m_InvalidStates (rm.mono (by decide)) takesD (by rfl) (pk_one (me_V (pe_var (i := 0) rfl (.inl rfl))) pk_none)) (ma_cons (me_mkxK (rv := false) Kx.m_InvalidNames (rm.mono (by decide)) takesD (by rfl) (pk_one (me_V (pe_var (i := 0) rfl (.inl rfl))) pk_none)) ma_nil))))))
    (mss_cons (ms_set (i := 1) S.nd rfl (.inl rfl) (me_add (me_V (pe_var (i := 1) rfl (.inl rfl))) (me_lst (ma_cons (me_mkxK (rv := false) Kx.m_InvalidEntry (rm.mono (by decide)) takesD (by rfl) (pk_one (me_V (pe_var (i := 0) rfl (.inl rfl))) pk_none)) (ma_cons (me_mkxK (rv := false) Kx.m_InvalidAnswers (rm.mono (by decide)) takesD (by rfl) (pk_one (me_V (pe_var (i := 0) rfl (.inl rfl))) pk_none)) (ma_cons (me_mkxK (rv := false) Kx.m_InvalidNumber (rm.mono (by decide)) takesD (by rfl) (pk_one (me_V (pe_var (i := 0) rfl (.inl rfl))) pk_none)) ma_nil))))))
    (mss_cons (ms_set (i := 1) S.nd rfl (.inl rfl) (me_add (me_V (pe_var (i := 1) rfl (.inl rfl))) (me_lst (ma_cons (me_mkxK (rv := false) Kx.m_InvalidTeam (rm.mono (by decide)) takesD (by rfl) (pk_one (me_V (pe_var (i := 0) rfl (.inl rfl))) pk_none)) (ma_cons (me_mkxK (rv := false) Kx.m_InvalidHand (rm.mono (by decide)) takesD (by rfl) (pk_one (me_V (pe_var (i := 0) rfl (.inl rfl))) pk_none)) (ma_cons (me_mkxK (rv := false) Kx.m_InvalidLayout (rm.mono (by decide)) takesD (by rfl) (pk_one (me_V (pe_var (i := 0) rfl (.inl rfl))) pk_none)) ma_nil))))))
    (mss_cons (ms_set (i := 1) S.nd rfl (.inl rfl) (me_add (me_V (pe_var (i := 1) rfl (.inl rfl))) (me_lst (ma_cons (me_mkxK (rv := false) Kx.m_InvalidPlace (rm.mono (by decide)) takesD (by rfl) (pk_one (me_V (pe_var (i := 0) rfl (.inl rfl))) pk_none)) (ma_cons (me_mkxK (rv := false) Kx.m_InvalidClaim (rm.mono (by decide)) takesD (by rfl) (pk_one (me_V (pe_var (i := 0) rfl (.inl rfl))) pk_none)) (ma_cons (me_mkxK (rv := false) Kx.m_InvalidCommand (rm.mono (by decide)) takesD (by rfl) (pk_one (me_V (pe_var (i := 0) rfl (.inl rfl))) pk_none)) ma_nil))))))
    (mss_cons (ms_set (i := 1) S.nd rfl (.inl rfl) (me_add (me_V (pe_var (i := 1) rfl (.inl rfl))) (me_lst (ma_cons (me_mkxK (rv := false) Kx.m_NoSuch (rm.mono (by decide)) takesD (by rfl) (pk_one (me_V (pe_var (i := 0) rfl (.inl rfl))) pk_none)) (ma_cons (me_mkxK (rv := false) Kx.m_SharedDeed (rm.mono (by decide)) takesD (by rfl) (pk_one (me_V (pe_var (i := 0) rfl (.inl rfl))) pk_none)) (ma_cons (me_mkxK (rv := false) Kx.m_OtherThing (rm.mono (by decide)) takesD (by rfl) (pk_one (me_V (pe_var (i := 0) rfl (.inl rfl))) pk_none)) (ma_cons (me_mkxK (rv := false) Kx.m_LastOne (rm.mono (by decide)) takesD (by rfl) (pk_one (me_V (pe_var (i := 0) rfl (.inl rfl))) pk_none)) ma_nil)))))))
    (mss_one (ms_ret (me_add (me_V (pe_var (i := 1) rfl (.inl rfl))) (me_lst (ma_cons (me_mkxK (rv := false) Kx.m_NotCritical (rm.mono (by decide)) takesD (by rfl) (pk_one (me_V (pe_var (i := 0) rfl (.inl rfl))) pk_none)) ma_nil)))))))))))

def c__law_stood_0 : FS := sRet (eLst (aCons (eMk "SharedDeed" ["value"] false (aCons (eV 0) (aNil))) (aCons (eMk "OtherThing" ["value"] false (aCons (eV 0) (aNil))) (aCons (eMk "LastOne" ["value"] false (aCons (eV 0) (aNil))) (aCons (eMk "NotCritical" ["value"] false (aCons (eV 0) (aNil))) (aNil))))))
def b__law_stood_0 : FS := c__law_stood_0
abbrev b__law_stood : FS := b__law_stood_0
def F__law_stood : FD := runD 1 b__law_stood
theorem sc__law_stood : FnScope ["_law_near"] ["_law_near"] (defScope (top 47)) := ⟨rfl, rfl, rfl, by decide +kernel, rfl, by decide +kernel, by decide +kernel⟩
theorem ok__law_stood (B : Bl mg) (Kx : Kx P w K mg base)  (D : FunD K "_law_stood" "_law_stood" (defArgs (top 47)) (defBody (top 47)) (defScope (top 47)) [] [] f fd) (hm : mg "_law_stood" = some (.ref f)) : Fnn P w K mg base false 3 "_law_stood" 1 F__law_stood := by
  have bd : Binds K fd ["_law_near"] [] := D.bindsN fun _ _ _ _ _ _ us hl => match us, hl with | [_], _ => rfl
  have S := sc__law_stood
  exact fnn_of D hm S bd (by decide) (fun cv A out st H E rm gd =>
    (mss_one (ms_ret (me_lst (ma_cons (me_mkx Kx.m_SharedDeed (rm.mono (by decide)) takesD (by rfl) (by decide) (ma_cons (me_V (pe_var (i := 0) rfl (.inl rfl))) ma_nil)) (ma_cons (me_mkx Kx.m_OtherThing (rm.mono (by decide)) takesD (by rfl) (by decide) (ma_cons (me_V (pe_var (i := 0) rfl (.inl rfl))) ma_nil)) (ma_cons (me_mkx Kx.m_LastOne (rm.mono (by decide)) takesD (by rfl) (by decide) (ma_cons (me_V (pe_var (i := 0) rfl (.inl rfl))) ma_nil)) (ma_cons (me_mkx Kx.m_NotCritical (rm.mono (by decide)) takesD (by rfl) (by decide) (ma_cons (me_V (pe_var (i := 0) rfl (.inl rfl))) ma_nil)) ma_nil))))))))

def c__law_every_2 : FS := sRet (eLst (aCons (eV 1) (aCons (eLst (aCons (eMk "NoSuch" ["value"] false (aCons (eV 0) (aNil))) (aNil))) (aCons (e2 oAdd (eV 2) (eLst (aCons (eMk "NothingToUndo" [] false aNil) (aNil)))) (aCons (eLst (aCons (eMk "TooMany" ["what", "limit"] false (aCons (eV 0) (aCons (eC (.int 5)) (aNil)))) (aNil))) (aNil))))))
def b__law_every_2 : FS := c__law_every_2
def c__law_every_1 : FS := sSet 2 (e2 oAdd (eCall 1 F__law_stood (aCons (eV 0) (aNil))) (eLst (aCons (eMk "NotInIt" ["hand"] false (aCons (eV 0) (aNil))) (aCons (eMk "CommandFailed" ["position"] false (aCons (eV 0) (aNil))) (aCons (eMk "NotTelling" [] false aNil) (aCons (eMk "NotRecording" [] false aNil) (aCons (eMk "NotRight" [] false aNil) (aNil))))))))
def b__law_every_1 : FS := sSeq c__law_every_1 b__law_every_2
def c__law_every_0 : FS := sSet 1 (e2 oAdd (e2 oAdd (eCall 1 F__law_placed (aCons (eV 0) (aNil))) (eLst (aCons (eMk "InvalidText" ["line"] false (aCons (eV 0) (aNil))) (aNil)))) (eCall 1 F__law_valued (aCons (eV 0) (aNil))))
def b__law_every_0 : FS := sSeq c__law_every_0 b__law_every_1
abbrev b__law_every : FS := b__law_every_0
def F__law_every : FD := runD 3 b__law_every
theorem sc__law_every : FnScope ["_law_near", "_law_settled", "_law_stood_here"] ["_law_near"] (defScope (top 48)) := ⟨rfl, rfl, rfl, by decide +kernel, rfl, by decide +kernel, by decide +kernel⟩
theorem ok__law_every (B : Bl mg) (Kx : Kx P w K mg base) (H__law_placed : Fnn P w K mg base false 3 "_law_placed" 1 F__law_placed) (H__law_valued : Fnn P w K mg base false 3 "_law_valued" 1 F__law_valued) (H__law_stood : Fnn P w K mg base false 3 "_law_stood" 1 F__law_stood) (D : FunD K "_law_every" "_law_every" (defArgs (top 48)) (defBody (top 48)) (defScope (top 48)) [] [] f fd) (hm : mg "_law_every" = some (.ref f)) : Fnn P w K mg base false 4 "_law_every" 1 F__law_every := by
  have bd : Binds K fd ["_law_near"] [] := D.bindsN fun _ _ _ _ _ _ us hl => match us, hl with | [_], _ => rfl
  have S := sc__law_every
  exact fnn_of D hm S bd (by decide) (fun cv A out st H E rm gd =>
    (mss_cons (ms_set (i := 1) S.nd rfl (.inl rfl) (me_add (me_add (me_fn H__law_placed rm (fun z => Bool.noConfusion z) takesD (by rfl) (ma_cons (me_V (pe_var (i := 0) rfl (.inl rfl))) ma_nil)) (me_lst (ma_cons (me_mkx Kx.m_InvalidText (rm.mono (by decide)) takesD (by rfl) (by decide) (ma_cons (me_V (pe_var (i := 0) rfl (.inl rfl))) ma_nil)) ma_nil))) (me_fn H__law_valued rm (fun z => Bool.noConfusion z) takesD (by rfl) (ma_cons (me_V (pe_var (i := 0) rfl (.inl rfl))) ma_nil))))
    (mss_cons (ms_set (i := 2) S.nd rfl (.inl rfl) (me_add (me_fn H__law_stood rm (fun z => Bool.noConfusion z) takesD (by rfl) (ma_cons (me_V (pe_var (i := 0) rfl (.inl rfl))) ma_nil)) (me_lst (ma_cons (me_mkx Kx.m_NotInIt (rm.mono (by decide)) takesD (by rfl) (by decide) (ma_cons (me_V (pe_var (i := 0) rfl (.inl rfl))) ma_nil)) (ma_cons (me_mkx Kx.m_CommandFailed (rm.mono (by decide)) takesD (by rfl) (by decide) (ma_cons (me_V (pe_var (i := 0) rfl (.inl rfl))) ma_nil)) (ma_cons (me_mkx0 Kx.m_NotTelling (rm.mono (by decide)) takesD (by rfl)) (ma_cons (me_mkx0 Kx.m_NotRecording (rm.mono (by decide)) takesD (by rfl)) (ma_cons (me_mkx0 Kx.m_NotRight (rm.mono (by decide)) takesD (by rfl)) ma_nil))))))))
    (mss_one (ms_ret (me_lst (ma_cons (me_V (pe_var (i := 1) rfl (.inl rfl))) (ma_cons (me_lst (ma_cons (me_mkx Kx.m_NoSuch (rm.mono (by decide)) takesD (by rfl) (by decide) (ma_cons (me_V (pe_var (i := 0) rfl (.inl rfl))) ma_nil)) ma_nil)) (ma_cons (me_add (me_V (pe_var (i := 2) rfl (.inl rfl))) (me_lst (ma_cons (me_mkx0 Kx.m_NothingToUndo (rm.mono (by decide)) takesD (by rfl)) ma_nil))) (ma_cons (me_lst (ma_cons (me_mkx Kx.m_TooMany (rm.mono (by decide)) takesD (by rfl) (by decide) (ma_cons (me_V (pe_var (i := 0) rfl (.inl rfl))) (ma_cons me_int ma_nil))) ma_nil)) ma_nil))))))))))

def c__law_of_first_6 : FS := sRet (e2 oAdd (eV 1) (eLst (aCons (e1 (oIsx tb_InvalidPlace) (eV 0)) (aCons (e1 (oIsx tb_InvalidClaim) (eV 0)) (aCons (e1 (oIsx tb_InvalidCommand) (eV 0)) (aNil))))))
def b__law_of_first_6 : FS := c__law_of_first_6
def c__law_of_first_5 : FS := sSet 1 (e2 oAdd (eV 1) (eLst (aCons (e1 (oIsx tb_InvalidTeam) (eV 0)) (aCons (e1 (oIsx tb_InvalidHand) (eV 0)) (aCons (e1 (oIsx tb_InvalidLayout) (eV 0)) (aNil))))))
def b__law_of_first_5 : FS := sSeq c__law_of_first_5 b__law_of_first_6
def c__law_of_first_4 : FS := sSet 1 (e2 oAdd (eV 1) (eLst (aCons (e1 (oIsx tb_InvalidEntry) (eV 0)) (aCons (e1 (oIsx tb_InvalidAnswers) (eV 0)) (aCons (e1 (oIsx tb_InvalidNumber) (eV 0)) (aNil))))))
def b__law_of_first_4 : FS := sSeq c__law_of_first_4 b__law_of_first_5
def c__law_of_first_3 : FS := sSet 1 (e2 oAdd (eV 1) (eLst (aCons (e1 (oIsx tb_InvalidDeed) (eV 0)) (aCons (e1 (oIsx tb_InvalidStates) (eV 0)) (aCons (e1 (oIsx tb_InvalidNames) (eV 0)) (aNil))))))
def b__law_of_first_3 : FS := sSeq c__law_of_first_3 b__law_of_first_4
def c__law_of_first_2 : FS := sSet 1 (e2 oAdd (eV 1) (eLst (aCons (e1 (oIsx tb_InvalidWeaving) (eV 0)) (aCons (e1 (oIsx tb_InvalidText) (eV 0)) (aCons (e1 (oIsx tb_InvalidState) (eV 0)) (aNil))))))
def b__law_of_first_2 : FS := sSeq c__law_of_first_2 b__law_of_first_3
def c__law_of_first_1 : FS := sSet 1 (e2 oAdd (eV 1) (eLst (aCons (e1 (oIsx tb_InvalidOrder) (eV 0)) (aCons (e1 (oIsx tb_InvalidThings) (eV 0)) (aCons (e1 (oIsx tb_InvalidScripts) (eV 0)) (aNil))))))
def b__law_of_first_1 : FS := sSeq c__law_of_first_1 b__law_of_first_2
def c__law_of_first_0 : FS := sSet 1 (eLst (aCons (e1 (oIsx tb_InvalidDeeds) (eV 0)) (aCons (e1 (oIsx tb_InvalidRows) (eV 0)) (aCons (e1 (oIsx tb_InvalidWord) (eV 0)) (aNil)))))
def b__law_of_first_0 : FS := sSeq c__law_of_first_0 b__law_of_first_1
abbrev b__law_of_first : FS := b__law_of_first_0
def F__law_of_first : FD := runD 2 b__law_of_first
theorem sc__law_of_first : FnScope ["_law_e", "_law_found"] ["_law_e"] (defScope (top 49)) := ⟨rfl, rfl, rfl, by decide +kernel, rfl, by decide +kernel, by decide +kernel⟩
theorem ok__law_of_first (B : Bl mg) (Kx : Kx P w K mg base)  (D : FunD K "_law_of_first" "_law_of_first" (defArgs (top 49)) (defBody (top 49)) (defScope (top 49)) [] [] f fd) (hm : mg "_law_of_first" = some (.ref f)) : Fnn P w K mg base false 1 "_law_of_first" 1 F__law_of_first := by
  have bd : Binds K fd ["_law_e"] [] := D.bindsN fun _ _ _ _ _ _ us hl => match us, hl with | [_], _ => rfl
  have S := sc__law_of_first
  exact fnn_of D hm S bd (by decide) (fun cv A out st H E rm gd =>
    (mss_cons (ms_set (i := 1) S.nd rfl (.inl rfl) (me_lst (ma_cons (me_isx (.own _) Kx.ob Kx.is_InvalidDeeds (by rfl) B.isinstance (me_V (pe_var (i := 0) rfl (.inl rfl))) (pe_glob (by rfl) Kx.g_InvalidDeeds rfl)) (ma_cons (me_isx (.own _) Kx.ob Kx.is_InvalidRows (by rfl) B.isinstance (me_V (pe_var (i := 0) rfl (.inl rfl))) (pe_glob (by rfl) Kx.g_InvalidRows rfl)) (ma_cons (me_isx (.own _) Kx.ob Kx.is_InvalidWord (by rfl) B.isinstance (me_V (pe_var (i := 0) rfl (.inl rfl))) (pe_glob (by rfl) Kx.g_InvalidWord rfl)) ma_nil)))))
    (mss_cons (ms_set (i := 1) S.nd rfl (.inl rfl) (me_add (me_V (pe_var (i := 1) rfl (.inl rfl))) (me_lst (ma_cons (me_isx (.own _) Kx.ob Kx.is_InvalidOrder (by rfl) B.isinstance (me_V (pe_var (i := 0) rfl (.inl rfl))) (pe_glob (by rfl) Kx.g_InvalidOrder rfl)) (ma_cons (me_isx (.own _) Kx.ob Kx.is_InvalidThings (by rfl) B.isinstance (me_V (pe_var (i := 0) rfl (.inl rfl))) (pe_glob (by rfl) Kx.g_InvalidThings rfl)) (ma_cons (me_isx (.own _) Kx.ob Kx.is_InvalidScripts (by rfl) B.isinstance (me_V (pe_var (i := 0) rfl (.inl rfl))) (pe_glob (by rfl) Kx.g_InvalidScripts rfl)) ma_nil))))))
    (mss_cons (ms_set (i := 1) S.nd rfl (.inl rfl) (me_add (me_V (pe_var (i := 1) rfl (.inl rfl))) (me_lst (ma_cons (me_isx (.own _) Kx.ob Kx.is_InvalidWeaving (by rfl) B.isinstance (me_V (pe_var (i := 0) rfl (.inl rfl))) (pe_glob (by rfl) Kx.g_InvalidWeaving rfl)) (ma_cons (me_isx (.own _) Kx.ob Kx.is_InvalidText (by rfl) B.isinstance (me_V (pe_var (i := 0) rfl (.inl rfl))) (pe_glob (by rfl) Kx.g_InvalidText rfl)) (ma_cons (me_isx (.own _) Kx.ob Kx.is_InvalidState (by rfl) B.isinstance (me_V (pe_var (i := 0) rfl (.inl rfl))) (pe_glob (by rfl) Kx.g_InvalidState rfl)) ma_nil))))))
    (mss_cons (ms_set (i := 1) S.nd rfl (.inl rfl) (me_add (me_V (pe_var (i := 1) rfl (.inl rfl))) (me_lst (ma_cons (me_isx (.own _) Kx.ob Kx.is_InvalidDeed (by rfl) B.isinstance (me_V (pe_var (i := 0) rfl (.inl rfl))) (pe_glob (by rfl) Kx.g_InvalidDeed rfl)) (ma_cons (me_isx (.own _) Kx.ob Kx.is_InvalidStates (by rfl) B.isinstance (me_V (pe_var (i := 0) rfl (.inl rfl))) (pe_glob (by rfl) Kx.g_InvalidStates rfl)) (ma_cons (me_isx (.own _) Kx.ob Kx.is_InvalidNames (by rfl) B.isinstance (me_V (pe_var (i := 0) rfl (.inl rfl))) (pe_glob (by rfl) Kx.g_InvalidNames rfl)) ma_nil))))))
    (mss_cons (ms_set (i := 1) S.nd rfl (.inl rfl) (me_add (me_V (pe_var (i := 1) rfl (.inl rfl))) (me_lst (ma_cons (me_isx (.own _) Kx.ob Kx.is_InvalidEntry (by rfl) B.isinstance (me_V (pe_var (i := 0) rfl (.inl rfl))) (pe_glob (by rfl) Kx.g_InvalidEntry rfl)) (ma_cons (me_isx (.own _) Kx.ob Kx.is_InvalidAnswers (by rfl) B.isinstance (me_V (pe_var (i := 0) rfl (.inl rfl))) (pe_glob (by rfl) Kx.g_InvalidAnswers rfl)) (ma_cons (me_isx (.own _) Kx.ob Kx.is_InvalidNumber (by rfl) B.isinstance (me_V (pe_var (i := 0) rfl (.inl rfl))) (pe_glob (by rfl) Kx.g_InvalidNumber rfl)) ma_nil))))))
    (mss_cons (ms_set (i := 1) S.nd rfl (.inl rfl) (me_add (me_V (pe_var (i := 1) rfl (.inl rfl))) (me_lst (ma_cons (me_isx (.own _) Kx.ob Kx.is_InvalidTeam (by rfl) B.isinstance (me_V (pe_var (i := 0) rfl (.inl rfl))) (pe_glob (by rfl) Kx.g_InvalidTeam rfl)) (ma_cons (me_isx (.own _) Kx.ob Kx.is_InvalidHand (by rfl) B.isinstance (me_V (pe_var (i := 0) rfl (.inl rfl))) (pe_glob (by rfl) Kx.g_InvalidHand rfl)) (ma_cons (me_isx (.own _) Kx.ob Kx.is_InvalidLayout (by rfl) B.isinstance (me_V (pe_var (i := 0) rfl (.inl rfl))) (pe_glob (by rfl) Kx.g_InvalidLayout rfl)) ma_nil))))))
    (mss_one (ms_ret (me_add (me_V (pe_var (i := 1) rfl (.inl rfl))) (me_lst (ma_cons (me_isx (.own _) Kx.ob Kx.is_InvalidPlace (by rfl) B.isinstance (me_V (pe_var (i := 0) rfl (.inl rfl))) (pe_glob (by rfl) Kx.g_InvalidPlace rfl)) (ma_cons (me_isx (.own _) Kx.ob Kx.is_InvalidClaim (by rfl) B.isinstance (me_V (pe_var (i := 0) rfl (.inl rfl))) (pe_glob (by rfl) Kx.g_InvalidClaim rfl)) (ma_cons (me_isx (.own _) Kx.ob Kx.is_InvalidCommand (by rfl) B.isinstance (me_V (pe_var (i := 0) rfl (.inl rfl))) (pe_glob (by rfl) Kx.g_InvalidCommand rfl)) ma_nil))))))))))))))

def c__law_of_others_3 : FS := sRet (e2 oAdd (eV 1) (eLst (aCons (e1 (oIsx tb_NothingToUndo) (eV 0)) (aCons (e1 (oIsx tb_TooMany) (eV 0)) (aNil)))))
def b__law_of_others_3 : FS := c__law_of_others_3
def c__law_of_others_2 : FS := sSet 1 (e2 oAdd (eV 1) (eLst (aCons (e1 (oIsx tb_NotTelling) (eV 0)) (aCons (e1 (oIsx tb_NotRecording) (eV 0)) (aCons (e1 (oIsx tb_NotRight) (eV 0)) (aNil))))))
def b__law_of_others_2 : FS := sSeq c__law_of_others_2 b__law_of_others_3
def c__law_of_others_1 : FS := sSet 1 (e2 oAdd (eV 1) (eLst (aCons (e1 (oIsx tb_NotCritical) (eV 0)) (aCons (e1 (oIsx tb_NotInIt) (eV 0)) (aCons (e1 (oIsx tb_CommandFailed) (eV 0)) (aNil))))))
def b__law_of_others_1 : FS := sSeq c__law_of_others_1 b__law_of_others_2
def c__law_of_others_0 : FS := sSet 1 (eLst (aCons (e1 (oIsx tb_NoSuch) (eV 0)) (aCons (e1 (oIsx tb_SharedDeed) (eV 0)) (aCons (e1 (oIsx tb_OtherThing) (eV 0)) (aCons (e1 (oIsx tb_LastOne) (eV 0)) (aNil))))))
def b__law_of_others_0 : FS := sSeq c__law_of_others_0 b__law_of_others_1
abbrev b__law_of_others : FS := b__law_of_others_0
def F__law_of_others : FD := runD 2 b__law_of_others
theorem sc__law_of_others : FnScope ["_law_e", "_law_found"] ["_law_e"] (defScope (top 50)) := ⟨rfl, rfl, rfl, by decide +kernel, rfl, by decide +kernel, by decide +kernel⟩
theorem ok__law_of_others (B : Bl mg) (Kx : Kx P w K mg base)  (D : FunD K "_law_of_others" "_law_of_others" (defArgs (top 50)) (defBody (top 50)) (defScope (top 50)) [] [] f fd) (hm : mg "_law_of_others" = some (.ref f)) : Fnn P w K mg base false 1 "_law_of_others" 1 F__law_of_others := by
  have bd : Binds K fd ["_law_e"] [] := D.bindsN fun _ _ _ _ _ _ us hl => match us, hl with | [_], _ => rfl
  have S := sc__law_of_others
  exact fnn_of D hm S bd (by decide) (fun cv A out st H E rm gd =>
    (mss_cons (ms_set (i := 1) S.nd rfl (.inl rfl) (me_lst (ma_cons (me_isx (.own _) Kx.ob Kx.is_NoSuch (by rfl) B.isinstance (me_V (pe_var (i := 0) rfl (.inl rfl))) (pe_glob (by rfl) Kx.g_NoSuch rfl)) (ma_cons (me_isx (.own _) Kx.ob Kx.is_SharedDeed (by rfl) B.isinstance (me_V (pe_var (i := 0) rfl (.inl rfl))) (pe_glob (by rfl) Kx.g_SharedDeed rfl)) (ma_cons (me_isx (.own _) Kx.ob Kx.is_OtherThing (by rfl) B.isinstance (me_V (pe_var (i := 0) rfl (.inl rfl))) (pe_glob (by rfl) Kx.g_OtherThing rfl)) (ma_cons (me_isx (.own _) Kx.ob Kx.is_LastOne (by rfl) B.isinstance (me_V (pe_var (i := 0) rfl (.inl rfl))) (pe_glob (by rfl) Kx.g_LastOne rfl)) ma_nil))))))
    (mss_cons (ms_set (i := 1) S.nd rfl (.inl rfl) (me_add (me_V (pe_var (i := 1) rfl (.inl rfl))) (me_lst (ma_cons (me_isx (.own _) Kx.ob Kx.is_NotCritical (by rfl) B.isinstance (me_V (pe_var (i := 0) rfl (.inl rfl))) (pe_glob (by rfl) Kx.g_NotCritical rfl)) (ma_cons (me_isx (.own _) Kx.ob Kx.is_NotInIt (by rfl) B.isinstance (me_V (pe_var (i := 0) rfl (.inl rfl))) (pe_glob (by rfl) Kx.g_NotInIt rfl)) (ma_cons (me_isx (.own _) Kx.ob Kx.is_CommandFailed (by rfl) B.isinstance (me_V (pe_var (i := 0) rfl (.inl rfl))) (pe_glob (by rfl) Kx.g_CommandFailed rfl)) ma_nil))))))
    (mss_cons (ms_set (i := 1) S.nd rfl (.inl rfl) (me_add (me_V (pe_var (i := 1) rfl (.inl rfl))) (me_lst (ma_cons (me_isx (.own _) Kx.ob Kx.is_NotTelling (by rfl) B.isinstance (me_V (pe_var (i := 0) rfl (.inl rfl))) (pe_glob (by rfl) Kx.g_NotTelling rfl)) (ma_cons (me_isx (.own _) Kx.ob Kx.is_NotRecording (by rfl) B.isinstance (me_V (pe_var (i := 0) rfl (.inl rfl))) (pe_glob (by rfl) Kx.g_NotRecording rfl)) (ma_cons (me_isx (.own _) Kx.ob Kx.is_NotRight (by rfl) B.isinstance (me_V (pe_var (i := 0) rfl (.inl rfl))) (pe_glob (by rfl) Kx.g_NotRight rfl)) ma_nil))))))
    (mss_one (ms_ret (me_add (me_V (pe_var (i := 1) rfl (.inl rfl))) (me_lst (ma_cons (me_isx (.own _) Kx.ob Kx.is_NothingToUndo (by rfl) B.isinstance (me_V (pe_var (i := 0) rfl (.inl rfl))) (pe_glob (by rfl) Kx.g_NothingToUndo rfl)) (ma_cons (me_isx (.own _) Kx.ob Kx.is_TooMany (by rfl) B.isinstance (me_V (pe_var (i := 0) rfl (.inl rfl))) (pe_glob (by rfl) Kx.g_TooMany rfl)) ma_nil))))))))))

def c__law_families_2 : FS := sRet (e2 oAdd (eV 1) (eLst (aCons (e1 (oIsx tb_RuntimeError) (eV 0)) (aCons (e1 (oIsx tb_ArithmeticError) (eV 0)) (aNil)))))
def b__law_families_2 : FS := c__law_families_2
def c__law_families_1 : FS := sSet 1 (e2 oAdd (eV 1) (eLst (aCons (e1 (oIsx tb_LimitError) (eV 0)) (aCons (e1 (oIsx tb_ValueError) (eV 0)) (aCons (e1 (oIsx tb_LookupError) (eV 0)) (aNil))))))
def b__law_families_1 : FS := sSeq c__law_families_1 b__law_families_2
def c__law_families_0 : FS := sSet 1 (eLst (aCons (e1 (oIsx tb_SettleError) (eV 0)) (aCons (e1 (oIsx tb_MissingError) (eV 0)) (aCons (e1 (oIsx tb_StateError) (eV 0)) (aNil)))))
def b__law_families_0 : FS := sSeq c__law_families_0 b__law_families_1
abbrev b__law_families : FS := b__law_families_0
def F__law_families : FD := runD 2 b__law_families
theorem sc__law_families : FnScope ["_law_e", "_law_found"] ["_law_e"] (defScope (top 51)) := ⟨rfl, rfl, rfl, by decide +kernel, rfl, by decide +kernel, by decide +kernel⟩
theorem ok__law_families (B : Bl mg) (Kx : Kx P w K mg base)  (D : FunD K "_law_families" "_law_families" (defArgs (top 51)) (defBody (top 51)) (defScope (top 51)) [] [] f fd) (hm : mg "_law_families" = some (.ref f)) : Fnn P w K mg base false 1 "_law_families" 1 F__law_families := by
  have bd : Binds K fd ["_law_e"] [] := D.bindsN fun _ _ _ _ _ _ us hl => match us, hl with | [_], _ => rfl
  have S := sc__law_families
  exact fnn_of D hm S bd (by decide) (fun cv A out st H E rm gd =>
    (mss_cons (ms_set (i := 1) S.nd rfl (.inl rfl) (me_lst (ma_cons (me_isx (.own _) Kx.ob Kx.is_SettleError (by rfl) B.isinstance (me_V (pe_var (i := 0) rfl (.inl rfl))) (pe_glob (by rfl) Kx.g_SettleError rfl)) (ma_cons (me_isx (.own _) Kx.ob Kx.is_MissingError (by rfl) B.isinstance (me_V (pe_var (i := 0) rfl (.inl rfl))) (pe_glob (by rfl) Kx.g_MissingError rfl)) (ma_cons (me_isx (.own _) Kx.ob Kx.is_StateError (by rfl) B.isinstance (me_V (pe_var (i := 0) rfl (.inl rfl))) (pe_glob (by rfl) Kx.g_StateError rfl)) ma_nil)))))
    (mss_cons (ms_set (i := 1) S.nd rfl (.inl rfl) (me_add (me_V (pe_var (i := 1) rfl (.inl rfl))) (me_lst (ma_cons (me_isx (.own _) Kx.ob Kx.is_LimitError (by rfl) B.isinstance (me_V (pe_var (i := 0) rfl (.inl rfl))) (pe_glob (by rfl) Kx.g_LimitError rfl)) (ma_cons (me_isx (.ty _) Kx.ob Kx.is_ValueError (by rfl) B.isinstance (me_V (pe_var (i := 0) rfl (.inl rfl))) (pe_bltn (by rfl) B.ValueError (by decide +kernel) rfl)) (ma_cons (me_isx (.ty _) Kx.ob Kx.is_LookupError (by rfl) B.isinstance (me_V (pe_var (i := 0) rfl (.inl rfl))) (pe_bltn (by rfl) B.LookupError (by decide +kernel) rfl)) ma_nil))))))
    (mss_one (ms_ret (me_add (me_V (pe_var (i := 1) rfl (.inl rfl))) (me_lst (ma_cons (me_isx (.ty _) Kx.ob Kx.is_RuntimeError (by rfl) B.isinstance (me_V (pe_var (i := 0) rfl (.inl rfl))) (pe_bltn (by rfl) B.RuntimeError (by decide +kernel) rfl)) (ma_cons (me_isx (.ty _) Kx.ob Kx.is_ArithmeticError (by rfl) B.isinstance (me_V (pe_var (i := 0) rfl (.inl rfl))) (pe_bltn (by rfl) B.ArithmeticError (by decide +kernel) rfl)) ma_nil)))))))))

def c__law_kept_right_12 : FS := sRet (e2 oEq (e1n oRepr 12) (e1 oRepr (e2 oMul (eLst (aCons (eV 1) (aNil))) (eC (.int 26)))))
def b__law_kept_right_12 : FS := c__law_kept_right_12
def c__law_kept_right_11 : FS := sSet 12 (e2 oAdd (eLc (iSeq (eCall 1 F__law_placed_by_name (aCons (eV 1) (aNil)))) (gN 9) (bTrue) (e1 (oXf cs "position") (eV 9)) [9]) (eLc (iSeq (eCall 1 F__law_valued_by_name (aCons (eV 1) (aNil)))) (gN 9) (bTrue) (e1 (oXf cs "value") (eV 9)) [9]))
def b__law_kept_right_11 : FS := sSeq c__law_kept_right_11 b__law_kept_right_12
def c__law_kept_right_10 : FS := sIf (bB (e2 oNe (e1 oRepr (eLst (aCons (e1 (oXf cs "what") (eV 10)) (aCons (e1 (oXf cs "limit") (eV 10)) (aCons (e1 (oXf cs "what") (eV 11)) (aCons (e1 (oXf cs "limit") (eV 11)) (aNil))))))) (e1 oRepr (eLst (aCons (eV 1) (aCons (eV 2) (aCons (eV 2) (aCons (eV 1) (aNil))))))))) (sRet (eC (.bl false))) (sNext)
def b__law_kept_right_10 : FS := sSeq c__law_kept_right_10 b__law_kept_right_11
def c__law_kept_right_9 : FS := sPar [10, 11] (kCons (eMk "TooMany" ["what", "limit"] false (aCons (eV 1) (aCons (eV 2) (aNil)))) (kCons (eMk "TooMany" ["what", "limit"] true (aCons (eV 1) (aCons (eV 2) (aNil)))) (kNil)))
def b__law_kept_right_9 : FS := sSeq c__law_kept_right_9 b__law_kept_right_10
def c__law_kept_right_8 : FS := sIf (bor (bB (e2 oNe (e1n oRepr 8) (e1 oRepr (e2 oMul (eLst (aCons (eV 2) (aNil))) (eC (.int 28)))))) (bB (e2 oNe (e1 oRepr (eLc (iSeq (eV 7)) (gN 9) (bTrue) (e1 (oXf cs "hand") (eV 9)) [9])) (e1 oRepr (eLst (aCons (eV 1) (aCons (eV 2) (aNil)))))))) (sRet (eC (.bl false))) (sNext)
def b__law_kept_right_8 : FS := sSeq c__law_kept_right_8 b__law_kept_right_9
def c__law_kept_right_7 : FS := sSet 8 (e2 oAdd (e2 oAdd (eV 8) (eLc (iSeq (eSl (e2n oIx 6 (eC (.int 2))) (fNo) (fPart (eC (.int 4))))) (gN 9) (bTrue) (e1 (oXf cs "value") (eV 9)) [9])) (eLst (aCons (e1 (oXf cs "hand") (e2 oIx (e2n oIx 6 (eC (.int 2))) (eC (.int 4)))) (aCons (e1 (oXf cs "position") (e2 oIx (e2n oIx 6 (eC (.int 2))) (eC (.int 5)))) (aNil)))))
def b__law_kept_right_7 : FS := sSeq c__law_kept_right_7 b__law_kept_right_8
def c__law_kept_right_6 : FS := sSet 8 (e2 oAdd (e2 oAdd (eLc (iSeq (eSl (e2n oIx 6 (eC (.int 0))) (fNo) (fPart (eC (.int 7))))) (gN 9) (bTrue) (e1 (oXf cs "position") (eV 9)) [9]) (eLst (aCons (e1 (oXf cs "line") (e2 oIx (e2n oIx 6 (eC (.int 0))) (eC (.int 7)))) (aNil)))) (eLc (iSeq (e2 oAdd (eSl (e2n oIx 6 (eC (.int 0))) (fPart (eC (.int 8))) (fNo)) (e2n oIx 6 (eC (.int 1))))) (gN 9) (bTrue) (e1 (oXf cs "value") (eV 9)) [9]))
def b__law_kept_right_6 : FS := sSeq c__law_kept_right_6 b__law_kept_right_7
def c__law_kept_right_5 : FS := sIf (bor (bB (e2 oNe (e1n oRepr 8) (e1 oRepr (e2 oMul (eLst (aCons (eV 1) (aNil))) (e1n oLen 8))))) (bB (e2 oNe (e1 oRepr (eLc (iSeq (eV 5)) (gN 9) (bTrue) (e1 (oXf cs "line") (eV 9)) [9])) (e1 oRepr (eLst (aCons (eV 1) (aCons (eV 2) (aNil)))))))) (sRet (eC (.bl false))) (sNext)
def b__law_kept_right_5 : FS := sSeq c__law_kept_right_5 b__law_kept_right_6
def c__law_kept_right_4 : FS := sSet 8 (e2 oAdd (eLc (iSeq (eV 3)) (gN 9) (bTrue) (e1 (oXf cs "position") (eV 9)) [9]) (eLc (iSeq (eV 4)) (gN 9) (bTrue) (e1 (oXf cs "value") (eV 9)) [9]))
def b__law_kept_right_4 : FS := sSeq c__law_kept_right_4 b__law_kept_right_5
def c__law_kept_right_3 : FS := sSet 7 (eLst (aCons (eMk "NotInIt" ["hand"] false (aCons (eV 1) (aNil))) (aCons (eMk "NotInIt" ["hand"] false (aCons (eV 2) (aNil))) (aNil))))
def b__law_kept_right_3 : FS := sSeq c__law_kept_right_3 b__law_kept_right_4
def c__law_kept_right_2 : FS := sPar [5, 6] (kCons (eLst (aCons (eMk "InvalidText" ["line"] false (aCons (eV 1) (aNil))) (aCons (eMk "InvalidText" ["line"] false (aCons (eV 2) (aNil))) (aNil)))) (kCons (eCall 1 F__law_every (aCons (eV 2) (aNil))) (kNil)))
def b__law_kept_right_2 : FS := sSeq c__law_kept_right_2 b__law_kept_right_3
def c__law_kept_right_1 : FS := sPar [3, 4] (kCons (eCall 1 F__law_placed (aCons (eV 1) (aNil))) (kCons (eCall 1 F__law_valued (aCons (eV 1) (aNil))) (kNil)))
def b__law_kept_right_1 : FS := sSeq c__law_kept_right_1 b__law_kept_right_2
def c__law_kept_right_0 : FS := sPar [1, 2] (kCons (eCall 1 F__law_thing (aMu 0 (aNil))) (kCons (eCall 1 F__law_thing (aMu 0 (aNil))) (kNil)))
def b__law_kept_right_0 : FS := sSeq c__law_kept_right_0 b__law_kept_right_1
abbrev b__law_kept_right : FS := b__law_kept_right_0
def F__law_kept_right : FD := runD 13 b__law_kept_right
theorem sc__law_kept_right : FnScope ["_law_pot_here", "_law_near", "_law_far", "_law_placed_here", "_law_valued_here", "_law_texts", "_law_late", "_law_hands_now", "_law_kept", "_law_e", "_law_great", "_law_named_now", "_law_by_name"] ["_law_pot_here"] (defScope (top 52)) := ⟨rfl, rfl, rfl, by decide +kernel, rfl, by decide +kernel, by decide +kernel⟩
theorem ok__law_kept_right (B : Bl mg) (Kx : Kx P w K mg base) (H__law_thing : Fnn P w K mg base false 3 "_law_thing" 1 F__law_thing) (H__law_valued : Fnn P w K mg base false 3 "_law_valued" 1 F__law_valued) (H__law_placed : Fnn P w K mg base false 3 "_law_placed" 1 F__law_placed) (H__law_every : Fnn P w K mg base false 4 "_law_every" 1 F__law_every) (H__law_placed_by_name : Fnn P w K mg base false 3 "_law_placed_by_name" 1 F__law_placed_by_name) (H__law_valued_by_name : Fnn P w K mg base false 3 "_law_valued_by_name" 1 F__law_valued_by_name) (D : FunD K "_law_kept_right" "_law_kept_right" (defArgs (top 52)) (defBody (top 52)) (defScope (top 52)) [] [] f fd) (hm : mg "_law_kept_right" = some (.ref f)) : Fnn P w K mg base true 5 "_law_kept_right" 1 F__law_kept_right := by
  have bd : Binds K fd ["_law_pot_here"] [] := D.bindsN fun _ _ _ _ _ _ us hl => match us, hl with | [_], _ => rfl
  have S := sc__law_kept_right
  exact fnn_of D hm S bd (by decide) (fun cv A out st H E rm gd =>
    (mss_cons (ms_par (i := 1) (j := 2) rfl S.nd rfl rfl (by decide) rfl rfl (mk_cons (me_fn H__law_thing rm (fun z => Bool.noConfusion z) takesD (by rfl) (ma_mu (pe_var (i := 0) rfl (.inl rfl)) ma_nil)) (mk_cons (me_fn H__law_thing rm (fun z => Bool.noConfusion z) takesD (by rfl) (ma_mu (pe_var (i := 0) rfl (.inl rfl)) ma_nil)) mk_nil)) (by rfl))
    (mss_cons (ms_par (i := 3) (j := 4) rfl S.nd rfl rfl (by decide) rfl rfl (mk_cons (me_fn H__law_placed rm (fun z => Bool.noConfusion z) takesD (by rfl) (ma_cons (me_V (pe_var (i := 1) rfl (.inl rfl))) ma_nil)) (mk_cons (me_fn H__law_valued rm (fun z => Bool.noConfusion z) takesD (by rfl) (ma_cons (me_V (pe_var (i := 1) rfl (.inl rfl))) ma_nil)) mk_nil)) (by rfl))
    (mss_cons (ms_par (i := 5) (j := 6) rfl S.nd rfl rfl (by decide) rfl rfl (mk_cons (me_lst (ma_cons (me_mkx Kx.m_InvalidText (rm.mono (by decide)) takesD (by rfl) (by decide) (ma_cons (me_V (pe_var (i := 1) rfl (.inl rfl))) ma_nil)) (ma_cons (me_mkxK (rv := false) Kx.m_InvalidText (rm.mono (by decide)) takesD (by rfl) (pk_one (me_V (pe_var (i := 2) rfl (.inl rfl))) pk_none)) ma_nil))) (mk_cons (me_fn H__law_every rm (fun z => Bool.noConfusion z) takesD (by rfl) (ma_cons (me_V (pe_var (i := 2) rfl (.inl rfl))) ma_nil)) mk_nil)) (by rfl))
    (mss_cons (ms_set (i := 7) S.nd rfl (.inl rfl) (me_lst (ma_cons (me_mkx Kx.m_NotInIt (rm.mono (by decide)) takesD (by rfl) (by decide) (ma_cons (me_V (pe_var (i := 1) rfl (.inl rfl))) ma_nil)) (ma_cons (me_mkxK (rv := false) Kx.m_NotInIt (rm.mono (by decide)) takesD (by rfl) (pk_one (me_V (pe_var (i := 2) rfl (.inl rfl))) pk_none)) ma_nil))))
    (mss_cons (ms_set (i := 8) S.nd rfl (.inl rfl) (me_add (me_lc rfl S.nd (mi_seq (me_V (pe_var (i := 3) rfl (.inl rfl)))) (blkOk_by (own := [("_law_e", 9)]) (by kernel_rfl)) (fun _ _ _ _ _ => (mg_name (i := 9) S.nd rfl (.inl rfl))) (fun _ _ _ _ _ => mts_nil) (fun _ _ _ _ _ => (me_xf Kx.xa Kx.nf_position (me_V (pe_var (i := 9) rfl (.inl rfl)))))) (me_lc rfl S.nd (mi_seq (me_V (pe_var (i := 4) rfl (.inl rfl)))) (blkOk_by (own := [("_law_e", 9)]) (by kernel_rfl)) (fun _ _ _ _ _ => (mg_name (i := 9) S.nd rfl (.inl rfl))) (fun _ _ _ _ _ => mts_nil) (fun _ _ _ _ _ => (me_xf Kx.xa Kx.nf_value (me_V (pe_var (i := 9) rfl (.inl rfl))))))))
    (mss_cons (ms_if (PW.pt (mt_or (mt_ne rm.units (me_b1N (cr_repr Kx.sy (gd rfl) rm.units) p_repr (by rfl) B.repr (by decide +kernel) (pe_var (i := 8) rfl (.inl rfl))) (me_b1 (cr_repr Kx.sy (gd rfl) rm.units) p_repr (by rfl) B.repr (by decide +kernel) (me_mul (me_lst (ma_cons (me_V (pe_var (i := 1) rfl (.inl rfl))) ma_nil)) (me_b1N call_len p_len (by rfl) B.len (by decide +kernel) (pe_var (i := 8) rfl (.inl rfl)))))) (mt_or1 (mt_ne rm.units (me_b1 (cr_repr Kx.sy (gd rfl) rm.units) p_repr (by rfl) B.repr (by decide +kernel) (me_lc rfl S.nd (mi_seq (me_V (pe_var (i := 5) rfl (.inl rfl)))) (blkOk_by (own := [("_law_e", 9)]) (by kernel_rfl)) (fun _ _ _ _ _ => (mg_name (i := 9) S.nd rfl (.inl rfl))) (fun _ _ _ _ _ => mts_nil) (fun _ _ _ _ _ => (me_xf Kx.xa Kx.nf_line (me_V (pe_var (i := 9) rfl (.inl rfl))))))) (me_b1 (cr_repr Kx.sy (gd rfl) rm.units) p_repr (by rfl) B.repr (by decide +kernel) (me_lst (ma_cons (me_V (pe_var (i := 1) rfl (.inl rfl))) (ma_cons (me_V (pe_var (i := 2) rfl (.inl rfl))) ma_nil)))))))) (mss_one (ms_ret me_bl)) mss_nil)
    (mss_cons (ms_set (i := 8) S.nd rfl (.inl rfl) (me_add (me_add (me_lc rfl S.nd (mi_seq (me_sl (me_ixN (hu_of rm) (pe_var (i := 6) rfl (.inl rfl)) me_int) mo_no (mo_part me_int))) (blkOk_by (own := [("_law_e", 9)]) (by kernel_rfl)) (fun _ _ _ _ _ => (mg_name (i := 9) S.nd rfl (.inl rfl))) (fun _ _ _ _ _ => mts_nil) (fun _ _ _ _ _ => (me_xf Kx.xa Kx.nf_position (me_V (pe_var (i := 9) rfl (.inl rfl)))))) (me_lst (ma_cons (me_xf Kx.xa Kx.nf_line (me_ix (hu_of rm) (me_ixN (hu_of rm) (pe_var (i := 6) rfl (.inl rfl)) me_int) me_int)) ma_nil))) (me_lc rfl S.nd (mi_seq (me_add (me_sl (me_ixN (hu_of rm) (pe_var (i := 6) rfl (.inl rfl)) me_int) (mo_part me_int) mo_no) (me_ixN (hu_of rm) (pe_var (i := 6) rfl (.inl rfl)) me_int))) (blkOk_by (own := [("_law_e", 9)]) (by kernel_rfl)) (fun _ _ _ _ _ => (mg_name (i := 9) S.nd rfl (.inl rfl))) (fun _ _ _ _ _ => mts_nil) (fun _ _ _ _ _ => (me_xf Kx.xa Kx.nf_value (me_V (pe_var (i := 9) rfl (.inl rfl))))))))
    (mss_cons (ms_set (i := 8) S.nd rfl (.inl rfl) (me_add (me_add (me_V (pe_var (i := 8) rfl (.inl rfl))) (me_lc rfl S.nd (mi_seq (me_sl (me_ixN (hu_of rm) (pe_var (i := 6) rfl (.inl rfl)) me_int) mo_no (mo_part me_int))) (blkOk_by (own := [("_law_e", 9)]) (by kernel_rfl)) (fun _ _ _ _ _ => (mg_name (i := 9) S.nd rfl (.inl rfl))) (fun _ _ _ _ _ => mts_nil) (fun _ _ _ _ _ => (me_xf Kx.xa Kx.nf_value (me_V (pe_var (i := 9) rfl (.inl rfl))))))) (me_lst (ma_cons (me_xf Kx.xa Kx.nf_hand (me_ix (hu_of rm) (me_ixN (hu_of rm) (pe_var (i := 6) rfl (.inl rfl)) me_int) me_int)) (ma_cons (me_xf Kx.xa Kx.nf_position (me_ix (hu_of rm) (me_ixN (hu_of rm) (pe_var (i := 6) rfl (.inl rfl)) me_int) me_int)) ma_nil)))))
    (mss_cons (ms_if (PW.pt (mt_or (mt_ne rm.units (me_b1N (cr_repr Kx.sy (gd rfl) rm.units) p_repr (by rfl) B.repr (by decide +kernel) (pe_var (i := 8) rfl (.inl rfl))) (me_b1 (cr_repr Kx.sy (gd rfl) rm.units) p_repr (by rfl) B.repr (by decide +kernel) (me_mul (me_lst (ma_cons (me_V (pe_var (i := 2) rfl (.inl rfl))) ma_nil)) me_int))) (mt_or1 (mt_ne rm.units (me_b1 (cr_repr Kx.sy (gd rfl) rm.units) p_repr (by rfl) B.repr (by decide +kernel) (me_lc rfl S.nd (mi_seq (me_V (pe_var (i := 7) rfl (.inl rfl)))) (blkOk_by (own := [("_law_e", 9)]) (by kernel_rfl)) (fun _ _ _ _ _ => (mg_name (i := 9) S.nd rfl (.inl rfl))) (fun _ _ _ _ _ => mts_nil) (fun _ _ _ _ _ => (me_xf Kx.xa Kx.nf_hand (me_V (pe_var (i := 9) rfl (.inl rfl))))))) (me_b1 (cr_repr Kx.sy (gd rfl) rm.units) p_repr (by rfl) B.repr (by decide +kernel) (me_lst (ma_cons (me_V (pe_var (i := 1) rfl (.inl rfl))) (ma_cons (me_V (pe_var (i := 2) rfl (.inl rfl))) ma_nil)))))))) (mss_one (ms_ret me_bl)) mss_nil)
    (mss_cons (ms_par (i := 10) (j := 11) rfl S.nd rfl rfl (by decide) rfl rfl (mk_cons (me_mkx Kx.m_TooMany (rm.mono (by decide)) takesD (by rfl) (by decide) (ma_cons (me_V (pe_var (i := 1) rfl (.inl rfl))) (ma_cons (me_V (pe_var (i := 2) rfl (.inl rfl))) ma_nil))) (mk_cons (me_mkxK (rv := true) Kx.m_TooMany (rm.mono (by decide)) takesD (by rfl) (pk_one (me_V (pe_var (i := 1) rfl (.inl rfl))) (pk_one (me_V (pe_var (i := 2) rfl (.inl rfl))) pk_none))) mk_nil)) (by rfl))
    (mss_cons (ms_if (mt_ne rm.units (me_b1 (cr_repr Kx.sy (gd rfl) rm.units) p_repr (by rfl) B.repr (by decide +kernel) (me_lst (ma_cons (me_xf Kx.xa Kx.nf_what (me_V (pe_var (i := 10) rfl (.inl rfl)))) (ma_cons (me_xf Kx.xa Kx.nf_limit (me_V (pe_var (i := 10) rfl (.inl rfl)))) (ma_cons (me_xf Kx.xa Kx.nf_what (me_V (pe_var (i := 11) rfl (.inl rfl)))) (ma_cons (me_xf Kx.xa Kx.nf_limit (me_V (pe_var (i := 11) rfl (.inl rfl)))) ma_nil)))))) (me_b1 (cr_repr Kx.sy (gd rfl) rm.units) p_repr (by rfl) B.repr (by decide +kernel) (me_lst (ma_cons (me_V (pe_var (i := 1) rfl (.inl rfl))) (ma_cons (me_V (pe_var (i := 2) rfl (.inl rfl))) (ma_cons (me_V (pe_var (i := 2) rfl (.inl rfl))) (ma_cons (me_V (pe_var (i := 1) rfl (.inl rfl))) ma_nil))))))) (mss_one (ms_ret me_bl)) mss_nil)
    (mss_cons (ms_set (i := 12) S.nd rfl (.inl rfl) (me_add (me_lc rfl S.nd (mi_seq (me_fn H__law_placed_by_name rm (fun z => Bool.noConfusion z) takesD (by rfl) (ma_cons (me_V (pe_var (i := 1) rfl (.inl rfl))) ma_nil))) (blkOk_by (own := [("_law_e", 9)]) (by kernel_rfl)) (fun _ _ _ _ _ => (mg_name (i := 9) S.nd rfl (.inl rfl))) (fun _ _ _ _ _ => mts_nil) (fun _ _ _ _ _ => (me_xf Kx.xa Kx.nf_position (me_V (pe_var (i := 9) rfl (.inl rfl)))))) (me_lc rfl S.nd (mi_seq (me_fn H__law_valued_by_name rm (fun z => Bool.noConfusion z) takesD (by rfl) (ma_cons (me_V (pe_var (i := 1) rfl (.inl rfl))) ma_nil))) (blkOk_by (own := [("_law_e", 9)]) (by kernel_rfl)) (fun _ _ _ _ _ => (mg_name (i := 9) S.nd rfl (.inl rfl))) (fun _ _ _ _ _ => mts_nil) (fun _ _ _ _ _ => (me_xf Kx.xa Kx.nf_value (me_V (pe_var (i := 9) rfl (.inl rfl))))))))
    (mss_one (ms_ret (me_eq rm.units (me_b1N (cr_repr Kx.sy (gd rfl) rm.units) p_repr (by rfl) B.repr (by decide +kernel) (pe_var (i := 12) rfl (.inl rfl))) (me_b1 (cr_repr Kx.sy (gd rfl) rm.units) p_repr (by rfl) B.repr (by decide +kernel) (me_mul (me_lst (ma_cons (me_V (pe_var (i := 1) rfl (.inl rfl))) ma_nil)) me_int))))))))))))))))))

def c__law_kinds_right_3 : FS := sRet (e2 oEq (eV 2) (eC (.int 33)))
def b__law_kinds_right_3 : FS := c__law_kinds_right_3
def c__law_kinds_right_2 : FS := sFor (iEnumF (eV 1)) (gT 2 (gCons (gN 4) (gCons (gN 3) (gNil)))) (sFor (iSeq (eV 3)) (gN 5) (sSeq (sIf (bB (e2 oNe (e2 oAdd (eCall 1 F__law_of_first (aCons (eV 5) (aNil))) (eCall 1 F__law_of_others (aCons (eV 5) (aNil)))) (eLc (iRng1 (eC (.int 33))) (gN 6) (bTrue) (e2 oEq (eV 6) (eV 2)) [6]))) (sRet (eC (.bl false))) (sNext)) (sSeq (sIf (bB (e2 oNe (eCall 1 F__law_families (aCons (eV 5) (aNil))) (eLc (iRng1 (eC (.int 8))) (gN 6) (bTrue) (e2 oEq (e2 oMod (e1 oToInt (eV 6)) (eC (.int 4))) (eV 4)) [6]))) (sRet (eC (.bl false))) (sNext)) (sSet 2 (e2 oAdd (eV 2) (eC (.int 1)))))))
def b__law_kinds_right_2 : FS := sSeq c__law_kinds_right_2 b__law_kinds_right_3
def c__law_kinds_right_1 : FS := sIf (bB (e2 oNe (eLc (iSeq (eV 1)) (gN 3) (bTrue) (e1n oLen 3) [3]) (eLst (aCons (eC (.int 21)) (aCons (eC (.int 1)) (aCons (eC (.int 10)) (aCons (eC (.int 1)) (aNil)))))))) (sRet (eC (.bl false))) (sNext)
def b__law_kinds_right_1 : FS := sSeq c__law_kinds_right_1 b__law_kinds_right_2
def c__law_kinds_right_0 : FS := sPar [1, 2] (kCons (eCall 1 F__law_every (aCons (eCall 1 F__law_thing (aMu 0 (aNil))) (aNil))) (kCons (eC (.int 0)) (kNil)))
def b__law_kinds_right_0 : FS := sSeq c__law_kinds_right_0 b__law_kinds_right_1
abbrev b__law_kinds_right : FS := b__law_kinds_right_0
def F__law_kinds_right : FD := runD 7 b__law_kinds_right
theorem sc__law_kinds_right : FnScope ["_law_pot_here", "_law_every_here", "_law_at", "_law_part", "_law_family", "_law_e", "_law_place"] ["_law_pot_here"] (defScope (top 53)) := ⟨rfl, rfl, rfl, by decide +kernel, rfl, by decide +kernel, by decide +kernel⟩
theorem ok__law_kinds_right (B : Bl mg) (H__law_every : Fnn P w K mg base false 4 "_law_every" 1 F__law_every) (H__law_thing : Fnn P w K mg base false 3 "_law_thing" 1 F__law_thing) (H__law_of_first : Fnn P w K mg base false 1 "_law_of_first" 1 F__law_of_first) (H__law_of_others : Fnn P w K mg base false 1 "_law_of_others" 1 F__law_of_others) (H__law_families : Fnn P w K mg base false 1 "_law_families" 1 F__law_families) (D : FunD K "_law_kinds_right" "_law_kinds_right" (defArgs (top 53)) (defBody (top 53)) (defScope (top 53)) [] [] f fd) (hm : mg "_law_kinds_right" = some (.ref f)) : Fnn P w K mg base false 5 "_law_kinds_right" 1 F__law_kinds_right := by
  have bd : Binds K fd ["_law_pot_here"] [] := D.bindsN fun _ _ _ _ _ _ us hl => match us, hl with | [_], _ => rfl
  have S := sc__law_kinds_right
  exact fnn_of D hm S bd (by decide) (fun cv A out st H E rm gd =>
    (mss_cons (ms_parT (is := [1, 2]) rfl (mk_cons (me_fn H__law_every rm (fun z => Bool.noConfusion z) takesD (by rfl) (ma_cons (me_fn H__law_thing rm (fun z => Bool.noConfusion z) takesD (by rfl) (ma_mu (pe_var (i := 0) rfl (.inl rfl)) ma_nil)) ma_nil)) (mk_cons me_int mk_nil)) (.cons (pg_name (i := 1) S.nd rfl (.inl rfl)) rfl (.cons (pg_name (i := 2) S.nd rfl (.inr rfl)) rfl .nil)))
    (mss_cons (ms_if (mt_ne rm.units (me_lc rfl S.nd (mi_seq (me_V (pe_var (i := 1) rfl (.inl rfl)))) (blkOk_by (own := [("_law_part", 3)]) (by kernel_rfl)) (fun _ _ _ _ _ => (mg_name (i := 3) S.nd rfl (.inl rfl))) (fun _ _ _ _ _ => mts_nil) (fun _ _ _ _ _ => (me_b1N call_len p_len (by rfl) B.len (by decide +kernel) (pe_var (i := 3) rfl (.inl rfl))))) (me_lst (ma_cons me_int (ma_cons me_int (ma_cons me_int (ma_cons me_int ma_nil)))))) (mss_one (ms_ret me_bl)) mss_nil)
    (mss_cons (ms_for passD rfl (mi_enum (by rfl) B.enumerate (me_V (pe_var (i := 1) rfl (.inl rfl)))) (mg_tup rfl (mgs_cons (mg_name (i := 4) S.nd rfl (.inr rfl)) (mgs_cons (mg_name (i := 3) S.nd rfl (.inl rfl)) mgs_nil))) (mss_one (ms_for passD rfl (mi_seq (me_V (pe_var (i := 3) rfl (.inl rfl)))) (mg_name (i := 5) S.nd rfl (.inl rfl)) (mss_cons (ms_if (mt_ne rm.units (me_add (me_fn H__law_of_first rm (fun z => Bool.noConfusion z) takesD (by rfl) (ma_cons (me_V (pe_var (i := 5) rfl (.inl rfl))) ma_nil)) (me_fn H__law_of_others rm (fun z => Bool.noConfusion z) takesD (by rfl) (ma_cons (me_V (pe_var (i := 5) rfl (.inl rfl))) ma_nil))) (me_lc rfl S.nd (mi_rng1 (by rfl) B.range me_int) (blkOk_by (own := [("_law_place", 6)]) (by kernel_rfl)) (fun _ _ _ _ _ => (mg_name (i := 6) S.nd rfl (.inl rfl))) (fun _ _ _ _ _ => mts_nil) (fun _ _ _ _ _ => (me_eq rm.units (me_V (pe_var (i := 6) rfl (.inl rfl))) (me_V (pe_var (i := 2) rfl (.inr (.inl rfl)))))))) (mss_one (ms_ret me_bl)) mss_nil)
    (mss_cons (ms_if (mt_ne rm.units (me_fn H__law_families rm (fun z => Bool.noConfusion z) takesD (by rfl) (ma_cons (me_V (pe_var (i := 5) rfl (.inl rfl))) ma_nil)) (me_lc rfl S.nd (mi_rng1 (by rfl) B.range me_int) (blkOk_by (own := [("_law_place", 6)]) (by kernel_rfl)) (fun _ _ _ _ _ => (mg_name (i := 6) S.nd rfl (.inl rfl))) (fun _ _ _ _ _ => mts_nil) (fun _ _ _ _ _ => (me_eq rm.units (me_mod (me_t1 call_int1 p_toInt (by rfl) B.int (by decide +kernel) (me_V (pe_var (i := 6) rfl (.inl rfl)))) me_int) (me_V (pe_var (i := 4) rfl (.inr (.inl rfl)))))))) (mss_one (ms_ret me_bl)) mss_nil)
    (mss_one (ms_set (i := 2) S.nd rfl (.inr rfl) (me_add (me_V (pe_var (i := 2) rfl (.inr (.inl rfl)))) me_int))))))))
    (mss_one (ms_ret (me_eq rm.units (me_V (pe_var (i := 2) rfl (.inr (.inl rfl)))) me_int)))))))

end
end Law

namespace Law
open PySem Mi
/-- a pot: two numbers that can be drawn of -/
structure Pot (x y : Int) : Prop where
  x0 : 0 ≤ x
  y0 : 0 ≤ y
  y1 : y < 2147483648
abbrev pot (x y : Int) : D := .lst [.int x, .int y]
theorem draw_ok {x y m : Int} (P : Pot x y) (hm : 0 < m) (hm2 : m < 1073741824) : ∃ d x' y', F__law_draw [.ow (pot x y), .fz (.int m)] = some (.v (.fz (.int d)) [.ow (pot x' y'), .fz (.int m)]) ∧ 0 ≤ d ∧ d < m ∧ Pot x' y' := by
  obtain ⟨hx, hy, hy2⟩ := P
  by_cases h : 0 < x
  · refine ⟨x % m, x / m, y, ?_, Int.emod_nonneg _ (by omega), Int.emod_lt_of_pos _ hm, Int.ediv_nonneg hx (by omega), hy, hy2⟩
    simp [F__law_draw, runD, b__law_draw_0, b__law_draw_1, b__law_draw_2, c__law_draw_0, c__law_draw_1, c__law_draw_2, sSeq, sIf, bB, e2, e2n, look, eC, oIx, ixD, L2.atI, L2.ixN, oInt, h, sAsg, gT, gCons, gIx, gN, gNil, eV, oDivmod, hm, hm2, sRet, eG, bs]
  · refine ⟨(y * 48271 + 22397) % 2147483543 * ((y * 48271 + 22397) % 2147483543) % 2147483563 / 19 % m, x, (y * 48271 + 22397) % 2147483543, ?_, Int.emod_nonneg _ (by omega), Int.emod_lt_of_pos _ hm, hx, by omega, by omega⟩
    have e1 : y < 18446744073709551616 := by omega
    have e2' : (-18446744073709551616 : Int) < y := by omega
    have e3 : (y * 48271 + 22397) % 2147483543 < 18446744073709551616 := by omega
    have e4 : (-18446744073709551616 : Int) < (y * 48271 + 22397) % 2147483543 := by omega
    simp [F__law_draw, runD, b__law_draw_0, b__law_draw_1, b__law_draw_2, c__law_draw_0, c__law_draw_1, c__law_draw_2, sSeq, sIf, bB, e2, e2n, Mi.e1, look, eC, oIx, ixD, L2.atI, L2.ixN, oInt, h, sAsg, gT, gCons, gIx, gN, gNil, eV, oMul, oAdd, oMod, oDiv, oToInt, sNext, hm, hm2, sRet, eG, bs, e1, e2', e3, e4]
theorem pick_ok {x y : Int} {ds : List D} (P : Pot x y) (h0 : ds ≠ []) (h1 : ds.length < 1073741824) : ∃ d x' y', F__law_pick [.ow (pot x y), .fz (.lst ds)] = some (.v (.fz d) [.ow (pot x' y'), .fz (.lst ds)]) ∧ d ∈ ds ∧ Pot x' y' := by
  have hp : 0 < ds.length := List.length_pos_iff.mpr h0
  obtain ⟨i, x', y', e, i0, i1, P'⟩ := draw_ok P (m := ds.length) (by omega) (by omega)
  have il : i.toNat < ds.length := by omega
  refine ⟨ds[i.toNat], x', y', ?_, List.getElem_mem il, P'⟩
  have ei : L2.atI ds i = some ds[i.toNat] := by simp [L2.atI, L2.ixN, i0, i1, il]
  have e := e
  simp [F__law_pick, runD, b__law_pick_0, c__law_pick_0, sRet, e2n, look, eCall, aMu, aCons, aNil, e1n, oLen, muOk, e, wb, oIx, ixD, ei, bs]
def ths : List D := [.non, .int 0, .int 7, .bl true, .int (-100000000000000000000000000000), .str "", .str "a b", .tup [.int 1, .str "x"], .lst [.int 1, .lst [.int 2]], .dct [(.inr "a", .int 1)], .tup [], .lst []]
theorem thing_ar (p : D) : (aMu 0 (aCons (eLst (aCons (eC .non) (aCons (eC (.int 0)) (aCons (eC (.int 7)) (aCons (eC (.bl true)) (aCons (Mi.e1 oNeg (e2 oPow (eC (.int 10)) (eC (.int 29)))) (aCons (eC (.str "")) (aCons (eC (.str "a b")) (aCons (eTup (aCons (eC (.int 1)) (aCons (eC (.str "x")) (aNil)))) (aCons (eLst (aCons (eC (.int 1)) (aCons (eLst (aCons (eC (.int 2)) (aNil))) (aNil)))) (aCons (eDict (pCons (eC (.str "a")) (eC (.int 1)) (pNil))) (aCons (eTup (aNil)) (aCons (eLst (aNil)) (aNil)))))))))))))) (aNil))) [.ow p] = some (.v [(some 0, .ow p), (none, .fz (.lst ths))] [.ow p]) := by kernel_rfl
theorem thing_ok {x y : Int} (P : Pot x y) : ∃ d x' y', F__law_thing [.ow (pot x y)] = some (.v (.fz d) [.ow (pot x' y')]) ∧ d ∈ ths ∧ Pot x' y' := by
  obtain ⟨d, x', y', e, h1, P'⟩ := pick_ok (ds := ths) P (by simp [ths]) (by decide)
  refine ⟨d, x', y', ?_, h1, P'⟩
  have z := thing_ar (pot x y)
  simp [F__law_thing, runD, b__law_thing_0, c__law_thing_0, sRet, eCall, z, muOk, e, wb, bs]

/-! ### kinds -/
def out (n : Nat) (r : Option Fl) : Option (R Sl) := match r with
  | some (.nx ε) => some (.v (.fz .non) (ε.take n))
  | some (.rt s ε) => some (.v s (ε.take n))
  | some (.ex c gs ε) => some (.x c gs (ε.take n))
  | _ => none
def evD (t : D) : Sl := match F__law_every [.fz t] with
  | some (.v s _) => s
  | _ => .un
theorem every_eq (t : D) : F__law_every [.fz t] = some (.v (evD t) [.fz t]) := by kernel_rfl
theorem kinds_eq (p t : D) : out 1 (b__law_kinds_right_1 [.ow p, evD t, .fz (.int 0), .un, .un, .un, .un]) = some (.v (.fz (.bl true)) [.ow p]) := by kernel_rfl
theorem kinds_ok {x y : Int} (P : Pot x y) : ∃ x' y', F__law_kinds_right [.ow (pot x y)] = some (.v (.fz (.bl true)) [.ow (pot x' y')]) ∧ Pot x' y' := by
  obtain ⟨d, x', y', e, h1, P'⟩ := thing_ok P
  refine ⟨x', y', ?_, P'⟩
  have z := kinds_eq (pot x' y') d
  have s0 : c__law_kinds_right_0 ([.ow (pot x y)] ++ List.replicate 6 Sl.un) = some (.nx [.ow (pot x' y'), evD d, .fz (.int 0), .un, .un, .un, .un]) := by
    have e := e
    simp [c__law_kinds_right_0, sPar, kCons, kNil, eCall, aCons, aMu, aNil, look, muOk, e, wb, every_eq, eC, setE]
  have s1 : b__law_kinds_right_0 ([.ow (pot x y)] ++ List.replicate 6 Sl.un) = b__law_kinds_right_1 [.ow (pot x' y'), evD d, .fz (.int 0), .un, .un, .un, .un] := by
    show sSeq c__law_kinds_right_0 b__law_kinds_right_1 _ = _
    unfold sSeq
    rw [s0]
  show out 1 (b__law_kinds_right_0 ([.ow (pot x y)] ++ List.replicate 6 Sl.un)) = _
  rw [s1]
  exact z
/-! ### texts -/
def Tx (d : D) : Prop := ∃ p, toTx d = some p ∧ p.showable = true ∧ p.shown.length ≤ 100 ∧ p.depth ≤ 10
theorem tx_ths : ∀ d ∈ ths, Tx d := by
  intro d h
  simp only [ths, List.mem_cons, List.not_mem_nil, or_false] at h
  rcases h with rfl | rfl | rfl | rfl | rfl | rfl | rfl | rfl | rfl | rfl | rfl | rfl <;> exact ⟨_, rfl, by decide +kernel, by decide +kernel, by decide +kernel⟩
theorem txL : ∀ ds : List D, (∀ d ∈ ds, Tx d) → ∃ ps, toTxL ds = some ps ∧ PyData.showableAll ps = true ∧ ((PyData.shownAll ps).map (·.length)).sum ≤ 100 * ds.length ∧ (PyData.shownAll ps).length = ds.length ∧ PyData.depthAll ps ≤ 10
  | [], _ => ⟨[], rfl, rfl, by simp [PyData.shownAll], rfl, by simp [PyData.depthAll]⟩
  | d :: ds, h => by
    obtain ⟨p, e1, e2, e3, e4⟩ := h d (List.mem_cons_self ..)
    obtain ⟨ps, f1, f2, f3, f4, f5⟩ := txL ds fun z hz => h z (List.mem_cons_of_mem _ hz)
    refine ⟨p :: ps, by simp [toTxL, e1, f1], by simp [PyData.showableAll, e2, f2], ?_, by simp [PyData.shownAll, f4], ?_⟩
    · simp only [PyData.shownAll, List.map_cons, List.sum_cons, List.length_cons]
      omega
    · simp only [PyData.depthAll]
      omega
theorem repr_lst {ds : List D} (h : ∀ d ∈ ds, Tx d) (hl : ds.length ≤ 1000) : ∃ x, oRepr (.lst ds) = some (.fz (.str x)) := by
  obtain ⟨ps, f1, f2, f3, f4, f5⟩ := txL ds h
  refine ⟨(PyData.list ps).shown, ?_⟩
  have l1 : (PyData.list ps).shown.length ≤ sizeLine := by
    have z := listText_len_le (PyData.shownAll ps)
    simp only [PyData.shown]
    rw [sizeLine_eq]
    omega
  have l2 : (PyData.list ps).depth ≤ 60 := by
    simp only [PyData.depth]
    omega
  simp [oRepr, toTx, f1, PyData.showable, f2, l1, l2]
theorem repr_e {f : FE} {ε ε1 : En} {s : Sl} {d : D} {x : Str} (hf : f ε = some (.v s ε1)) (hs : s = .ow d ∨ s = .fz d) (hr : oRepr d = some (.fz (.str x))) : Mi.e1 oRepr f ε = some (.v (.fz (.str x)) ε1) := by
  rcases hs with rfl | rfl <;> simp [Mi.e1, hf, hr]
theorem repr_n {i : Nat} {ε : En} {d : D} {x : Str} (hf : look ε i = some d) (hr : oRepr d = some (.fz (.str x))) : e1n oRepr i ε = some (.v (.fz (.str x)) ε) := by
  simp [e1n, hf, hr]
theorem eq_self (x : Str) : eqQ (.str x) (.str x) = some true := by
  simp [eqQ]
theorem ne_same {fa fb : FE} {ε ε1 ε2 : En} {x : Str} (ha : fa ε = some (.v (.fz (.str x)) ε1)) (hb : fb ε1 = some (.v (.fz (.str x)) ε2)) : bB (e2 oNe fa fb) ε = some (.v false ε2) := by
  simp [bB, e2, ha, hb, oNe, eq_self]
theorem eq_same {fa fb : FE} {ε ε1 ε2 : En} {x : Str} (ha : fa ε = some (.v (.fz (.str x)) ε1)) (hb : fb ε1 = some (.v (.fz (.str x)) ε2)) : e2 oEq fa fb ε = some (.v (.fz (.bl true)) ε2) := by
  simp [e2, ha, hb, oEq, eq_self]
theorem or_no {s t : FB} {ε ε1 ε2 : En} (h1 : s ε = some (.v false ε1)) (h2 : t ε1 = some (.v false ε2)) : bor s t ε = some (.v false ε2) := by
  simp [bor, h1, h2]
theorem if_no {t : FB} {f k : FS} {ε ε1 : En} (h : t ε = some (.v false ε1)) : sSeq (sIf t f sNext) k ε = k ε1 := by
  simp [sSeq, sIf, h, sNext]
theorem seq_nx {f k : FS} {ε ε1 : En} (h : f ε = some (.nx ε1)) : sSeq f k ε = k ε1 := by
  simp [sSeq, h]
end Law

namespace Law
open PySem Mi
def aft (r : Option Fl) : En := match r with
  | some (.nx ε) => ε
  | _ => []
def aftE (r : Option (R Sl)) : En := match r with
  | some (.v _ ε) => ε
  | _ => []
section
variable (p n f : D)
@[irreducible] def k1 : En := [.ow p, .fz n, .fz f, .un, .un, .un, .un, .un, .un, .un, .un, .un, .un]
@[irreducible] def k2 : En := aft (c__law_kept_right_1 (k1 p n f))
@[irreducible] def k3 : En := aft (c__law_kept_right_2 (k2 p n f))
@[irreducible] def k4 : En := aft (c__law_kept_right_3 (k3 p n f))
@[irreducible] def k5 : En := aft (c__law_kept_right_4 (k4 p n f))
theorem kq1 : c__law_kept_right_1 (k1 p n f) = some (.nx (k2 p n f)) := by kernel_rfl
theorem kq2 : c__law_kept_right_2 (k2 p n f) = some (.nx (k3 p n f)) := by kernel_rfl
theorem kq3 : c__law_kept_right_3 (k3 p n f) = some (.nx (k4 p n f)) := by kernel_rfl
theorem kq4 : c__law_kept_right_4 (k4 p n f) = some (.nx (k5 p n f)) := by kernel_rfl
theorem q5a : look (k5 p n f) 8 = some (.lst (List.replicate 20 n)) := by kernel_rfl
theorem q5b : (e2 oMul (eLst (aCons (eV 1) (aNil))) (e1n oLen 8)) (k5 p n f) = some (.v (.ow (.lst (List.replicate 20 n))) (k5 p n f)) := by kernel_rfl
abbrev g5 : FE := eLc (iSeq (eV 5)) (gN 9) (bTrue) (Mi.e1 (oXf cs "line") (eV 9)) [9]
@[irreducible] def k6 : En := aftE (g5 (k5 p n f))
theorem q5c : g5 (k5 p n f) = some (.v (.ow (.lst [n, f])) (k6 p n f)) := by kernel_rfl
theorem q5d : eLst (aCons (eV 1) (aCons (eV 2) (aNil))) (k6 p n f) = some (.v (.ow (.lst [n, f])) (k6 p n f)) := by kernel_rfl
@[irreducible] def k7 : En := aft (c__law_kept_right_6 (k6 p n f))
@[irreducible] def k8 : En := aft (c__law_kept_right_7 (k7 p n f))
theorem kq6 : c__law_kept_right_6 (k6 p n f) = some (.nx (k7 p n f)) := by kernel_rfl
theorem kq7 : c__law_kept_right_7 (k7 p n f) = some (.nx (k8 p n f)) := by kernel_rfl
theorem q8a : look (k8 p n f) 8 = some (.lst (List.replicate 28 f)) := by kernel_rfl
theorem q8b : (e2 oMul (eLst (aCons (eV 2) (aNil))) (eC (.int 28))) (k8 p n f) = some (.v (.ow (.lst (List.replicate 28 f))) (k8 p n f)) := by kernel_rfl
abbrev g8 : FE := eLc (iSeq (eV 7)) (gN 9) (bTrue) (Mi.e1 (oXf cs "hand") (eV 9)) [9]
@[irreducible] def k9 : En := aftE (g8 (k8 p n f))
theorem q8c : g8 (k8 p n f) = some (.v (.ow (.lst [n, f])) (k9 p n f)) := by kernel_rfl
theorem q8d : eLst (aCons (eV 1) (aCons (eV 2) (aNil))) (k9 p n f) = some (.v (.ow (.lst [n, f])) (k9 p n f)) := by kernel_rfl
@[irreducible] def k10 : En := aft (c__law_kept_right_9 (k9 p n f))
theorem kq9 : c__law_kept_right_9 (k9 p n f) = some (.nx (k10 p n f)) := by kernel_rfl
abbrev g10 : FE := eLst (aCons (Mi.e1 (oXf cs "what") (eV 10)) (aCons (Mi.e1 (oXf cs "limit") (eV 10)) (aCons (Mi.e1 (oXf cs "what") (eV 11)) (aCons (Mi.e1 (oXf cs "limit") (eV 11)) (aNil)))))
@[irreducible] def k10b : En := aftE (g10 (k10 p n f))
theorem q10a : g10 (k10 p n f) = some (.v (.ow (.lst [n, f, f, n])) (k10b p n f)) := by kernel_rfl
theorem q10b : eLst (aCons (eV 1) (aCons (eV 2) (aCons (eV 2) (aCons (eV 1) (aNil))))) (k10b p n f) = some (.v (.ow (.lst [n, f, f, n])) (k10b p n f)) := by kernel_rfl
@[irreducible] def k12 : En := aft (c__law_kept_right_11 (k10b p n f))
theorem kq11 : c__law_kept_right_11 (k10b p n f) = some (.nx (k12 p n f)) := by kernel_rfl
theorem q12a : look (k12 p n f) 12 = some (.lst (List.replicate 26 n)) := by kernel_rfl
theorem q12b : (e2 oMul (eLst (aCons (eV 1) (aNil))) (eC (.int 26))) (k12 p n f) = some (.v (.ow (.lst (List.replicate 26 n))) (k12 p n f)) := by kernel_rfl
theorem q12c : (k12 p n f).take 1 = [.ow p] := by kernel_rfl
end
theorem kept_eq (p n f : D) (hn : Tx n) (hf : Tx f) : out 1 (b__law_kept_right_1 (k1 p n f)) = some (.v (.fz (.bl true)) [.ow p]) := by
  have rep : ∀ (k : Nat) (d : D), Tx d → k ≤ 1000 → ∃ x, oRepr (.lst (List.replicate k d)) = some (.fz (.str x)) := fun k d h hk =>
    repr_lst (fun z hz => by rw [(List.mem_replicate.mp hz).2]; exact h) (by simpa using hk)
  obtain ⟨x1, r1⟩ := rep 20 n hn (by decide)
  obtain ⟨x2, r2⟩ := rep 28 f hf (by decide)
  obtain ⟨x3, r3⟩ := rep 26 n hn (by decide)
  obtain ⟨x4, r4⟩ := repr_lst (ds := [n, f]) (fun z hz => by simp at hz; rcases hz with rfl | rfl <;> assumption) (by simp)
  obtain ⟨x5, r5⟩ := repr_lst (ds := [n, f, f, n]) (fun z hz => by simp at hz; rcases hz with rfl | rfl | rfl <;> assumption) (by simp)
  have t1 : b__law_kept_right_1 (k1 p n f) = b__law_kept_right_5 (k5 p n f) :=
    (seq_nx (kq1 p n f)).trans ((seq_nx (kq2 p n f)).trans ((seq_nx (kq3 p n f)).trans (seq_nx (kq4 p n f))))
  have t5 : b__law_kept_right_5 (k5 p n f) = b__law_kept_right_6 (k6 p n f) :=
    if_no (or_no (ne_same (repr_n (q5a p n f) r1) (repr_e (q5b p n f) (.inl rfl) r1)) (ne_same (repr_e (q5c p n f) (.inl rfl) r4) (repr_e (q5d p n f) (.inl rfl) r4)))
  have t6 : b__law_kept_right_6 (k6 p n f) = b__law_kept_right_8 (k8 p n f) := (seq_nx (kq6 p n f)).trans (seq_nx (kq7 p n f))
  have t8 : b__law_kept_right_8 (k8 p n f) = b__law_kept_right_9 (k9 p n f) :=
    if_no (or_no (ne_same (repr_n (q8a p n f) r2) (repr_e (q8b p n f) (.inl rfl) r2)) (ne_same (repr_e (q8c p n f) (.inl rfl) r4) (repr_e (q8d p n f) (.inl rfl) r4)))
  have t9 : b__law_kept_right_9 (k9 p n f) = b__law_kept_right_10 (k10 p n f) := seq_nx (kq9 p n f)
  have t10 : b__law_kept_right_10 (k10 p n f) = b__law_kept_right_11 (k10b p n f) := if_no (ne_same (repr_e (q10a p n f) (.inl rfl) r5) (repr_e (q10b p n f) (.inl rfl) r5))
  have t11 : b__law_kept_right_11 (k10b p n f) = b__law_kept_right_12 (k12 p n f) := seq_nx (kq11 p n f)
  rw [t1, t5, t6, t8, t9, t10, t11]
  have z : b__law_kept_right_12 (k12 p n f) = some (.rt (.fz (.bl true)) (k12 p n f)) := by
    have y := eq_same (repr_n (q12a p n f) r3) (repr_e (q12b p n f) (.inl rfl) r3)
    simp only [b__law_kept_right_12, c__law_kept_right_12, sRet, y, bs]
  rw [z]
  show some (R.v (Sl.fz (D.bl true)) ((k12 p n f).take 1)) = _
  rw [q12c]
theorem kept_ok {x y : Int} (P : Pot x y) : ∃ x' y', F__law_kept_right [.ow (pot x y)] = some (.v (.fz (.bl true)) [.ow (pot x' y')]) ∧ Pot x' y' := by
  obtain ⟨n, x1, y1, e1, h1, P1⟩ := thing_ok P
  obtain ⟨f, x2, y2, e2, h2, P2⟩ := thing_ok P1
  refine ⟨x2, y2, ?_, P2⟩
  have z := kept_eq (pot x2 y2) n f (tx_ths n h1) (tx_ths f h2)
  have s0 : c__law_kept_right_0 ([.ow (pot x y)] ++ List.replicate 12 Sl.un) = some (.nx (k1 (pot x2 y2) n f)) := by
    have e1 := e1
    have e2 := e2
    simp [c__law_kept_right_0, sPar, kCons, kNil, eCall, aMu, aNil, look, muOk, e1, e2, wb, setE, k1]
  have s1 : b__law_kept_right_0 ([.ow (pot x y)] ++ List.replicate 12 Sl.un) = b__law_kept_right_1 (k1 (pot x2 y2) n f) := seq_nx s0
  show out 1 (b__law_kept_right_0 ([.ow (pot x y)] ++ List.replicate 12 Sl.un)) = _
  rw [s1]
  exact z
end Law

namespace Law
open PySem Mi
theorem pot_ok (ns : List Int) (i : Nat) : ∃ x y, F__law_pot [.fz (.rol (ns.map D.int)), .fz (.int (0 + (i : Nat)))] = some (.v (.ow (potD x y)) [.fz (.rol (ns.map D.int)), .fz (.int (0 + (i : Nat)))]) ∧ Pot x y := by
  have key : ∀ c : Int, ∃ x y, (sRet (eLst (aCons (e2 oMax (eC (.int 0)) (e2 oSub (eV 2) (e2 oPow (eC (.int 10)) (eC (.int 18))))) (aCons (e2 oAdd (e2 oMod (Mi.e1 oToInt (e2 oAdd (e2 oAdd (e2 oMul (e2 oMod (Mi.e1 oToInt (eV 2)) (eC (.int 2147483563))) (eC (.int 48271))) (e2 oMul (eC (.int 4027)) (eV 1))) (eC (.int 31)))) (eC (.int 2147483543))) (eC (.int 1))) (aNil))))) [.fz (.rol (ns.map D.int)), .fz (.int (0 + (i : Nat))), .fz (.int c)] = some (.rt (.ow (potD x y)) [.fz (.rol (ns.map D.int)), .fz (.int (0 + (i : Nat))), .fz (.int c)]) ∧ Pot x y := fun c => by
    refine ⟨if c - 10 ^ 18 > 0 then c - 10 ^ 18 else 0, (c % 2147483563 * 48271 + 4027 * (0 + (i : Nat)) + 31) % 2147483543 + 1, ?_, ?_, by omega, by omega⟩
    · simp [sRet, eLst, aCons, aNil, e2, Mi.e1, eC, eV, oMax, oSub, oPow, oAdd, oMod, oMul, oToInt, asD, bs, sizeLine_eq]
    · split <;> omega
  by_cases h : (i : Int) < ns.length
  · have hi : i < ns.length := by omega
    obtain ⟨x, y, e, P⟩ := key (if ns[i] < 0 then -ns[i] else ns[i])
    refine ⟨x, y, ?_, P⟩
    have at_ : L2.atI (ns.map D.int) (i : Int) = some (.int ns[i]) := by simp [L2.atI, L2.ixN, hi]
    have s0 : c__law_pot_0 [.fz (.rol (ns.map D.int)), .fz (.int (0 + (i : Nat))), .un] = some (.nx [.fz (.rol (ns.map D.int)), .fz (.int (0 + (i : Nat))), .fz (.int (43 * (0 + (i : Nat)) + 17))]) := by
      simp [c__law_pot_0, sSet, e2, eC, eV, oMul, oAdd, bs]
    have s1 : c__law_pot_1 [.fz (.rol (ns.map D.int)), .fz (.int (0 + (i : Nat))), .fz (.int (43 * (0 + (i : Nat)) + 17))] = some (.nx [.fz (.rol (ns.map D.int)), .fz (.int (0 + (i : Nat))), .fz (.int (if ns[i] < 0 then -ns[i] else ns[i]))]) := by
      simp [c__law_pot_1, sIf, bB, sSet, e2, e2n, e1n, Mi.e1, eC, eV, look, oLen, oInt, oAbs, oIx, ixD, at_, hi, bs]
    show out 2 (b__law_pot_0 ([.fz (.rol (ns.map D.int)), .fz (.int (0 + (i : Nat)))] ++ List.replicate 1 Sl.un)) = _
    rw [show b__law_pot_0 ([.fz (.rol (ns.map D.int)), .fz (.int (0 + (i : Nat)))] ++ List.replicate 1 Sl.un) = _ from (seq_nx s0).trans ((seq_nx s1).trans e)]
    rfl
  · have hi : ¬ i < ns.length := by omega
    obtain ⟨x, y, e, P⟩ := key (43 * (0 + (i : Nat)) + 17)
    refine ⟨x, y, ?_, P⟩
    have s0 : c__law_pot_0 [.fz (.rol (ns.map D.int)), .fz (.int (0 + (i : Nat))), .un] = some (.nx [.fz (.rol (ns.map D.int)), .fz (.int (0 + (i : Nat))), .fz (.int (43 * (0 + (i : Nat)) + 17))]) := by
      simp [c__law_pot_0, sSet, e2, eC, eV, oMul, oAdd, bs]
    have s1 : c__law_pot_1 [.fz (.rol (ns.map D.int)), .fz (.int (0 + (i : Nat))), .fz (.int (43 * (0 + (i : Nat)) + 17))] = some (.nx [.fz (.rol (ns.map D.int)), .fz (.int (0 + (i : Nat))), .fz (.int (43 * (0 + (i : Nat)) + 17))]) := by
      simp [c__law_pot_1, sIf, bB, sSet, e2, e2n, e1n, Mi.e1, eC, eV, look, oLen, oInt, oAbs, oIx, ixD, hi, bs, sNext]
    show out 2 (b__law_pot_0 ([.fz (.rol (ns.map D.int)), .fz (.int (0 + (i : Nat)))] ++ List.replicate 1 Sl.un)) = _
    rw [show b__law_pot_0 ([.fz (.rol (ns.map D.int)), .fz (.int (0 + (i : Nat)))] ++ List.replicate 1 Sl.un) = _ from (seq_nx s0).trans ((seq_nx s1).trans e)]
    rfl
abbrev fiL : FI := iRng1 (e2 oMax (eC (.int 1)) (e2 oMin (e1n oLen 0) (eC (.int 4))))
abbrev fPL : FE := eCall 2 F__law_pot (aCons (eV 0) (aCons (eV 2) (aNil)))
abbrev fEL : FE := eAnd (eCall 1 F__law_kept_right (aMu 3 (aNil))) (eAnd (eCall 1 F__law_kept_right (aMu 3 (aNil))) (eCall 1 F__law_kinds_right (aMu 3 (aNil))))
theorem fi_ok (ns : List Int) : ∃ m : Nat, m ≤ 4 ∧ fiL (e0 (ns.map D.int)) = some (.v ((List.range m).map fun i => D.int (0 + (i : Nat))) (e0 (ns.map D.int))) := by
  let j : Int := if (if (4 : Int) < ns.length then (4 : Int) else ns.length) > 1 then (if (4 : Int) < ns.length then (4 : Int) else ns.length) else 1
  have j1 : j ≤ 4 ∧ 1 ≤ j := by
    simp only [j]
    split <;> split <;> omega
  refine ⟨j.toNat, by omega, ?_⟩
  have c1 : (-4611686018427387904 : Int) ≤ j ∧ j < 4611686018427387904 := by omega
  have z : e2 oMax (eC (.int 1)) (e2 oMin (e1n oLen 0) (eC (.int 4))) (e0 (ns.map D.int)) = some (.v (.fz (.int j)) (e0 (ns.map D.int))) := by
    simp [e2, e1n, eC, look, oLen, oMax, oMin, j]
  simp [fiL, iRng1, z, c1]
theorem pl_ok (ns : List Int) (m : Nat) : ∀ d ∈ (List.range m).map (fun i => D.int (0 + (i : Nat))), ∃ x y, fPL [.fz (.rol (ns.map D.int)), .un, .fz d, .un] = some (.v (.ow (potD x y)) [.fz (.rol (ns.map D.int)), .un, .fz d, .un]) ∧ Pot x y := fun d hd => by
  obtain ⟨i, _, rfl⟩ := List.mem_map.mp hd
  obtain ⟨x, y, e, P⟩ := pot_ok ns i
  refine ⟨x, y, ?_, P⟩
  have e := e
  simp only [fPL, eCall, aCons, eV, aNil, List.getElem?_cons_zero, List.getElem?_cons_succ, bf_fz, bnd_v, List.map_cons, List.map_nil]
  rw [e]
  rfl
theorem el_ok (x y : Int) (P : Pot x y) : ∃ x' y', fEL [.un, .un, .un, .ow (potD x y)] = some (.v (.fz (.bl true)) [.un, .un, .un, .ow (potD x' y')]) ∧ Pot x' y' := by
  obtain ⟨x1, y1, e1, P1⟩ := kept_ok P
  obtain ⟨x2, y2, e2, P2⟩ := kept_ok P1
  obtain ⟨x3, y3, e3, P3⟩ := kinds_ok P2
  refine ⟨x3, y3, ?_, P3⟩
  have e1 := e1
  have e2 := e2
  have e3 := e3
  simp [fEL, eAnd, eCall, aMu, aNil, look, muOk, e1, e2, e3, wb]
end Law

namespace Law
open PySem PySem.Spec PyProof.Rows L2 Mi
def spL (K : PySem.W.Frag) : Sp := fun vs H Q _ => ∃ (a : Addr) (ns : List Int), vs = [.ref a] ∧ SqL K H a (ns.map V.int) ∧ ∀ H', Q (.bl true) H'
theorem law_wp {K : PySem.W.Frag} {W : WX} (vs : List V) (H : Hp) (Q : VK) (E : XK) (h : spL K vs H Q E) :
    tSeq (tAsg (tLc (tMI K W fiL) (tMG K [2] (gN 2)) (tMT K W0 bTrue) (tM K W0 fPL) [2]) (gName 1)) (tRet (tCB (rAll K) (tCons (tLc (iList K (tVar 1)) (gName 3) (tMT K W0 bTrue) (tM K W0 fEL) [3]) tNil)))
      { nx := fun _ H' => Q .non H', rt := Q } (L2.start ["_law_script", "_law_pots", "_law_k", "_law_pot_here"] vs) H := by
  obtain ⟨a, ns, rfl, hS, hQ⟩ := h
  obtain ⟨m, hm, e⟩ := fi_ok ns
  have st : L2.start ["_law_script", "_law_pots", "_law_k", "_law_pot_here"] [V.ref a] = s0 a := rfl
  rw [st]
  unfold tSeq tAsg
  refine pots_made (Po := Pot) (a := a) (ds := ns.map D.int) hS (rep_ints ns) e (by simp; omega) (pl_ok ns m) fun Da bs H' hD hl pt => ?_
  have st2 : (s0 a).set 1 (some (V.ref Da)) = s1 a Da := rfl
  unfold gName tRet tCB tCons
  dsimp only
  rw [st2]
  refine pots_walked (Po := Pot) (a := a) hD hl pt el_ok fun L H2 hL => ⟨L, List.replicate bs.length true, rfl, SqL.of (by rw [hL]; simp), ?_⟩
  have z : (List.replicate bs.length true).all id = true := by simp
  rw [z]
  exact hQ H2
theorem sc_law : FnScope ["_law_script", "_law_pots", "_law_k", "_law_pot_here"] ["_law_script"] (defScope (top 54)) := ⟨rfl, rfl, rfl, by decide +kernel, rfl, by decide +kernel, by decide +kernel⟩
section
variable {P : Program} {w : World} {K : PySem.W.Frag} {mg : Str → Option Value} {base : Heap} {f : Addr} {fd : FuncData}
theorem ok_law (b_all : mg "all" = none) (b_len : mg "len" = none) (b_max : mg "max" = none) (b_min : mg "min" = none) (b_range : mg "range" = none) (H1 : Fnn P w K mg base false 1 "_law_pot" 2 F__law_pot) (H2 : Fnn P w K mg base true 5 "_law_kept_right" 1 F__law_kept_right) (H3 : Fnn P w K mg base false 5 "_law_kinds_right" 1 F__law_kinds_right) (D : FunD K "law" "law" (defArgs (top 54)) (defBody (top 54)) (defScope (top 54)) [] [] f fd) : FnG P w K mg base true 6 f fd ["_law_script"] (spL K) := by
  have S := sc_law
  refine fnG_of D S (fun vs H Q E h => by obtain ⟨a, ns, rfl, _⟩ := h; rfl) fun cv A out st H vs Q E rm gd h => ⟨_, ?_, law_wp (W := WE0 E) vs H Q E h⟩
  exact pss_cons (ps_setLc (i := 1) rfl S.nd rfl rfl (sw_true rfl rfl rfl (by decide +kernel)) (mi_rng1 (by rfl) b_range (me_b2 (call_max2 rfl) p_max (by rfl) b_max (by decide +kernel) me_int (me_b2 (call_min2 rfl) p_min (by rfl) b_min (by decide +kernel) (me_b1N call_len p_len (by rfl) b_len (by decide +kernel) (pe_var (i := 0) rfl (.inr (.inl rfl)))) me_int))) (blkOk_by (own := [("_law_k", 2)]) (by kernel_rfl)) (fun _ _ _ _ _ => (mg_name (i := 2) S.nd rfl (.inl rfl))) (fun _ _ _ _ _ => mts_nil)
      (fun _ _ _ _ _ => (me_fn H1 rm (fun z => Bool.noConfusion z) takes0 (by rfl) (ma_cons (me_V (pe_var (i := 0) rfl (.inr (.inl rfl)))) (ma_cons (me_V (pe_var (i := 2) rfl (.inl rfl))) ma_nil)))))
    (pss_one (ps_ret (pe_callB (cr_all rfl) (by rfl) b_all (by decide +kernel) (pa_cons (pe_lc rfl S.nd (pi_list (pe_var (i := 1) rfl (.inl rfl))) (blkOk_by (own := [("_law_pot_here", 3)]) (by kernel_rfl)) (fun _ _ _ _ _ => pg_name (i := 3) S.nd rfl (.inl rfl)) (fun _ _ _ _ _ => mts_nil)
      (fun _ _ _ _ _ => (me_and (me_fn H2 rm gd takes0 (by rfl) (ma_mu (pe_var (i := 3) rfl (.inl rfl)) ma_nil)) (me_and (me_fn H2 rm gd takes0 (by rfl) (ma_mu (pe_var (i := 3) rfl (.inl rfl)) ma_nil)) (me_one (me_fn H3 rm (fun z => Bool.noConfusion z) takes0 (by rfl) (ma_mu (pe_var (i := 3) rfl (.inl rfl)) ma_nil))))))) pa_nil))))
end
theorem ck_at {K : PySem.W.Frag} (h : ck K = true) (i : Nat) {b : Bool} (e : (cks K)[i]? = some b := by rfl) : b = true := List.all_eq_true.mp h b (List.mem_of_getElem? e)
theorem nw_ArithmeticError : ("ArithmeticError" ++ ".__new__" : String) = "ArithmeticError.__new__" := by decide +kernel
theorem nw_LookupError : ("LookupError" ++ ".__new__" : String) = "LookupError.__new__" := by decide +kernel
theorem nw_RuntimeError : ("RuntimeError" ++ ".__new__" : String) = "RuntimeError.__new__" := by decide +kernel
theorem nw_ValueError : ("ValueError" ++ ".__new__" : String) = "ValueError.__new__" := by decide +kernel
section
variable {P : Program} {w : World} {K : PySem.W.Frag} {h base : Heap} {mg : Str → Option Value}
theorem blOf (X : K.In h) (G : h.Ns mainGlobals mg) (c : SaysM fa fn ck K) : Bl mg :=
  ⟨(He.free_ok X G (c.2.fact 53 (f := .free "ArithmeticError") rfl)),
   (He.free_ok X G (c.2.fact 54 (f := .free "LookupError") rfl)),
   (He.free_ok X G (c.2.fact 55 (f := .free "RuntimeError") rfl)),
   (He.free_ok X G (c.2.fact 56 (f := .free "ValueError") rfl)),
   (He.free_ok X G (c.2.fact 57 (f := .free "abs") rfl)),
   (He.free_ok X G (c.2.fact 59 (f := .free "divmod") rfl)),
   (He.free_ok X G (c.2.fact 60 (f := .free "enumerate") rfl)),
   (He.free_ok X G (c.2.fact 61 (f := .free "int") rfl)),
   (He.free_ok X G (c.2.fact 62 (f := .free "isinstance") rfl)),
   (He.free_ok X G (c.2.fact 63 (f := .free "len") rfl)),
   (He.free_ok X G (c.2.fact 64 (f := .free "max") rfl)),
   (He.free_ok X G (c.2.fact 66 (f := .free "range") rfl)),
   (He.free_ok X G (c.2.fact 67 (f := .free "repr") rfl))⟩
theorem mo_InvalidDeeds (X : K.In h) (G : h.Ns mainGlobals mg) (c : SaysM fa fn ck K) : XM P w K mg base 1 "InvalidDeeds" ["position"] := by
  obtain ⟨fd, D⟩ := c.2.def_ 0 (d := d2_0) rfl
  have xa : xallB K cs2 = true := ck_at c.1 2
  have T := xallB_at xa (p := ("InvalidDeeds", "ValueError")) (List.mem_of_getElem? (i := 0) rfl)
  rw [nw_ValueError] at T
  have mc : ("InvalidDeeds" : Str) ∈ cs := List.mem_of_getElem? (i := 0) rfl
  have ii := inB_ok (ck_at c.1 3 (b := inB K cs)) mc
  exact m_InvalidDeeds D T (xinB_ok (ck_at c.1 53 (b := xinB K (He.ga K "SettleError") "ValueError.__init__"))) (He.glo_ok X G (c.2.fact 0 (f := .glo "SettleError") rfl)) (He.glo_ok X G (c.2.fact 1 (f := .glo "InvalidDeeds") rfl)) ii.1 ii.2 (nofB_ok (ck_at c.1 7 (b := nofB K cs "position")) _ mc)
theorem mo_InvalidRows (X : K.In h) (G : h.Ns mainGlobals mg) (c : SaysM fa fn ck K) : XM P w K mg base 1 "InvalidRows" ["position"] := by
  obtain ⟨fd, D⟩ := c.2.def_ 1 (d := d3_0) rfl
  have xa : xallB K cs2 = true := ck_at c.1 2
  have T := xallB_at xa (p := ("InvalidRows", "ValueError")) (List.mem_of_getElem? (i := 1) rfl)
  rw [nw_ValueError] at T
  have mc : ("InvalidRows" : Str) ∈ cs := List.mem_of_getElem? (i := 1) rfl
  have ii := inB_ok (ck_at c.1 3 (b := inB K cs)) mc
  exact m_InvalidRows D T (xinB_ok (ck_at c.1 53 (b := xinB K (He.ga K "SettleError") "ValueError.__init__"))) (He.glo_ok X G (c.2.fact 0 (f := .glo "SettleError") rfl)) (He.glo_ok X G (c.2.fact 2 (f := .glo "InvalidRows") rfl)) ii.1 ii.2 (nofB_ok (ck_at c.1 7 (b := nofB K cs "position")) _ mc)
theorem mo_InvalidState (X : K.In h) (G : h.Ns mainGlobals mg) (c : SaysM fa fn ck K) : XM P w K mg base 1 "InvalidState" ["value"] := by
  obtain ⟨fd, D⟩ := c.2.def_ 2 (d := d4_0) rfl
  have xa : xallB K cs2 = true := ck_at c.1 2
  have T := xallB_at xa (p := ("InvalidState", "ValueError")) (List.mem_of_getElem? (i := 2) rfl)
  rw [nw_ValueError] at T
  have mc : ("InvalidState" : Str) ∈ cs := List.mem_of_getElem? (i := 2) rfl
  have ii := inB_ok (ck_at c.1 3 (b := inB K cs)) mc
  exact m_InvalidState D T (xinB_ok (ck_at c.1 53 (b := xinB K (He.ga K "SettleError") "ValueError.__init__"))) (He.glo_ok X G (c.2.fact 0 (f := .glo "SettleError") rfl)) (He.glo_ok X G (c.2.fact 3 (f := .glo "InvalidState") rfl)) ii.1 ii.2 (nofB_ok (ck_at c.1 8 (b := nofB K cs "value")) _ mc)
theorem mo_InvalidDeed (X : K.In h) (G : h.Ns mainGlobals mg) (c : SaysM fa fn ck K) : XM P w K mg base 1 "InvalidDeed" ["value"] := by
  obtain ⟨fd, D⟩ := c.2.def_ 3 (d := d5_0) rfl
  have xa : xallB K cs2 = true := ck_at c.1 2
  have T := xallB_at xa (p := ("InvalidDeed", "ValueError")) (List.mem_of_getElem? (i := 3) rfl)
  rw [nw_ValueError] at T
  have mc : ("InvalidDeed" : Str) ∈ cs := List.mem_of_getElem? (i := 3) rfl
  have ii := inB_ok (ck_at c.1 3 (b := inB K cs)) mc
  exact m_InvalidDeed D T (xinB_ok (ck_at c.1 53 (b := xinB K (He.ga K "SettleError") "ValueError.__init__"))) (He.glo_ok X G (c.2.fact 0 (f := .glo "SettleError") rfl)) (He.glo_ok X G (c.2.fact 4 (f := .glo "InvalidDeed") rfl)) ii.1 ii.2 (nofB_ok (ck_at c.1 8 (b := nofB K cs "value")) _ mc)
theorem mo_InvalidWord (X : K.In h) (G : h.Ns mainGlobals mg) (c : SaysM fa fn ck K) : XM P w K mg base 1 "InvalidWord" ["position"] := by
  obtain ⟨fd, D⟩ := c.2.def_ 4 (d := d6_0) rfl
  have xa : xallB K cs2 = true := ck_at c.1 2
  have T := xallB_at xa (p := ("InvalidWord", "ValueError")) (List.mem_of_getElem? (i := 4) rfl)
  rw [nw_ValueError] at T
  have mc : ("InvalidWord" : Str) ∈ cs := List.mem_of_getElem? (i := 4) rfl
  have ii := inB_ok (ck_at c.1 3 (b := inB K cs)) mc
  exact m_InvalidWord D T (xinB_ok (ck_at c.1 53 (b := xinB K (He.ga K "SettleError") "ValueError.__init__"))) (He.glo_ok X G (c.2.fact 0 (f := .glo "SettleError") rfl)) (He.glo_ok X G (c.2.fact 5 (f := .glo "InvalidWord") rfl)) ii.1 ii.2 (nofB_ok (ck_at c.1 7 (b := nofB K cs "position")) _ mc)
theorem mo_InvalidStates (X : K.In h) (G : h.Ns mainGlobals mg) (c : SaysM fa fn ck K) : XM P w K mg base 1 "InvalidStates" ["value"] := by
  obtain ⟨fd, D⟩ := c.2.def_ 5 (d := d7_0) rfl
  have xa : xallB K cs2 = true := ck_at c.1 2
  have T := xallB_at xa (p := ("InvalidStates", "ValueError")) (List.mem_of_getElem? (i := 5) rfl)
  rw [nw_ValueError] at T
  have mc : ("InvalidStates" : Str) ∈ cs := List.mem_of_getElem? (i := 5) rfl
  have ii := inB_ok (ck_at c.1 3 (b := inB K cs)) mc
  exact m_InvalidStates D T (xinB_ok (ck_at c.1 53 (b := xinB K (He.ga K "SettleError") "ValueError.__init__"))) (He.glo_ok X G (c.2.fact 0 (f := .glo "SettleError") rfl)) (He.glo_ok X G (c.2.fact 6 (f := .glo "InvalidStates") rfl)) ii.1 ii.2 (nofB_ok (ck_at c.1 8 (b := nofB K cs "value")) _ mc)
theorem mo_InvalidNames (X : K.In h) (G : h.Ns mainGlobals mg) (c : SaysM fa fn ck K) : XM P w K mg base 1 "InvalidNames" ["value"] := by
  obtain ⟨fd, D⟩ := c.2.def_ 6 (d := d8_0) rfl
  have xa : xallB K cs2 = true := ck_at c.1 2
  have T := xallB_at xa (p := ("InvalidNames", "ValueError")) (List.mem_of_getElem? (i := 6) rfl)
  rw [nw_ValueError] at T
  have mc : ("InvalidNames" : Str) ∈ cs := List.mem_of_getElem? (i := 6) rfl
  have ii := inB_ok (ck_at c.1 3 (b := inB K cs)) mc
  exact m_InvalidNames D T (xinB_ok (ck_at c.1 53 (b := xinB K (He.ga K "SettleError") "ValueError.__init__"))) (He.glo_ok X G (c.2.fact 0 (f := .glo "SettleError") rfl)) (He.glo_ok X G (c.2.fact 7 (f := .glo "InvalidNames") rfl)) ii.1 ii.2 (nofB_ok (ck_at c.1 8 (b := nofB K cs "value")) _ mc)
theorem mo_InvalidEntry (X : K.In h) (G : h.Ns mainGlobals mg) (c : SaysM fa fn ck K) : XM P w K mg base 1 "InvalidEntry" ["value"] := by
  obtain ⟨fd, D⟩ := c.2.def_ 7 (d := d9_0) rfl
  have xa : xallB K cs2 = true := ck_at c.1 2
  have T := xallB_at xa (p := ("InvalidEntry", "ValueError")) (List.mem_of_getElem? (i := 7) rfl)
  rw [nw_ValueError] at T
  have mc : ("InvalidEntry" : Str) ∈ cs := List.mem_of_getElem? (i := 7) rfl
  have ii := inB_ok (ck_at c.1 3 (b := inB K cs)) mc
  exact m_InvalidEntry D T (xinB_ok (ck_at c.1 53 (b := xinB K (He.ga K "SettleError") "ValueError.__init__"))) (He.glo_ok X G (c.2.fact 0 (f := .glo "SettleError") rfl)) (He.glo_ok X G (c.2.fact 8 (f := .glo "InvalidEntry") rfl)) ii.1 ii.2 (nofB_ok (ck_at c.1 8 (b := nofB K cs "value")) _ mc)
theorem mo_InvalidAnswers (X : K.In h) (G : h.Ns mainGlobals mg) (c : SaysM fa fn ck K) : XM P w K mg base 1 "InvalidAnswers" ["value"] := by
  obtain ⟨fd, D⟩ := c.2.def_ 8 (d := d10_0) rfl
  have xa : xallB K cs2 = true := ck_at c.1 2
  have T := xallB_at xa (p := ("InvalidAnswers", "ValueError")) (List.mem_of_getElem? (i := 8) rfl)
  rw [nw_ValueError] at T
  have mc : ("InvalidAnswers" : Str) ∈ cs := List.mem_of_getElem? (i := 8) rfl
  have ii := inB_ok (ck_at c.1 3 (b := inB K cs)) mc
  exact m_InvalidAnswers D T (xinB_ok (ck_at c.1 53 (b := xinB K (He.ga K "SettleError") "ValueError.__init__"))) (He.glo_ok X G (c.2.fact 0 (f := .glo "SettleError") rfl)) (He.glo_ok X G (c.2.fact 9 (f := .glo "InvalidAnswers") rfl)) ii.1 ii.2 (nofB_ok (ck_at c.1 8 (b := nofB K cs "value")) _ mc)
theorem mo_InvalidNumber (X : K.In h) (G : h.Ns mainGlobals mg) (c : SaysM fa fn ck K) : XM P w K mg base 1 "InvalidNumber" ["value"] := by
  obtain ⟨fd, D⟩ := c.2.def_ 9 (d := d11_0) rfl
  have xa : xallB K cs2 = true := ck_at c.1 2
  have T := xallB_at xa (p := ("InvalidNumber", "ValueError")) (List.mem_of_getElem? (i := 9) rfl)
  rw [nw_ValueError] at T
  have mc : ("InvalidNumber" : Str) ∈ cs := List.mem_of_getElem? (i := 9) rfl
  have ii := inB_ok (ck_at c.1 3 (b := inB K cs)) mc
  exact m_InvalidNumber D T (xinB_ok (ck_at c.1 53 (b := xinB K (He.ga K "SettleError") "ValueError.__init__"))) (He.glo_ok X G (c.2.fact 0 (f := .glo "SettleError") rfl)) (He.glo_ok X G (c.2.fact 10 (f := .glo "InvalidNumber") rfl)) ii.1 ii.2 (nofB_ok (ck_at c.1 8 (b := nofB K cs "value")) _ mc)
theorem mo_InvalidTeam (X : K.In h) (G : h.Ns mainGlobals mg) (c : SaysM fa fn ck K) : XM P w K mg base 1 "InvalidTeam" ["value"] := by
  obtain ⟨fd, D⟩ := c.2.def_ 10 (d := d12_0) rfl
  have xa : xallB K cs2 = true := ck_at c.1 2
  have T := xallB_at xa (p := ("InvalidTeam", "ValueError")) (List.mem_of_getElem? (i := 10) rfl)
  rw [nw_ValueError] at T
  have mc : ("InvalidTeam" : Str) ∈ cs := List.mem_of_getElem? (i := 10) rfl
  have ii := inB_ok (ck_at c.1 3 (b := inB K cs)) mc
  exact m_InvalidTeam D T (xinB_ok (ck_at c.1 53 (b := xinB K (He.ga K "SettleError") "ValueError.__init__"))) (He.glo_ok X G (c.2.fact 0 (f := .glo "SettleError") rfl)) (He.glo_ok X G (c.2.fact 11 (f := .glo "InvalidTeam") rfl)) ii.1 ii.2 (nofB_ok (ck_at c.1 8 (b := nofB K cs "value")) _ mc)
theorem mo_InvalidHand (X : K.In h) (G : h.Ns mainGlobals mg) (c : SaysM fa fn ck K) : XM P w K mg base 1 "InvalidHand" ["value"] := by
  obtain ⟨fd, D⟩ := c.2.def_ 11 (d := d13_0) rfl
  have xa : xallB K cs2 = true := ck_at c.1 2
  have T := xallB_at xa (p := ("InvalidHand", "ValueError")) (List.mem_of_getElem? (i := 11) rfl)
  rw [nw_ValueError] at T
  have mc : ("InvalidHand" : Str) ∈ cs := List.mem_of_getElem? (i := 11) rfl
  have ii := inB_ok (ck_at c.1 3 (b := inB K cs)) mc
  exact m_InvalidHand D T (xinB_ok (ck_at c.1 53 (b := xinB K (He.ga K "SettleError") "ValueError.__init__"))) (He.glo_ok X G (c.2.fact 0 (f := .glo "SettleError") rfl)) (He.glo_ok X G (c.2.fact 12 (f := .glo "InvalidHand") rfl)) ii.1 ii.2 (nofB_ok (ck_at c.1 8 (b := nofB K cs "value")) _ mc)
theorem mo_InvalidOrder (X : K.In h) (G : h.Ns mainGlobals mg) (c : SaysM fa fn ck K) : XM P w K mg base 1 "InvalidOrder" ["position"] := by
  obtain ⟨fd, D⟩ := c.2.def_ 12 (d := d14_0) rfl
  have xa : xallB K cs2 = true := ck_at c.1 2
  have T := xallB_at xa (p := ("InvalidOrder", "ValueError")) (List.mem_of_getElem? (i := 12) rfl)
  rw [nw_ValueError] at T
  have mc : ("InvalidOrder" : Str) ∈ cs := List.mem_of_getElem? (i := 12) rfl
  have ii := inB_ok (ck_at c.1 3 (b := inB K cs)) mc
  exact m_InvalidOrder D T (xinB_ok (ck_at c.1 53 (b := xinB K (He.ga K "SettleError") "ValueError.__init__"))) (He.glo_ok X G (c.2.fact 0 (f := .glo "SettleError") rfl)) (He.glo_ok X G (c.2.fact 13 (f := .glo "InvalidOrder") rfl)) ii.1 ii.2 (nofB_ok (ck_at c.1 7 (b := nofB K cs "position")) _ mc)
theorem mo_InvalidLayout (X : K.In h) (G : h.Ns mainGlobals mg) (c : SaysM fa fn ck K) : XM P w K mg base 1 "InvalidLayout" ["value"] := by
  obtain ⟨fd, D⟩ := c.2.def_ 13 (d := d15_0) rfl
  have xa : xallB K cs2 = true := ck_at c.1 2
  have T := xallB_at xa (p := ("InvalidLayout", "ValueError")) (List.mem_of_getElem? (i := 13) rfl)
  rw [nw_ValueError] at T
  have mc : ("InvalidLayout" : Str) ∈ cs := List.mem_of_getElem? (i := 13) rfl
  have ii := inB_ok (ck_at c.1 3 (b := inB K cs)) mc
  exact m_InvalidLayout D T (xinB_ok (ck_at c.1 53 (b := xinB K (He.ga K "SettleError") "ValueError.__init__"))) (He.glo_ok X G (c.2.fact 0 (f := .glo "SettleError") rfl)) (He.glo_ok X G (c.2.fact 14 (f := .glo "InvalidLayout") rfl)) ii.1 ii.2 (nofB_ok (ck_at c.1 8 (b := nofB K cs "value")) _ mc)
theorem mo_InvalidThings (X : K.In h) (G : h.Ns mainGlobals mg) (c : SaysM fa fn ck K) : XM P w K mg base 1 "InvalidThings" ["position"] := by
  obtain ⟨fd, D⟩ := c.2.def_ 14 (d := d16_0) rfl
  have xa : xallB K cs2 = true := ck_at c.1 2
  have T := xallB_at xa (p := ("InvalidThings", "ValueError")) (List.mem_of_getElem? (i := 14) rfl)
  rw [nw_ValueError] at T
  have mc : ("InvalidThings" : Str) ∈ cs := List.mem_of_getElem? (i := 14) rfl
  have ii := inB_ok (ck_at c.1 3 (b := inB K cs)) mc
  exact m_InvalidThings D T (xinB_ok (ck_at c.1 53 (b := xinB K (He.ga K "SettleError") "ValueError.__init__"))) (He.glo_ok X G (c.2.fact 0 (f := .glo "SettleError") rfl)) (He.glo_ok X G (c.2.fact 15 (f := .glo "InvalidThings") rfl)) ii.1 ii.2 (nofB_ok (ck_at c.1 7 (b := nofB K cs "position")) _ mc)
theorem mo_InvalidScripts (X : K.In h) (G : h.Ns mainGlobals mg) (c : SaysM fa fn ck K) : XM P w K mg base 1 "InvalidScripts" ["position"] := by
  obtain ⟨fd, D⟩ := c.2.def_ 15 (d := d17_0) rfl
  have xa : xallB K cs2 = true := ck_at c.1 2
  have T := xallB_at xa (p := ("InvalidScripts", "ValueError")) (List.mem_of_getElem? (i := 15) rfl)
  rw [nw_ValueError] at T
  have mc : ("InvalidScripts" : Str) ∈ cs := List.mem_of_getElem? (i := 15) rfl
  have ii := inB_ok (ck_at c.1 3 (b := inB K cs)) mc
  exact m_InvalidScripts D T (xinB_ok (ck_at c.1 53 (b := xinB K (He.ga K "SettleError") "ValueError.__init__"))) (He.glo_ok X G (c.2.fact 0 (f := .glo "SettleError") rfl)) (He.glo_ok X G (c.2.fact 16 (f := .glo "InvalidScripts") rfl)) ii.1 ii.2 (nofB_ok (ck_at c.1 7 (b := nofB K cs "position")) _ mc)
theorem mo_InvalidWeaving (X : K.In h) (G : h.Ns mainGlobals mg) (c : SaysM fa fn ck K) : XM P w K mg base 1 "InvalidWeaving" ["position"] := by
  obtain ⟨fd, D⟩ := c.2.def_ 16 (d := d18_0) rfl
  have xa : xallB K cs2 = true := ck_at c.1 2
  have T := xallB_at xa (p := ("InvalidWeaving", "ValueError")) (List.mem_of_getElem? (i := 16) rfl)
  rw [nw_ValueError] at T
  have mc : ("InvalidWeaving" : Str) ∈ cs := List.mem_of_getElem? (i := 16) rfl
  have ii := inB_ok (ck_at c.1 3 (b := inB K cs)) mc
  exact m_InvalidWeaving D T (xinB_ok (ck_at c.1 53 (b := xinB K (He.ga K "SettleError") "ValueError.__init__"))) (He.glo_ok X G (c.2.fact 0 (f := .glo "SettleError") rfl)) (He.glo_ok X G (c.2.fact 17 (f := .glo "InvalidWeaving") rfl)) ii.1 ii.2 (nofB_ok (ck_at c.1 7 (b := nofB K cs "position")) _ mc)
theorem mo_InvalidPlace (X : K.In h) (G : h.Ns mainGlobals mg) (c : SaysM fa fn ck K) : XM P w K mg base 1 "InvalidPlace" ["value"] := by
  obtain ⟨fd, D⟩ := c.2.def_ 17 (d := d19_0) rfl
  have xa : xallB K cs2 = true := ck_at c.1 2
  have T := xallB_at xa (p := ("InvalidPlace", "ValueError")) (List.mem_of_getElem? (i := 17) rfl)
  rw [nw_ValueError] at T
  have mc : ("InvalidPlace" : Str) ∈ cs := List.mem_of_getElem? (i := 17) rfl
  have ii := inB_ok (ck_at c.1 3 (b := inB K cs)) mc
  exact m_InvalidPlace D T (xinB_ok (ck_at c.1 53 (b := xinB K (He.ga K "SettleError") "ValueError.__init__"))) (He.glo_ok X G (c.2.fact 0 (f := .glo "SettleError") rfl)) (He.glo_ok X G (c.2.fact 18 (f := .glo "InvalidPlace") rfl)) ii.1 ii.2 (nofB_ok (ck_at c.1 8 (b := nofB K cs "value")) _ mc)
theorem mo_InvalidText (X : K.In h) (G : h.Ns mainGlobals mg) (c : SaysM fa fn ck K) : XM P w K mg base 1 "InvalidText" ["line"] := by
  obtain ⟨fd, D⟩ := c.2.def_ 18 (d := d20_0) rfl
  have xa : xallB K cs2 = true := ck_at c.1 2
  have T := xallB_at xa (p := ("InvalidText", "ValueError")) (List.mem_of_getElem? (i := 18) rfl)
  rw [nw_ValueError] at T
  have mc : ("InvalidText" : Str) ∈ cs := List.mem_of_getElem? (i := 18) rfl
  have ii := inB_ok (ck_at c.1 3 (b := inB K cs)) mc
  exact m_InvalidText D T (xinB_ok (ck_at c.1 53 (b := xinB K (He.ga K "SettleError") "ValueError.__init__"))) (He.glo_ok X G (c.2.fact 0 (f := .glo "SettleError") rfl)) (He.glo_ok X G (c.2.fact 19 (f := .glo "InvalidText") rfl)) ii.1 ii.2 (nofB_ok (ck_at c.1 6 (b := nofB K cs "line")) _ mc)
theorem mo_InvalidClaim (X : K.In h) (G : h.Ns mainGlobals mg) (c : SaysM fa fn ck K) : XM P w K mg base 1 "InvalidClaim" ["value"] := by
  obtain ⟨fd, D⟩ := c.2.def_ 19 (d := d21_0) rfl
  have xa : xallB K cs2 = true := ck_at c.1 2
  have T := xallB_at xa (p := ("InvalidClaim", "ValueError")) (List.mem_of_getElem? (i := 19) rfl)
  rw [nw_ValueError] at T
  have mc : ("InvalidClaim" : Str) ∈ cs := List.mem_of_getElem? (i := 19) rfl
  have ii := inB_ok (ck_at c.1 3 (b := inB K cs)) mc
  exact m_InvalidClaim D T (xinB_ok (ck_at c.1 53 (b := xinB K (He.ga K "SettleError") "ValueError.__init__"))) (He.glo_ok X G (c.2.fact 0 (f := .glo "SettleError") rfl)) (He.glo_ok X G (c.2.fact 20 (f := .glo "InvalidClaim") rfl)) ii.1 ii.2 (nofB_ok (ck_at c.1 8 (b := nofB K cs "value")) _ mc)
theorem mo_InvalidCommand (X : K.In h) (G : h.Ns mainGlobals mg) (c : SaysM fa fn ck K) : XM P w K mg base 1 "InvalidCommand" ["value"] := by
  obtain ⟨fd, D⟩ := c.2.def_ 20 (d := d22_0) rfl
  have xa : xallB K cs2 = true := ck_at c.1 2
  have T := xallB_at xa (p := ("InvalidCommand", "ValueError")) (List.mem_of_getElem? (i := 20) rfl)
  rw [nw_ValueError] at T
  have mc : ("InvalidCommand" : Str) ∈ cs := List.mem_of_getElem? (i := 20) rfl
  have ii := inB_ok (ck_at c.1 3 (b := inB K cs)) mc
  exact m_InvalidCommand D T (xinB_ok (ck_at c.1 53 (b := xinB K (He.ga K "SettleError") "ValueError.__init__"))) (He.glo_ok X G (c.2.fact 0 (f := .glo "SettleError") rfl)) (He.glo_ok X G (c.2.fact 21 (f := .glo "InvalidCommand") rfl)) ii.1 ii.2 (nofB_ok (ck_at c.1 8 (b := nofB K cs "value")) _ mc)
theorem mo_NoSuch (X : K.In h) (G : h.Ns mainGlobals mg) (c : SaysM fa fn ck K) : XM P w K mg base 1 "NoSuch" ["value"] := by
  obtain ⟨fd, D⟩ := c.2.def_ 21 (d := d24_0) rfl
  have xa : xallB K cs2 = true := ck_at c.1 2
  have T := xallB_at xa (p := ("NoSuch", "LookupError")) (List.mem_of_getElem? (i := 21) rfl)
  rw [nw_LookupError] at T
  have mc : ("NoSuch" : Str) ∈ cs := List.mem_of_getElem? (i := 21) rfl
  have ii := inB_ok (ck_at c.1 3 (b := inB K cs)) mc
  exact m_NoSuch D T (xinB_ok (ck_at c.1 52 (b := xinB K (He.ga K "MissingError") "LookupError.__init__"))) (He.glo_ok X G (c.2.fact 22 (f := .glo "MissingError") rfl)) (He.glo_ok X G (c.2.fact 23 (f := .glo "NoSuch") rfl)) ii.1 ii.2 (nofB_ok (ck_at c.1 8 (b := nofB K cs "value")) _ mc)
theorem mo_SharedDeed (X : K.In h) (G : h.Ns mainGlobals mg) (c : SaysM fa fn ck K) : XM P w K mg base 1 "SharedDeed" ["value"] := by
  obtain ⟨fd, D⟩ := c.2.def_ 22 (d := d26_0) rfl
  have xa : xallB K cs2 = true := ck_at c.1 2
  have T := xallB_at xa (p := ("SharedDeed", "RuntimeError")) (List.mem_of_getElem? (i := 22) rfl)
  rw [nw_RuntimeError] at T
  have mc : ("SharedDeed" : Str) ∈ cs := List.mem_of_getElem? (i := 22) rfl
  have ii := inB_ok (ck_at c.1 3 (b := inB K cs)) mc
  exact m_SharedDeed D T (xinB_ok (ck_at c.1 54 (b := xinB K (He.ga K "StateError") "RuntimeError.__init__"))) (He.glo_ok X G (c.2.fact 24 (f := .glo "StateError") rfl)) (He.glo_ok X G (c.2.fact 25 (f := .glo "SharedDeed") rfl)) ii.1 ii.2 (nofB_ok (ck_at c.1 8 (b := nofB K cs "value")) _ mc)
theorem mo_OtherThing (X : K.In h) (G : h.Ns mainGlobals mg) (c : SaysM fa fn ck K) : XM P w K mg base 1 "OtherThing" ["value"] := by
  obtain ⟨fd, D⟩ := c.2.def_ 23 (d := d27_0) rfl
  have xa : xallB K cs2 = true := ck_at c.1 2
  have T := xallB_at xa (p := ("OtherThing", "RuntimeError")) (List.mem_of_getElem? (i := 23) rfl)
  rw [nw_RuntimeError] at T
  have mc : ("OtherThing" : Str) ∈ cs := List.mem_of_getElem? (i := 23) rfl
  have ii := inB_ok (ck_at c.1 3 (b := inB K cs)) mc
  exact m_OtherThing D T (xinB_ok (ck_at c.1 54 (b := xinB K (He.ga K "StateError") "RuntimeError.__init__"))) (He.glo_ok X G (c.2.fact 24 (f := .glo "StateError") rfl)) (He.glo_ok X G (c.2.fact 26 (f := .glo "OtherThing") rfl)) ii.1 ii.2 (nofB_ok (ck_at c.1 8 (b := nofB K cs "value")) _ mc)
theorem mo_LastOne (X : K.In h) (G : h.Ns mainGlobals mg) (c : SaysM fa fn ck K) : XM P w K mg base 1 "LastOne" ["value"] := by
  obtain ⟨fd, D⟩ := c.2.def_ 24 (d := d28_0) rfl
  have xa : xallB K cs2 = true := ck_at c.1 2
  have T := xallB_at xa (p := ("LastOne", "RuntimeError")) (List.mem_of_getElem? (i := 24) rfl)
  rw [nw_RuntimeError] at T
  have mc : ("LastOne" : Str) ∈ cs := List.mem_of_getElem? (i := 24) rfl
  have ii := inB_ok (ck_at c.1 3 (b := inB K cs)) mc
  exact m_LastOne D T (xinB_ok (ck_at c.1 54 (b := xinB K (He.ga K "StateError") "RuntimeError.__init__"))) (He.glo_ok X G (c.2.fact 24 (f := .glo "StateError") rfl)) (He.glo_ok X G (c.2.fact 27 (f := .glo "LastOne") rfl)) ii.1 ii.2 (nofB_ok (ck_at c.1 8 (b := nofB K cs "value")) _ mc)
theorem mo_NotInIt (X : K.In h) (G : h.Ns mainGlobals mg) (c : SaysM fa fn ck K) : XM P w K mg base 1 "NotInIt" ["hand"] := by
  obtain ⟨fd, D⟩ := c.2.def_ 25 (d := d29_0) rfl
  have xa : xallB K cs2 = true := ck_at c.1 2
  have T := xallB_at xa (p := ("NotInIt", "RuntimeError")) (List.mem_of_getElem? (i := 25) rfl)
  rw [nw_RuntimeError] at T
  have mc : ("NotInIt" : Str) ∈ cs := List.mem_of_getElem? (i := 25) rfl
  have ii := inB_ok (ck_at c.1 3 (b := inB K cs)) mc
  exact m_NotInIt D T (xinB_ok (ck_at c.1 54 (b := xinB K (He.ga K "StateError") "RuntimeError.__init__"))) (He.glo_ok X G (c.2.fact 24 (f := .glo "StateError") rfl)) (He.glo_ok X G (c.2.fact 28 (f := .glo "NotInIt") rfl)) ii.1 ii.2 (nofB_ok (ck_at c.1 4 (b := nofB K cs "hand")) _ mc)
theorem mo_NotTelling (X : K.In h) (G : h.Ns mainGlobals mg) (c : SaysM fa fn ck K) : XM P w K mg base 1 "NotTelling" [] := by
  obtain ⟨fd, D⟩ := c.2.def_ 26 (d := d30_0) rfl
  have xa : xallB K cs2 = true := ck_at c.1 2
  have T := xallB_at xa (p := ("NotTelling", "RuntimeError")) (List.mem_of_getElem? (i := 26) rfl)
  rw [nw_RuntimeError] at T
  have mc : ("NotTelling" : Str) ∈ cs := List.mem_of_getElem? (i := 26) rfl
  have ii := inB_ok (ck_at c.1 3 (b := inB K cs)) mc
  exact m_NotTelling D T (xinB_ok (ck_at c.1 54 (b := xinB K (He.ga K "StateError") "RuntimeError.__init__"))) (He.glo_ok X G (c.2.fact 24 (f := .glo "StateError") rfl)) (He.glo_ok X G (c.2.fact 29 (f := .glo "NotTelling") rfl)) ii.1 ii.2 
theorem mo_NotRecording (X : K.In h) (G : h.Ns mainGlobals mg) (c : SaysM fa fn ck K) : XM P w K mg base 1 "NotRecording" [] := by
  obtain ⟨fd, D⟩ := c.2.def_ 27 (d := d31_0) rfl
  have xa : xallB K cs2 = true := ck_at c.1 2
  have T := xallB_at xa (p := ("NotRecording", "RuntimeError")) (List.mem_of_getElem? (i := 27) rfl)
  rw [nw_RuntimeError] at T
  have mc : ("NotRecording" : Str) ∈ cs := List.mem_of_getElem? (i := 27) rfl
  have ii := inB_ok (ck_at c.1 3 (b := inB K cs)) mc
  exact m_NotRecording D T (xinB_ok (ck_at c.1 54 (b := xinB K (He.ga K "StateError") "RuntimeError.__init__"))) (He.glo_ok X G (c.2.fact 24 (f := .glo "StateError") rfl)) (He.glo_ok X G (c.2.fact 30 (f := .glo "NotRecording") rfl)) ii.1 ii.2 
theorem mo_NotRight (X : K.In h) (G : h.Ns mainGlobals mg) (c : SaysM fa fn ck K) : XM P w K mg base 1 "NotRight" [] := by
  obtain ⟨fd, D⟩ := c.2.def_ 28 (d := d32_0) rfl
  have xa : xallB K cs2 = true := ck_at c.1 2
  have T := xallB_at xa (p := ("NotRight", "RuntimeError")) (List.mem_of_getElem? (i := 28) rfl)
  rw [nw_RuntimeError] at T
  have mc : ("NotRight" : Str) ∈ cs := List.mem_of_getElem? (i := 28) rfl
  have ii := inB_ok (ck_at c.1 3 (b := inB K cs)) mc
  exact m_NotRight D T (xinB_ok (ck_at c.1 54 (b := xinB K (He.ga K "StateError") "RuntimeError.__init__"))) (He.glo_ok X G (c.2.fact 24 (f := .glo "StateError") rfl)) (He.glo_ok X G (c.2.fact 31 (f := .glo "NotRight") rfl)) ii.1 ii.2 
theorem mo_NotCritical (X : K.In h) (G : h.Ns mainGlobals mg) (c : SaysM fa fn ck K) : XM P w K mg base 1 "NotCritical" ["value"] := by
  obtain ⟨fd, D⟩ := c.2.def_ 29 (d := d33_0) rfl
  have xa : xallB K cs2 = true := ck_at c.1 2
  have T := xallB_at xa (p := ("NotCritical", "RuntimeError")) (List.mem_of_getElem? (i := 29) rfl)
  rw [nw_RuntimeError] at T
  have mc : ("NotCritical" : Str) ∈ cs := List.mem_of_getElem? (i := 29) rfl
  have ii := inB_ok (ck_at c.1 3 (b := inB K cs)) mc
  exact m_NotCritical D T (xinB_ok (ck_at c.1 54 (b := xinB K (He.ga K "StateError") "RuntimeError.__init__"))) (He.glo_ok X G (c.2.fact 24 (f := .glo "StateError") rfl)) (He.glo_ok X G (c.2.fact 32 (f := .glo "NotCritical") rfl)) ii.1 ii.2 (nofB_ok (ck_at c.1 8 (b := nofB K cs "value")) _ mc)
theorem mo_NothingToUndo (X : K.In h) (G : h.Ns mainGlobals mg) (c : SaysM fa fn ck K) : XM P w K mg base 1 "NothingToUndo" [] := by
  obtain ⟨fd, D⟩ := c.2.def_ 30 (d := d34_0) rfl
  have xa : xallB K cs2 = true := ck_at c.1 2
  have T := xallB_at xa (p := ("NothingToUndo", "RuntimeError")) (List.mem_of_getElem? (i := 30) rfl)
  rw [nw_RuntimeError] at T
  have mc : ("NothingToUndo" : Str) ∈ cs := List.mem_of_getElem? (i := 30) rfl
  have ii := inB_ok (ck_at c.1 3 (b := inB K cs)) mc
  exact m_NothingToUndo D T (xinB_ok (ck_at c.1 54 (b := xinB K (He.ga K "StateError") "RuntimeError.__init__"))) (He.glo_ok X G (c.2.fact 24 (f := .glo "StateError") rfl)) (He.glo_ok X G (c.2.fact 33 (f := .glo "NothingToUndo") rfl)) ii.1 ii.2 
theorem mo_CommandFailed (X : K.In h) (G : h.Ns mainGlobals mg) (c : SaysM fa fn ck K) : XM P w K mg base 1 "CommandFailed" ["position"] := by
  obtain ⟨fd, D⟩ := c.2.def_ 31 (d := d35_0) rfl
  have xa : xallB K cs2 = true := ck_at c.1 2
  have T := xallB_at xa (p := ("CommandFailed", "RuntimeError")) (List.mem_of_getElem? (i := 31) rfl)
  rw [nw_RuntimeError] at T
  have mc : ("CommandFailed" : Str) ∈ cs := List.mem_of_getElem? (i := 31) rfl
  have ii := inB_ok (ck_at c.1 3 (b := inB K cs)) mc
  exact m_CommandFailed D T (xinB_ok (ck_at c.1 54 (b := xinB K (He.ga K "StateError") "RuntimeError.__init__"))) (He.glo_ok X G (c.2.fact 24 (f := .glo "StateError") rfl)) (He.glo_ok X G (c.2.fact 34 (f := .glo "CommandFailed") rfl)) ii.1 ii.2 (nofB_ok (ck_at c.1 7 (b := nofB K cs "position")) _ mc)
theorem mo_TooMany (X : K.In h) (G : h.Ns mainGlobals mg) (c : SaysM fa fn ck K) : XM P w K mg base 1 "TooMany" ["what", "limit"] := by
  obtain ⟨fd, D⟩ := c.2.def_ 32 (d := d37_0) rfl
  have xa : xallB K cs2 = true := ck_at c.1 2
  have T := xallB_at xa (p := ("TooMany", "ArithmeticError")) (List.mem_of_getElem? (i := 32) rfl)
  rw [nw_ArithmeticError] at T
  have mc : ("TooMany" : Str) ∈ cs := List.mem_of_getElem? (i := 32) rfl
  have ii := inB_ok (ck_at c.1 3 (b := inB K cs)) mc
  exact m_TooMany D T (xinB_ok (ck_at c.1 51 (b := xinB K (He.ga K "LimitError") "ArithmeticError.__init__"))) (He.glo_ok X G (c.2.fact 35 (f := .glo "LimitError") rfl)) (He.glo_ok X G (c.2.fact 36 (f := .glo "TooMany") rfl)) ii.1 ii.2 (nofB_ok (ck_at c.1 9 (b := nofB K cs "what")) _ mc) (nofB_ok (ck_at c.1 5 (b := nofB K cs "limit")) _ mc)
theorem kxOf (X : K.In h) (G : h.Ns mainGlobals mg) (c : SaysM fa fn ck K) : Kx P w K mg base := by
  have xa : xallB K cs2 = true := ck_at c.1 2
  exact ⟨sysB_ok (ck_at c.1 0 (b := sysB K)),
    obcB_ok (ck_at c.1 1 (b := obcB K)),
    cs_eq ▸ xallB_ok xa,
    nofB_ok (ck_at c.1 4 (b := nofB K cs "hand")),
    nofB_ok (ck_at c.1 5 (b := nofB K cs "limit")),
    nofB_ok (ck_at c.1 6 (b := nofB K cs "line")),
    nofB_ok (ck_at c.1 7 (b := nofB K cs "position")),
    nofB_ok (ck_at c.1 8 (b := nofB K cs "value")),
    nofB_ok (ck_at c.1 9 (b := nofB K cs "what")),
    isB_ok (ck_at c.1 10 (b := isB K (.inl "SettleError") tb_SettleError)) xa (by decide +kernel),
    (He.glo_ok X G (c.2.fact 0 (f := .glo "SettleError") rfl)),
    isB_ok (ck_at c.1 11 (b := isB K (.inl "InvalidDeeds") tb_InvalidDeeds)) xa (by decide +kernel),
    (He.glo_ok X G (c.2.fact 1 (f := .glo "InvalidDeeds") rfl)),
    isB_ok (ck_at c.1 12 (b := isB K (.inl "InvalidRows") tb_InvalidRows)) xa (by decide +kernel),
    (He.glo_ok X G (c.2.fact 2 (f := .glo "InvalidRows") rfl)),
    isB_ok (ck_at c.1 13 (b := isB K (.inl "InvalidState") tb_InvalidState)) xa (by decide +kernel),
    (He.glo_ok X G (c.2.fact 3 (f := .glo "InvalidState") rfl)),
    isB_ok (ck_at c.1 14 (b := isB K (.inl "InvalidDeed") tb_InvalidDeed)) xa (by decide +kernel),
    (He.glo_ok X G (c.2.fact 4 (f := .glo "InvalidDeed") rfl)),
    isB_ok (ck_at c.1 15 (b := isB K (.inl "InvalidWord") tb_InvalidWord)) xa (by decide +kernel),
    (He.glo_ok X G (c.2.fact 5 (f := .glo "InvalidWord") rfl)),
    isB_ok (ck_at c.1 16 (b := isB K (.inl "InvalidStates") tb_InvalidStates)) xa (by decide +kernel),
    (He.glo_ok X G (c.2.fact 6 (f := .glo "InvalidStates") rfl)),
    isB_ok (ck_at c.1 17 (b := isB K (.inl "InvalidNames") tb_InvalidNames)) xa (by decide +kernel),
    (He.glo_ok X G (c.2.fact 7 (f := .glo "InvalidNames") rfl)),
    isB_ok (ck_at c.1 18 (b := isB K (.inl "InvalidEntry") tb_InvalidEntry)) xa (by decide +kernel),
    (He.glo_ok X G (c.2.fact 8 (f := .glo "InvalidEntry") rfl)),
    isB_ok (ck_at c.1 19 (b := isB K (.inl "InvalidAnswers") tb_InvalidAnswers)) xa (by decide +kernel),
    (He.glo_ok X G (c.2.fact 9 (f := .glo "InvalidAnswers") rfl)),
    isB_ok (ck_at c.1 20 (b := isB K (.inl "InvalidNumber") tb_InvalidNumber)) xa (by decide +kernel),
    (He.glo_ok X G (c.2.fact 10 (f := .glo "InvalidNumber") rfl)),
    isB_ok (ck_at c.1 21 (b := isB K (.inl "InvalidTeam") tb_InvalidTeam)) xa (by decide +kernel),
    (He.glo_ok X G (c.2.fact 11 (f := .glo "InvalidTeam") rfl)),
    isB_ok (ck_at c.1 22 (b := isB K (.inl "InvalidHand") tb_InvalidHand)) xa (by decide +kernel),
    (He.glo_ok X G (c.2.fact 12 (f := .glo "InvalidHand") rfl)),
    isB_ok (ck_at c.1 23 (b := isB K (.inl "InvalidOrder") tb_InvalidOrder)) xa (by decide +kernel),
    (He.glo_ok X G (c.2.fact 13 (f := .glo "InvalidOrder") rfl)),
    isB_ok (ck_at c.1 24 (b := isB K (.inl "InvalidLayout") tb_InvalidLayout)) xa (by decide +kernel),
    (He.glo_ok X G (c.2.fact 14 (f := .glo "InvalidLayout") rfl)),
    isB_ok (ck_at c.1 25 (b := isB K (.inl "InvalidThings") tb_InvalidThings)) xa (by decide +kernel),
    (He.glo_ok X G (c.2.fact 15 (f := .glo "InvalidThings") rfl)),
    isB_ok (ck_at c.1 26 (b := isB K (.inl "InvalidScripts") tb_InvalidScripts)) xa (by decide +kernel),
    (He.glo_ok X G (c.2.fact 16 (f := .glo "InvalidScripts") rfl)),
    isB_ok (ck_at c.1 27 (b := isB K (.inl "InvalidWeaving") tb_InvalidWeaving)) xa (by decide +kernel),
    (He.glo_ok X G (c.2.fact 17 (f := .glo "InvalidWeaving") rfl)),
    isB_ok (ck_at c.1 28 (b := isB K (.inl "InvalidPlace") tb_InvalidPlace)) xa (by decide +kernel),
    (He.glo_ok X G (c.2.fact 18 (f := .glo "InvalidPlace") rfl)),
    isB_ok (ck_at c.1 29 (b := isB K (.inl "InvalidText") tb_InvalidText)) xa (by decide +kernel),
    (He.glo_ok X G (c.2.fact 19 (f := .glo "InvalidText") rfl)),
    isB_ok (ck_at c.1 30 (b := isB K (.inl "InvalidClaim") tb_InvalidClaim)) xa (by decide +kernel),
    (He.glo_ok X G (c.2.fact 20 (f := .glo "InvalidClaim") rfl)),
    isB_ok (ck_at c.1 31 (b := isB K (.inl "InvalidCommand") tb_InvalidCommand)) xa (by decide +kernel),
    (He.glo_ok X G (c.2.fact 21 (f := .glo "InvalidCommand") rfl)),
    isB_ok (ck_at c.1 32 (b := isB K (.inl "MissingError") tb_MissingError)) xa (by decide +kernel),
    (He.glo_ok X G (c.2.fact 22 (f := .glo "MissingError") rfl)),
    isB_ok (ck_at c.1 33 (b := isB K (.inl "NoSuch") tb_NoSuch)) xa (by decide +kernel),
    (He.glo_ok X G (c.2.fact 23 (f := .glo "NoSuch") rfl)),
    isB_ok (ck_at c.1 34 (b := isB K (.inl "StateError") tb_StateError)) xa (by decide +kernel),
    (He.glo_ok X G (c.2.fact 24 (f := .glo "StateError") rfl)),
    isB_ok (ck_at c.1 35 (b := isB K (.inl "SharedDeed") tb_SharedDeed)) xa (by decide +kernel),
    (He.glo_ok X G (c.2.fact 25 (f := .glo "SharedDeed") rfl)),
    isB_ok (ck_at c.1 36 (b := isB K (.inl "OtherThing") tb_OtherThing)) xa (by decide +kernel),
    (He.glo_ok X G (c.2.fact 26 (f := .glo "OtherThing") rfl)),
    isB_ok (ck_at c.1 37 (b := isB K (.inl "LastOne") tb_LastOne)) xa (by decide +kernel),
    (He.glo_ok X G (c.2.fact 27 (f := .glo "LastOne") rfl)),
    isB_ok (ck_at c.1 38 (b := isB K (.inl "NotInIt") tb_NotInIt)) xa (by decide +kernel),
    (He.glo_ok X G (c.2.fact 28 (f := .glo "NotInIt") rfl)),
    isB_ok (ck_at c.1 39 (b := isB K (.inl "NotTelling") tb_NotTelling)) xa (by decide +kernel),
    (He.glo_ok X G (c.2.fact 29 (f := .glo "NotTelling") rfl)),
    isB_ok (ck_at c.1 40 (b := isB K (.inl "NotRecording") tb_NotRecording)) xa (by decide +kernel),
    (He.glo_ok X G (c.2.fact 30 (f := .glo "NotRecording") rfl)),
    isB_ok (ck_at c.1 41 (b := isB K (.inl "NotRight") tb_NotRight)) xa (by decide +kernel),
    (He.glo_ok X G (c.2.fact 31 (f := .glo "NotRight") rfl)),
    isB_ok (ck_at c.1 42 (b := isB K (.inl "NotCritical") tb_NotCritical)) xa (by decide +kernel),
    (He.glo_ok X G (c.2.fact 32 (f := .glo "NotCritical") rfl)),
    isB_ok (ck_at c.1 43 (b := isB K (.inl "NothingToUndo") tb_NothingToUndo)) xa (by decide +kernel),
    (He.glo_ok X G (c.2.fact 33 (f := .glo "NothingToUndo") rfl)),
    isB_ok (ck_at c.1 44 (b := isB K (.inl "CommandFailed") tb_CommandFailed)) xa (by decide +kernel),
    (He.glo_ok X G (c.2.fact 34 (f := .glo "CommandFailed") rfl)),
    isB_ok (ck_at c.1 45 (b := isB K (.inl "LimitError") tb_LimitError)) xa (by decide +kernel),
    (He.glo_ok X G (c.2.fact 35 (f := .glo "LimitError") rfl)),
    isB_ok (ck_at c.1 46 (b := isB K (.inl "TooMany") tb_TooMany)) xa (by decide +kernel),
    (He.glo_ok X G (c.2.fact 36 (f := .glo "TooMany") rfl)),
    isB_ok (ck_at c.1 47 (b := isB K (.inr "ArithmeticError") tb_ArithmeticError)) xa (by decide +kernel),
    isB_ok (ck_at c.1 48 (b := isB K (.inr "LookupError") tb_LookupError)) xa (by decide +kernel),
    isB_ok (ck_at c.1 49 (b := isB K (.inr "RuntimeError") tb_RuntimeError)) xa (by decide +kernel),
    isB_ok (ck_at c.1 50 (b := isB K (.inr "ValueError") tb_ValueError)) xa (by decide +kernel),
    mo_InvalidDeeds X G c,
    mo_InvalidRows X G c,
    mo_InvalidState X G c,
    mo_InvalidDeed X G c,
    mo_InvalidWord X G c,
    mo_InvalidStates X G c,
    mo_InvalidNames X G c,
    mo_InvalidEntry X G c,
    mo_InvalidAnswers X G c,
    mo_InvalidNumber X G c,
    mo_InvalidTeam X G c,
    mo_InvalidHand X G c,
    mo_InvalidOrder X G c,
    mo_InvalidLayout X G c,
    mo_InvalidThings X G c,
    mo_InvalidScripts X G c,
    mo_InvalidWeaving X G c,
    mo_InvalidPlace X G c,
    mo_InvalidText X G c,
    mo_InvalidClaim X G c,
    mo_InvalidCommand X G c,
    mo_NoSuch X G c,
    mo_SharedDeed X G c,
    mo_OtherThing X G c,
    mo_LastOne X G c,
    mo_NotInIt X G c,
    mo_NotTelling X G c,
    mo_NotRecording X G c,
    mo_NotRight X G c,
    mo_NotCritical X G c,
    mo_NothingToUndo X G c,
    mo_CommandFailed X G c,
    mo_TooMany X G c⟩
theorem facts {f : Addr} (X : K.In h) (G : h.Ns mainGlobals mg) (hf : mg ("law" : Str) = some (.ref f)) (c : SaysM fa fn ck K) :
    ∃ fd : FuncData, (∀ (s : Shared) (v : Value), BindsTo s fd ⟨[v], []⟩ [("_law_script", v)]) ∧ ∀ base : Heap, K.In base → base.Ns mainGlobals mg → FnG P w K mg base true 6 f fd ["_law_script"] (spL K) := by
  obtain ⟨fd, D⟩ := c.2.def_ 48 (d := d54) rfl
  have e := hf.symm.trans (He.glo_ok X G (c.2.fact 52 (f := .glo "law") rfl))
  cases e
  have b := FunD.bindsA (ps := ["_law_script"]) D fun _ _ _ _ _ _ us hl => match us, hl with | [_], _ => rfl
  refine ⟨fd, fun s v => b s [v] rfl, fun base _ _ => ?_⟩
  have B := blOf X G c
  have kx : Kx P w K mg base := kxOf X G c
  obtain ⟨f__law_pot, D__law_pot⟩ := c.2.def_ 33 (d := d39) rfl
  have o__law_pot := ok__law_pot (P := P) (w := w) (base := base) B  D__law_pot (He.glo_ok X G (c.2.fact 37 (f := .glo "_law_pot") rfl))
  obtain ⟨f__law_draw, D__law_draw⟩ := c.2.def_ 34 (d := d40) rfl
  have o__law_draw := ok__law_draw (P := P) (w := w) (base := base) B  D__law_draw (He.glo_ok X G (c.2.fact 38 (f := .glo "_law_draw") rfl))
  obtain ⟨f__law_pick, D__law_pick⟩ := c.2.def_ 35 (d := d41) rfl
  have o__law_pick := ok__law_pick (P := P) (w := w) (base := base) B o__law_draw D__law_pick (He.glo_ok X G (c.2.fact 39 (f := .glo "_law_pick") rfl))
  obtain ⟨f__law_thing, D__law_thing⟩ := c.2.def_ 36 (d := d42) rfl
  have o__law_thing := ok__law_thing (P := P) (w := w) (base := base) B o__law_pick D__law_thing (He.glo_ok X G (c.2.fact 40 (f := .glo "_law_thing") rfl))
  obtain ⟨f__law_placed, D__law_placed⟩ := c.2.def_ 37 (d := d43) rfl
  have o__law_placed := ok__law_placed (P := P) (w := w) (base := base) B kx  D__law_placed (He.glo_ok X G (c.2.fact 41 (f := .glo "_law_placed") rfl))
  obtain ⟨f__law_placed_by_name, D__law_placed_by_name⟩ := c.2.def_ 38 (d := d44) rfl
  have o__law_placed_by_name := ok__law_placed_by_name (P := P) (w := w) (base := base) B kx  D__law_placed_by_name (He.glo_ok X G (c.2.fact 42 (f := .glo "_law_placed_by_name") rfl))
  obtain ⟨f__law_valued, D__law_valued⟩ := c.2.def_ 39 (d := d45) rfl
  have o__law_valued := ok__law_valued (P := P) (w := w) (base := base) B kx  D__law_valued (He.glo_ok X G (c.2.fact 43 (f := .glo "_law_valued") rfl))
  obtain ⟨f__law_valued_by_name, D__law_valued_by_name⟩ := c.2.def_ 40 (d := d46) rfl
  have o__law_valued_by_name := ok__law_valued_by_name (P := P) (w := w) (base := base) B kx  D__law_valued_by_name (He.glo_ok X G (c.2.fact 44 (f := .glo "_law_valued_by_name") rfl))
  obtain ⟨f__law_stood, D__law_stood⟩ := c.2.def_ 41 (d := d47) rfl
  have o__law_stood := ok__law_stood (P := P) (w := w) (base := base) B kx  D__law_stood (He.glo_ok X G (c.2.fact 45 (f := .glo "_law_stood") rfl))
  obtain ⟨f__law_every, D__law_every⟩ := c.2.def_ 42 (d := d48) rfl
  have o__law_every := ok__law_every (P := P) (w := w) (base := base) B kx o__law_placed o__law_valued o__law_stood D__law_every (He.glo_ok X G (c.2.fact 46 (f := .glo "_law_every") rfl))
  obtain ⟨f__law_of_first, D__law_of_first⟩ := c.2.def_ 43 (d := d49) rfl
  have o__law_of_first := ok__law_of_first (P := P) (w := w) (base := base) B kx  D__law_of_first (He.glo_ok X G (c.2.fact 47 (f := .glo "_law_of_first") rfl))
  obtain ⟨f__law_of_others, D__law_of_others⟩ := c.2.def_ 44 (d := d50) rfl
  have o__law_of_others := ok__law_of_others (P := P) (w := w) (base := base) B kx  D__law_of_others (He.glo_ok X G (c.2.fact 48 (f := .glo "_law_of_others") rfl))
  obtain ⟨f__law_families, D__law_families⟩ := c.2.def_ 45 (d := d51) rfl
  have o__law_families := ok__law_families (P := P) (w := w) (base := base) B kx  D__law_families (He.glo_ok X G (c.2.fact 49 (f := .glo "_law_families") rfl))
  obtain ⟨f__law_kept_right, D__law_kept_right⟩ := c.2.def_ 46 (d := d52) rfl
  have o__law_kept_right := ok__law_kept_right (P := P) (w := w) (base := base) B kx o__law_thing o__law_valued o__law_placed o__law_every o__law_placed_by_name o__law_valued_by_name D__law_kept_right (He.glo_ok X G (c.2.fact 50 (f := .glo "_law_kept_right") rfl))
  obtain ⟨f__law_kinds_right, D__law_kinds_right⟩ := c.2.def_ 47 (d := d53) rfl
  have o__law_kinds_right := ok__law_kinds_right (P := P) (w := w) (base := base) B o__law_every o__law_thing o__law_of_first o__law_of_others o__law_families D__law_kinds_right (He.glo_ok X G (c.2.fact 51 (f := .glo "_law_kinds_right") rfl))
  exact ok_law (He.free_ok X G (c.2.fact 58 (f := .free "all") rfl)) (He.free_ok X G (c.2.fact 63 (f := .free "len") rfl)) (He.free_ok X G (c.2.fact 64 (f := .free "max") rfl)) (He.free_ok X G (c.2.fact 65 (f := .free "min") rfl)) (He.free_ok X G (c.2.fact 66 (f := .free "range") rfl)) o__law_pot o__law_kept_right o__law_kinds_right D
end
end Law
open PySem PySem.W PySem.Calls PyProof.Rows
theorem PySem.Challenge.cw_settlesfirst_k10_errors_holds : PySem.Challenge.rw_settlesfirst_k10_errors.Holds := by
  w_on; o_law
  refine HandSHeadRun.head_any (r := OpenLaw.row PySem.Challenge.rw_settlesfirst_k10_errors) (q := view (OpenLaw.row PySem.Challenge.rw_settlesfirst_k10_errors).prog [54]) (H := Law.hk) (ob := Law.ob) (M := 30000) (loose := Law.loose) (d := HandSHeadRun.topDef (OpenLaw.row PySem.Challenge.rw_settlesfirst_k10_errors).prog 54) (kwd := []) Law.ob_eq
    (by kernel_rfl)
    (fun s => by kernel_rfl)
    Law.run (by kernel_rfl) (by kernel_rfl) (by kernel_rfl) (by rfl)
    (by first | assumption | decide +kernel)
    (by decide +kernel) ⟨rfl, rfl, rfl, rfl, rfl, by decide +kernel⟩ ?hw ?hc
  case hw => w_witness2
  case hc =>
    refine Mi.walk_law (l := PySem.Challenge.rw_settlesfirst_k10_errors) (n := 63) (k := 6) (u := true) (x := "_law_script") rfl (by decide) (by kernel_rfl) ⟨rfl, by decide, by decide⟩ ?F
    intro w mg fa h Y G hmg0
    obtain ⟨K, KX, c⟩ := Y
    have hmg : mg ("law" : PySem.Str) = some (.ref fa) := by
      have e : (HandSHeadRun.topDef (OpenLaw.row PySem.Challenge.rw_settlesfirst_k10_errors).prog 54).name = ("law" : PySem.Str) := by kernel_rfl
      rw [← e]
      exact hmg0
    obtain ⟨fd, hb, hF⟩ := Law.facts (P := (PySem.Challenge.rw_settlesfirst_k10_errors).prog) (w := w) KX G hmg c
    exact ⟨K, fd, Law.spL K, KX, hb, fun H a ns hl _ hS => ⟨a, ns, rfl, hS, fun _ => rfl⟩, hF⟩

